import PyProof.Rows.All
import Wide.All
import OpenK.AllK
import Wide.FinOn
import KE.KStateDown
import Lean
import HandS.Base
import HandS.Call
import HandS.Ends
import HandS.More
import HandS.Words
import HandS.WordsExc
import HandS.Defaults
import HandS.Exc
import HandS.ExcIs
import HandS.Head0
import HandS.Head1
import HandS.Head2
import HandS.HeadEnd
import HandS.HeadHook1
import HandS.HeadHook2
import HandS.HeadHook3
import HandS.HeadHook4
import PySem.Challenge.RW_coinlanes_k19_whole_any_deeds
import HandS.IsInst
import KE.KDictKeyed
import HandS.ForMost
import HandS.ExcOwn
import HandS.MakeKwOnly
import HandS.TryOnly
import HandS.TupAny
import HandS.Zip
import HandS.SortInts
import HandS.SetKeys
import HandS.DictComp
import HandS.Wide
import KE.LtData
import HandS.SetFor
import HandS.Strs
import HandS.ExcValue
import KE.SortData
import KE.KDictPairs
import HandS.Dict
import KE.KDictZip
import KE.KDictList
import HandS.Iter
set_option Elab.async false
set_option linter.all false
set_option maxRecDepth 100000
set_option maxHeartbeats 0
namespace Cl
open PySem PySem.Spec PyProof.Rows L2
/-! the text by places -/
def top (i : Nat) : Stmt := PySem.Challenge.pw_coinlanes_k19_whole_any_deeds.main.body.getD i (.Pass ⟨0, 0, 0, 0⟩)
abbrev s_is_whole : Stmt := top 19
abbrev s_is_count_seals : Stmt := top 20
abbrev s_is_amount : Stmt := top 22
abbrev s_is_name : Stmt := top 23
abbrev s_seal_of : Stmt := top 24
abbrev s_is_side : Stmt := top 29
abbrev s_is_lock : Stmt := top 30
abbrev s_is_state : Stmt := top 31
abbrev s_need_state : Stmt := top 32
abbrev s_worth : Stmt := top 33
abbrev s_first_state : Stmt := top 34
abbrev s_is_count_signs : Stmt := top 36
abbrev s_is_opening : Stmt := top 38
abbrev s_look_name : Stmt := top 39
abbrev s_look_paper : Stmt := top 40
abbrev s_Signs_init : Stmt := inClass (top 41) 0
abbrev s_Signs_sign : Stmt := inClass (top 41) 1
abbrev s_Signs_signed : Stmt := inClass (top 41) 2
abbrev s_look_purses : Stmt := top 44
abbrev s_Lane_init : Stmt := inClass (top 45) 0
abbrev s_Lane_gets : Stmt := inClass (top 45) 1
abbrev s_Court_init : Stmt := inClass (top 46) 0
abbrev s_Court_lane : Stmt := inClass (top 46) 1
abbrev s_Court_look_coins : Stmt := inClass (top 46) 2
abbrev s_Court_road : Stmt := inClass (top 46) 3
abbrev s_Court_tell : Stmt := inClass (top 46) 4
abbrev s_Court_show : Stmt := inClass (top 46) 5
abbrev s_Court_settled_now : Stmt := inClass (top 46) 6
abbrev s_Court_decided_now : Stmt := inClass (top 46) 7
abbrev s_Court_turn : Stmt := inClass (top 46) 8
abbrev s_Court_now : Stmt := inClass (top 46) 9
abbrev s_Court_patience : Stmt := inClass (top 46) 10
abbrev s_Court_purse : Stmt := inClass (top 46) 11
abbrev s_Court_hands : Stmt := inClass (top 46) 12
abbrev s_Court_lanes : Stmt := inClass (top 46) 13
abbrev s_Court_stand : Stmt := inClass (top 46) 14
abbrev s_Court_seen_of : Stmt := inClass (top 46) 15
abbrev s_Court_shown : Stmt := inClass (top 46) 16
abbrev s_Court_secret : Stmt := inClass (top 46) 17
abbrev s_Court_held : Stmt := inClass (top 46) 18
abbrev s_Court_rows : Stmt := inClass (top 46) 20
abbrev s_law_well : Stmt := top 48
abbrev s_law_take : Stmt := top 49
abbrev s_law_name : Stmt := top 50
abbrev s_law_folk : Stmt := top 51
abbrev s_law_sum : Stmt := top 52
abbrev s_law_parts : Stmt := top 53
abbrev s_law_locks : Stmt := top 54
abbrev s_law_state : Stmt := top 55
abbrev s_law_whole : Stmt := top 56
abbrev s_law_bags : Stmt := top 57
abbrev s_law_book : Stmt := top 58
abbrev s_law_is_coins : Stmt := top 59
abbrev s_law_open_due : Stmt := top 60
abbrev s_law_tell_due : Stmt := top 61
abbrev s_law_turned : Stmt := top 62
abbrev s_law_done : Stmt := top 63
abbrev s_law_kind : Stmt := top 64
abbrev s_law_asked : Stmt := top 65
abbrev s_law_same : Stmt := top 66
abbrev s_law_secrets : Stmt := top 67
abbrev s_law_looked : Stmt := top 68
abbrev s_law_signing : Stmt := top 69
abbrev s_law_opening : Stmt := top 70
abbrev s_law_telling : Stmt := top 71
abbrev s_law_deed : Stmt := top 72
abbrev s_law : Stmt := top 73
def d_is_whole : He.DefD := ⟨("is_whole", none), "is_whole", "is_whole", defArgs s_is_whole, defBody s_is_whole, defScope s_is_whole, [], []⟩
def d_is_count_seals : He.DefD := ⟨("is_count_seals", none), "is_count", "is_count", defArgs s_is_count_seals, defBody s_is_count_seals, defScope s_is_count_seals, [], []⟩
def d_is_amount : He.DefD := ⟨("is_amount", none), "is_amount", "is_amount", defArgs s_is_amount, defBody s_is_amount, defScope s_is_amount, [], []⟩
def d_is_name : He.DefD := ⟨("is_name", none), "is_name", "is_name", defArgs s_is_name, defBody s_is_name, defScope s_is_name, [], []⟩
def d_seal_of : He.DefD := ⟨("seal_of", none), "seal_of", "seal_of", defArgs s_seal_of, defBody s_seal_of, defScope s_seal_of, [], []⟩
def d_is_side : He.DefD := ⟨("is_side", none), "is_side", "is_side", defArgs s_is_side, defBody s_is_side, defScope s_is_side, [], []⟩
def d_is_lock : He.DefD := ⟨("is_lock", none), "is_lock", "is_lock", defArgs s_is_lock, defBody s_is_lock, defScope s_is_lock, [], []⟩
def d_is_state : He.DefD := ⟨("is_state", none), "is_state", "is_state", defArgs s_is_state, defBody s_is_state, defScope s_is_state, [], []⟩
def d_need_state : He.DefD := ⟨("need_state", none), "need_state", "need_state", defArgs s_need_state, defBody s_need_state, defScope s_need_state, [], []⟩
def d_worth : He.DefD := ⟨("worth", none), "worth", "worth", defArgs s_worth, defBody s_worth, defScope s_worth, [], []⟩
def d_first_state : He.DefD := ⟨("first_state", none), "first_state", "first_state", defArgs s_first_state, defBody s_first_state, defScope s_first_state, [], []⟩
def d_is_count_signs : He.DefD := ⟨("is_count_signs", none), "is_count", "is_count", defArgs s_is_count_signs, defBody s_is_count_signs, defScope s_is_count_signs, [], []⟩
def d_is_opening : He.DefD := ⟨("is_opening", none), "is_opening", "is_opening", defArgs s_is_opening, defBody s_is_opening, defScope s_is_opening, [], []⟩
def d_look_name : He.DefD := ⟨("look_name", none), "look_name", "look_name", defArgs s_look_name, defBody s_look_name, defScope s_look_name, [], []⟩
def d_look_paper : He.DefD := ⟨("look_paper", none), "look_paper", "look_paper", defArgs s_look_paper, defBody s_look_paper, defScope s_look_paper, [], []⟩
def d_Signs_init : He.DefD := ⟨("Signs", some "__init__"), "__init__", "Signs.__init__", defArgs s_Signs_init, defBody s_Signs_init, defScope s_Signs_init, [], []⟩
def d_Signs_sign : He.DefD := ⟨("Signs", some "sign"), "sign", "Signs.sign", defArgs s_Signs_sign, defBody s_Signs_sign, defScope s_Signs_sign, [], []⟩
def d_Signs_signed : He.DefD := ⟨("Signs", some "signed"), "signed", "Signs.signed", defArgs s_Signs_signed, defBody s_Signs_signed, defScope s_Signs_signed, [], []⟩
def d_look_purses : He.DefD := ⟨("look_purses", none), "look_purses", "look_purses", defArgs s_look_purses, defBody s_look_purses, defScope s_look_purses, [], []⟩
def d_Lane_init : He.DefD := ⟨("Lane", some "__init__"), "__init__", "Lane.__init__", defArgs s_Lane_init, defBody s_Lane_init, defScope s_Lane_init, [], []⟩
def d_Lane_gets : He.DefD := ⟨("Lane", some "gets"), "gets", "Lane.gets", defArgs s_Lane_gets, defBody s_Lane_gets, defScope s_Lane_gets, [], []⟩
def d_Court_init : He.DefD := ⟨("Court", some "__init__"), "__init__", "Court.__init__", defArgs s_Court_init, defBody s_Court_init, defScope s_Court_init, [], [("wait", .int 6)]⟩
def d_Court_lane : He.DefD := ⟨("Court", some "lane"), "lane", "Court.lane", defArgs s_Court_lane, defBody s_Court_lane, defScope s_Court_lane, [], [("left_coins", .int 0), ("right_coins", .int 0)]⟩
def d_Court_look_coins : He.DefD := ⟨("Court", some "look_coins"), "look_coins", "Court.look_coins", defArgs s_Court_look_coins, defBody s_Court_look_coins, defScope s_Court_look_coins, [], []⟩
def d_Court_road : He.DefD := ⟨("Court", some "road"), "road", "Court.road", defArgs s_Court_road, defBody s_Court_road, defScope s_Court_road, [], []⟩
def d_Court_tell : He.DefD := ⟨("Court", some "tell"), "tell", "Court.tell", defArgs s_Court_tell, defBody s_Court_tell, defScope s_Court_tell, [], []⟩
def d_Court_show : He.DefD := ⟨("Court", some "show"), "show", "Court.show", defArgs s_Court_show, defBody s_Court_show, defScope s_Court_show, [], []⟩
def d_Court_settled_now : He.DefD := ⟨("Court", some "settled_now"), "settled_now", "Court.settled_now", defArgs s_Court_settled_now, defBody s_Court_settled_now, defScope s_Court_settled_now, [], []⟩
def d_Court_decided_now : He.DefD := ⟨("Court", some "decided_now"), "decided_now", "Court.decided_now", defArgs s_Court_decided_now, defBody s_Court_decided_now, defScope s_Court_decided_now, [], []⟩
def d_Court_turn : He.DefD := ⟨("Court", some "turn"), "turn", "Court.turn", defArgs s_Court_turn, defBody s_Court_turn, defScope s_Court_turn, [], []⟩
def d_Court_now : He.DefD := ⟨("Court", some "now"), "now", "Court.now", defArgs s_Court_now, defBody s_Court_now, defScope s_Court_now, [], []⟩
def d_Court_patience : He.DefD := ⟨("Court", some "patience"), "patience", "Court.patience", defArgs s_Court_patience, defBody s_Court_patience, defScope s_Court_patience, [], []⟩
def d_Court_purse : He.DefD := ⟨("Court", some "purse"), "purse", "Court.purse", defArgs s_Court_purse, defBody s_Court_purse, defScope s_Court_purse, [], []⟩
def d_Court_hands : He.DefD := ⟨("Court", some "hands"), "hands", "Court.hands", defArgs s_Court_hands, defBody s_Court_hands, defScope s_Court_hands, [], []⟩
def d_Court_lanes : He.DefD := ⟨("Court", some "lanes"), "lanes", "Court.lanes", defArgs s_Court_lanes, defBody s_Court_lanes, defScope s_Court_lanes, [], []⟩
def d_Court_stand : He.DefD := ⟨("Court", some "stand"), "stand", "Court.stand", defArgs s_Court_stand, defBody s_Court_stand, defScope s_Court_stand, [], []⟩
def d_Court_seen_of : He.DefD := ⟨("Court", some "seen_of"), "seen_of", "Court.seen_of", defArgs s_Court_seen_of, defBody s_Court_seen_of, defScope s_Court_seen_of, [], []⟩
def d_Court_shown : He.DefD := ⟨("Court", some "shown"), "shown", "Court.shown", defArgs s_Court_shown, defBody s_Court_shown, defScope s_Court_shown, [], []⟩
def d_Court_secret : He.DefD := ⟨("Court", some "secret"), "secret", "Court.secret", defArgs s_Court_secret, defBody s_Court_secret, defScope s_Court_secret, [], []⟩
def d_Court_held : He.DefD := ⟨("Court", some "held"), "held", "Court.held", defArgs s_Court_held, defBody s_Court_held, defScope s_Court_held, [], []⟩
def d_Court_rows : He.DefD := ⟨("Court", some "rows"), "rows", "Court.rows", defArgs s_Court_rows, defBody s_Court_rows, defScope s_Court_rows, [], []⟩
def d_law_well : He.DefD := ⟨("_law_well", none), "_law_well", "_law_well", defArgs s_law_well, defBody s_law_well, defScope s_law_well, [], []⟩
def d_law_take : He.DefD := ⟨("_law_take", none), "_law_take", "_law_take", defArgs s_law_take, defBody s_law_take, defScope s_law_take, [], []⟩
def d_law_name : He.DefD := ⟨("_law_name", none), "_law_name", "_law_name", defArgs s_law_name, defBody s_law_name, defScope s_law_name, [], []⟩
def d_law_folk : He.DefD := ⟨("_law_folk", none), "_law_folk", "_law_folk", defArgs s_law_folk, defBody s_law_folk, defScope s_law_folk, [], []⟩
def d_law_sum : He.DefD := ⟨("_law_sum", none), "_law_sum", "_law_sum", defArgs s_law_sum, defBody s_law_sum, defScope s_law_sum, [], []⟩
def d_law_parts : He.DefD := ⟨("_law_parts", none), "_law_parts", "_law_parts", defArgs s_law_parts, defBody s_law_parts, defScope s_law_parts, [], []⟩
def d_law_locks : He.DefD := ⟨("_law_locks", none), "_law_locks", "_law_locks", defArgs s_law_locks, defBody s_law_locks, defScope s_law_locks, [], []⟩
def d_law_state : He.DefD := ⟨("_law_state", none), "_law_state", "_law_state", defArgs s_law_state, defBody s_law_state, defScope s_law_state, [], []⟩
def d_law_whole : He.DefD := ⟨("_law_whole", none), "_law_whole", "_law_whole", defArgs s_law_whole, defBody s_law_whole, defScope s_law_whole, [], []⟩
def d_law_bags : He.DefD := ⟨("_law_bags", none), "_law_bags", "_law_bags", defArgs s_law_bags, defBody s_law_bags, defScope s_law_bags, [], []⟩
def d_law_book : He.DefD := ⟨("_law_book", none), "_law_book", "_law_book", defArgs s_law_book, defBody s_law_book, defScope s_law_book, [], []⟩
def d_law_is_coins : He.DefD := ⟨("_law_is_coins", none), "_law_is_coins", "_law_is_coins", defArgs s_law_is_coins, defBody s_law_is_coins, defScope s_law_is_coins, [], []⟩
def d_law_open_due : He.DefD := ⟨("_law_open_due", none), "_law_open_due", "_law_open_due", defArgs s_law_open_due, defBody s_law_open_due, defScope s_law_open_due, [], []⟩
def d_law_tell_due : He.DefD := ⟨("_law_tell_due", none), "_law_tell_due", "_law_tell_due", defArgs s_law_tell_due, defBody s_law_tell_due, defScope s_law_tell_due, [], []⟩
def d_law_turned : He.DefD := ⟨("_law_turned", none), "_law_turned", "_law_turned", defArgs s_law_turned, defBody s_law_turned, defScope s_law_turned, [], []⟩
def d_law_done : He.DefD := ⟨("_law_done", none), "_law_done", "_law_done", defArgs s_law_done, defBody s_law_done, defScope s_law_done, [], []⟩
def d_law_kind : He.DefD := ⟨("_law_kind", none), "_law_kind", "_law_kind", defArgs s_law_kind, defBody s_law_kind, defScope s_law_kind, [], []⟩
def d_law_asked : He.DefD := ⟨("_law_asked", none), "_law_asked", "_law_asked", defArgs s_law_asked, defBody s_law_asked, defScope s_law_asked, [], []⟩
def d_law_same : He.DefD := ⟨("_law_same", none), "_law_same", "_law_same", defArgs s_law_same, defBody s_law_same, defScope s_law_same, [], []⟩
def d_law_secrets : He.DefD := ⟨("_law_secrets", none), "_law_secrets", "_law_secrets", defArgs s_law_secrets, defBody s_law_secrets, defScope s_law_secrets, [], []⟩
def d_law_looked : He.DefD := ⟨("_law_looked", none), "_law_looked", "_law_looked", defArgs s_law_looked, defBody s_law_looked, defScope s_law_looked, [], []⟩
def d_law_signing : He.DefD := ⟨("_law_signing", none), "_law_signing", "_law_signing", defArgs s_law_signing, defBody s_law_signing, defScope s_law_signing, [], []⟩
def d_law_opening : He.DefD := ⟨("_law_opening", none), "_law_opening", "_law_opening", defArgs s_law_opening, defBody s_law_opening, defScope s_law_opening, [], []⟩
def d_law_telling : He.DefD := ⟨("_law_telling", none), "_law_telling", "_law_telling", defArgs s_law_telling, defBody s_law_telling, defScope s_law_telling, [], []⟩
def d_law_deed : He.DefD := ⟨("_law_deed", none), "_law_deed", "_law_deed", defArgs s_law_deed, defBody s_law_deed, defScope s_law_deed, [], []⟩
def d_law : He.DefD := ⟨("law", none), "law", "law", defArgs s_law, defBody s_law, defScope s_law, [], []⟩
def fns : List He.DefD := [d_is_whole, d_is_count_seals, d_is_amount, d_is_name, d_seal_of, d_is_side, d_is_lock, d_is_state, d_need_state, d_worth, d_first_state, d_is_count_signs, d_is_opening, d_look_name, d_look_paper, d_Signs_init, d_Signs_sign, d_Signs_signed, d_look_purses, d_Lane_init, d_Lane_gets, d_Court_init, d_Court_lane, d_Court_look_coins, d_Court_road, d_Court_tell, d_Court_show, d_Court_settled_now, d_Court_decided_now, d_Court_turn, d_Court_now, d_Court_patience, d_Court_purse, d_Court_hands, d_Court_lanes, d_Court_stand, d_Court_seen_of, d_Court_shown, d_Court_secret, d_Court_held, d_Court_rows, d_law_well, d_law_take, d_law_name, d_law_folk, d_law_sum, d_law_parts, d_law_locks, d_law_state, d_law_whole, d_law_bags, d_law_book, d_law_is_coins, d_law_open_due, d_law_tell_due, d_law_turned, d_law_done, d_law_kind, d_law_asked, d_law_same, d_law_secrets, d_law_looked, d_law_signing, d_law_opening, d_law_telling, d_law_deed, d_law]
def fa0 : List He.Fa := [.glo "CoinError", .glo "NoName", .glo "NoSecret", .glo "NoNumber", .glo "NoCoins", .glo "NoState", .glo "NoPaper", .glo "NoHand", .glo "NoLane", .glo "NotSigned", .glo "Settled", .glo "Old", .glo "is_whole", .glo "is_count_seals", .glo "is_amount", .glo "is_name", .glo "seal_of", .glo "is_side", .glo "is_lock", .glo "is_state", .glo "need_state", .glo "worth", .glo "first_state", .glo "is_count_signs", .glo "is_opening", .glo "look_name", .glo "look_paper", .glo "Signs", .glo "look_purses", .glo "Lane"]
def fa1 : List He.Fa := [.glo "Court", .glo "_law_well", .glo "_law_take", .glo "_law_name", .glo "_law_folk", .glo "_law_sum", .glo "_law_parts", .glo "_law_locks", .glo "_law_state", .glo "_law_whole", .glo "_law_bags", .glo "_law_book", .glo "_law_is_coins", .glo "_law_open_due", .glo "_law_tell_due", .glo "_law_turned", .glo "_law_done", .glo "_law_kind", .glo "_law_asked", .glo "_law_same", .glo "_law_secrets", .glo "_law_looked", .glo "_law_signing", .glo "_law_opening", .glo "_law_telling", .glo "_law_deed", .glo "law", .int "LONGEST" 8, .int "FIRST_SEAL" 17, .int "STRETCH" 3]
def fa2 : List He.Fa := [.int "MOST_LOCKS" 30, .int "MOST_WAIT" 100, .str "LETTERS" "abcdefghijklmnopqrstuvwxyz", .str "LEFT" "left", .str "RIGHT" "right", .free "isinstance", .free "int", .free "bool", .free "str", .free "tuple", .free "list", .free "len", .free "all", .free "sum", .free "enumerate", .free "sorted", .free "zip", .free "range", .free "abs", .free "set", .free "max", .free "min", .free "dict", .free "ValueError", .cls "Signs", .mkr "Signs", .cls "Lane", .mkr "Lane", .cls "Court", .mkr "Court"]
def fa3 : List He.Fa := [.meth "Signs" "sign", .meth "Signs" "signed", .noat "Signs" "by_hand", .meth "Lane" "gets", .noat "Lane" "both", .noat "Lane" "first", .noat "Lane" "standing", .noat "Lane" "mood", .noat "Lane" "ending", .meth "Court" "lane", .meth "Court" "look_coins", .meth "Court" "road", .meth "Court" "tell", .meth "Court" "show", .meth "Court" "settled_now", .meth "Court" "decided_now", .meth "Court" "turn", .meth "Court" "now", .meth "Court" "patience", .meth "Court" "purse", .meth "Court" "hands", .meth "Court" "lanes", .meth "Court" "stand", .meth "Court" "seen_of", .meth "Court" "shown", .meth "Court" "secret", .meth "Court" "held", .meth "Court" "rows", .noat "Court" "book", .noat "Court" "long"]
def fa4 : List He.Fa := [.noat "Court" "clock", .noat "Court" "bags", .noat "Court" "opened", .noat "Court" "seen", .noat "Court" "kept", .noat "Court" "deeds", .exc "CoinError", .exc "NoName", .exc "NoSecret", .exc "NoNumber", .exc "NoCoins", .exc "NoState", .exc "NoPaper", .exc "NoHand", .exc "NoLane", .exc "NotSigned", .exc "Settled", .exc "Old", .exm "CoinError" "CoinError" true, .exm "NoName" "CoinError" true, .exm "NoSecret" "CoinError" true, .exm "NoNumber" "CoinError" true, .exm "NoCoins" "CoinError" true, .exm "NoState" "CoinError" true, .exm "NoPaper" "CoinError" true, .exm "NoHand" "CoinError" true, .exm "NoLane" "CoinError" true, .exm "NotSigned" "CoinError" true, .exm "Settled" "CoinError" true, .exm "Old" "CoinError" true]
def fas : List He.Fa := fa0 ++ fa1 ++ fa2 ++ fa3 ++ fa4
def excNames : List Str := ["CoinError", "NoName", "NoSecret", "NoNumber", "NoCoins", "NoState", "NoPaper", "NoHand", "NoLane", "NotSigned", "Settled", "Old"]
/-- what isinstance asks of an error's class -/
def exOne (K : PySem.W.Frag) (x : Str) : Bool :=
  He.eqO (PySem.W.findIn K (.ref (He.ga K x)) "__getattribute__") (some (some (.builtin "BaseException.__getattribute__"))) &&
  (He.eqO (PySem.W.findIn K (.ref (He.ga K x)) "__getattr__") (some none) &&
  (PySem.W.hasDictIn K (He.ga K x) &&
  (He.eqO (PySem.W.findIn K (.ref (He.ga K x)) "__class__") (some (some (.builtin "object.__class__"))) &&
  (decide (PySem.W.mroIn K (He.ga K x) (.type "object") = some true) &&
  (decide (PySem.W.kitOne K (.ref (He.ga K x)) (.type "ValueError") = some true) &&
  excNames.all fun y => decide (PySem.W.kitOne K (.ref (He.ga K x)) (.ref (He.ga K y)) = some (decide (x = y) || decide (y = "CoinError"))))))))
def ex (K : PySem.W.Frag) : Bool := He.eqO (PySem.W.specialIn K (.builtin "object.__class__") "__get__") (some (some (.builtin "getset_descriptor.__get__"))) &&
  (decide (PySem.W.takesIn K (.builtin "object.__class__") = some true) && excNames.all fun x => exOne K x)
def loose0 : List Str := ["WAIT", "__name__", "CoinError", "NoName", "NoSecret", "NoNumber", "NoCoins", "NoState", "NoPaper", "NoHand", "NoLane", "NotSigned", "Settled", "Old", "LETTERS", "LONGEST", "FIRST_SEAL", "STRETCH", "is_whole", "is_count", "is_count_seals", "is_amount", "is_name", "seal_of", "LEFT", "RIGHT", "MOST_LOCKS", "is_side", "is_lock", "is_state"]
def loose1 : List Str := ["need_state", "worth", "first_state", "is_count_signs", "is_opening", "look_name", "look_paper", "Signs", "MOST_WAIT", "look_purses", "Lane", "Court", "_law_well", "_law_take", "_law_name", "_law_folk", "_law_sum", "_law_parts", "_law_locks", "_law_state", "_law_whole", "_law_bags", "_law_book", "_law_is_coins", "_law_open_due", "_law_tell_due", "_law_turned", "_law_done", "_law_kind", "_law_asked"]
def loose2 : List Str := ["_law_same", "_law_secrets", "_law_looked", "_law_signing", "_law_opening", "_law_telling", "_law_deed"]
def looses : List Str := loose0 ++ loose1 ++ loose2
abbrev R : PySem.W.OpenRow := PySem.W.OpenLaw.row PySem.Challenge.rw_coinlanes_k19_whole_any_deeds
abbrev qv : Program := PySem.W.view R.prog [73]
abbrev hk : PySem.W.Hook := He.hookX 4 fas fns [] [] ex
def ob (s : PySem.W.SharedT) : He.AlX := He.obsX 4 fas fns [] [] ex (HandSHeadRun.getT s)
theorem ob_eq (s : PySem.W.SharedT) : ob s = hk.obs s.abs := He.obsX_eq (HandSHeadRun.getT_eq s)
theorem run (w : World) : HandSHeadRun.RunEq R qv hk ob 6000 looses w := by
  intro os
  kernel_rfl
end Cl
set_option Elab.async false
set_option linter.all false
set_option maxRecDepth 100000
set_option maxHeartbeats 4000000
/-! The abstract layer: deep data D, what a value stands for in the frozen part of the heap, the store of cells. -/
namespace Cl
open PySem PySem.Spec PyProof.Rows L2

/-- deep data -/
inductive D where
  | non | bl (b : Bool) | int (i : Int) | str (x : Str) | tup (ds : List D) | lst (ds : List D) | ref (a : Addr) | ty (n : String)
  /-- the script -/
  | scr (ns : List Int)
  /-- a tuple whose object has no dict -/
  | etup (ds : List D)

mutual
/-- the value v stands for the data d, all of it in the frozen heap F -/
inductive Rs (K : PySem.W.Frag) (F : Hp) : V → D → Prop
  | non : Rs K F .non .non
  | bl (b : Bool) : Rs K F (.bl b) (.bl b)
  | int (i : Int) : Rs K F (.int i) (.int i)
  | str (x : Str) : Rs K F (.str x) (.str x)
  | ref (a : Addr) : Rs K F (.ref a) (.ref a)
  | ty (n : String) : Rs K F (.ty n) (.ty n)
  | tup {a : Addr} {xs : List V} {ds : List D} : F a = some (.tup xs) → RsA K F xs ds → Rs K F (.ref a) (.tup ds)
  | lst {a : Addr} {xs : List V} {ds : List D} : F a = some (.lst xs) → RsA K F xs ds → Rs K F (.ref a) (.lst ds)
  | scr {a : Addr} {ns : List Int} : SqL K F a (ns.map V.int) → Rs K F (.ref a) (.scr ns)
  | etup {a : Addr} {ob : Obj} {xs : List V} {ds : List D} : F a = some (.frz ob (.tup xs)) → ob.dict = .none → RsA K F xs ds → Rs K F (.ref a) (.etup ds)
inductive RsA (K : PySem.W.Frag) (F : Hp) : List V → List D → Prop
  | nil : RsA K F [] []
  | cons {v : V} {vs : List V} {d : D} {ds : List D} : Rs K F v d → RsA K F vs ds → RsA K F (v :: vs) (d :: ds)
end

section
variable {K : PySem.W.Frag} {F F' H H' : Hp}
theorem Same.sqT {a : Addr} {xs : List V} (e : Same F F') (h : SqT K F a xs) : SqT K F' a xs := by
  rcases h with (h | ⟨o, h⟩) | h
  · exact .inl (.inl (e _ _ h))
  · exact .inl (.inr ⟨o, e _ _ h⟩)
  · exact .inr h
mutual
theorem Rs.mono (e : Same F F') : ∀ {v : V} {d : D}, Rs K F v d → Rs K F' v d
  | _, _, .non => .non
  | _, _, .bl b => .bl b
  | _, _, .int i => .int i
  | _, _, .str x => .str x
  | _, _, .ref a => .ref a
  | _, _, .ty n => .ty n
  | _, _, .tup h r => .tup (e _ _ h) (RsA.mono e r)
  | _, _, .lst h r => .lst (e _ _ h) (RsA.mono e r)
  | _, _, .scr h => .scr (e.seq h)
  | _, _, .etup h q r => .etup (e _ _ h) q (RsA.mono e r)
theorem RsA.mono (e : Same F F') : ∀ {vs : List V} {ds : List D}, RsA K F vs ds → RsA K F' vs ds
  | _, _, .nil => .nil
  | _, _, .cons h r => .cons (Rs.mono e h) (RsA.mono e r)
end
theorem RsA.length : ∀ {vs : List V} {ds : List D}, RsA K F vs ds → vs.length = ds.length
  | _, _, .nil => rfl
  | _, _, .cons _ r => congrArg (· + 1) (RsA.length r)
theorem RsA.get : ∀ {vs : List V} {ds : List D} {i : Nat} {d : D}, RsA K F vs ds → ds[i]? = some d → ∃ v, vs[i]? = some v ∧ Rs K F v d
  | _, _, _, _, .nil, e => by simp at e
  | _, _, 0, _, .cons h _, e => by
    have e2 := Option.some.inj e
    subst e2
    exact ⟨_, rfl, h⟩
  | _, _, i + 1, d, .cons _ r, e => by
    obtain ⟨v, h1, h2⟩ := RsA.get (i := i) r (by simpa using e)
    exact ⟨v, by simpa using h1, h2⟩
theorem RsA.of : ∀ {vs : List V} {ds : List D} {i : Nat} {v : V}, RsA K F vs ds → vs[i]? = some v → ∃ d, ds[i]? = some d ∧ Rs K F v d
  | _, _, _, _, .nil, e => by simp at e
  | _, _, 0, _, .cons h _, e => by
    have e2 := Option.some.inj e
    subst e2
    exact ⟨_, rfl, h⟩
  | _, _, i + 1, v, .cons _ r, e => by
    obtain ⟨d, h1, h2⟩ := RsA.of (i := i) r (by simpa using e)
    exact ⟨d, by simpa using h1, h2⟩
theorem RsA.append : ∀ {vs ws : List V} {ds es : List D}, RsA K F vs ds → RsA K F ws es → RsA K F (vs ++ ws) (ds ++ es)
  | _, _, _, _, .nil, s => s
  | _, _, _, _, .cons h r, s => .cons h (RsA.append r s)
theorem RsA.set {v : V} {d : D} (h : Rs K F v d) : ∀ {vs : List V} {ds : List D} (i : Nat), RsA K F vs ds → RsA K F (vs.set i v) (ds.set i d)
  | _, _, _, .nil => .nil
  | _, _, 0, .cons _ r => .cons h r
  | _, _, i + 1, .cons g r => .cons g (RsA.set h i r)
theorem RsA.take : ∀ {vs : List V} {ds : List D} (n : Nat), RsA K F vs ds → RsA K F (vs.take n) (ds.take n)
  | _, _, 0, _ => .nil
  | _, _, _ + 1, .nil => .nil
  | _, _, n + 1, .cons h r => .cons h (RsA.take n r)
theorem RsA.drop : ∀ {vs : List V} {ds : List D} (n : Nat), RsA K F vs ds → RsA K F (vs.drop n) (ds.drop n)
  | _, _, 0, r => r
  | _, _, _ + 1, .nil => .nil
  | _, _, n + 1, .cons _ r => RsA.drop n r
theorem RsA.eraseIdx : ∀ {vs : List V} {ds : List D} (n : Nat), RsA K F vs ds → RsA K F (vs.eraseIdx n) (ds.eraseIdx n)
  | _, _, _, .nil => .nil
  | _, _, 0, .cons _ r => r
  | _, _, n + 1, .cons h r => .cons h (RsA.eraseIdx n r)
theorem RsA.split : ∀ {vs : List V} {ds es : List D}, RsA K F vs (ds ++ es) → ∃ vs1 vs2, vs = vs1 ++ vs2 ∧ RsA K F vs1 ds ∧ RsA K F vs2 es
  | vs, [], es, h => ⟨[], vs, rfl, .nil, h⟩
  | _, d :: ds, es, .cons g r => by
    obtain ⟨v1, v2, e, h1, h2⟩ := RsA.split r
    exact ⟨_ :: v1, v2, by rw [e]; rfl, .cons g h1, h2⟩
theorem RsA.ints : ∀ (ns : List Int), RsA K F (ns.map V.int) (ns.map D.int)
  | [] => .nil
  | n :: ns => .cons (.int n) (RsA.ints ns)
theorem RsA.ints_inv : ∀ {vs : List V} {ns : List Int}, RsA K F vs (ns.map D.int) → vs = ns.map V.int
  | _, [], .nil => rfl
  | _, n :: ns, .cons h r => by
    cases h
    rw [RsA.ints_inv r]
    rfl
theorem RsA.strs : ∀ (ns : List Str), RsA K F (ns.map V.str) (ns.map D.str)
  | [] => .nil
  | n :: ns => .cons (.str n) (RsA.strs ns)
theorem RsA.strs_inv : ∀ {vs : List V} {ns : List Str}, RsA K F vs (ns.map D.str) → vs = ns.map V.str
  | _, [], .nil => rfl
  | _, n :: ns, .cons h r => by
    cases h
    rw [RsA.strs_inv r]
    rfl
theorem RsA.bls : ∀ (ns : List Bool), RsA K F (ns.map V.bl) (ns.map D.bl)
  | [] => .nil
  | n :: ns => .cons (.bl n) (RsA.bls ns)
theorem RsA.bls_inv : ∀ {vs : List V} {ns : List Bool}, RsA K F vs (ns.map D.bl) → vs = ns.map V.bl
  | _, [], .nil => rfl
  | _, n :: ns, .cons h r => by
    cases h
    rw [RsA.bls_inv r]
    rfl
theorem Rs.int_inv {v : V} {i : Int} (h : Rs K F v (.int i)) : v = .int i := by cases h; rfl
theorem Rs.str_inv {v : V} {i : Str} (h : Rs K F v (.str i)) : v = .str i := by cases h; rfl
theorem Rs.bl_inv {v : V} {i : Bool} (h : Rs K F v (.bl i)) : v = .bl i := by cases h; rfl
theorem Rs.ref_inv {v : V} {i : Addr} (h : Rs K F v (.ref i)) : v = .ref i := by cases h; rfl
theorem Rs.non_inv {v : V} (h : Rs K F v .non) : v = .non := by cases h; rfl
theorem Rs.ty_inv {v : V} {n : String} (h : Rs K F v (.ty n)) : v = .ty n := by cases h; rfl
theorem Rs.tup_get {v : V} {ds : List D} (h : Rs K F v (.tup ds)) : ∃ a xs, v = .ref a ∧ F a = some (.tup xs) ∧ RsA K F xs ds := by
  cases h with
  | tup h r => exact ⟨_, _, rfl, h, r⟩
theorem Rs.lst_get {v : V} {ds : List D} (h : Rs K F v (.lst ds)) : ∃ a xs, v = .ref a ∧ F a = some (.lst xs) ∧ RsA K F xs ds := by
  cases h with
  | lst h r => exact ⟨_, _, rfl, h, r⟩
theorem Rs.tup_inv {v : V} {ds : List D} (h : Rs K F v (.tup ds)) : ∃ a xs, v = .ref a ∧ SqT K F a xs ∧ RsA K F xs ds := let ⟨a, xs, e, h1, r⟩ := h.tup_get; ⟨a, xs, e, SqT.of h1, r⟩
theorem Rs.lst_inv {v : V} {ds : List D} (h : Rs K F v (.lst ds)) : ∃ a xs, v = .ref a ∧ SqL K F a xs ∧ RsA K F xs ds := let ⟨a, xs, e, h1, r⟩ := h.lst_get; ⟨a, xs, e, SqL.of h1, r⟩
theorem Rs.scr_inv {v : V} {ns : List Int} (h : Rs K F v (.scr ns)) : ∃ a, v = .ref a ∧ SqL K F a (ns.map V.int) := by
  cases h with
  | scr h => exact ⟨_, rfl, h⟩
end

/-! ### keys of nested data -/
mutual
def D.nk : D → Option NestedKey
  | .non => some .none
  | .int i => some (.num i)
  | .str x => some (.text x)
  | .tup ds => (D.nks ds).map .tup
  | _ => none
def D.nks : List D → Option (List NestedKey)
  | [] => some []
  | d :: ds => match D.nk d, D.nks ds with
    | some k, some ks => some (k :: ks)
    | _, _ => none
end

/-! ### cells -/
inductive Co where
  | lst (ds : List D)
  | ins (C : Addr) (fs : List (Str × D))
  | dK (kvs : List (Key × D))
  /-- a dict from tuples (nested data) to True -/
  | dN (ks : List D)
  /-- such a dict while a loop walks it -/
  | dL (ob : Obj) (u : HO) (ks : List D)
  /-- a caught exception of the class -/
  | exc (cls : Value)
abbrev Sto := List (Addr × Co)

section
variable (P : Program) (w : World) (K : PySem.W.Frag)
def dnPhi (a : Addr) (xs : List (NestedKey × Addr × Value)) (h : Heap) : Prop :=
  ∃ o es ep, h.get? a = some o ∧ o.ExactDict ∧ o.data = .dict es ep ∧ es.toList = xs.map (entryOfKey (nestedKind P w)) ∧ (xs.map (·.1)).Nodup
def excPhi (cls : Value) (a : Addr) (h : Heap) : Prop := ∃ (oe : Obj) (vs : Array Value), h.get? a = some oe ∧ Zc cls none oe ∧ oe.data = .fields vs
def RF (F : Hp) : List (Str × V) → List (Str × D) → Prop := Paired fun p q => p.1 = q.1 ∧ Rs K F p.2 q.2
def RK (F : Hp) : List (Key × V) → List (Key × D) → Prop := Paired fun p q => p.1 = q.1 ∧ Rs K F p.2 q.2
def RN (F : Hp) : List D → List (NestedKey × Addr × Value) → Prop := Paired fun d x => (∃ ds, d = .tup ds) ∧ d.nk = some x.1 ∧ x.1.depth ≤ 8 ∧ Rs K F (.ref x.2.1) d ∧ x.2.2 = .bool true
def RCo (F : Hp) (a : Addr) (o : HO) : Co → Prop
  | .lst ds => ∃ xs, o = .lst xs ∧ RsA K F xs ds
  | .ins C fs => ∃ dx vs, o = .ins C dx vs ∧ RF K F vs fs
  | .dK kvs => ∃ kw, o = .dK kw ∧ RK K F kw kvs
  | .dN ks => ∃ xs, o = .ext (dnPhi P w a xs) ∧ RN K F ks xs ∧ (a == sysModules) = false
  | .dL ob u ks => o = .frz ob u ∧ ∃ xs, u = .ext (dnPhi P w a xs) ∧ RN K F ks xs ∧ (a == sysModules) = false
  | .exc cls => o = .ext (excPhi cls a)
/-- the heap H holds the frozen F and the cells L, apart -/
structure Spl (F : Hp) (L : Sto) (H : Hp) : Prop where
  same : Same F H
  nd : (L.map (·.1)).Nodup
  cell : ∀ c ∈ L, F c.1 = none ∧ ∃ o, H c.1 = some o ∧ RCo P w K F c.1 o c.2
end

section
variable {P : Program} {w : World} {K : PySem.W.Frag} {F F' H H' : Hp} {L L' : Sto}
theorem Paired.imp {α β : Type} {R S : α → β → Prop} (h : ∀ a b, R a b → S a b) : ∀ {l : List α} {m : List β}, Paired R l m → Paired S l m
  | _, _, .nil => .nil
  | _, _, .cons r t => .cons (h _ _ r) (Paired.imp h t)
theorem RCo.mono {a : Addr} {o : HO} {c : Co} (e : Same F F') (h : RCo P w K F a o c) : RCo P w K F' a o c := by
  cases c with
  | lst ds => obtain ⟨xs, rfl, r⟩ := h; exact ⟨xs, rfl, r.mono e⟩
  | ins C fs => obtain ⟨dx, vs, rfl, r⟩ := h; exact ⟨dx, vs, rfl, Paired.imp (fun p q z => ⟨z.1, z.2.mono e⟩) r⟩
  | dK kvs => obtain ⟨kw, rfl, r⟩ := h; exact ⟨kw, rfl, Paired.imp (fun p q z => ⟨z.1, z.2.mono e⟩) r⟩
  | dN ks => obtain ⟨xs, rfl, r, q⟩ := h; exact ⟨xs, rfl, Paired.imp (fun p q z => ⟨z.1, z.2.1, z.2.2.1, z.2.2.2.1.mono e, z.2.2.2.2⟩) r, q⟩
  | dL ob u ks => obtain ⟨e0, xs, e1, r, q⟩ := h; exact ⟨e0, xs, e1, Paired.imp (fun p q z => ⟨z.1, z.2.1, z.2.2.1, z.2.2.2.1.mono e, z.2.2.2.2⟩) r, q⟩
  | exc cls => exact h
/-- all that was stands: a new object laid -/
theorem Spl.keep (S : Spl P w K F L H) (e : Same H H') : Spl P w K F L H' :=
  ⟨fun a o h => e _ _ (S.same _ _ h), S.nd, fun c hc => let ⟨n, o, h, r⟩ := S.cell c hc; ⟨n, o, e _ _ h, r⟩⟩
theorem same_new {p : Addr} {o : HO} (h : H p = none) : Same H (upd H p o) := fun a u e => by
  rw [upd_ne (ne_of_none e h)]
  exact e
theorem Spl.fnone (S : Spl P w K F L H) {p : Addr} (h : H p = none) : F p = none := S.same.free h
theorem Spl.notin (S : Spl P w K F L H) {p : Addr} (h : H p = none) : p ∉ L.map (·.1) := fun hm => by
  obtain ⟨c, hc, e⟩ := List.mem_map.mp hm
  obtain ⟨_, o, ho, _⟩ := S.cell c hc
  rw [e, h] at ho
  cases ho
/-- a new object goes to the frozen part -/
theorem Spl.ice {p : Addr} {o : HO} (S : Spl P w K F L H) (h : H p = none) : Spl P w K (upd F p o) L (upd H p o) ∧ Same F (upd F p o) := by
  have sf : Same F (upd F p o) := same_new (S.fnone h)
  refine ⟨⟨fun a u e => ?_, S.nd, fun c hc => ?_⟩, sf⟩
  · by_cases q : a = p
    · subst q
      rw [upd_same] at e ⊢
      exact e
    · rw [upd_ne q] at e ⊢
      exact S.same _ _ e
  · obtain ⟨n, u, hu, r⟩ := S.cell c hc
    have q : c.1 ≠ p := ne_of_none hu h
    exact ⟨by rw [upd_ne q]; exact n, u, by rw [upd_ne q]; exact hu, r.mono sf⟩
/-- a new object becomes a cell -/
theorem Spl.new {p : Addr} {o : HO} {c : Co} (S : Spl P w K F L H) (h : H p = none) (r : RCo P w K F p o c) : Spl P w K F ((p, c) :: L) (upd H p o) := by
  refine ⟨fun a u e => same_new h _ _ (S.same _ _ e), List.nodup_cons.mpr ⟨S.notin h, S.nd⟩, fun d hd => ?_⟩
  rcases List.mem_cons.mp hd with rfl | hd
  · exact ⟨S.fnone h, o, upd_same, r⟩
  · obtain ⟨n, u, hu, q⟩ := S.cell d hd
    exact ⟨n, u, same_new h _ _ hu, q⟩
/-- a cell is forgotten -/
theorem Spl.sub (S : Spl P w K F L H) (h : L'.Sublist L) : Spl P w K F L' H := ⟨S.same, List.Nodup.sublist (h.map _) S.nd, fun c hc => S.cell c (h.subset hc)⟩
theorem Spl.perm (S : Spl P w K F L H) (h : L'.Perm L) : Spl P w K F L' H := ⟨S.same, (h.map _).nodup_iff.mpr S.nd, fun c hc => S.cell c (h.mem_iff.mp hc)⟩
end

/-! ### a place in the store -/
theorem nodup_mid {α : Type} {p : α} {A B : List α} (h : (A ++ p :: B).Nodup) : p ∉ A ++ B := fun hm => by
  obtain ⟨_, h2, h3⟩ := List.nodup_append.mp h
  rcases List.mem_append.mp hm with z | z
  · exact h3 p z p List.mem_cons_self rfl
  · exact (List.nodup_cons.mp h2).1 z
/-- f is the store with a hole for the cell at p -/
def At (p : Addr) (c : Co) (L : Sto) (f : Co → Sto) : Prop := ∃ A B, (∀ c', f c' = A ++ (p, c') :: B) ∧ L = f c
section
variable {P : Program} {w : World} {K : PySem.W.Frag} {F F' H H' : Hp} {L L' A B : Sto} {p : Addr} {c c' : Co} {f : Co → Sto} {x : Addr × Co}
theorem At.here : At p c ((p, c) :: B) (fun c' => (p, c') :: B) := ⟨[], B, fun _ => rfl, rfl⟩
theorem At.tail (h : At p c B f) : At p c (x :: B) (fun c' => x :: f c') := by
  obtain ⟨A, B', h1, h2⟩ := h
  exact ⟨x :: A, B', fun c' => by dsimp only; rw [h1]; rfl, by rw [h2]⟩
theorem At.left (h : At p c A f) : At p c (A ++ B) (fun c' => f c' ++ B) := by
  obtain ⟨A', B', h1, h2⟩ := h
  exact ⟨A', B' ++ B, fun c' => by dsimp only; rw [h1, List.append_assoc]; rfl, by rw [h2]⟩
theorem At.right (h : At p c B f) : At p c (A ++ B) (fun c' => A ++ f c') := by
  obtain ⟨A', B', h1, h2⟩ := h
  exact ⟨A ++ A', B', fun c' => by dsimp only; rw [h1, List.append_assoc], by rw [h2]⟩
theorem At.eq (h : At p c L f) : L = f c := let ⟨_, _, _, h2⟩ := h; h2
theorem At.mem (h : At p c L f) : (p, c) ∈ L := by
  obtain ⟨A, B, h1, h2⟩ := h
  rw [h2, h1]
  simp
theorem At.to (h : At p c L f) : At p c' (f c') f := let ⟨A, B, h1, _⟩ := h; ⟨A, B, h1, rfl⟩
theorem Spl.look (S : Spl P w K F L H) (h : At p c L f) : F p = none ∧ ∃ o, H p = some o ∧ RCo P w K F p o c := S.cell _ h.mem
/-- the cell at p is written -/
theorem Spl.put {o : HO} (S : Spl P w K F L H) (h : At p c L f) (r : RCo P w K F p o c') : Spl P w K F (f c') (upd H p o) := by
  obtain ⟨np, u, hu, _⟩ := S.look h
  obtain ⟨A, B, h1, h2⟩ := h
  have nd := S.nd
  rw [h2, h1] at nd
  refine ⟨fun a u e => ?_, ?_, fun d hd => ?_⟩
  · rw [upd_ne (ne_of_none e np)]
    exact S.same _ _ e
  · rw [h1]
    simpa using nd
  · rw [h1] at hd
    have out : ∀ d ∈ A ++ B, d.1 ≠ p := fun d hd q => by
      simp only [List.map_append, List.map_cons] at nd
      refine nodup_mid nd ?_
      rw [← q, ← List.map_append]
      exact List.mem_map_of_mem hd
    have old : ∀ d ∈ A ++ B, d ∈ L := fun d hd => by
      rw [h2, h1]
      rcases List.mem_append.mp hd with z | z
      · exact List.mem_append_left _ z
      · exact List.mem_append_right _ (List.mem_cons_of_mem _ z)
    rcases List.mem_append.mp hd with z | z
    · obtain ⟨n, v, hv, q⟩ := S.cell d (old d (List.mem_append_left _ z))
      exact ⟨n, v, by rw [upd_ne (out d (List.mem_append_left _ z))]; exact hv, q⟩
    · rcases List.mem_cons.mp z with rfl | z
      · exact ⟨np, o, upd_same, r⟩
      · obtain ⟨n, v, hv, q⟩ := S.cell d (old d (List.mem_append_right _ z))
        exact ⟨n, v, by rw [upd_ne (out d (List.mem_append_right _ z))]; exact hv, q⟩
/-- a list's cell is frozen -/
theorem Spl.freeze {ds : List D} (S : Spl P w K F ((p, .lst ds) :: L) H) : ∃ F', Same F F' ∧ Spl P w K F' L H ∧ Rs K F' (.ref p) (.lst ds) := by
  obtain ⟨np, o, ho, xs, rfl, r⟩ := S.cell _ List.mem_cons_self
  have sf : Same F (upd F p (.lst xs)) := same_new np
  have nd := List.nodup_cons.mp S.nd
  refine ⟨_, sf, ⟨fun a u e => ?_, nd.2, fun c hc => ?_⟩, .lst upd_same (r.mono sf)⟩
  · by_cases q : a = p
    · subst q
      rw [upd_same] at e
      cases e
      exact ho
    · rw [upd_ne q] at e
      exact S.same _ _ e
  · obtain ⟨n, v, hv, q⟩ := S.cell c (List.mem_cons_of_mem _ hc)
    have ne : c.1 ≠ p := fun z => nd.1 (List.mem_map.mpr ⟨c, hc, z⟩)
    exact ⟨by rw [upd_ne ne]; exact n, v, hv, q.mono sf⟩
end

/-- the store with a hole for a part of it -/
def Hole (f : Sto → Sto) : Prop := ∃ A B, ∀ S, f S = A ++ (S ++ B)
section
variable {L S A B : Sto} {p : Addr} {c : Co} {f g : Sto → Sto} {h : Co → Sto} {x : Addr × Co}
theorem Hole.id : Hole (fun S => S) := ⟨[], [], fun S => by simp⟩
theorem Hole.tail (h : Hole f) : Hole (fun S => x :: f S) := let ⟨A, B, e⟩ := h; ⟨x :: A, B, fun S => by dsimp only; rw [e]; rfl⟩
theorem Hole.left (h : Hole f) : Hole (fun S => f S ++ B) := let ⟨A, C, e⟩ := h; ⟨A, C ++ B, fun S => by dsimp only; rw [e]; simp⟩
theorem Hole.right (h : Hole f) : Hole (fun S => A ++ f S) := let ⟨A', C, e⟩ := h; ⟨A ++ A', C, fun S => by dsimp only; rw [e]; simp⟩
theorem Hole.comp (h : Hole f) (k : Hole g) : Hole (fun S => f (g S)) := by
  obtain ⟨A, B, e⟩ := h
  obtain ⟨A', B', e'⟩ := k
  exact ⟨A ++ A', B' ++ B, fun S => by dsimp only; rw [e, e']; simp⟩
theorem At.in (k : Hole f) (z : At p c S h) : At p c (f S) (fun c' => f (h c')) := by
  obtain ⟨A, B, e⟩ := k
  obtain ⟨A', B', h1, h2⟩ := z
  exact ⟨A ++ A', B' ++ B, fun c' => by dsimp only; rw [e, h1]; simp, by rw [h2]⟩
/-- L is f around S -/
def Part (S L : Sto) (f : Sto → Sto) : Prop := Hole f ∧ L = f S
theorem Part.here : Part S S (fun S => S) := ⟨.id, rfl⟩
theorem Part.tail (h : Part S B f) : Part S (x :: B) (fun S => x :: f S) := ⟨h.1.tail, by rw [h.2]⟩
theorem Part.left (h : Part S A f) : Part S (A ++ B) (fun S => f S ++ B) := ⟨h.1.left, by rw [h.2]⟩
theorem Part.right (h : Part S B f) : Part S (A ++ B) (fun S => A ++ f S) := ⟨h.1.right, by rw [h.2]⟩
theorem Part.in (k : Hole f) (z : Part S L g) : Part S (f L) (fun S => f (g S)) := ⟨k.comp z.1, by rw [z.2]⟩
theorem Part.front : Part S (S ++ B) (fun S => S ++ B) := ⟨Hole.id.left, rfl⟩
end
end Cl
set_option Elab.async false
set_option linter.all false
set_option maxRecDepth 100000
set_option maxHeartbeats 4000000
/-! The abstract wp over the readings. -/
namespace Cl
open PySem PySem.Spec PyProof.Rows L2

/-! ### slots -/
abbrev Gm := List (Option D)
def Sl (K : PySem.W.Frag) (F : Hp) (σ : L2.St) (Γ : Gm) : Prop := σ.length = Γ.length ∧ ∀ (i : Nat) (d : D), Γ[i]? = some (some d) → ∃ v, σ[i]? = some (some v) ∧ Rs K F v d
section
variable {K : PySem.W.Frag} {F F' : Hp} {σ : L2.St} {Γ Γ' : Gm}
theorem Sl.mono (e : Same F F') (h : Sl K F σ Γ) : Sl K F' σ Γ := ⟨h.1, fun i d q => let ⟨v, h1, h2⟩ := h.2 i d q; ⟨v, h1, h2.mono e⟩⟩
theorem Sl.set {v : V} {d : D} (i : Nat) (h : Sl K F σ Γ) (r : Rs K F v d) : Sl K F (σ.set i (some v)) (Γ.set i (some d)) := by
  refine ⟨by simp [h.1], fun j e q => ?_⟩
  by_cases hj : i = j
  · subst hj
    by_cases hl : i < Γ.length
    · rw [List.getElem?_set_self hl] at q
      cases q
      exact ⟨v, List.getElem?_set_self (by rw [h.1]; exact hl), r⟩
    · rw [List.getElem?_eq_none (by simpa using hl)] at q
      cases q
  · rw [List.getElem?_set_ne hj] at q ⊢
    exact h.2 j e q
/-- forgetting slots -/
theorem Sl.weak (h : Sl K F σ Γ) (hl : Γ'.length = Γ.length) (w : ∀ (i : Nat) (d : D), Γ'[i]? = some (some d) → Γ[i]? = some (some d)) : Sl K F σ Γ' := ⟨by rw [h.1, hl], fun i d q => h.2 i d (w i d q)⟩
theorem Sl.unset (i : Nat) (h : Sl K F σ Γ) : Sl K F σ (Γ.set i none) := h.weak (by simp) fun j d q => by
  by_cases hj : i = j
  · subst hj
    by_cases hl : i < Γ.length
    · rw [List.getElem?_set_self hl] at q; cases q
    · rw [List.getElem?_eq_none (by simpa using hl)] at q; cases q
  · rw [List.getElem?_set_ne hj] at q
    exact q
def startG (N : List Str) (ds : List D) : Gm := ds.map some ++ List.replicate (N.length - ds.length) none
theorem Sl.start {N : List Str} {vs : List V} {ds : List D} (h : RsA K F vs ds) : Sl K F (L2.start N vs) (startG N ds) := by
  have hl := h.length
  refine ⟨by unfold L2.start startG; simp [hl], fun i d q => ?_⟩
  unfold startG at q
  unfold L2.start
  by_cases hi : i < ds.length
  · rw [List.getElem?_append_left (by simpa using hi), List.getElem?_map] at q
    cases e : ds[i]? with
    | none => rw [e] at q; cases q
    | some d' =>
      rw [e] at q
      cases q
      obtain ⟨v, h1, h2⟩ := h.get e
      exact ⟨v, by rw [List.getElem?_append_left (by simpa [hl] using hi), List.getElem?_map, h1]; rfl, h2⟩
  · rw [List.getElem?_append_right (by simpa using hi), List.getElem?_replicate] at q
    split at q <;> cases q
def wipeG (Γ : Gm) : List Nat → Gm
  | [] => Γ
  | v :: vs => (wipeG Γ vs).set v none
theorem wipeG_len (Γ : Gm) : ∀ vs, (wipeG Γ vs).length = Γ.length
  | [] => rfl
  | v :: vs => by unfold wipeG; rw [List.length_set, wipeG_len Γ vs]
theorem wipe_get (σ : L2.St) (i : Nat) : ∀ vs : List Nat, (wipe σ vs)[i]? = if i ∈ vs then (if i < σ.length then some none else none) else σ[i]?
  | [] => by simp [wipe]
  | v :: vs => by
    unfold wipe
    have ih := wipe_get σ i vs
    by_cases e : v = i
    · subst e
      rw [List.getElem?_set]
      simp only [if_true, wipe_length, List.mem_cons, true_or]
    · rw [List.getElem?_set_ne e, ih]
      have e2 : ¬ i = v := fun z => e z.symm
      simp [List.mem_cons, e2]
theorem Sl.wipe (h : Sl K F σ Γ) : ∀ vs, Sl K F (wipe σ vs) (wipeG Γ vs)
  | [] => h
  | v :: vs => by
    have ih := Sl.wipe h vs
    unfold wipeG L2.wipe
    refine ⟨by simp [ih.1], fun j d q => ?_⟩
    by_cases hj : v = j
    · subst hj
      by_cases hl : v < (wipeG Γ vs).length
      · rw [List.getElem?_set_self hl] at q; cases q
      · rw [List.getElem?_eq_none (by simpa using hl)] at q; cases q
    · rw [List.getElem?_set_ne hj] at q ⊢
      exact ih.2 j d q
end

/-! ### the wp -/
abbrev Ex := Value → Sto → Prop
abbrev Ex0 : Ex := fun _ _ => False
section
variable (P : Program) (w : World) (K : PySem.W.Frag)
def Lk (F : Hp) (ex : Ex) (E : XK) : Prop := ∀ cls F' H' L', Same F F' → Spl P w K F' L' H' → ex cls L' → E cls none H'
def KV1 (F : Hp) (Φ : D → Sto → Prop) (Q : VK) : Prop := ∀ v d F' H' L', Same F F' → Spl P w K F' L' H' → Rs K F' v d → Φ d L' → Q v H'
variable (E : XK)
def WE (te : TE) (Γ : Gm) (L : Sto) (ex : Ex) (Φ : D → Sto → Prop) : Prop :=
  ∀ (σ : L2.St) (F H : Hp) (Q : VK), Sl K F σ Γ → Spl P w K F L H → Lk P w K F ex E → KV1 P w K F Φ Q → te σ H Q
def WA (ta : TA) (Γ : Gm) (L : Sto) (ex : Ex) (Φ : List D → Sto → Prop) : Prop :=
  ∀ (σ : L2.St) (F H : Hp) (Q : List V → Hp → Prop), Sl K F σ Γ → Spl P w K F L H → Lk P w K F ex E → (∀ vs ds F' H' L', Same F F' → Spl P w K F' L' H' → RsA K F' vs ds → Φ ds L' → Q vs H') → ta σ H Q
def WT (tt : TT) (Γ : Gm) (L : Sto) (ex : Ex) (Φ : Bool → Sto → Prop) : Prop :=
  ∀ (σ : L2.St) (F H : Hp) (Q : Bool → Hp → Prop), Sl K F σ Γ → Spl P w K F L H → Lk P w K F ex E → (∀ b F' H' L', Same F F' → Spl P w K F' L' H' → Φ b L' → Q b H') → tt σ H Q
/-- an operation on two values, a call of a built-in on values -/
def WR (r : R2) (x y : D) (L : Sto) (Φ : D → Sto → Prop) : Prop :=
  ∀ (F H : Hp) (vx vy : V) (Q : VK), Rs K F vx x → Rs K F vy y → Spl P w K F L H → KV1 P w K F Φ Q → r vx vy H Q
def WC (r : List V → Hp → VK → Prop) (ds : List D) (L : Sto) (Φ : D → Sto → Prop) : Prop :=
  ∀ (F H : Hp) (vs : List V) (Q : VK), RsA K F vs ds → Spl P w K F L H → KV1 P w K F Φ Q → r vs H Q
/-- a built-in's method -/
def WM (r : V → List V → Hp → VK → Prop) (o : D) (ds : List D) (L : Sto) (Φ : D → Sto → Prop) : Prop :=
  ∀ (F H : Hp) (v : V) (vs : List V) (Q : VK), Rs K F v o → RsA K F vs ds → Spl P w K F L H → KV1 P w K F Φ Q → r v vs H Q
/-- what is wanted behind a statement -/
structure Pst where
  nx : Gm → Sto → Prop
  rt : D → Sto → Prop
  bk : Gm → Sto → Prop := fun _ _ => False
  ct : Gm → Sto → Prop := fun _ _ => False
  ex : Ex := fun _ _ => False
structure EOk (F : Hp) (A : Pst) (De : Ends) : Prop where
  nx : ∀ σ Γ F' H' L', Same F F' → Sl K F' σ Γ → Spl P w K F' L' H' → A.nx Γ L' → De.nx σ H'
  rt : KV1 P w K F A.rt De.rt
  bk : ∀ σ Γ F' H' L', Same F F' → Sl K F' σ Γ → Spl P w K F' L' H' → A.bk Γ L' → De.bk σ H'
  ct : ∀ σ Γ F' H' L', Same F F' → Sl K F' σ Γ → Spl P w K F' L' H' → A.ct Γ L' → De.ct σ H'
def WS (ts : TS) (Γ : Gm) (L : Sto) (A : Pst) : Prop :=
  ∀ (σ : L2.St) (F H : Hp) (De : Ends), Sl K F σ Γ → Spl P w K F L H → Lk P w K F A.ex E → EOk P w K F A De → ts De σ H
/-- a target -/
def setAll : L2.St → List Nat → List V → L2.St
  | σ, i :: is, v :: vs => setAll (σ.set i (some v)) is vs
  | σ, _, _ => σ
def setG : Gm → List (Nat × D) → Gm
  | Γ, [] => Γ
  | Γ, (i, d) :: us => setG (Γ.set i (some d)) us
def WG (g : TG) (d : D) (L : Sto) (us : List (Nat × D)) : Prop :=
  ∀ (F H : Hp) (v : V) (σ : L2.St) (Q : L2.St → Hp → Prop), Rs K F v d → Spl P w K F L H → (∀ vs, RsA K F vs (us.map (·.2)) → Q (setAll σ (us.map (·.1)) vs) H) → g v σ H Q
def WGs (g : TGs) (ds : List D) (L : Sto) (us : List (Nat × D)) : Prop :=
  ∀ (F H : Hp) (ws : List V) (σ : L2.St) (Q : L2.St → Hp → Prop), RsA K F ws ds → Spl P w K F L H → (∀ vs, RsA K F vs (us.map (·.2)) → Q (setAll σ (us.map (·.1)) vs) H) → g ws σ H Q
/-- what a loop walks: the items' data -/
structure ItSp (J : It) (F : Hp) (ds : List D) (stay : Sto → Prop) : Prop where
  stop : ∀ i F' H L, Same F F' → Spl P w K F' L H → stay L → ds.length ≤ i → J.stop i H
  go : ∀ i d F' H L, Same F F' → Spl P w K F' L H → stay L → ds[i]? = some d → J.go i H ∧ ∀ x H', J.yld i H x H' → ∃ F'', Same F' F'' ∧ Spl P w K F'' L H' ∧ Rs K F'' x d
def WI (wi : TI) (Γ : Gm) (L : Sto) (ex : Ex) (Ψ : List D → (Sto → Prop) → Sto → Prop) : Prop :=
  ∀ (σ : L2.St) (F H : Hp) (R : It → Hp → Prop), Sl K F σ Γ → Spl P w K F L H → Lk P w K F ex E →
    (∀ J ds stay F' H' L', Same F F' → Spl P w K F' L' H' → ItSp P w K J F' ds stay → Ψ ds stay L' → R J H') → wi σ H R
end

section
variable {P : Program} {w : World} {K : PySem.W.Frag} {E : XK} {F F' H H' : Hp} {σ : L2.St} {Γ Γ' : Gm} {L L' : Sto} {ex : Ex} {Φ Φ' : D → Sto → Prop} {Q : VK} {ta tb te tx : TE} {d d' : D} {i j : Int} {A : Pst}
theorem Same.tr {H1 H2 H3 : Hp} (a : Same H1 H2) (b : Same H2 H3) : Same H1 H3 := fun x o h => b x o (a x o h)
theorem Lk.mono (e : Same F F') (h : Lk P w K F ex E) : Lk P w K F' ex E := fun cls F2 H2 L2 e2 s q => h cls F2 H2 L2 (Same.tr e e2) s q
theorem KV1.mono (e : Same F F') (h : KV1 P w K F Φ Q) : KV1 P w K F' Φ Q := fun v d F2 H2 L2 e2 s r q => h v d F2 H2 L2 (Same.tr e e2) s r q
theorem EOk.mono {De : Ends} (e : Same F F') (h : EOk P w K F A De) : EOk P w K F' A De :=
  ⟨fun σ Γ F2 H2 L2 e2 => h.nx σ Γ F2 H2 L2 (Same.tr e e2), h.rt.mono e, fun σ Γ F2 H2 L2 e2 => h.bk σ Γ F2 H2 L2 (Same.tr e e2), fun σ Γ F2 H2 L2 e2 => h.ct σ Γ F2 H2 L2 (Same.tr e e2)⟩
theorem Lk0 : Lk P w K F Ex0 E := fun _ _ _ _ _ _ h => h.elim
theorem KV1.here (h : KV1 P w K F Φ Q) {v : V} (S : Spl P w K F L H) (r : Rs K F v d) (q : Φ d L) : Q v H := h v d F H L (Same.refl F) S r q
theorem Lk.ne (h : Lk P w K F ex E) {E' : XK} (he : ∀ c d H, E c d H → E' c d H) : Lk P w K F ex E' := fun cls F2 H2 L2 e2 s q => he _ _ _ (h cls F2 H2 L2 e2 s q)

/-! ### consequence -/
theorem WE.imp (h : WE P w K E te Γ L ex Φ) (k : ∀ d L', Φ d L' → Φ' d L') : WE P w K E te Γ L ex Φ' := fun σ F H Q sl S lk q => h σ F H Q sl S lk fun v d F' H' L' e s r z => q v d F' H' L' e s r (k _ _ z)
/-- the answer, a list's cell in front, is frozen -/
theorem WE.ice (h : WE P w K E te Γ L ex (fun d L' => ∃ p ds L2, d = .ref p ∧ L' = (p, .lst ds) :: L2 ∧ Φ (.lst ds) L2)) : WE P w K E te Γ L ex Φ := fun σ F H Q sl S lk q =>
  h σ F H Q sl S lk fun v d F' H' L' e s r ⟨p, ds, L2, e1, e2, z⟩ => by
    subst e1 e2
    obtain ⟨F2, e3, s2, r2⟩ := s.freeze
    have ev := r.ref_inv
    subst ev
    exact q _ _ F2 H' L2 (Same.tr e e3) s2 r2 z

/-! ### expressions -/
theorem we_var {i : Nat} (h : Γ[i]? = some (some d)) (q : Φ d L) : WE P w K E (tVar i) Γ L ex Φ := fun σ F H Q sl S _ k => by
  obtain ⟨v, h1, r⟩ := sl.2 i d h
  exact ⟨v, h1, k.here S r q⟩
theorem we_int (q : Φ (.int i) L) : WE P w K E (tC (.int i)) Γ L ex Φ := fun _ _ _ _ _ S _ k => k.here S (.int i) q
theorem we_str {x : Str} (q : Φ (.str x) L) : WE P w K E (tC (.str x)) Γ L ex Φ := fun _ _ _ _ _ S _ k => k.here S (.str x) q
theorem we_bl {x : Bool} (q : Φ (.bl x) L) : WE P w K E (tC (.bl x)) Γ L ex Φ := fun _ _ _ _ _ S _ k => k.here S (.bl x) q
theorem we_non (q : Φ .non L) : WE P w K E (tC .non) Γ L ex Φ := fun _ _ _ _ _ S _ k => k.here S .non q
theorem we_ref {a : Addr} (q : Φ (.ref a) L) : WE P w K E (tC (.ref a)) Γ L ex Φ := fun _ _ _ _ _ S _ k => k.here S (.ref a) q
theorem we_ty {n : String} (q : Φ (.ty n) L) : WE P w K E (tC (.ty n)) Γ L ex Φ := fun _ _ _ _ _ S _ k => k.here S (.ty n) q
theorem we_op {r : R2} (h : WE P w K E ta Γ L ex fun x L1 => WE P w K E tb Γ L1 ex fun y L2 => WR P w K r x y L2 Φ) : WE P w K E (tOp r ta tb) Γ L ex Φ := fun σ F H Q sl S lk k =>
  h σ F H _ sl S lk fun vx x F1 H1 L1 e1 S1 r1 q1 => q1 σ F1 H1 _ (sl.mono e1) S1 (lk.mono e1) fun vy y F2 H2 L2 e2 S2 r2 q2 => q2 F2 H2 vx vy Q (r1.mono e2) r2 S2 (k.mono (Same.tr e1 e2))
theorem wr_I0 {g : Int → Int → V} (hr : ∀ F : Hp, Rs K F (g i j) d) (q : Φ d L) : WR P w K (rI0 g) (.int i) (.int j) L Φ := fun F H vx vy Q r1 r2 S k => ⟨i, j, r1.int_inv, r2.int_inv, k.here S (hr F) q⟩
theorem wr_int {g : Int → Int → Int} (q : Φ (.int (g i j)) L) : WR P w K (rI0 fun i j => .int (g i j)) (.int i) (.int j) L Φ := wr_I0 (fun _ => .int _) q
theorem wr_bool {g : Int → Int → Bool} (q : Φ (.bl (g i j)) L) : WR P w K (rI0 fun i j => .bl (g i j)) (.int i) (.int j) L Φ := wr_I0 (fun _ => .bl _) q
theorem wr_I {C : Int → Int → Prop} {g : Int → Int → Int} (hc : C i j) (q : Φ (.int (g i j)) L) : WR P w K (rI C fun i j => .int (g i j)) (.int i) (.int j) L Φ := fun F H vx vy Q r1 r2 S k => ⟨i, j, r1.int_inv, r2.int_inv, hc, k.here S (.int _) q⟩
/-- == of scalars -/
def D.v : D → Option V
  | .non => some .non
  | .bl b => some (.bl b)
  | .int i => some (.int i)
  | .str x => some (.str x)
  | .ref a => some (.ref a)
  | .ty n => some (.ty n)
  | _ => none
theorem Rs.of_v {v u : V} (h : Rs K F v d) (e : d.v = some u) : v = u := by
  cases h <;> first | exact Option.some.inj e | cases e
theorem wr_eq {x y : D} {u v : V} (hx : x.v = some u) (hy : y.v = some v) (hs : scal u v = true) (q : Φ (.bl (decide (u = v))) L) : WR P w K rEq x y L Φ := fun F H vx vy Q r1 r2 S k => by
  rw [r1.of_v hx, r2.of_v hy]
  exact ⟨hs, k.here S (.bl _) q⟩
theorem wr_ne {x y : D} {u v : V} (hx : x.v = some u) (hy : y.v = some v) (hs : scal u v = true) (q : Φ (.bl (!decide (u = v))) L) : WR P w K rNe x y L Φ := fun F H vx vy Q r1 r2 S k => by
  rw [r1.of_v hx, r2.of_v hy]
  exact ⟨hs, k.here S (.bl _) q⟩
theorem wr_eqI (q : Φ (.bl (decide (i = j))) L) : WR P w K rEq (.int i) (.int j) L Φ := wr_eq rfl rfl rfl (by
  have e : decide (V.int i = V.int j) = decide (i = j) := by simp
  rw [e]
  exact q)
theorem wr_neI (q : Φ (.bl (!decide (i = j))) L) : WR P w K rNe (.int i) (.int j) L Φ := wr_ne rfl rfl rfl (by
  have e : decide (V.int i = V.int j) = decide (i = j) := by simp
  rw [e]
  exact q)
theorem wr_eqS {x y : Str} (q : Φ (.bl (decide (x = y))) L) : WR P w K rEq (.str x) (.str y) L Φ := wr_eq rfl rfl rfl (by
  have e : decide (V.str x = V.str y) = decide (x = y) := by simp
  rw [e]
  exact q)
theorem wr_neS {x y : Str} (q : Φ (.bl (!decide (x = y))) L) : WR P w K rNe (.str x) (.str y) L Φ := wr_ne rfl rfl rfl (by
  have e : decide (V.str x = V.str y) = decide (x = y) := by simp
  rw [e]
  exact q)
theorem wr_eqB {x y : Bool} (q : Φ (.bl (decide (x = y))) L) : WR P w K rEq (.bl x) (.bl y) L Φ := wr_eq rfl rfl rfl (by
  have e : decide (V.bl x = V.bl y) = decide (x = y) := by simp
  rw [e]
  exact q)
theorem wr_neB {x y : Bool} (q : Φ (.bl (!decide (x = y))) L) : WR P w K rNe (.bl x) (.bl y) L Φ := wr_ne rfl rfl rfl (by
  have e : decide (V.bl x = V.bl y) = decide (x = y) := by simp
  rw [e]
  exact q)
/-- is None -/
def D.isNon : D → Bool
  | .non => true
  | _ => false
theorem Rs.isNon {v : V} (h : Rs K F v d) : decide (v = .non) = d.isNon := by cases h <;> simp [D.isNon]
theorem wr_isN (q : Φ (.bl d.isNon) L) : WR P w K (fun x y H Q => y = .non ∧ Q (.bl (decide (x = .non))) H) d .non L Φ := fun F H vx vy Q r1 r2 S k => ⟨r2.non_inv, by
  rw [r1.isNon]
  exact k.here S (.bl _) q⟩
theorem wr_notN (q : Φ (.bl (!d.isNon)) L) : WR P w K (fun x y H Q => y = .non ∧ Q (.bl (!decide (x = .non))) H) d .non L Φ := fun F H vx vy Q r1 r2 S k => ⟨r2.non_inv, by
  rw [r1.isNon]
  exact k.here S (.bl _) q⟩
/-! indexing -/
theorem atI_rs {vs : List V} {ds : List D} (r : RsA K F vs ds) {i : Int} (h : atI ds i = some d) : ∃ v, atI vs i = some v ∧ Rs K F v d := by
  unfold atI at h ⊢
  rw [r.length]
  cases e : ixN ds.length i with
  | none => rw [e] at h; cases h
  | some j =>
    rw [e] at h
    obtain ⟨v, h1, h2⟩ := r.get (show ds[j]? = some d from h)
    exact ⟨v, h1, h2⟩
theorem wr_ixT {ds : List D} (h : atI ds i = some d) (q : Φ d L) : WR P w K (rIxT K) (.tup ds) (.int i) L Φ := fun F H vx vy Q r1 r2 S k => by
  obtain ⟨a, xs, rfl, hs, ra⟩ := r1.tup_inv
  obtain ⟨v, h1, rv⟩ := atI_rs ra h
  exact ⟨a, xs, i, v, rfl, r2.int_inv, Same.sqT S.same hs, h1, k.here S rv q⟩
theorem wr_ixL {ds : List D} (h : atI ds i = some d) (q : Φ d L) : WR P w K (rIxL K) (.lst ds) (.int i) L Φ := fun F H vx vy Q r1 r2 S k => by
  obtain ⟨a, xs, rfl, hs, ra⟩ := r1.lst_inv
  obtain ⟨v, h1, rv⟩ := atI_rs ra h
  exact ⟨a, xs, i, v, rfl, r2.int_inv, S.same.seq hs, h1, k.here S rv q⟩
theorem wr_ixC {p : Addr} {ds : List D} {f : Co → Sto} (ht : At p (.lst ds) L f) (h : atI ds i = some d) (q : Φ d L) : WR P w K (rIxL K) (.ref p) (.int i) L Φ := fun F H vx vy Q r1 r2 S k => by
  obtain ⟨np, o, ho, xs, rfl, ra⟩ := S.look ht
  obtain ⟨v, h1, rv⟩ := atI_rs ra h
  exact ⟨p, xs, i, v, r1.ref_inv, r2.int_inv, SqL.of ho, h1, k.here S rv q⟩
theorem wr_ixS {z : Str} {c : Nat} (hz : z.length ≤ sizeLine) (h : atI z.cps.toList i = some c) (q : Φ (.str ⟨#[c]⟩) L) : WR P w K rIxS (.str z) (.int i) L Φ := fun F H vx vy Q r1 r2 S k => ⟨z, i, c, r1.str_inv, r2.int_inv, hz, h, k.here S (.str _) q⟩
theorem wr_or1 {r r' : R2} {x y : D} (h : WR P w K r x y L Φ) : WR P w K (fun x y H Q => r x y H Q ∨ r' x y H Q) x y L Φ := fun F H vx vy Q r1 r2 S k => .inl (h F H vx vy Q r1 r2 S k)
theorem wr_or2 {r r' : R2} {x y : D} (h : WR P w K r' x y L Φ) : WR P w K (fun x y H Q => r x y H Q ∨ r' x y H Q) x y L Φ := fun F H vx vy Q r1 r2 S k => .inr (h F H vx vy Q r1 r2 S k)
/-! displays, arguments -/
theorem wa_nil {Φ : List D → Sto → Prop} (q : Φ [] L) : WA P w K E tNil Γ L ex Φ := fun _ F H _ _ S _ k => k [] [] F H L (Same.refl F) S .nil q
theorem wa_cons {tr : TA} {Φ : List D → Sto → Prop} (h : WE P w K E ta Γ L ex fun x L1 => WA P w K E tr Γ L1 ex fun xs L2 => Φ (x :: xs) L2) : WA P w K E (tCons ta tr) Γ L ex Φ := fun σ F H Q sl S lk k =>
  h σ F H _ sl S lk fun vx x F1 H1 L1 e1 S1 r1 q1 => q1 σ F1 H1 _ (sl.mono e1) S1 (lk.mono e1) fun vs ds F2 H2 L2 e2 S2 r2 q2 => k _ _ F2 H2 L2 (Same.tr e1 e2) S2 (.cons (r1.mono e2) r2) q2
theorem we_tup {t : TA} (h : WA P w K E t Γ L ex fun ds L1 => ds.length ≤ 100000 ∧ Φ (.tup ds) L1) : WE P w K E (tTup t) Γ L ex Φ := fun σ F H Q sl S lk k =>
  h σ F H _ sl S lk fun vs ds F1 H1 L1 e1 S1 r1 ⟨hl, q1⟩ => ⟨by rw [r1.length]; exact Nat.le_trans hl (by decide), fun p hp => by
    obtain ⟨S2, e2⟩ := S1.ice (o := .tup vs) hp
    exact k _ _ _ _ L1 (Same.tr e1 e2) S2 (.tup upd_same (r1.mono e2)) q1⟩
/-- a list, a cell of its own -/
theorem we_lstC {t : TA} (h : WA P w K E t Γ L ex fun ds L1 => ds.length ≤ 100000 ∧ ∀ p, Φ (.ref p) ((p, .lst ds) :: L1)) : WE P w K E (tLst t) Γ L ex Φ := fun σ F H Q sl S lk k =>
  h σ F H _ sl S lk fun vs ds F1 H1 L1 e1 S1 r1 ⟨hl, q1⟩ => ⟨by rw [r1.length]; exact Nat.le_trans hl (by decide), fun p hp =>
    k _ _ _ _ _ e1 (S1.new (c := .lst ds) hp ⟨vs, rfl, r1⟩) (.ref p) (q1 p)⟩
/-- a list, as data -/
theorem we_lst {t : TA} (h : WA P w K E t Γ L ex fun ds L1 => ds.length ≤ 100000 ∧ Φ (.lst ds) L1) : WE P w K E (tLst t) Γ L ex Φ := fun σ F H Q sl S lk k =>
  h σ F H _ sl S lk fun vs ds F1 H1 L1 e1 S1 r1 ⟨hl, q1⟩ => ⟨by rw [r1.length]; exact Nat.le_trans hl (by decide), fun p hp => by
    obtain ⟨S2, e2⟩ := S1.ice (o := .lst vs) hp
    exact k _ _ _ _ L1 (Same.tr e1 e2) S2 (.lst upd_same (r1.mono e2)) q1⟩
/-! fields -/
theorem rf_look {f : Str} : ∀ {vs : List (Str × V)} {fs : List (Str × D)} {d : D}, RF K F vs fs → fs.lookup f = some d → ∃ v, vs.lookup f = some v ∧ Rs K F v d
  | _, _, _, .nil, h => by cases h
  | (g, x) :: vs, (g', y) :: fs, d, .cons ⟨e, r⟩ t, h => by
    dsimp only at e r
    subst e
    rw [List.lookup_cons] at h ⊢
    cases q : (f == g) with
    | true =>
      rw [q] at h
      cases h
      exact ⟨x, rfl, r⟩
    | false =>
      rw [q] at h
      exact rf_look t h
theorem rf_none {f : Str} : ∀ {vs : List (Str × V)} {fs : List (Str × D)}, RF K F vs fs → fs.lookup f = none → vs.lookup f = none
  | _, _, .nil, h => rfl
  | (g, x) :: vs, (g', y) :: fs, .cons ⟨e, r⟩ t, h => by
    dsimp only at e r
    subst e
    rw [List.lookup_cons] at h ⊢
    cases q : (f == g) with
    | true => rw [q] at h; cases h
    | false => rw [q] at h; exact rf_none t h
def putD (f : Str) (v : D) : List (Str × D) → List (Str × D)
  | [] => [(f, v)]
  | (g, x) :: r => if g = f then (g, v) :: r else (g, x) :: putD f v r
theorem rf_put {f : Str} {v : V} (r : Rs K F v d) : ∀ {vs : List (Str × V)} {fs : List (Str × D)}, RF K F vs fs → RF K F (putF f v vs) (putD f d fs)
  | _, _, .nil => .cons ⟨rfl, r⟩ .nil
  | (g, x) :: vs, (g', y) :: fs, .cons ⟨e, q⟩ t => by
    dsimp only at e q
    subst e
    unfold putF putD
    by_cases h : g = f
    · rw [if_pos h, if_pos h]; exact .cons ⟨rfl, r⟩ t
    · rw [if_neg h, if_neg h]; exact .cons ⟨rfl, q⟩ (rf_put r t)
theorem Paired.len {α β : Type} {R : α → β → Prop} : ∀ {l : List α} {m : List β}, Paired R l m → l.length = m.length
  | _, _, .nil => rfl
  | _, _, .cons _ t => congrArg (· + 1) (Paired.len t)
/-- o.f -/
theorem we_fld {f : Str} (h : WE P w K E ta Γ L ex fun x L1 => ∃ a C fs d g, x = .ref a ∧ At a (.ins C fs) L1 g ∧ Cls K C ∧ NoAttr K C f ∧ fs.lookup f = some d ∧ Φ d L1) : WE P w K E (tFld K ta f) Γ L ex Φ := fun σ F H Q sl S lk k =>
  h σ F H _ sl S lk fun vx x F1 H1 L1 e1 S1 r1 ⟨a, C, fs, d, g, ex1, ht, hc, hn, hl, q⟩ => by
    subst ex1
    obtain ⟨np, o, ho, dx, vs, rfl, rf⟩ := S1.look ht
    obtain ⟨v, h1, rv⟩ := rf_look rf hl
    exact ⟨a, C, dx, vs, v, r1.ref_inv, ho, hc, hn, h1, k _ _ _ _ _ e1 S1 rv q⟩
/-- o.f = e -/
theorem ws_fld {f : Str} (h : WE P w K E tb Γ L A.ex fun y L1 => WE P w K E ta Γ L1 A.ex fun x L2 => ∃ a C fs g, x = .ref a ∧ At a (.ins C fs) L2 g ∧ Cls K C ∧ NoAttr K C f ∧ fs.length < 1000 ∧ A.nx Γ (g (.ins C (putD f y fs)))) : WS P w K E (sFld K ta tb f) Γ L A := fun σ F H De sl S lk k =>
  h σ F H _ sl S lk fun vy y F1 H1 L1 e1 S1 r1 q1 => q1 σ F1 H1 _ (sl.mono e1) S1 (lk.mono e1) fun vx x F2 H2 L2 e2 S2 r2 ⟨a, C, fs, g, ex1, ht, hc, hn, hl, q⟩ => by
    subst ex1
    obtain ⟨np, o, ho, dx, vs, rfl, rf⟩ := S2.look ht
    have hl2 : vs.length < 1000 := by rw [Paired.len rf]; exact hl
    refine ⟨a, C, dx, vs, r2.ref_inv, ho, hc, hn, hl2, k.nx _ _ F2 _ _ (Same.tr e1 e2) (sl.mono (Same.tr e1 e2)) (S2.put (c' := .ins C _) ht ⟨dx, _, rfl, rf_put (r1.mono e2) rf⟩) q⟩
/-- o.f += e, ints -/
theorem ws_fldaddI {f : Str} (h : WE P w K E ta Γ L A.ex fun x L1 => ∃ a C fs i g, x = .ref a ∧ At a (.ins C fs) L1 g ∧ Cls K C ∧ NoAttr K C f ∧ fs.lookup f = some (.int i) ∧ WE P w K E tb Γ L1 A.ex fun y L2 => ∃ j fs2 g2, y = .int j ∧ At a (.ins C fs2) L2 g2 ∧ fs2.length < 1000 ∧ A.nx Γ (g2 (.ins C (putD f (.int (i + j)) fs2)))) : WS P w K E (sFldAug K ta tb rAdd f) Γ L A := fun σ F H De sl S lk k =>
  h σ F H _ sl S lk fun vx x F1 H1 L1 e1 S1 r1 ⟨a, C, fs, i, g, ex1, ht, hc, hn, hl, q⟩ => by
    subst ex1
    obtain ⟨np, o, ho, dx, vs, rfl, rf⟩ := S1.look ht
    obtain ⟨v, h1, rv⟩ := rf_look rf hl
    have ev := rv.int_inv
    subst ev
    refine ⟨a, C, dx, vs, _, r1.ref_inv, ho, hc, hn, h1, ?_⟩
    refine q σ F1 H1 _ (sl.mono e1) S1 (lk.mono e1) fun vy y F2 H2 L2 e2 S2 r2 ⟨j, fs2, g2, ey, ht2, hl2, q2⟩ => ?_
    subst ey
    obtain ⟨np2, o2, ho2, dx2, vs2, rfl, rf2⟩ := S2.look ht2
    exact ⟨i, j, rfl, r2.int_inv, dx2, vs2, ho2, by rw [Paired.len rf2]; exact hl2, k.nx _ _ F2 _ _ (Same.tr e1 e2) (sl.mono (Same.tr e1 e2)) (S2.put (c' := .ins C _) ht2 ⟨dx2, _, rfl, rf_put (.int _) rf2⟩) q2⟩

/-! ### tests -/
variable {Φb : Bool → Sto → Prop} {t u : TT}
theorem wt_B (h : WE P w K E te Γ L ex fun x L1 => ∃ b, x = .bl b ∧ Φb b L1) : WT P w K E (tB te) Γ L ex Φb := fun σ F H Q sl S lk k =>
  h σ F H _ sl S lk fun vx x F1 H1 L1 e1 S1 r1 ⟨b, ex1, q⟩ => by
    subst ex1
    exact ⟨b, r1.bl_inv, k _ _ _ _ e1 S1 q⟩
theorem wt_test (h : WE P w K E te Γ L ex fun x L1 => ∃ b, x = .bl b ∧ Φb b L1) : WT P w K E (tTest te) Γ L ex Φb := wt_B h
theorem wt_not (h : WT P w K E t Γ L ex fun b L1 => Φb (!b) L1) : WT P w K E (tNot t) Γ L ex Φb := fun σ F H Q sl S lk k =>
  h σ F H _ sl S lk fun b F1 H1 L1 e1 S1 q => k _ _ _ _ e1 S1 q
theorem wt_and (h : WT P w K E t Γ L ex fun b L1 => (b = true → WT P w K E u Γ L1 ex Φb) ∧ (b = false → Φb false L1)) : WT P w K E (tAnd t u) Γ L ex Φb := fun σ F H Q sl S lk k =>
  h σ F H _ sl S lk fun b F1 H1 L1 e1 S1 q => by
    cases b with
    | true => exact q.1 rfl σ F1 H1 Q (sl.mono e1) S1 (lk.mono e1) fun b F2 H2 L2 e2 S2 q2 => k _ _ _ _ (Same.tr e1 e2) S2 q2
    | false => exact k _ _ _ _ e1 S1 (q.2 rfl)
theorem wt_or (h : WT P w K E t Γ L ex fun b L1 => (b = true → Φb true L1) ∧ (b = false → WT P w K E u Γ L1 ex Φb)) : WT P w K E (tOr t u) Γ L ex Φb := fun σ F H Q sl S lk k =>
  h σ F H _ sl S lk fun b F1 H1 L1 e1 S1 q => by
    cases b with
    | false => exact q.2 rfl σ F1 H1 Q (sl.mono e1) S1 (lk.mono e1) fun b F2 H2 L2 e2 S2 q2 => k _ _ _ _ (Same.tr e1 e2) S2 q2
    | true => exact k _ _ _ _ e1 S1 (q.1 rfl)
theorem WT.imp {Φb' : Bool → Sto → Prop} (h : WT P w K E t Γ L ex Φb) (k : ∀ d L', Φb d L' → Φb' d L') : WT P w K E t Γ L ex Φb' := fun σ F H Q sl S lk q => h σ F H Q sl S lk fun b F' H' L' e s z => q b F' H' L' e s (k _ _ z)
theorem we_andV (h : WE P w K E ta Γ L ex fun x L1 => ∃ b, x = .bl b ∧ (b = true → WE P w K E tb Γ L1 ex Φ) ∧ (b = false → Φ (.bl false) L1)) : WE P w K E (tAndV ta tb) Γ L ex Φ := fun σ F H Q sl S lk k =>
  h σ F H _ sl S lk fun vx x F1 H1 L1 e1 S1 r1 ⟨b, ex1, q1, q2⟩ => by
    subst ex1
    refine ⟨b, r1.bl_inv, ?_⟩
    cases b with
    | true => exact q1 rfl σ F1 H1 Q (sl.mono e1) S1 (lk.mono e1) (k.mono e1)
    | false => exact k _ _ _ _ _ e1 S1 (.bl _) (q2 rfl)
theorem we_orV (h : WE P w K E ta Γ L ex fun x L1 => ∃ b, x = .bl b ∧ (b = true → Φ (.bl true) L1) ∧ (b = false → WE P w K E tb Γ L1 ex Φ)) : WE P w K E (tOrV ta tb) Γ L ex Φ := fun σ F H Q sl S lk k =>
  h σ F H _ sl S lk fun vx x F1 H1 L1 e1 S1 r1 ⟨b, ex1, q1, q2⟩ => by
    subst ex1
    refine ⟨b, r1.bl_inv, ?_⟩
    cases b with
    | false => exact q2 rfl σ F1 H1 Q (sl.mono e1) S1 (lk.mono e1) (k.mono e1)
    | true => exact k _ _ _ _ _ e1 S1 (.bl _) (q1 rfl)
theorem we_notV (h : WE P w K E ta Γ L ex fun x L1 => ∃ b, x = .bl b ∧ Φ (.bl (!b)) L1) : WE P w K E (tNotV ta) Γ L ex Φ := fun σ F H Q sl S lk k =>
  h σ F H _ sl S lk fun vx x F1 H1 L1 e1 S1 r1 ⟨b, ex1, q1⟩ => by
    subst ex1
    exact ⟨b, r1.bl_inv, k _ _ _ _ _ e1 S1 (.bl _) q1⟩
theorem we_if (h : WT P w K E t Γ L ex fun b L1 => (b = true → WE P w K E ta Γ L1 ex Φ) ∧ (b = false → WE P w K E tb Γ L1 ex Φ)) : WE P w K E (tIf t ta tb) Γ L ex Φ := fun σ F H Q sl S lk k =>
  h σ F H _ sl S lk fun b F1 H1 L1 e1 S1 q => by
    cases b with
    | true => exact q.1 rfl σ F1 H1 Q (sl.mono e1) S1 (lk.mono e1) (k.mono e1)
    | false => exact q.2 rfl σ F1 H1 Q (sl.mono e1) S1 (lk.mono e1) (k.mono e1)
theorem we_chain {r r' : R2} {tc : TE} (h : WE P w K E ta Γ L ex fun x L1 => WE P w K E tb Γ L1 ex fun y L2 => WR P w K r x y L2 fun z L3 => ∃ b, z = .bl b ∧ (b = true → WE P w K E tc Γ L3 ex fun z2 L4 => WR P w K r' y z2 L4 Φ) ∧ (b = false → Φ (.bl false) L3)) :
    WE P w K E (fun σ H Q => ta σ H fun x H1 => tb σ H1 fun y H2 => r x y H2 fun z H3 => ∃ k, z = .bl k ∧ if k = true then tc σ H3 fun z2 H4 => r' y z2 H4 Q else Q (.bl false) H3) Γ L ex Φ := fun σ F H Q sl S lk k =>
  h σ F H _ sl S lk fun vx x F1 H1 L1 e1 S1 r1 q1 => q1 σ F1 H1 _ (sl.mono e1) S1 (lk.mono e1) fun vy y F2 H2 L2 e2 S2 r2 q2 => q2 F2 H2 vx vy _ (r1.mono e2) r2 S2 fun vz z F3 H3 L3 e3 S3 r3 ⟨b, ez, q3, q4⟩ => by
    subst ez
    refine ⟨b, r3.bl_inv, ?_⟩
    cases b with
    | true => exact q3 rfl σ F3 H3 _ (sl.mono (Same.tr e1 (Same.tr e2 e3))) S3 (lk.mono (Same.tr e1 (Same.tr e2 e3))) fun v4 z4 F4 H4 L4 e4 S4 r4 q5 => q5 F4 H4 vy v4 Q (r2.mono (Same.tr e3 e4)) r4 S4 (k.mono (Same.tr e1 (Same.tr e2 (Same.tr e3 e4))))
    | false => exact k _ _ _ _ _ (Same.tr e1 (Same.tr e2 e3)) S3 (.bl _) (q4 rfl)

/-! ### statements -/
variable {ts us : TS}
theorem WS.imp {A' : Pst} (h : WS P w K E ts Γ L A) (k1 : ∀ Γ L, A.nx Γ L → A'.nx Γ L) (k2 : ∀ d L, A.rt d L → A'.rt d L) (k3 : ∀ Γ L, A.bk Γ L → A'.bk Γ L) (k4 : ∀ Γ L, A.ct Γ L → A'.ct Γ L) (k5 : ∀ c L, A.ex c L → A'.ex c L) : WS P w K E ts Γ L A' := fun σ F H De sl S lk k =>
  h σ F H De sl S (fun c F' H' L' e s q => lk c F' H' L' e s (k5 _ _ q)) ⟨fun σ Γ F' H' L' e s s2 q => k.nx σ Γ F' H' L' e s s2 (k1 _ _ q), fun v d F' H' L' e s r q => k.rt v d F' H' L' e s r (k2 _ _ q), fun σ Γ F' H' L' e s s2 q => k.bk σ Γ F' H' L' e s s2 (k3 _ _ q), fun σ Γ F' H' L' e s s2 q => k.ct σ Γ F' H' L' e s s2 (k4 _ _ q)⟩
theorem ws_seq (h : WS P w K E ts Γ L { A with nx := fun Γ1 L1 => WS P w K E us Γ1 L1 A }) : WS P w K E (tSeq ts us) Γ L A := fun σ F H De sl S lk k =>
  h σ F H { De with nx := us De } sl S lk ⟨fun σ' Γ' F' H' L' e sl' S' q => q σ' F' H' De sl' S' (lk.mono e) (k.mono e), k.rt, k.bk, k.ct⟩
/-- a cut behind a statement -/
theorem ws_cut (J : Gm → Sto → Prop) (h : WS P w K E ts Γ L { A with nx := J }) (h2 : ∀ Γ1 L1, J Γ1 L1 → WS P w K E us Γ1 L1 A) : WS P w K E (tSeq ts us) Γ L A :=
  ws_seq (h.imp (fun _ _ q => h2 _ _ q) (fun _ _ q => q) (fun _ _ q => q) (fun _ _ q => q) fun _ _ q => q)
theorem ws_next (h : A.nx Γ L) : WS P w K E tNext Γ L A := fun σ F H De sl S lk k => k.nx σ Γ F H L (Same.refl F) sl S h
theorem ws_brk (h : A.bk Γ L) : WS P w K E tBreak Γ L A := fun σ F H De sl S lk k => k.bk σ Γ F H L (Same.refl F) sl S h
theorem ws_set {n : Nat} (h : WE P w K E te Γ L A.ex fun d L1 => A.nx (Γ.set n (some d)) L1) : WS P w K E (tAsg te (gName n)) Γ L A := fun σ F H De sl S lk k =>
  h σ F H _ sl S lk fun v d F1 H1 L1 e1 S1 r1 q => k.nx _ _ F1 H1 L1 e1 ((sl.mono e1).set n r1) S1 q
theorem ws_drop (h : WE P w K E te Γ L A.ex fun d L1 => A.nx Γ L1) : WS P w K E (tDrop te) Γ L A := fun σ F H De sl S lk k =>
  h σ F H _ sl S lk fun v d F1 H1 L1 e1 S1 r1 q => k.nx _ _ F1 H1 L1 e1 (sl.mono e1) S1 q
theorem ws_ret (h : WE P w K E te Γ L A.ex A.rt) : WS P w K E (tRet te) Γ L A := fun σ F H De sl S lk k => h σ F H _ sl S lk k.rt
theorem ws_retN (h : A.rt .non L) : WS P w K E tRetN Γ L A := fun σ F H De sl S lk k => k.rt.here S .non h
theorem ws_if (h : WT P w K E t Γ L A.ex fun b L1 => (b = true → WS P w K E ts Γ L1 A) ∧ (b = false → WS P w K E us Γ L1 A)) : WS P w K E (tIfS t ts us) Γ L A := fun σ F H De sl S lk k =>
  h σ F H _ sl S lk fun b F1 H1 L1 e1 S1 q => by
    cases b with
    | true => exact q.1 rfl σ F1 H1 De (sl.mono e1) S1 (lk.mono e1) (k.mono e1)
    | false => exact q.2 rfl σ F1 H1 De (sl.mono e1) S1 (lk.mono e1) (k.mono e1)
/-- raise C('..'): what the def lets out -/
theorem ws_raise {C : Value} (h : A.ex C L) : WS P w K E (fun _ σ H => E C none H) Γ L A := fun σ F H De sl S lk k => lk C F H L (Same.refl F) S h

/-! ### targets -/
theorem sl_all : ∀ {us : List (Nat × D)} {σ : L2.St} {Γ : Gm} {vs : List V}, Sl K F σ Γ → RsA K F vs (us.map (·.2)) → Sl K F (setAll σ (us.map (·.1)) vs) (setG Γ us)
  | [], σ, Γ, vs, sl, r => by
    cases r
    exact sl
  | (i, d) :: us, σ, Γ, _, sl, .cons h r => sl_all (us := us) (sl.set i h) r
theorem wg_name {n : Nat} : WG P w K (gName n) d L [(n, d)] := fun F H v σ Q r S k => k [v] (.cons r .nil)
theorem wgs_nil : WGs P w K gNil [] L [] := fun F H ws σ Q r S k => by
  cases r
  exact ⟨rfl, k [] .nil⟩
theorem setAll_app : ∀ (is js : List Nat) (σ : L2.St) (vs ws : List V), is.length = vs.length → setAll σ (is ++ js) (vs ++ ws) = setAll (setAll σ is vs) js ws
  | [], js, σ, [], ws, _ => by
    show setAll σ js ws = setAll (setAll σ [] []) js ws
    rfl
  | i :: is, js, σ, v :: vs, ws, h => setAll_app is js (σ.set i (some v)) vs ws (by simpa using h)
  | [], _, _, _ :: _, _, h => by simp at h
  | _ :: _, _, _, [], _, h => by simp at h
theorem wgs_cons {g : TG} {gs : TGs} {ds : List D} {us1 us2 : List (Nat × D)} (h1 : WG P w K g d L us1) (h2 : WGs P w K gs ds L us2) : WGs P w K (gCons g gs) (d :: ds) L (us1 ++ us2) := fun F H ws σ Q r S k => by
  cases r with
  | cons r rr =>
    refine ⟨_, _, rfl, h1 F H _ σ _ r S fun vs rv => h2 F H _ _ Q rr S fun vs2 rv2 => ?_⟩
    have e := setAll_app (us1.map (·.1)) (us2.map (·.1)) σ vs vs2 (by rw [rv.length]; simp)
    rw [← e, ← List.map_append]
    exact k _ (by rw [List.map_append]; exact rv.append rv2)
theorem wg_tup {gs : TGs} {n : Nat} {ds : List D} {us : List (Nat × D)} (hn : ds.length = n) (h : WGs P w K gs ds L us) : WG P w K (gTup K n gs) (.tup ds) L us := fun F H v σ Q r S k => by
  obtain ⟨a, xs, rfl, hs, ra⟩ := r.tup_inv
  exact ⟨a, xs, rfl, Same.sqT S.same hs, by rw [ra.length, hn], h F H xs σ Q ra S k⟩
theorem wg_lstC {gs : TGs} {n : Nat} {ds : List D} {us : List (Nat × D)} {p : Addr} {f : Co → Sto} (hn : ds.length = n) (ht : At p (.lst ds) L f) (h : WGs P w K gs ds L us) : WG P w K (gLst K n gs) (.ref p) L us := fun F H v σ Q r S k => by
  obtain ⟨np, o, ho, xs, rfl, ra⟩ := S.look ht
  exact ⟨p, xs, r.ref_inv, SqL.of ho, by rw [ra.length, hn], h F H xs σ Q ra S k⟩
theorem wg_lst {gs : TGs} {n : Nat} {ds : List D} {us : List (Nat × D)} (hn : ds.length = n) (h : WGs P w K gs ds L us) : WG P w K (gLst K n gs) (.lst ds) L us := fun F H v σ Q r S k => by
  obtain ⟨a, xs, rfl, hs, ra⟩ := r.lst_inv
  exact ⟨a, xs, rfl, S.same.seq hs, by rw [ra.length, hn], h F H xs σ Q ra S k⟩
theorem ws_asg {g : TG} (h : WE P w K E te Γ L A.ex fun d L1 => ∃ us, WG P w K g d L1 us ∧ A.nx (setG Γ us) L1) : WS P w K E (tAsg te g) Γ L A := fun σ F H De sl S lk k =>
  h σ F H _ sl S lk fun v d F1 H1 L1 e1 S1 r1 ⟨us, hg, q⟩ => hg F1 H1 v σ _ r1 S1 fun vs rv => k.nx _ _ F1 H1 L1 e1 (sl_all (sl.mono e1) rv) S1 q
end
end Cl
set_option Elab.async false
set_option linter.all false
set_option maxRecDepth 100000
set_option maxHeartbeats 4000000
/-! Promises, calls, loops, comprehensions, built-ins at the level of data. -/
namespace Cl
open PySem PySem.Spec PyProof.Rows L2

/-! ### promises -/
abbrev ASp := List D → Sto → (D → Sto → Prop) → Ex → Prop
def spOf (P : Program) (w : World) (K : PySem.W.Frag) (A : ASp) : Sp := fun vs H Q E => ∃ F ds L Φ ex, RsA K F vs ds ∧ Spl P w K F L H ∧ A ds L Φ ex ∧ KV1 P w K F Φ Q ∧ Lk P w K F ex E
section
variable {P : Program} {w : World} {K : PySem.W.Frag} {mg : Str → Option Value} {base : Heap}
theorem def_ok {x qual : Str} {st : Stmt} {dvs : List V} {kws : List (Str × V)} {f : Addr} {fd : FuncData} {N ps : List Str} {k : Nat} {A : ASp} (F : FunD K x qual (defArgs st) (defBody st) (defScope st) dvs kws f fd) (S : FnScope N ps (defScope st))
    (len : ∀ ds L Φ ex, A ds L Φ ex → ds.length = ps.length)
    (body : ∀ (cdv : Value) (Ar : Around) (outer : List Env) (s : Shared) (H : Hp) (E : XK) (ds : List D) (L : Sto) (Φ : D → Sto → Prop) (ex : Ex), Room k (Ar.deeper (envOfC qual (defScope st) s.heap.objs.size f cdv)) → A ds L Φ ex →
      ∃ t, PSs (cxOf (L2.CX P w) P w K mg base N qual (defScope st) f cdv Ar outer s H E) (defBody st) t ∧ WS P w K E t (startG N ds) L { nx := fun _ L' => Φ .non L', rt := Φ, ex := ex }) :
    FnOk P w K mg base (L2.CX P w) (k + 1) f fd ps (spOf P w K A) := by
  refine F.ok S (fun vs H Q E ⟨F0, ds, L, Φ, ex, r, _, a, _⟩ => by rw [r.length]; exact len _ _ _ _ a) fun cdv Ar outer s H vs Q E hr ⟨F0, ds, L, Φ, ex, r, S0, a, k1, lk⟩ => ?_
  obtain ⟨t, h1, h2⟩ := body cdv Ar outer s H E ds L Φ ex hr a
  exact ⟨t, h1, h2 _ F0 H _ (Sl.start r) S0 lk ⟨fun σ Γ F' H' L' e sl s q => k1 _ _ F' H' L' e s .non q, k1, fun _ _ _ _ _ _ _ _ q => q.elim, fun _ _ _ _ _ _ _ _ q => q.elim⟩⟩
end

section
variable {P : Program} {w : World} {K : PySem.W.Frag} {E : XK} {F F' H H' : Hp} {σ : L2.St} {Γ Γ' : Gm} {L L' : Sto} {ex : Ex} {Φ Φ' : D → Sto → Prop} {Q : VK} {ta tb te tx : TE} {d d' : D} {i j : Int} {A : Pst} {B : ASp} {tr tk : TA}
/-! ### calls -/
theorem we_call (h : WA P w K E tr Γ L ex fun ds L1 => B ds L1 Φ ex) : WE P w K E (tCall (spOf P w K B) [] E tr) Γ L ex Φ := fun σ F H Q sl S lk k =>
  h σ F H _ sl S lk fun vs ds F1 H1 L1 e1 S1 r1 q => ⟨F1, ds, L1, Φ, ex, by rw [List.append_nil]; exact r1, S1, q, k.mono e1, lk.mono e1⟩
theorem we_call0 (h : WA P w K E tr Γ L ex fun ds L1 => B ds L1 Φ Ex0) : WE P w K E (tCall (spOf P w K B) [] E0 tr) Γ L ex Φ := fun σ F H Q sl S lk k =>
  h σ F H _ sl S lk fun vs ds F1 H1 L1 e1 S1 r1 q => ⟨F1, ds, L1, Φ, Ex0, by rw [List.append_nil]; exact r1, S1, q, k.mono e1, Lk0⟩
theorem we_meth {C : Addr} {m : Str} (h : WE P w K E ta Γ L ex fun x L1 => ∃ a fs g, x = .ref a ∧ At a (.ins C fs) L1 g ∧ fs.lookup m = none ∧ WA P w K E tr Γ L1 ex fun ds L2 => B (.ref a :: ds) L2 Φ ex) : WE P w K E (tMeth C m (spOf P w K B) [] E ta tr) Γ L ex Φ := fun σ F H Q sl S lk k =>
  h σ F H _ sl S lk fun vx x F1 H1 L1 e1 S1 r1 ⟨a, fs, g, ex1, ht, hm, q⟩ => by
    subst ex1
    obtain ⟨np, o, ho, dx, vs, rfl, rf⟩ := S1.look ht
    have ev := r1.ref_inv
    subst ev
    exact ⟨a, dx, vs, rfl, ho, rf_none rf hm, q σ F1 H1 _ (sl.mono e1) S1 (lk.mono e1) fun us ds F2 H2 L2 e2 S2 r2 q2 => ⟨F2, _, L2, Φ, ex, by rw [List.append_nil]; exact .cons (.ref a) r2, S2, q2, k.mono (Same.tr e1 e2), lk.mono (Same.tr e1 e2)⟩⟩
theorem we_meth0 {C : Addr} {m : Str} (h : WE P w K E ta Γ L ex fun x L1 => ∃ a fs g, x = .ref a ∧ At a (.ins C fs) L1 g ∧ fs.lookup m = none ∧ WA P w K E tr Γ L1 ex fun ds L2 => B (.ref a :: ds) L2 Φ Ex0) : WE P w K E (tMeth C m (spOf P w K B) [] E0 ta tr) Γ L ex Φ := fun σ F H Q sl S lk k =>
  h σ F H _ sl S lk fun vx x F1 H1 L1 e1 S1 r1 ⟨a, fs, g, ex1, ht, hm, q⟩ => by
    subst ex1
    obtain ⟨np, o, ho, dx, vs, rfl, rf⟩ := S1.look ht
    have ev := r1.ref_inv
    subst ev
    exact ⟨a, dx, vs, rfl, ho, rf_none rf hm, q σ F1 H1 _ (sl.mono e1) S1 (lk.mono e1) fun us ds F2 H2 L2 e2 S2 r2 q2 => ⟨F2, _, L2, Φ, Ex0, by rw [List.append_nil]; exact .cons (.ref a) r2, S2, q2, k.mono (Same.tr e1 e2), Lk0⟩⟩
theorem spl_ins {C x dx : Addr} (S : Spl P w K F L H) (nx : H x = none) (ndx : H dx = none) (ne : dx ≠ x) : Spl P w K F ((x, .ins C []) :: L) (upd (upd H dx (.own x)) x (.ins C dx [])) :=
  (S.keep (same_new ndx)).new (c := .ins C []) (by rw [upd_ne ne.symm]; exact nx) ⟨dx, [], rfl, .nil⟩
theorem we_make {C : Addr} (h : WA P w K E tr Γ L ex fun ds L1 => ∀ x, B (.ref x :: ds) ((x, .ins C []) :: L1) (fun d L2 => d = .non ∧ Φ (.ref x) L2) Ex0) : WE P w K E (tMake C (spOf P w K B) [] E0 tr) Γ L ex Φ := fun σ F H Q sl S lk k =>
  h σ F H _ sl S lk fun vs ds F1 H1 L1 e1 S1 r1 q => fun x dx nx ndx ne => ⟨F1, _, _, _, Ex0, by rw [List.append_nil]; exact .cons (.ref x) r1, spl_ins S1 nx ndx ne, q x, fun v d F2 H2 L2 e2 S2 r2 ⟨ed, q2⟩ => by
    subst ed
    exact ⟨r2.non_inv, k _ _ F2 H2 L2 (Same.tr e1 e2) S2 (.ref x) q2⟩, Lk0⟩
theorem we_makeK {C : Addr} {n m : Nat} {gV : List V → List V → List V} {gD : List D → List D → List D} (hg : ∀ {F : Hp} {vs zs : List V} {ds es : List D}, RsA K F vs ds → RsA K F zs es → RsA K F (gV vs zs) (gD ds es))
    (h : WA P w K E tr Γ L ex fun ds L1 => WA P w K E tk Γ L1 ex fun es L2 => ds.length = n ∧ es.length = m ∧ ∀ x, B (gD (.ref x :: ds) es) ((x, .ins C []) :: L2) (fun d L3 => d = .non ∧ Φ (.ref x) L3) Ex0) : WE P w K E (tMakeK C n m (spOf P w K B) gV E0 tr tk) Γ L ex Φ := fun σ F H Q sl S lk k =>
  h σ F H _ sl S lk fun vs ds F1 H1 L1 e1 S1 r1 q => q σ F1 H1 _ (sl.mono e1) S1 (lk.mono e1) fun zs es F2 H2 L2 e2 S2 r2 ⟨l1, l2, q2⟩ => ⟨by rw [r1.length, l1], by rw [r2.length, l2], fun x dx nx ndx ne =>
    ⟨F2, _, _, _, Ex0, hg (.cons (.ref x) (r1.mono e2)) r2, spl_ins S2 nx ndx ne, q2 x, fun v d F3 H3 L3 e3 S3 r3 ⟨ed, q3⟩ => by
      subst ed
      exact ⟨r3.non_inv, k _ _ F3 H3 L3 (Same.tr e1 (Same.tr e2 e3)) S3 (.ref x) q3⟩, Lk0⟩⟩
/-! ### built-ins -/
theorem we_cb {r : List V → Hp → VK → Prop} (h : WA P w K E tr Γ L ex fun ds L1 => WC P w K r ds L1 Φ) : WE P w K E (tCB r tr) Γ L ex Φ := fun σ F H Q sl S lk k =>
  h σ F H _ sl S lk fun vs ds F1 H1 L1 e1 S1 r1 q => q F1 H1 vs Q r1 S1 (k.mono e1)
theorem rsa1 {vs : List V} (r : RsA K F vs [d]) : ∃ v, vs = [v] ∧ Rs K F v d := by
  cases r with
  | cons h t => cases t; exact ⟨_, rfl, h⟩
theorem rsa2 {vs : List V} (r : RsA K F vs [d, d']) : ∃ v u, vs = [v, u] ∧ Rs K F v d ∧ Rs K F u d' := by
  cases r with
  | cons h t =>
    obtain ⟨u, rfl, g⟩ := rsa1 t
    exact ⟨_, _, rfl, h, g⟩
theorem LenV.of {x : V} {n : Nat} (S : Same F H) (h : LenV K x F n) : LenV K x H n := by
  cases x with
  | ref p => exact h.elim (fun ⟨xs, a, b⟩ => .inl ⟨xs, S.seq a, b⟩) fun ⟨xs, a, b⟩ => .inr ⟨xs, Same.sqT S a, b⟩
  | _ => exact h
abbrev rLenV (K : PySem.W.Frag) : List V → Hp → VK → Prop := fun xs H Q => ∃ x n, xs = [x] ∧ LenV K x H n ∧ Q (.int n) H
theorem wc_lenL {ds : List D} (q : Φ (.int ds.length) L) : WC P w K (rLenV K) [.lst ds] L Φ := fun F H vs Q r S k => by
  obtain ⟨v, rfl, r1⟩ := rsa1 r
  obtain ⟨a, xs, rfl, hs, ra⟩ := r1.lst_inv
  exact ⟨_, ds.length, rfl, .inl ⟨xs, S.same.seq hs, ra.length.symm⟩, k.here S (.int _) q⟩
theorem wc_lenT {ds : List D} (q : Φ (.int ds.length) L) : WC P w K (rLenV K) [.tup ds] L Φ := fun F H vs Q r S k => by
  obtain ⟨v, rfl, r1⟩ := rsa1 r
  obtain ⟨a, xs, rfl, hs, ra⟩ := r1.tup_inv
  exact ⟨_, ds.length, rfl, .inr ⟨xs, Same.sqT S.same hs, ra.length.symm⟩, k.here S (.int _) q⟩
theorem wc_lenC {p : Addr} {ds : List D} {f : Co → Sto} (ht : At p (.lst ds) L f) (q : Φ (.int ds.length) L) : WC P w K (rLenV K) [.ref p] L Φ := fun F H vs Q r S k => by
  obtain ⟨v, rfl, r1⟩ := rsa1 r
  obtain ⟨np, o, ho, xs, rfl, ra⟩ := S.look ht
  exact ⟨_, ds.length, rfl, by rw [r1.ref_inv]; exact .inl ⟨xs, SqL.of ho, ra.length.symm⟩, k.here S (.int _) q⟩
theorem wc_lenS {z : Str} (hz : z.length ≤ sizeLine) (q : Φ (.int z.length) L) : WC P w K (rLenV K) [.str z] L Φ := fun F H vs Q r S k => by
  obtain ⟨v, rfl, r1⟩ := rsa1 r
  exact ⟨_, z.length, rfl, by rw [r1.str_inv]; exact ⟨hz, rfl⟩, k.here S (.int _) q⟩
/-- a value's kind -/
def D.kind : D → String
  | .non => "NoneType"
  | .bl _ => "bool"
  | .int _ => "int"
  | .str _ => "str"
  | .tup _ => "tuple"
  | .lst _ => "list"
  | .ref _ => ""
  | .ty _ => "type"
  | .scr _ => "list"
  | .etup _ => "tuple"
def D.isRef : D → Bool
  | .ref _ => true
  | .ty _ => true
  | _ => false
theorem tyx_L {a : Addr} {xs : List V} (h : SqL K F a xs) : TyX K F (.ref a) (.type "list") := by
  rcases h with (h | ⟨o, h⟩) | ⟨o, its, n, h, hc, _⟩
  · exact .base (.lst h)
  · exact .base (.frz h)
  · exact .kList h hc
theorem tyx_T {a : Addr} {xs : List V} (h : SqT K F a xs) : TyX K F (.ref a) (.type "tuple") := by
  rcases h with (h | ⟨o, h⟩) | ⟨o, its, n, h, hc, _⟩
  · exact .base (.tup h)
  · exact .fTuple h
  · exact .kTuple h hc
theorem Rs.tyx {v : V} (S : Same F H) (r : Rs K F v d) (h : d.isRef = false) : TyX K H v (.type d.kind) := by
  cases r with
  | non => exact .base .non
  | bl b => exact .base (.bl b)
  | int i => exact .base (.int i)
  | str x => exact .base (.str x)
  | ref a => cases h
  | ty n => cases h
  | tup h1 _ => exact tyx_T (Same.sqT S (SqT.of h1))
  | lst h1 _ => exact tyx_L (S.seq (SqL.of h1))
  | scr h1 => exact tyx_L (S.seq h1)
  | etup h1 _ _ => exact tyx_T (Same.sqT S (.inl (.inr ⟨_, h1⟩)))
theorem wc_isi {n : String} {b : Bool} (hd : d.isRef = false) (hb : kitB d.kind n = some b) (q : Φ (.bl b) L) : WC P w K (rIsi K) [d, .ty n] L Φ := fun F H vs Q r S k => by
  obtain ⟨v, u, rfl, r1, r2⟩ := rsa2 r
  exact ⟨v, u, _, _, b, rfl, by rw [r2.ty_inv]; exact .ty n, r1.tyx S.same hd, kit_ty hb, k.here S (.bl _) q⟩
theorem paired_ty : ∀ {vs : List V} {ns : List String}, RsA K F vs (ns.map D.ty) → Paired ClsV vs (ns.map Value.type)
  | _, [], .nil => .nil
  | _, n :: ns, .cons h t => .cons (by rw [h.ty_inv]; exact .ty n) (paired_ty t)
/-- isinstance(x, (T, ..)) -/
theorem we_isiT {tt : TA} (h : WE P w K E ta Γ L ex fun x L1 => x.isRef = false ∧ WA P w K E tt Γ L1 ex fun cs L2 => ∃ (ns : List String) (b : Bool), cs = ns.map D.ty ∧ ns.length ≤ 100000 ∧ PySem.W.kitAny K (.type x.kind) (ns.map Value.type) = some b ∧ Φ (.bl b) L2) :
    WE P w K E (tCB (rIsiT K) (tCons ta (tCons (tTup tt) tNil))) Γ L ex Φ := fun σ F H Q sl S lk k =>
  h σ F H _ sl S lk fun vx x F1 H1 L1 e1 S1 r1 ⟨hx, q1⟩ => q1 σ F1 H1 _ (sl.mono e1) S1 (lk.mono e1) fun vs ds F2 H2 L2 e2 S2 r2 ⟨ns, b, ed, hl, hb, q2⟩ => by
    subst ed
    refine ⟨by rw [r2.length]; simpa using Nat.le_trans hl (by decide), fun p hp => ?_⟩
    obtain ⟨S3, e3⟩ := S2.ice (o := .tup vs) hp
    refine ⟨vx, p, vs, _, ns.map Value.type, b, rfl, upd_same, paired_ty r2, ((r1.mono e2).mono e3).tyx S3.same hx, hb, ?_⟩
    exact k _ _ _ _ L2 (Same.tr e1 (Same.tr e2 e3)) S3 (.bl _) q2
theorem wc_all {bs : List Bool} (q : Φ (.bl (bs.all id)) L) : WC P w K (rAll K) [.lst (bs.map D.bl)] L Φ := fun F H vs Q r S k => by
  obtain ⟨v, rfl, r1⟩ := rsa1 r
  obtain ⟨a, xs, rfl, hs, ra⟩ := r1.lst_inv
  rw [ra.bls_inv] at hs
  exact ⟨a, bs, rfl, S.same.seq hs, k.here S (.bl _) q⟩
theorem wc_sum {ns : List Int} (q : Φ (.int ns.sum) L) : WC P w K (rSum K) [.lst (ns.map D.int)] L Φ := fun F H vs Q r S k => by
  obtain ⟨v, rfl, r1⟩ := rsa1 r
  obtain ⟨a, xs, rfl, hs, ra⟩ := r1.lst_inv
  rw [ra.ints_inv] at hs
  exact ⟨a, ns, rfl, S.same.seq hs, k.here S (.int _) q⟩
theorem wc_sumC {p : Addr} {f : Co → Sto} {ns : List Int} (ht : At p (.lst (ns.map D.int)) L f) (q : Φ (.int ns.sum) L) : WC P w K (rSum K) [.ref p] L Φ := fun F H vs Q r S k => by
  obtain ⟨v, rfl, r1⟩ := rsa1 r
  obtain ⟨np, o, ho, xs, rfl, ra⟩ := S.look ht
  rw [ra.ints_inv] at ho
  exact ⟨p, ns, by rw [r1.ref_inv], SqL.of ho, k.here S (.int _) q⟩
theorem wc_max {ns : List Int} (hn : 0 < ns.length) (q : ∀ m, m ∈ ns → (∀ y, y ∈ ns → y ≤ m) → Φ (.int m) L) : WC P w K (rMax K) [.lst (ns.map D.int)] L Φ := fun F H vs Q r S k => by
  obtain ⟨v, rfl, r1⟩ := rsa1 r
  obtain ⟨a, xs, rfl, hs, ra⟩ := r1.lst_inv
  rw [ra.ints_inv] at hs
  exact ⟨a, ns, rfl, S.same.seq hs, hn, fun m h1 h2 => k.here S (.int _) (q m h1 h2)⟩
/-- sorted(xs), ints; the answer a new list, as data -/
theorem wc_sortI {ns : List Int} (q : ∀ ns' : List Int, ns'.Perm ns → ns'.Pairwise (· ≤ ·) → Φ (.lst (ns'.map D.int)) L) : WC P w K (rSortedI K) [.lst (ns.map D.int)] L Φ := fun F H vs Q r S k => by
  obtain ⟨v, rfl, r1⟩ := rsa1 r
  obtain ⟨a, xs, rfl, hs, ra⟩ := r1.lst_inv
  rw [ra.ints_inv] at hs
  refine ⟨a, ns, rfl, S.same.seq hs, fun ns' p h1 h2 hp => ?_⟩
  obtain ⟨S2, e2⟩ := S.ice (o := .lst (ns'.map V.int)) hp
  exact k _ _ _ _ L e2 S2 (.lst upd_same (RsA.ints ns')) (q ns' h1 h2)
abbrev rMax2 : List V → Hp → VK → Prop := fun xs H Q => ∃ i j, xs = [.int i, .int j] ∧ Q (.int (if j > i then j else i)) H
abbrev rMin2 : List V → Hp → VK → Prop := fun xs H Q => ∃ i j, xs = [.int i, .int j] ∧ Q (.int (if j < i then j else i)) H
theorem wc_max2 (q : Φ (.int (if j > i then j else i)) L) : WC P w K rMax2 [.int i, .int j] L Φ := fun F H vs Q r S k => by
  obtain ⟨v, u, rfl, r1, r2⟩ := rsa2 r
  rw [r1.int_inv, r2.int_inv]
  exact ⟨i, j, rfl, k.here S (.int _) q⟩
theorem wc_min2 (q : Φ (.int (if j < i then j else i)) L) : WC P w K rMin2 [.int i, .int j] L Φ := fun F H vs Q r S k => by
  obtain ⟨v, u, rfl, r1, r2⟩ := rsa2 r
  rw [r1.int_inv, r2.int_inv]
  exact ⟨i, j, rfl, k.here S (.int _) q⟩
abbrev rAbs : List V → Hp → VK → Prop := fun xs H Q => ∃ i, xs = [.int i] ∧ Q (.int (if i < 0 then -i else i)) H
theorem wc_abs (q : Φ (.int (if i < 0 then -i else i)) L) : WC P w K rAbs [.int i] L Φ := fun F H vs Q r S k => by
  obtain ⟨v, rfl, r1⟩ := rsa1 r
  rw [r1.int_inv]
  exact ⟨i, rfl, k.here S (.int _) q⟩
abbrev rInt1 : List V → Hp → VK → Prop := fun xs H Q => (∃ i, xs = [.int i] ∧ Q (.int i) H) ∨ ∃ k, xs = [.bl k] ∧ Q (.int (if k then 1 else 0)) H
theorem wc_intB {b : Bool} (q : Φ (.int (if b then 1 else 0)) L) : WC P w K rInt1 [.bl b] L Φ := fun F H vs Q r S k => by
  obtain ⟨v, rfl, r1⟩ := rsa1 r
  rw [r1.bl_inv]
  exact .inr ⟨b, rfl, k.here S (.int _) q⟩
abbrev rListOf (K : PySem.W.Frag) : List V → Hp → VK → Prop := fun xs H Q => ∃ p ys, xs = [.ref p] ∧ (SqL K H p ys ∨ SqT K H p ys) ∧ ∀ l, H l = none → Q (.ref l) (upd H l (.lst ys))
/-- list(xs): a cell of its own -/
theorem wc_listC {ds : List D} (q : ∀ p, Φ (.ref p) ((p, .lst ds) :: L)) (hd : d = .lst ds ∨ d = .tup ds) : WC P w K (rListOf K) [d] L Φ := fun F H vs Q r S k => by
  obtain ⟨v, rfl, r1⟩ := rsa1 r
  have key : ∃ a xs, v = .ref a ∧ (SqL K H a xs ∨ SqT K H a xs) ∧ RsA K F xs ds := by
    rcases hd with rfl | rfl
    · obtain ⟨a, xs, rfl, hs, ra⟩ := r1.lst_inv
      exact ⟨a, xs, rfl, .inl (S.same.seq hs), ra⟩
    · obtain ⟨a, xs, rfl, hs, ra⟩ := r1.tup_inv
      exact ⟨a, xs, rfl, .inr (Same.sqT S.same hs), ra⟩
  obtain ⟨a, xs, rfl, hs, ra⟩ := key
  exact ⟨a, xs, rfl, hs, fun l hl => k _ _ F _ _ (Same.refl F) (S.new (c := .lst ds) hl ⟨xs, rfl, ra⟩) (.ref l) (q l)⟩
/-- .. as data -/
theorem wc_list {ds : List D} (q : Φ (.lst ds) L) (hd : d = .lst ds ∨ d = .tup ds) : WC P w K (rListOf K) [d] L Φ := fun F H vs Q r S k => by
  obtain ⟨v, rfl, r1⟩ := rsa1 r
  have key : ∃ a xs, v = .ref a ∧ (SqL K H a xs ∨ SqT K H a xs) ∧ RsA K F xs ds := by
    rcases hd with rfl | rfl
    · obtain ⟨a, xs, rfl, hs, ra⟩ := r1.lst_inv
      exact ⟨a, xs, rfl, .inl (S.same.seq hs), ra⟩
    · obtain ⟨a, xs, rfl, hs, ra⟩ := r1.tup_inv
      exact ⟨a, xs, rfl, .inr (Same.sqT S.same hs), ra⟩
  obtain ⟨a, xs, rfl, hs, ra⟩ := key
  refine ⟨a, xs, rfl, hs, fun l hl => ?_⟩
  obtain ⟨S2, e2⟩ := S.ice (o := .lst xs) hl
  exact k _ _ _ _ L e2 S2 (.lst upd_same (ra.mono e2)) q
/-- list(xs) of a list's cell, as data -/
theorem wc_listOfC {ds : List D} {p : Addr} {f : Co → Sto} (ht : At p (.lst ds) L f) (q : Φ (.lst ds) L) : WC P w K (rListOf K) [.ref p] L Φ := fun F H vs Q r S k => by
  obtain ⟨v, rfl, r1⟩ := rsa1 r
  obtain ⟨np, o, ho, xs, rfl, ra⟩ := S.look ht
  refine ⟨p, xs, by rw [r1.ref_inv], .inl (SqL.of ho), fun l hl => ?_⟩
  obtain ⟨S2, e2⟩ := S.ice (o := .lst xs) hl
  exact k _ _ _ _ L e2 S2 (.lst upd_same (ra.mono e2)) q
abbrev rTupOf (K : PySem.W.Frag) : List V → Hp → VK → Prop := fun xs H Q => ∃ p ys, xs = [.ref p] ∧ ((SqL K H p ys ∧ ∀ l, H l = none → Q (.ref l) (upd H l (.tup ys))) ∨ (SqT K H p ys ∧ Q (.ref p) H))
theorem wc_tupL {ds : List D} (q : Φ (.tup ds) L) : WC P w K (rTupOf K) [.lst ds] L Φ := fun F H vs Q r S k => by
  obtain ⟨v, rfl, r1⟩ := rsa1 r
  obtain ⟨a, xs, rfl, hs, ra⟩ := r1.lst_inv
  refine ⟨a, xs, rfl, .inl ⟨S.same.seq hs, fun l hl => ?_⟩⟩
  obtain ⟨S2, e2⟩ := S.ice (o := .tup xs) hl
  exact k _ _ _ _ L e2 S2 (.tup upd_same (ra.mono e2)) q
/-! ### methods of lists -/
theorem we_bm {T : String} {r : V → List V → Hp → VK → Prop} (h : WE P w K E ta Γ L ex fun x L1 => (∀ F H v, Rs K F v x → Spl P w K F L1 H → tyV K T v H) ∧ WA P w K E tr Γ L1 ex fun ds L2 => WM P w K r x ds L2 Φ) : WE P w K E (tBM K T r ta tr) Γ L ex Φ := fun σ F H Q sl S lk k =>
  h σ F H _ sl S lk fun vx x F1 H1 L1 e1 S1 r1 ⟨hty, q⟩ => ⟨hty F1 H1 vx r1 S1, q σ F1 H1 _ (sl.mono e1) S1 (lk.mono e1) fun vs ds F2 H2 L2 e2 S2 r2 q2 => q2 F2 H2 vx vs Q (r1.mono e2) r2 S2 (k.mono (Same.tr e1 e2))⟩
theorem ty_cell {p : Addr} {ds : List D} {f : Co → Sto} (ht : At p (.lst ds) L f) : ∀ F H v, Rs K F v (.ref p) → Spl P w K F L H → tyV K "list" v H := fun F H v r S => by
  obtain ⟨np, o, ho, xs, rfl, ra⟩ := S.look ht
  rw [r.ref_inv]
  exact .inl ⟨rfl, _, SqL.of ho⟩
theorem wm_append {p : Addr} {ds : List D} {f : Co → Sto} (ht : At p (.lst ds) L f) (hl : ds.length < 100000) (q : Φ .non (f (.lst (ds ++ [d])))) : WM P w K rAppend (.ref p) [d] L Φ := fun F H v vs Q r rs S k => by
  obtain ⟨u, rfl, ru⟩ := rsa1 rs
  obtain ⟨np, o, ho, xs, rfl, ra⟩ := S.look ht
  have hlx : xs.length < sizeLine := by rw [ra.length]; exact Nat.lt_of_lt_of_le hl (by decide)
  exact ⟨p, xs, u, r.ref_inv, rfl, ho, hlx, k _ _ F _ _ (Same.refl F) (S.put (c' := .lst (ds ++ [d])) ht ⟨_, rfl, ra.append (.cons ru .nil)⟩) .non q⟩
theorem wm_popAt {p : Addr} {ds : List D} {n : Nat} {f : Co → Sto} (ht : At p (.lst ds) L f) (hn : n < 2 ^ 62) (hd : ds[n]? = some d) (q : Φ d (f (.lst (ds.eraseIdx n)))) : WM P w K rPopAt (.ref p) [.int n] L Φ := fun F H v vs Q r rs S k => by
  obtain ⟨u, rfl, ru⟩ := rsa1 rs
  obtain ⟨np, o, ho, xs, rfl, ra⟩ := S.look ht
  obtain ⟨x, hx, rx⟩ := ra.get hd
  have hlt : n < xs.length := (List.getElem?_eq_some_iff.mp hx).1
  refine ⟨p, xs, n, n, x, r.ref_inv, by rw [ru.int_inv], ho, by omega, by omega, ?_, hx, k _ _ F _ _ (Same.refl F) (S.put (c' := .lst (ds.eraseIdx n)) ht ⟨_, rfl, ra.eraseIdx n⟩) rx q⟩
  have e : ixN xs.length (n : Int) = some n := by
    unfold ixN
    rw [if_pos (by omega), if_pos (by omega)]
    simp
  exact (ixN_seq e).1
theorem wm_extend {p : Addr} {ds es : List D} {f : Co → Sto} (ht : At p (.lst ds) L f) (hl : ds.length + es.length ≤ 100000) {b : Addr} {g : Co → Sto} (hb : At b (.lst es) L g) (q : Φ .non (f (.lst (ds ++ es)))) : WM P w K rExtend (.ref p) [.ref b] L Φ := fun F H v vs Q r rs S k => by
  obtain ⟨u, rfl, ru⟩ := rsa1 rs
  obtain ⟨np, o, ho, xs, rfl, ra⟩ := S.look ht
  obtain ⟨np2, o2, ho2, ys, rfl, rb⟩ := S.look hb
  exact ⟨p, b, xs, ys, r.ref_inv, by rw [ru.ref_inv], ho, ho2, by rw [ra.length, rb.length]; exact Nat.le_trans hl (by decide), k _ _ F _ _ (Same.refl F) (S.put (c' := .lst (ds ++ es)) ht ⟨_, rfl, ra.append rb⟩) .non q⟩
/-! ### a[i] = e on a list's cell -/
theorem ws_setL {td ti tv : TE} (h : WE P w K E tv Γ L A.ex fun y L1 => WE P w K E td Γ L1 A.ex fun x L2 => WE P w K E ti Γ L2 A.ex fun z L3 => ∃ p ds n g, x = .ref p ∧ z = .int ((n : Nat) : Int) ∧ At p (.lst ds) L3 g ∧ n < ds.length ∧ A.nx Γ (g (.lst (ds.set n y)))) :
    WS P w K E (tAsg tv (gSub td ti rSetL)) Γ L A := fun σ F H De sl S lk k =>
  h σ F H _ sl S lk fun vy y F1 H1 L1 e1 S1 r1 q1 => q1 σ F1 H1 _ (sl.mono e1) S1 (lk.mono e1) fun vx x F2 H2 L2 e2 S2 r2 q2 => q2 σ F2 H2 _ (sl.mono (Same.tr e1 e2)) S2 (lk.mono (Same.tr e1 e2)) fun vz z F3 H3 L3 e3 S3 r3 ⟨p, ds, n, g, ex1, ez, ht, hn, q⟩ => by
    subst ex1 ez
    obtain ⟨np, o, ho, xs, rfl, ra⟩ := S3.look ht
    have e : ixN xs.length ((n : Nat) : Int) = some n := by
      have hl := ra.length
      unfold ixN
      rw [if_pos (by omega), if_pos (by omega)]
      simp
    exact ⟨p, xs, n, n, (r2.mono e3).ref_inv, r3.int_inv, ho, e, k.nx _ _ F3 _ _ (Same.tr e1 (Same.tr e2 e3)) (sl.mono (Same.tr e1 (Same.tr e2 e3))) (S3.put (c' := .lst (ds.set n y)) ht ⟨_, rfl, RsA.set (r1.mono (Same.tr e2 e3)) n ra⟩) q⟩
/-! ### what loops walk -/
variable {Ψ : List D → (Sto → Prop) → Sto → Prop}
theorem it_listD {a : Addr} {xs : List V} {ds : List D} (hs : SqL K F a xs) (ra : RsA K F xs ds) : ItSp P w K (Itl K a) F ds (fun _ => True) where
  stop := fun i F' H L e S _ hi => ⟨xs, S.same.seq (e.seq hs), by rw [ra.length]; exact hi⟩
  go := fun i d F' H L e S _ hd => by
    obtain ⟨v, hv, rv⟩ := ra.get hd
    have hs' := S.same.seq (e.seq hs)
    refine ⟨⟨xs, v, hs', hv⟩, fun x H' ⟨eH, hx⟩ => ?_⟩
    subst eH
    have ex1 := hx xs hs'
    rw [hv] at ex1
    cases ex1
    exact ⟨F', Same.refl _, S, rv.mono e⟩
theorem wi_listD (h : WE P w K E te Γ L ex fun x L1 => ∃ ds, x = .lst ds ∧ Ψ ds (fun _ => True) L1) : WI P w K E (iList K te) Γ L ex Ψ := fun σ F H R sl S lk k =>
  h σ F H _ sl S lk fun vx x F1 H1 L1 e1 S1 r1 ⟨ds, ex1, q⟩ => by
    subst ex1
    obtain ⟨a, xs, rfl, hs, ra⟩ := r1.lst_inv
    exact ⟨a, rfl, ⟨xs, S1.same.seq hs⟩, k _ ds _ F1 H1 L1 e1 S1 (it_listD hs ra) q⟩
theorem it_listC {p : Addr} {ds : List D} : ItSp P w K (Itl K p) F ds (fun L => ∃ f, At p (.lst ds) L f) where
  stop := fun i F' H L e S ⟨f, ht⟩ hi => by
    obtain ⟨np, o, ho, xs, rfl, ra⟩ := S.look ht
    exact ⟨xs, SqL.of ho, by rw [ra.length]; exact hi⟩
  go := fun i d F' H L e S ⟨f, ht⟩ hd => by
    obtain ⟨np, o, ho, xs, rfl, ra⟩ := S.look ht
    obtain ⟨v, hv, rv⟩ := ra.get hd
    refine ⟨⟨xs, v, SqL.of ho, hv⟩, fun x H' ⟨eH, hx⟩ => ?_⟩
    subst eH
    have ex1 := hx xs (SqL.of ho)
    rw [hv] at ex1
    cases ex1
    exact ⟨F', Same.refl _, S, rv⟩
theorem wi_listC (h : WE P w K E te Γ L ex fun x L1 => ∃ p ds f, x = .ref p ∧ At p (.lst ds) L1 f ∧ Ψ ds (fun L => ∃ f, At p (.lst ds) L f) L1) : WI P w K E (iList K te) Γ L ex Ψ := fun σ F H R sl S lk k =>
  h σ F H _ sl S lk fun vx x F1 H1 L1 e1 S1 r1 ⟨p, ds, f, ex1, ht, q⟩ => by
    subst ex1
    obtain ⟨np, o, ho, xs, rfl, ra⟩ := S1.look ht
    exact ⟨p, r1.ref_inv, ⟨xs, SqL.of ho⟩, k _ ds _ F1 H1 L1 e1 S1 it_listC q⟩
theorem wi_tup (h : WE P w K E te Γ L ex fun x L1 => ∃ ds, x = .tup ds ∧ Ψ ds (fun _ => True) L1) : WI P w K E (iTup K te) Γ L ex Ψ := fun σ F H R sl S lk k =>
  h σ F H _ sl S lk fun vx x F1 H1 L1 e1 S1 r1 ⟨ds, ex1, q⟩ => by
    subst ex1
    obtain ⟨a, xs, rfl, hs, ra⟩ := r1.tup_inv
    refine ⟨a, rfl, ⟨xs, Same.sqT S1.same hs⟩, k _ ds _ F1 H1 L1 e1 S1 ⟨fun i F' H L e S _ hi => ⟨xs, Same.sqT S.same (Same.sqT e hs), by rw [ra.length]; exact hi⟩, fun i d F' H L e S _ hd => ?_⟩ q⟩
    obtain ⟨v, hv, rv⟩ := ra.get hd
    have hs' := Same.sqT S.same (Same.sqT e hs)
    refine ⟨⟨xs, v, hs', hv⟩, fun x H' ⟨eH, hx⟩ => ?_⟩
    subst eH
    have ex1 := hx xs hs'
    rw [hv] at ex1
    cases ex1
    exact ⟨F', Same.refl _, S, rv.mono e⟩
theorem wi_etup (h : WE P w K E te Γ L ex fun x L1 => ∃ ds, x = .etup ds ∧ Ψ ds (fun _ => True) L1) : WI P w K E (iTup K te) Γ L ex Ψ := fun σ F H R sl S lk k =>
  h σ F H _ sl S lk fun vx x F1 H1 L1 e1 S1 r1 ⟨ds, ex1, q⟩ => by
    subst ex1
    obtain ⟨a, xs, rfl, hs, ra⟩ : ∃ a xs, vx = .ref a ∧ SqT K F1 a xs ∧ RsA K F1 xs ds := by
      cases r1 with
      | etup h1 _ r => exact ⟨_, _, rfl, .inl (.inr ⟨_, h1⟩), r⟩
    refine ⟨a, rfl, ⟨xs, Same.sqT S1.same hs⟩, k _ ds _ F1 H1 L1 e1 S1 ⟨fun i F' H L e S _ hi => ⟨xs, Same.sqT S.same (Same.sqT e hs), by rw [ra.length]; exact hi⟩, fun i d F' H L e S _ hd => ?_⟩ q⟩
    obtain ⟨v, hv, rv⟩ := ra.get hd
    have hs' := Same.sqT S.same (Same.sqT e hs)
    refine ⟨⟨xs, v, hs', hv⟩, fun x H' ⟨eH, hx⟩ => ?_⟩
    subst eH
    have ex1 := hx xs hs'
    rw [hv] at ex1
    cases ex1
    exact ⟨F', Same.refl _, S, rv.mono e⟩
theorem wi_str (h : WE P w K E te Γ L ex fun x L1 => ∃ z : Str, x = .str z ∧ Ψ (z.cps.toList.map fun c => D.str ⟨#[c]⟩) (fun _ => True) L1) : WI P w K E (iStr te) Γ L ex Ψ := fun σ F H R sl S lk k =>
  h σ F H _ sl S lk fun vx x F1 H1 L1 e1 S1 r1 ⟨z, ex1, q⟩ => by
    subst ex1
    refine ⟨z, r1.str_inv, k _ _ _ F1 H1 L1 e1 S1 ⟨fun i F' H L e S _ hi => (by simpa using hi : z.cps.size ≤ i), fun i d F' H L e S _ hd => ?_⟩ q⟩
    rw [List.getElem?_map] at hd
    cases hc : z.cps.toList[i]? with
    | none => rw [hc] at hd; cases hd
    | some c =>
      rw [hc] at hd
      cases hd
      have hc' : z.cps[i]? = some c := by simpa using hc
      refine ⟨(Array.getElem?_eq_some_iff.mp hc').1, fun x H' ⟨eH, c2, h2, hx⟩ => ?_⟩
      subst eH hx
      rw [hc'] at h2
      cases h2
      exact ⟨F', Same.refl _, S, .str _⟩
def rangeD (n : Nat) : List D := (List.range n).map fun (i : Nat) => D.int (i : Int)
theorem rangeD_get {n i : Nat} {d : D} (h : (rangeD n)[i]? = some d) : i < n ∧ d = .int (i : Int) := by
  unfold rangeD at h
  rw [List.getElem?_map] at h
  cases e : (List.range n)[i]? with
  | none => rw [e] at h; cases h
  | some j =>
    rw [e] at h
    obtain ⟨hi, ej⟩ := List.getElem?_eq_some_iff.mp e
    rw [List.getElem_range] at ej
    subst ej
    exact ⟨by simpa using hi, (Option.some.inj h).symm⟩
theorem rangeD_len {n : Nat} : (rangeD n).length = n := by unfold rangeD; simp
theorem wi_rng {n : Int} (h : WA P w K E tr Γ L ex fun xs L1 => ∃ n : Int, xs = [.int n] ∧ n < 2 ^ 62 ∧ -(2 ^ 62) ≤ n ∧ Ψ (rangeD n.toNat) (fun _ => True) L1) : WI P w K E (iRng1 tr) Γ L ex Ψ := fun σ F H R sl S lk k =>
  h σ F H _ sl S lk fun vs xs F1 H1 L1 e1 S1 r1 ⟨n, ex1, h1, h2, q⟩ => by
    subst ex1
    obtain ⟨v, rfl, rv⟩ := rsa1 r1
    refine ⟨n, by rw [rv.int_inv], h2, h1, k _ _ _ F1 H1 L1 e1 S1 ⟨fun i F' H L e S _ hi => by rw [rangeD_len] at hi; exact hi, fun i d F' H L e S _ hd => ?_⟩ q⟩
    obtain ⟨hi, rfl⟩ := rangeD_get hd
    refine ⟨hi, fun x H' ⟨eH, ex1⟩ => ?_⟩
    subst eH ex1
    exact ⟨F', Same.refl _, S, by rw [Int.zero_add]; exact .int _⟩
/-- enumerate's tuples -/
def enumD : Nat → List D → List D
  | _, [] => []
  | n, d :: r => .tup [.int (n : Int), d] :: enumD (n + 1) r
theorem enumD_get : ∀ {ds : List D} {n i : Nat} {d : D}, (enumD n ds)[i]? = some d → ∃ e, ds[i]? = some e ∧ d = .tup [.int ((n + i : Nat) : Int), e]
  | [], _, _, _, h => by simp [enumD] at h
  | e :: r, n, 0, d, h => by
    simp [enumD] at h
    exact ⟨e, rfl, h.symm⟩
  | e :: r, n, i + 1, d, h => by
    simp only [enumD, List.getElem?_cons_succ] at h
    obtain ⟨x, h1, h2⟩ := enumD_get h
    exact ⟨x, by simpa using h1, by rw [h2, show n + 1 + i = n + (i + 1) by omega]⟩
theorem enumD_len : ∀ (ds : List D) (n : Nat), (enumD n ds).length = ds.length
  | [], _ => rfl
  | _ :: r, n => congrArg (· + 1) (enumD_len r (n + 1))
theorem enum_yld {i : Nat} {d : D} {v x : V} {T : Addr} {L : Sto} {F' H : Hp} (S : Spl P w K F' L H) (hT : H T = none) (rv : Rs K F' v d) : ∃ F'', Same F' F'' ∧ Spl P w K F'' L (upd H T (.tup [.int (i : Nat), v])) ∧ Rs K F'' (.ref T) (.tup [.int (i : Nat), d]) := by
  obtain ⟨S2, e2⟩ := S.ice (o := .tup [.int (i : Nat), v]) hT
  exact ⟨_, e2, S2, .tup upd_same (.cons (.int _) (.cons (rv.mono e2) .nil))⟩
theorem wi_enumD (h : WA P w K E tr Γ L ex fun xs L1 => ∃ ds, xs = [.lst ds] ∧ Ψ (enumD 0 ds) (fun _ => True) L1) : WI P w K E (iEnum K tr) Γ L ex Ψ := fun σ F H R sl S lk k =>
  h σ F H _ sl S lk fun vs xs F1 H1 L1 e1 S1 r1 ⟨ds, ex1, q⟩ => by
    subst ex1
    obtain ⟨v, rfl, rv⟩ := rsa1 r1
    obtain ⟨a, ys, rfl, hs, ra⟩ := rv.lst_inv
    refine ⟨a, ys, rfl, S1.same.seq hs, k _ _ _ F1 H1 L1 e1 S1 ⟨fun i F' H L e S _ hi => ⟨ys, S.same.seq (e.seq hs), by rw [ra.length]; rw [enumD_len] at hi; exact hi⟩, fun i d F' H L e S _ hd => ?_⟩ q⟩
    obtain ⟨e0, he, rfl⟩ := enumD_get hd
    obtain ⟨v, hv, rv2⟩ := ra.get he
    have hs' := S.same.seq (e.seq hs)
    refine ⟨⟨ys, v, hs', hv⟩, fun x H' ⟨T, x2, ex1, hT, eH, hx⟩ => ?_⟩
    have ex2 := hx ys hs'
    rw [hv] at ex2
    cases ex2
    subst ex1 eH
    rw [Nat.zero_add]
    exact enum_yld (x := .non) S hT (rv2.mono e)
theorem wi_enumC (h : WA P w K E tr Γ L ex fun xs L1 => ∃ p ds f, xs = [.ref p] ∧ At p (.lst ds) L1 f ∧ Ψ (enumD 0 ds) (fun L => ∃ f, At p (.lst ds) L f) L1) : WI P w K E (iEnum K tr) Γ L ex Ψ := fun σ F H R sl S lk k =>
  h σ F H _ sl S lk fun vs xs F1 H1 L1 e1 S1 r1 ⟨p, ds, f, ex1, ht, q⟩ => by
    subst ex1
    obtain ⟨v, rfl, rv⟩ := rsa1 r1
    obtain ⟨np, o, ho, ys, rfl, ra⟩ := S1.look ht
    refine ⟨p, ys, by rw [rv.ref_inv], SqL.of ho, k _ _ _ F1 H1 L1 e1 S1 ⟨fun i F' H L e S ⟨f, ht⟩ hi => ?_, fun i d F' H L e S ⟨f, ht⟩ hd => ?_⟩ q⟩
    · obtain ⟨np, o, ho, ys, rfl, ra⟩ := S.look ht
      exact ⟨ys, SqL.of ho, by rw [ra.length]; rw [enumD_len] at hi; exact hi⟩
    · obtain ⟨np, o, ho, ys, rfl, ra⟩ := S.look ht
      obtain ⟨e0, he, rfl⟩ := enumD_get hd
      obtain ⟨v, hv, rv2⟩ := ra.get he
      refine ⟨⟨ys, v, SqL.of ho, hv⟩, fun x H' ⟨T, x2, ex1, hT, eH, hx⟩ => ?_⟩
      have ex2 := hx ys (SqL.of ho)
      rw [hv] at ex2
      cases ex2
      subst ex1 eH
      rw [Nat.zero_add]
      exact enum_yld (x := .non) S hT rv2
def zipD (ds es : List D) : List D := List.zipWith (fun a b => D.tup [a, b]) ds es
theorem zipD_get {ds es : List D} {i : Nat} {d : D} (h : (zipD ds es)[i]? = some d) : ∃ a b, ds[i]? = some a ∧ es[i]? = some b ∧ d = .tup [a, b] := by
  unfold zipD at h
  rw [List.getElem?_zipWith] at h
  cases e1 : ds[i]? with
  | none => rw [e1] at h; cases h
  | some a =>
    cases e2 : es[i]? with
    | none => rw [e1, e2] at h; cases h
    | some b =>
      rw [e1, e2] at h
      exact ⟨a, b, rfl, rfl, (Option.some.inj h).symm⟩
theorem zip_yld {d1 d2 : D} {v1 v2 : V} {T : Addr} {L : Sto} {F' H : Hp} (S : Spl P w K F' L H) (hT : H T = none) (r1 : Rs K F' v1 d1) (r2 : Rs K F' v2 d2) : ∃ F'', Same F' F'' ∧ Spl P w K F'' L (upd H T (.tup [v1, v2])) ∧ Rs K F'' (.ref T) (.tup [d1, d2]) := by
  obtain ⟨S2, e2⟩ := S.ice (o := .tup [v1, v2]) hT
  exact ⟨_, e2, S2, .tup upd_same (.cons (r1.mono e2) (.cons (r2.mono e2) .nil))⟩
theorem wi_zipL (h : WA P w K E tr Γ L ex fun xs L1 => ∃ ds es, xs = [.lst ds, .lst es] ∧ Ψ (zipD ds es) (fun _ => True) L1) : WI P w K E (RZ.iZipA K tr) Γ L ex Ψ := fun σ F H R sl S lk k =>
  h σ F H _ sl S lk fun vs xs F1 H1 L1 e1 S1 r1 ⟨ds, es, ex1, q⟩ => by
    subst ex1
    obtain ⟨v, u, rfl, rv, ru⟩ := rsa2 r1
    obtain ⟨a, ys, rfl, hs, ra⟩ := rv.lst_inv
    obtain ⟨b, zs, rfl, ht, rb⟩ := ru.lst_inv
    refine ⟨a, b, ys, zs, rfl, .inl ⟨S1.same.seq hs, S1.same.seq ht, k _ _ _ F1 H1 L1 e1 S1 ⟨fun i F' H L e S _ hi => ⟨ys, zs, S.same.seq (e.seq hs), S.same.seq (e.seq ht), ?_⟩, fun i d F' H L e S _ hd => ?_⟩ q⟩⟩
    · unfold zipD at hi
      rw [List.length_zipWith, ← ra.length, ← rb.length] at hi
      omega
    · obtain ⟨d1, d2, h1, h2, rfl⟩ := zipD_get hd
      obtain ⟨v1, hv1, rv1⟩ := ra.get h1
      obtain ⟨v2, hv2, rv2⟩ := rb.get h2
      have hs' := S.same.seq (e.seq hs)
      have ht' := S.same.seq (e.seq ht)
      refine ⟨⟨ys, zs, v1, v2, hs', ht', hv1, hv2⟩, fun x H' ⟨T, x2, y2, ex1, hT, eH, hx, hy⟩ => ?_⟩
      have ex2 := hx ys hs'
      have ey2 := hy zs ht'
      rw [hv1] at ex2
      rw [hv2] at ey2
      cases ex2
      cases ey2
      subst ex1 eH
      exact zip_yld S hT (rv1.mono e) (rv2.mono e)
theorem wi_zipT (h : WA P w K E tr Γ L ex fun xs L1 => ∃ ds es, xs = [.tup ds, .tup es] ∧ Ψ (zipD ds es) (fun _ => True) L1) : WI P w K E (RZ.iZipA K tr) Γ L ex Ψ := fun σ F H R sl S lk k =>
  h σ F H _ sl S lk fun vs xs F1 H1 L1 e1 S1 r1 ⟨ds, es, ex1, q⟩ => by
    subst ex1
    obtain ⟨v, u, rfl, rv, ru⟩ := rsa2 r1
    obtain ⟨a, ys, rfl, hs, ra⟩ := rv.tup_inv
    obtain ⟨b, zs, rfl, ht, rb⟩ := ru.tup_inv
    refine ⟨a, b, ys, zs, rfl, .inr ⟨Same.sqT S1.same hs, Same.sqT S1.same ht, k _ _ _ F1 H1 L1 e1 S1 ⟨fun i F' H L e S _ hi => ⟨ys, zs, Same.sqT S.same (Same.sqT e hs), Same.sqT S.same (Same.sqT e ht), ?_⟩, fun i d F' H L e S _ hd => ?_⟩ q⟩⟩
    · unfold zipD at hi
      rw [List.length_zipWith, ← ra.length, ← rb.length] at hi
      omega
    · obtain ⟨d1, d2, h1, h2, rfl⟩ := zipD_get hd
      obtain ⟨v1, hv1, rv1⟩ := ra.get h1
      obtain ⟨v2, hv2, rv2⟩ := rb.get h2
      have hs' := Same.sqT S.same (Same.sqT e hs)
      have ht' := Same.sqT S.same (Same.sqT e ht)
      refine ⟨⟨ys, zs, v1, v2, hs', ht', hv1, hv2⟩, fun x H' ⟨T, x2, y2, ex1, hT, eH, hx, hy⟩ => ?_⟩
      have ex2 := hx ys hs'
      have ey2 := hy zs ht'
      rw [hv1] at ex2
      rw [hv2] at ey2
      cases ex2
      cases ey2
      subst ex1 eH
      exact zip_yld S hT (rv1.mono e) (rv2.mono e)
/-! ### for -/
theorem ws_for {wi : TI} {g : TG} {ts : TS} (h : WI P w K E wi Γ L A.ex fun ds stay L1 => ∃ I : Nat → Gm → Sto → Prop, I 0 Γ L1 ∧ (∀ i Γ' L', I i Γ' L' → stay L') ∧
    (∀ i d Γ' L', ds[i]? = some d → I i Γ' L' → ∃ us, WG P w K g d L' us ∧ WS P w K E ts (setG Γ' us) L' { A with nx := I (i + 1), ct := I (i + 1), bk := A.nx }) ∧ (∀ Γ' L', I ds.length Γ' L' → A.nx Γ' L')) : WS P w K E (tFor wi g ts) Γ L A := fun σ F H De sl S lk k => by
  refine h σ F H _ sl S lk fun J ds stay F1 H1 L1 e1 S1 it ⟨I, i0, hst, hs, hd⟩ => ?_
  refine ⟨fun i m σ' H' => m = ds.length - i ∧ i ≤ ds.length ∧ ∃ F' Γ' L', Same F1 F' ∧ Sl K F' σ' Γ' ∧ Spl P w K F' L' H' ∧ I i Γ' L', ⟨ds.length, by simp, Nat.zero_le _, F1, Γ, L1, Same.refl _, sl.mono e1, S1, i0⟩, ?_⟩
  rintro i m σ' H' ⟨rfl, hi, F', Γ', L', e', sl', S', q⟩
  by_cases hlt : i < ds.length
  · obtain ⟨go, yl⟩ := it.go i ds[i] F' H' L' e' S' (hst _ _ _ q) (by simp [hlt])
    refine .inr ⟨go, fun σ2 H2 => ∃ F' Γ' L', Same F1 F' ∧ Sl K F' σ2 Γ' ∧ Spl P w K F' L' H2 ∧ I (i + 1) Γ' L', fun σ2 H2 ⟨F2, Γ2, L2, e2, s2, S2, q2⟩ => ⟨ds.length - (i + 1), by omega, rfl, hlt, F2, Γ2, L2, e2, s2, S2, q2⟩, fun x H2 y => ?_⟩
    obtain ⟨F2, e2, S2, rx⟩ := yl x H2 y
    obtain ⟨us, hg, hw⟩ := hs i ds[i] Γ' L' (by simp [hlt]) q
    have e12 := Same.tr e' e2
    refine hg F2 H2 x σ' _ rx S2 fun vs rv => hw _ F2 H2 _ (sl_all (sl'.mono e2) rv) S2 (lk.mono (Same.tr e1 e12)) ⟨fun σ3 Γ3 F3 H3 L3 e3 s3 S3 q3 => ⟨F3, Γ3, L3, Same.tr e12 e3, s3, S3, q3⟩, k.rt.mono (Same.tr e1 e12), fun σ3 Γ3 F3 H3 L3 e3 s3 S3 q3 => k.nx σ3 Γ3 F3 H3 L3 (Same.tr e1 (Same.tr e12 e3)) s3 S3 q3, fun σ3 Γ3 F3 H3 L3 e3 s3 S3 q3 => ⟨F3, Γ3, L3, Same.tr e12 e3, s3, S3, q3⟩⟩
  · have e : i = ds.length := by omega
    subst e
    exact .inl ⟨it.stop _ F' H' L' e' S' (hst _ _ _ q) (Nat.le_refl _), k.nx _ Γ' F' H' L' (Same.tr e1 e') sl' S' (hd _ _ q)⟩
/-! ### comprehensions -/
theorem wipe_all (σ : L2.St) (vs : List Nat) : ∀ (us : List Nat) (ws : List V) (τ : L2.St), (∀ u ∈ us, u ∈ vs) → wipe τ vs = wipe σ vs → wipe (setAll τ us ws) vs = wipe σ vs
  | [], _, τ, _, h => by
    unfold setAll
    exact h
  | _ :: _, [], τ, _, h => by
    unfold setAll
    exact h
  | u :: us, x :: ws, τ, hm, h => by
    unfold setAll
    refine wipe_all σ vs us ws _ (fun z hz => hm z (List.mem_cons_of_mem _ hz)) ?_
    rw [← h]
    apply List.ext_getElem?
    intro i
    rw [wipe_get, wipe_get, List.length_set]
    by_cases hi : i ∈ vs
    · rw [if_pos hi, if_pos hi]
    · rw [if_neg hi, if_neg hi, List.getElem?_set_ne (fun (z : u = i) => hi (z ▸ hm u List.mem_cons_self))]
theorem wipe_wipe (σ : L2.St) (vs : List Nat) : wipe (wipe σ vs) vs = wipe σ vs := by
  apply List.ext_getElem?
  intro i
  rw [wipe_get, wipe_length]
  by_cases hi : i ∈ vs
  · rw [if_pos hi, wipe_get, if_pos hi]
  · rw [if_neg hi]
theorem we_lcC {wi : TI} {g : TG} {tt : TT} {vs : List Nat} (h : WI P w K E wi Γ L ex fun ds stay L1 => ∃ I : Nat → List D → Sto → Prop, I 0 [] L1 ∧ (∀ i acc L' p, I i acc L' → stay ((p, .lst acc) :: L')) ∧
    (∀ i d acc L' p, ds[i]? = some d → I i acc L' → ∃ us, WG P w K g d ((p, .lst acc) :: L') us ∧ (∀ u ∈ us, u.1 ∈ vs) ∧ WT P w K E tt (setG (wipeG Γ vs) us) ((p, .lst acc) :: L') ex fun b L3 =>
      (b = true → WE P w K E te (setG (wipeG Γ vs) us) L3 ex fun y L4 => acc.length < 100000 ∧ ∃ L5, L4 = (p, .lst acc) :: L5 ∧ I (i + 1) (acc ++ [y]) L5) ∧ (b = false → ∃ L5, L3 = (p, .lst acc) :: L5 ∧ I (i + 1) acc L5)) ∧
    (∀ acc L' p, I ds.length acc L' → Φ (.ref p) ((p, .lst acc) :: L'))) : WE P w K E (tLc wi g tt te vs) Γ L ex Φ := fun σ F H Q sl S lk k => by
  refine h σ F H _ sl S lk fun J ds stay F1 H1 L1 e1 S1 it ⟨I, i0, hst, hs, hd⟩ => ?_
  intro p hp
  refine ⟨fun i m H' => m = ds.length - i ∧ i ≤ ds.length ∧ ∃ F' acc L', Same F1 F' ∧ Spl P w K F' ((p, .lst acc) :: L') H' ∧ I i acc L', ⟨ds.length, by simp, Nat.zero_le _, F1, [], L1, Same.refl _, S1.new (c := .lst []) hp ⟨[], rfl, .nil⟩, i0⟩, ?_⟩
  rintro i m H' ⟨rfl, hi, F', acc, L', e', S', q⟩
  by_cases hlt : i < ds.length
  · obtain ⟨go, yl⟩ := it.go i ds[i] F' H' _ e' S' (hst _ _ _ p q) (by simp [hlt])
    refine .inr ⟨go, fun H2 => ∃ F' acc L', Same F1 F' ∧ Spl P w K F' ((p, .lst acc) :: L') H2 ∧ I (i + 1) acc L', fun H2 ⟨F2, acc2, L2, e2, S2, q2⟩ => ⟨ds.length - (i + 1), by omega, rfl, hlt, F2, acc2, L2, e2, S2, q2⟩, fun x H2 y => ?_⟩
    obtain ⟨F2, e2, S2, rx⟩ := yl x H2 y
    obtain ⟨us, hg, hu, hw⟩ := hs i ds[i] acc L' p (by simp [hlt]) q
    have e12 := Same.tr e' e2
    have e0 := Same.tr e1 e12
    refine hg F2 H2 x _ _ rx S2 fun ws rw_ => ⟨wipe_all σ vs _ ws _ (fun u hu2 => ?_) (wipe_wipe σ vs), ?_⟩
    · obtain ⟨z, hz, rfl⟩ := List.mem_map.mp hu2
      exact hu z hz
    · have sl2 := sl_all ((sl.mono e0).wipe vs) rw_
      refine hw _ F2 H2 _ sl2 S2 (lk.mono e0) fun b F3 H3 L3 e3 S3 ⟨q3, q4⟩ => ?_
      cases b with
      | true =>
        rw [if_pos rfl]
        refine q3 rfl _ F3 H3 _ (sl2.mono e3) S3 (lk.mono (Same.tr e0 e3)) fun vy y F4 H4 L4 e4 S4 ry ⟨hl, L5, eL, q5⟩ => ?_
        subst eL
        obtain ⟨np, o, ho, xs, rfl, ra⟩ := S4.look At.here
        exact ⟨xs, ho, by rw [ra.length]; exact Nat.lt_of_lt_of_le hl (by decide), F4, acc ++ [y], L5, Same.tr e12 (Same.tr e3 e4), S4.put (c' := .lst (acc ++ [y])) At.here ⟨_, rfl, ra.append (.cons ry .nil)⟩, q5⟩
      | false =>
        rw [if_neg Bool.false_ne_true]
        obtain ⟨L5, eL, q5⟩ := q4 rfl
        subst eL
        exact ⟨F3, acc, L5, Same.tr e12 e3, S3, q5⟩
  · have e : i = ds.length := by omega
    subst e
    exact .inl ⟨it.stop _ F' H' _ e' S' (hst _ _ _ p q) (Nat.le_refl _), k _ _ F' H' _ (Same.tr e1 e') S' (.ref p) (hd _ _ p q)⟩
theorem wt_yes {Φb : Bool → Sto → Prop} (q : Φb true L) : WT P w K E tYes Γ L ex Φb := fun σ F H Q sl S lk k => k _ F H L (Same.refl F) S q
/-- .. frozen -/
theorem we_lc {wi : TI} {g : TG} {tt : TT} {vs : List Nat} (h : WI P w K E wi Γ L ex fun ds stay L1 => ∃ I : Nat → List D → Sto → Prop, I 0 [] L1 ∧ (∀ i acc L' p, I i acc L' → stay ((p, .lst acc) :: L')) ∧
    (∀ i d acc L' p, ds[i]? = some d → I i acc L' → ∃ us, WG P w K g d ((p, .lst acc) :: L') us ∧ (∀ u ∈ us, u.1 ∈ vs) ∧ WT P w K E tt (setG (wipeG Γ vs) us) ((p, .lst acc) :: L') ex fun b L3 =>
      (b = true → WE P w K E te (setG (wipeG Γ vs) us) L3 ex fun y L4 => acc.length < 100000 ∧ ∃ L5, L4 = (p, .lst acc) :: L5 ∧ I (i + 1) (acc ++ [y]) L5) ∧ (b = false → ∃ L5, L3 = (p, .lst acc) :: L5 ∧ I (i + 1) acc L5)) ∧
    (∀ acc L', I ds.length acc L' → Φ (.lst acc) L')) : WE P w K E (tLc wi g tt te vs) Γ L ex Φ := by
  refine WE.ice (we_lcC ?_)
  intro σ F H R sl S lk k
  refine h σ F H R sl S lk fun J ds stay F1 H1 L1 e1 S1 it ⟨I, i0, hst, hs, hd⟩ => k J ds stay F1 H1 L1 e1 S1 it ⟨I, i0, hst, hs, fun acc L' p q => ⟨p, acc, L', rfl, rfl, hd acc L' q⟩⟩
end
end Cl
set_option Elab.async false
set_option linter.all false
set_option maxRecDepth 100000
set_option maxHeartbeats 4000000
/-! More rules: dicts, slices, texts, deep comparison, star targets. -/
namespace Cl
open PySem PySem.Spec PyProof.Rows L2

section
variable {P : Program} {w : World} {K : PySem.W.Frag} {E : XK} {F F' H H' : Hp} {σ : L2.St} {Γ Γ' : Gm} {L L' : Sto} {ex : Ex} {Φ Φ' : D → Sto → Prop} {Q : VK} {ta tb te tx : TE} {d d' : D} {i j : Int} {A : Pst} {tr tk : TA} {x y z : D}

/-! ### cells that are forgotten -/
theorem WE.drop (hs : L'.Sublist L) (h : WE P w K E te Γ L' ex Φ) : WE P w K E te Γ L ex Φ := fun σ F H Q sl S lk k => h σ F H Q sl (S.sub hs) lk k
theorem WS.drop {ts : TS} (hs : L'.Sublist L) (h : WS P w K E ts Γ L' A) : WS P w K E ts Γ L A := fun σ F H De sl S lk k => h σ F H De sl (S.sub hs) lk k
/-- a slot is forgotten -/
theorem WS.unset {ts : TS} (n : Nat) (h : WS P w K E ts (Γ.set n none) L A) : WS P w K E ts Γ L A := fun σ F H De sl S lk k => h σ F H De (sl.unset n) S lk k
/-- a list's cell, in a slot, is frozen: what follows sees data -/
theorem Sl.iced {n : Nat} {p : Addr} {ds : List D} (sl : Sl K F σ Γ) (hn : Γ[n]? = some (some (.ref p))) (r : Rs K F (.ref p) (.lst ds)) : Sl K F σ (Γ.set n (some (.lst ds))) := by
  refine ⟨by simp [sl.1], fun i d q => ?_⟩
  by_cases hi : n = i
  · subst hi
    have hl : n < Γ.length := (List.getElem?_eq_some_iff.mp hn).1
    rw [List.getElem?_set_self hl] at q
    cases q
    obtain ⟨v, h1, h2⟩ := sl.2 n _ hn
    exact ⟨v, h1, by rw [h2.ref_inv]; exact r⟩
  · rw [List.getElem?_set_ne hi] at q
    exact sl.2 i d q
theorem WS.ice {ts : TS} (n : Nat) {p : Addr} {ds : List D} (hn : Γ[n]? = some (some (.ref p))) (h : WS P w K E ts (Γ.set n (some (.lst ds))) L A) : WS P w K E ts Γ ((p, .lst ds) :: L) A := fun σ F H De sl S lk k => by
  obtain ⟨F2, e, S2, r⟩ := S.freeze
  exact h σ F2 H De ((sl.mono e).iced hn r) S2 (lk.mono e) (k.mono e)

/-! ### lists and tuples put together -/
theorem lst_val {v : V} {ds : List D} (S : Spl P w K F L H) (r : Rs K F v x) (h : x = .lst ds ∨ ∃ p f, x = .ref p ∧ At p (.lst ds) L f) : ∃ a xs, v = .ref a ∧ H a = some (.lst xs) ∧ RsA K F xs ds := by
  rcases h with rfl | ⟨p, f, rfl, ht⟩
  · obtain ⟨a, xs, rfl, h1, r1⟩ := r.lst_get
    exact ⟨a, xs, rfl, S.same _ _ h1, r1⟩
  · obtain ⟨np, o, ho, xs, rfl, ra⟩ := S.look ht
    exact ⟨p, xs, r.ref_inv, ho, ra⟩
/-- xs + ys, as data -/
theorem wr_cat {ds es : List D} (hx : x = .lst ds ∨ ∃ p f, x = .ref p ∧ At p (.lst ds) L f) (hy : y = .lst es ∨ ∃ p f, y = .ref p ∧ At p (.lst es) L f) (hl : ds.length + es.length ≤ 100000) (q : Φ (.lst (ds ++ es)) L) : WR P w K rCat x y L Φ := fun F H vx vy Q r1 r2 S k => by
  obtain ⟨a, xs, rfl, h1, ra⟩ := lst_val S r1 hx
  obtain ⟨b, ys, rfl, h2, rb⟩ := lst_val S r2 hy
  refine ⟨a, b, xs, ys, rfl, rfl, h1, h2, by rw [ra.length, rb.length]; exact Nat.le_trans hl (by decide), fun p hp => ?_⟩
  obtain ⟨S2, e2⟩ := S.ice (o := .lst (xs ++ ys)) hp
  exact k _ _ _ _ L e2 S2 (.lst upd_same ((ra.append rb).mono e2)) q
/-- .. as a cell -/
theorem wr_catC {ds es : List D} (hx : x = .lst ds ∨ ∃ p f, x = .ref p ∧ At p (.lst ds) L f) (hy : y = .lst es ∨ ∃ p f, y = .ref p ∧ At p (.lst es) L f) (hl : ds.length + es.length ≤ 100000) (q : ∀ p, Φ (.ref p) ((p, .lst (ds ++ es)) :: L)) : WR P w K rCat x y L Φ := fun F H vx vy Q r1 r2 S k => by
  obtain ⟨a, xs, rfl, h1, ra⟩ := lst_val S r1 hx
  obtain ⟨b, ys, rfl, h2, rb⟩ := lst_val S r2 hy
  exact ⟨a, b, xs, ys, rfl, rfl, h1, h2, by rw [ra.length, rb.length]; exact Nat.le_trans hl (by decide), fun p hp => k _ _ F _ _ (Same.refl F) (S.new (c := .lst (ds ++ es)) hp ⟨_, rfl, ra.append rb⟩) (.ref p) (q p)⟩
theorem wr_catT {ds es : List D} (hl : ds.length + es.length ≤ 100000) (q : Φ (.tup (ds ++ es)) L) : WR P w K (rCatA K) (.tup ds) (.tup es) L Φ := fun F H vx vy Q r1 r2 S k => by
  obtain ⟨a, xs, rfl, h1, ra⟩ := r1.tup_inv
  obtain ⟨b, ys, rfl, h2, rb⟩ := r2.tup_inv
  refine ⟨a, b, xs, ys, rfl, rfl, Same.sqT S.same h1, Same.sqT S.same h2, by rw [ra.length, rb.length]; exact Nat.le_trans hl (by decide), fun e => ?_, fun _ e => ?_, fun _ _ p hp => ?_⟩
  · subst e
    have e : ds = [] := List.length_eq_zero_iff.mp (by rw [← ra.length]; rfl)
    rw [e] at q
    exact k.here S r2 q
  · subst e
    have e : es = [] := List.length_eq_zero_iff.mp (by rw [← rb.length]; rfl)
    rw [e, List.append_nil] at q
    exact k.here S r1 q
  · obtain ⟨S2, e2⟩ := S.ice (o := .tup (xs ++ ys)) hp
    exact k _ _ _ _ L e2 S2 (.tup upd_same ((ra.append rb).mono e2)) q
theorem wr_addS {a b : Str} (hl : a.length + b.length ≤ 100000) (q : Φ (.str (a ++ b)) L) : WR P w K (fun x y H Q => ∃ i j, x = .str i ∧ y = .str j ∧ i.length + j.length ≤ sizeLine ∧ Q (.str (i ++ j)) H) (.str a) (.str b) L Φ := fun F H vx vy Q r1 r2 S k =>
  ⟨a, b, r1.str_inv, r2.str_inv, Nat.le_trans hl (by decide), k.here S (.str _) q⟩
/-! ### slices -/
def cutD (ds : List D) (lo hi : Option Int) : List D := (ds.drop (HT.sIx ds.length 0 lo)).take (HT.sIx ds.length ds.length hi - HT.sIx ds.length 0 lo)
theorem RsA.cut {xs : List V} {ds : List D} (r : RsA K F xs ds) (lo hi : Option Int) : RsA K F (cutV xs lo hi) (cutD ds lo hi) := by
  unfold cutV cutD
  rw [r.length]
  exact (r.drop _).take _
def WO (P : Program) (w : World) (K : PySem.W.Frag) (E : XK) (to : TO) (Γ : Gm) (L : Sto) (ex : Ex) (Φ : Option Int → Sto → Prop) : Prop :=
  ∀ (σ : L2.St) (F H : Hp) (Q : Option Int → Hp → Prop), Sl K F σ Γ → Spl P w K F L H → Lk P w K F ex E → (∀ o F' H' L', Same F F' → Spl P w K F' L' H' → Φ o L' → Q o H') → to σ H Q
theorem wo_none {Φo : Option Int → Sto → Prop} (q : Φo none L) : WO P w K E tNoPart Γ L ex Φo := fun _ F H _ _ S _ k => k none F H L (Same.refl F) S q
theorem wo_some {Φo : Option Int → Sto → Prop} (h : WE P w K E te Γ L ex fun x L1 => ∃ i, x = .int i ∧ Φo (some i) L1) : WO P w K E (tPart te) Γ L ex Φo := fun σ F H Q sl S lk k =>
  h σ F H _ sl S lk fun v d F1 H1 L1 e1 S1 r1 ⟨i, e, q⟩ => by
    subst e
    exact ⟨i, r1.int_inv, k _ F1 H1 L1 e1 S1 q⟩
def WSl (P : Program) (w : World) (K : PySem.W.Frag) (r : V → Option Int → Option Int → Hp → VK → Prop) (x : D) (lo hi : Option Int) (L : Sto) (Φ : D → Sto → Prop) : Prop :=
  ∀ (F H : Hp) (v : V) (Q : VK), Rs K F v x → Spl P w K F L H → KV1 P w K F Φ Q → r v lo hi H Q
theorem we_sl {r : V → Option Int → Option Int → Hp → VK → Prop} {tl th : TO} (h : WE P w K E te Γ L ex fun x L1 => WO P w K E tl Γ L1 ex fun lo L2 => WO P w K E th Γ L2 ex fun hi L3 => WSl P w K r x lo hi L3 Φ) : WE P w K E (tSl r te tl th) Γ L ex Φ := fun σ F H Q sl S lk k =>
  h σ F H _ sl S lk fun v x F1 H1 L1 e1 S1 r1 q1 => q1 σ F1 H1 _ (sl.mono e1) S1 (lk.mono e1) fun lo F2 H2 L2 e2 S2 q2 => q2 σ F2 H2 _ (sl.mono (Same.tr e1 e2)) S2 (lk.mono (Same.tr e1 e2)) fun hi F3 H3 L3 e3 S3 q3 =>
    q3 F3 H3 v Q (r1.mono (Same.tr e2 e3)) S3 (k.mono (Same.tr e1 (Same.tr e2 e3)))
theorem wsl_lst {ds : List D} {lo hi : Option Int} (hx : x = .lst ds ∨ ∃ p f, x = .ref p ∧ At p (.lst ds) L f) (q : Φ (.lst (cutD ds lo hi)) L) : WSl P w K (rSlL K) x lo hi L Φ := fun F H v Q r S k => by
  obtain ⟨a, xs, rfl, h1, ra⟩ := lst_val S r hx
  refine ⟨a, xs, rfl, SqL.of h1, fun p hp => ?_⟩
  obtain ⟨S2, e2⟩ := S.ice (o := .lst (cutV xs lo hi)) hp
  exact k _ _ _ _ L e2 S2 (.lst upd_same ((ra.cut lo hi).mono e2)) q
theorem cutV_ints (ns : List Int) (lo hi : Option Int) : cutV (ns.map V.int) lo hi = ((ns.drop (HT.sIx ns.length 0 lo)).take (HT.sIx ns.length ns.length hi - HT.sIx ns.length 0 lo)).map V.int := by
  unfold cutV
  rw [List.length_map, List.map_take, List.map_drop]
theorem wsl_scr {ns : List Int} {lo hi : Option Int} (q : Φ (.lst (((ns.drop (HT.sIx ns.length 0 lo)).take (HT.sIx ns.length ns.length hi - HT.sIx ns.length 0 lo)).map D.int)) L) : WSl P w K (rSlL K) (.scr ns) lo hi L Φ := fun F H v Q r S k => by
  obtain ⟨a, rfl, h1⟩ := r.scr_inv
  refine ⟨a, _, rfl, S.same.seq h1, fun p hp => ?_⟩
  obtain ⟨S2, e2⟩ := S.ice (o := .lst (cutV (ns.map V.int) lo hi)) hp
  refine k _ _ _ _ L e2 S2 (.lst upd_same ?_) q
  rw [cutV_ints]
  exact RsA.ints _
theorem wsl_tup {ds : List D} {lo hi : Option Int} (q : Φ (.tup (cutD ds lo hi)) L) : WSl P w K (rSlA K) (.tup ds) lo hi L Φ := fun F H v Q r S k => by
  obtain ⟨a, xs, rfl, h1, ra⟩ := r.tup_inv
  refine ⟨a, xs, rfl, Same.sqT S.same h1, fun e => ?_, fun e p hp => ?_⟩
  · have e2 : cutD ds lo hi = ds := by
      unfold cutD
      rw [ra.length] at e
      rw [e.1, e.2]
      simp
    rw [e2] at q
    exact k.here S r q
  · obtain ⟨S2, e2⟩ := S.ice (o := .tup (cutV xs lo hi)) hp
    exact k _ _ _ _ L e2 S2 (.tup upd_same ((ra.cut lo hi).mono e2)) q
theorem wsl_str {s : Str} {lo hi : Option Int} (hs : s.length ≤ 100000) (q : Φ (.str (cutS s lo hi)) L) : WSl P w K rSlS (.str s) lo hi L Φ := fun F H v Q r S k => ⟨s, r.str_inv, Nat.le_trans hs (by decide), k.here S (.str _) q⟩
/-! ### dicts from ints and texts -/
def valD (kvs : List (Key × D)) (k : Key) : Option D := (kvs.find? fun kv => decide (kv.1 = k)).map (·.2)
def putKD (kvs : List (Key × D)) (k : Key) (v : D) : List (Key × D) :=
  if (kvs.any fun kv => decide (kv.1 = k)) = true then kvs.map fun kv => if kv.1 = k then (kv.1, v) else kv else kvs ++ [(k, v)]
theorem rk_val {k : Key} : ∀ {kw : List (Key × V)} {kvs : List (Key × D)}, RK K F kw kvs → (∀ d, valD kvs k = some d → ∃ v, valV kw k = some v ∧ Rs K F v d) ∧ (valD kvs k = none → valV kw k = none)
  | _, _, .nil => ⟨fun d h => (nomatch h), fun _ => rfl⟩
  | (a, v) :: kw, (b, e) :: kvs, .cons ⟨h1, h2⟩ t => by
    dsimp only at h1 h2
    subst h1
    have ih := rk_val (k := k) t
    unfold valD valV at ih ⊢
    rw [List.find?_cons, List.find?_cons]
    by_cases q : a = k
    · rw [decide_eq_true q]
      exact ⟨fun d h => ⟨v, rfl, by cases h; exact h2⟩, fun h => nomatch h⟩
    · rw [decide_eq_false q]
      exact ih
theorem rk_any {k : Key} : ∀ {kw : List (Key × V)} {kvs : List (Key × D)}, RK K F kw kvs → (kw.any fun kv => decide (kv.1 = k)) = kvs.any fun kv => decide (kv.1 = k)
  | _, _, .nil => rfl
  | (a, v) :: kw, (b, e) :: kvs, .cons ⟨h1, _⟩ t => by
    dsimp only at h1
    subst h1
    rw [List.any_cons, List.any_cons, rk_any t]
theorem rk_map {k : Key} {v : V} {d : D} (r : Rs K F v d) : ∀ {kw : List (Key × V)} {kvs : List (Key × D)}, RK K F kw kvs → RK K F (kw.map fun kv => if kv.1 = k then (kv.1, v) else kv) (kvs.map fun kv => if kv.1 = k then (kv.1, d) else kv)
  | _, _, .nil => .nil
  | (a, u) :: kw, (b, e) :: kvs, .cons ⟨h1, h2⟩ t => by
    dsimp only at h1 h2
    subst h1
    refine .cons ?_ (rk_map r t)
    dsimp only
    by_cases q : a = k
    · rw [if_pos q, if_pos q]; exact ⟨rfl, r⟩
    · rw [if_neg q, if_neg q]; exact ⟨rfl, h2⟩
theorem rk_app : ∀ {kw kw2 : List (Key × V)} {kvs kvs2 : List (Key × D)}, RK K F kw kvs → RK K F kw2 kvs2 → RK K F (kw ++ kw2) (kvs ++ kvs2)
  | _, _, _, _, .nil, s => s
  | _, _, _, _, .cons h t, s => .cons h (rk_app t s)
theorem rk_put {k : Key} {v : V} {d : D} (r : Rs K F v d) {kw : List (Key × V)} {kvs : List (Key × D)} (h : RK K F kw kvs) : RK K F (putK kw k v) (putKD kvs k d) := by
  unfold putK putKD
  rw [rk_any h]
  split
  · exact rk_map r h
  · exact rk_app h (.cons ⟨rfl, r⟩ .nil)
/-- a key as data -/
def kD : Key → D
  | .inl i => .int i
  | .inr x => .str x
theorem kD_inv {v : V} {k : Key} (r : Rs K F v (kD k)) : v = kV k := by
  cases k with
  | inl i => exact r.int_inv
  | inr x => exact r.str_inv
theorem we_dnewK (q : ∀ p, Φ (.ref p) ((p, .dK []) :: L)) : WE P w K E tDNewK Γ L ex Φ := fun σ F H Q sl S lk k p hp => k _ _ F _ _ (Same.refl F) (S.new (c := .dK []) hp ⟨[], rfl, .nil⟩) (.ref p) (q p)
/-- d[k] -/
theorem we_dget (h : WE P w K E ta Γ L ex fun x L1 => WE P w K E tb Γ L1 ex fun y L2 => ∃ p kvs k d f, x = .ref p ∧ y = kD k ∧ At p (.dK kvs) L2 f ∧ valD kvs k = some d ∧ Φ d L2) : WE P w K E (tDGet ta tb) Γ L ex Φ := fun σ F H Q sl S lk k =>
  h σ F H _ sl S lk fun vx x F1 H1 L1 e1 S1 r1 q1 => q1 σ F1 H1 _ (sl.mono e1) S1 (lk.mono e1) fun vy y F2 H2 L2 e2 S2 r2 ⟨p, kvs, kk, d, f, ex1, ey, ht, hv, q⟩ => by
    subst ex1 ey
    obtain ⟨np, o, ho, kw, rfl, rk⟩ := S2.look ht
    obtain ⟨v, h1, rv⟩ := (rk_val rk).1 d hv
    rw [kD_inv r2]
    exact ⟨p, v, (r1.mono e2).ref_inv, h1 ▸ DGet.k ho, k _ _ F2 H2 L2 (Same.tr e1 e2) S2 rv q⟩
theorem dget_of {p : Addr} {kw : List (Key × V)} {kvs : List (Key × D)} {kk : Key} (ho : H p = some (.dK kw)) (rk : RK K F kw kvs) : ∃ o, DGet H p (kV kk) o ∧ o.isSome = (valD kvs kk).isSome := by
  refine ⟨_, DGet.k ho, ?_⟩
  cases e : valD kvs kk with
  | none => rw [(rk_val rk).2 e]; rfl
  | some d =>
    obtain ⟨v, h1, _⟩ := (rk_val rk).1 d e
    rw [h1]
    rfl
/-- k in d -/
theorem we_din (h : WE P w K E tb Γ L ex fun y L1 => WE P w K E ta Γ L1 ex fun x L2 => ∃ p kvs k f, x = .ref p ∧ y = kD k ∧ At p (.dK kvs) L2 f ∧ Φ (.bl (valD kvs k).isSome) L2) : WE P w K E (tDIn tb ta) Γ L ex Φ := fun σ F H Q sl S lk k =>
  h σ F H _ sl S lk fun vy y F1 H1 L1 e1 S1 r1 q1 => q1 σ F1 H1 _ (sl.mono e1) S1 (lk.mono e1) fun vx x F2 H2 L2 e2 S2 r2 ⟨p, kvs, kk, f, ex1, ey, ht, q⟩ => by
    subst ex1 ey
    obtain ⟨np, o, ho, kw, rfl, rk⟩ := S2.look ht
    obtain ⟨o, h1, h2⟩ := dget_of (kk := kk) ho rk
    rw [← kD_inv (r1.mono e2)] at h1
    refine ⟨p, o, r2.ref_inv, h1, ?_⟩
    rw [h2]
    exact k _ _ F2 H2 L2 (Same.tr e1 e2) S2 (.bl _) q
theorem we_dnotIn (h : WE P w K E tb Γ L ex fun y L1 => WE P w K E ta Γ L1 ex fun x L2 => ∃ p kvs k f, x = .ref p ∧ y = kD k ∧ At p (.dK kvs) L2 f ∧ Φ (.bl (!(valD kvs k).isSome)) L2) : WE P w K E (tDNotIn tb ta) Γ L ex Φ := fun σ F H Q sl S lk k =>
  h σ F H _ sl S lk fun vy y F1 H1 L1 e1 S1 r1 q1 => q1 σ F1 H1 _ (sl.mono e1) S1 (lk.mono e1) fun vx x F2 H2 L2 e2 S2 r2 ⟨p, kvs, kk, f, ex1, ey, ht, q⟩ => by
    subst ex1 ey
    obtain ⟨np, o, ho, kw, rfl, rk⟩ := S2.look ht
    obtain ⟨o, h1, h2⟩ := dget_of (kk := kk) ho rk
    rw [← kD_inv (r1.mono e2)] at h1
    refine ⟨p, o, r2.ref_inv, h1, ?_⟩
    rw [h2]
    exact k _ _ F2 H2 L2 (Same.tr e1 e2) S2 (.bl _) q
/-- d.get(k, x) -/
theorem we_dget2 (h : WE P w K E ta Γ L ex fun x L1 => ∃ p kvs0 f0, x = .ref p ∧ At p (.dK kvs0) L1 f0 ∧ WE P w K E tb Γ L1 ex fun y L2 => WE P w K E te Γ L2 ex fun z L3 => ∃ kvs k f, y = kD k ∧ At p (.dK kvs) L3 f ∧ Φ ((valD kvs k).getD z) L3) : WE P w K E (tDGet2 ta tb te) Γ L ex Φ := fun σ F H Q sl S lk k =>
  h σ F H _ sl S lk fun vx x F1 H1 L1 e1 S1 r1 ⟨p, kvs0, f0, ex1, ht0, q1⟩ => by
    subst ex1
    obtain ⟨np0, o0, ho0, kw0, rfl, rk0⟩ := S1.look ht0
    refine ⟨p, r1.ref_inv, .inl ⟨_, .inl ho0⟩, q1 σ F1 H1 _ (sl.mono e1) S1 (lk.mono e1) fun vy y F2 H2 L2 e2 S2 r2 q2 => q2 σ F2 H2 _ (sl.mono (Same.tr e1 e2)) S2 (lk.mono (Same.tr e1 e2)) fun vz z F3 H3 L3 e3 S3 r3 ⟨kvs, kk, f, ey, ht, q⟩ => ?_⟩
    subst ey
    obtain ⟨np, o, ho, kw, rfl, rk⟩ := S3.look ht
    rw [kD_inv r2]
    refine ⟨_, DGet.k ho, ?_⟩
    have e13 := Same.tr e1 (Same.tr e2 e3)
    cases e : valD kvs kk with
    | none =>
      rw [e] at q
      rw [(rk_val rk).2 e]
      exact k _ _ F3 H3 L3 e13 S3 r3 q
    | some d =>
      rw [e] at q
      obtain ⟨v, h1, rv⟩ := (rk_val rk).1 d e
      rw [h1]
      exact k _ _ F3 H3 L3 e13 S3 rv q
/-- d.setdefault(k, x) -/
theorem we_dsetd (h : WE P w K E ta Γ L ex fun x L1 => ∃ p kvs0 f0, x = .ref p ∧ At p (.dK kvs0) L1 f0 ∧ WE P w K E tb Γ L1 ex fun y L2 => WE P w K E te Γ L2 ex fun z L3 => ∃ kvs k f, y = kD k ∧ At p (.dK kvs) L3 f ∧ kvs.length < 100000 ∧
    (∀ d, valD kvs k = some d → Φ d L3) ∧ (valD kvs k = none → Φ z (f (.dK (putKD kvs k z))))) : WE P w K E (tDSetd ta tb te) Γ L ex Φ := fun σ F H Q sl S lk k =>
  h σ F H _ sl S lk fun vx x F1 H1 L1 e1 S1 r1 ⟨p, kvs0, f0, ex1, ht0, q1⟩ => by
    subst ex1
    obtain ⟨np0, o0, ho0, kw0, rfl, rk0⟩ := S1.look ht0
    refine ⟨p, r1.ref_inv, .inl ⟨_, .inl ho0⟩, q1 σ F1 H1 _ (sl.mono e1) S1 (lk.mono e1) fun vy y F2 H2 L2 e2 S2 r2 q2 => q2 σ F2 H2 _ (sl.mono (Same.tr e1 e2)) S2 (lk.mono (Same.tr e1 e2)) fun vz z F3 H3 L3 e3 S3 r3 ⟨kvs, kk, f, ey, ht, hl, q3, q4⟩ => ?_⟩
    subst ey
    obtain ⟨np, o, ho, kw, rfl, rk⟩ := S3.look ht
    have e13 := Same.tr e1 (Same.tr e2 e3)
    refine ⟨kw, kk, ho, kD_inv r2, by rw [Paired.len rk]; exact Nat.lt_of_lt_of_le hl (by decide), fun v hv => ?_, fun hn => ?_⟩
    · cases e : valD kvs kk with
      | none => rw [(rk_val rk).2 e] at hv; cases hv
      | some d =>
        obtain ⟨v', h1, rv⟩ := (rk_val rk).1 d e
        rw [hv] at h1
        cases h1
        exact k _ _ F3 H3 L3 e13 S3 rv (q3 d e)
    · have e : valD kvs kk = none := by
        cases e : valD kvs kk with
        | none => rfl
        | some d =>
          obtain ⟨v', h1, rv⟩ := (rk_val rk).1 d e
          rw [hn] at h1
          cases h1
      exact k _ _ F3 _ _ e13 (S3.put (c' := .dK (putKD kvs kk z)) ht ⟨_, rfl, rk_put r3 rk⟩) r3 (q4 e)
/-- d[k] = v -/
theorem ws_dput (h : WE P w K E te Γ L A.ex fun z L1 => WE P w K E ta Γ L1 A.ex fun x L2 => WE P w K E tb Γ L2 A.ex fun y L3 => ∃ p kvs k f, x = .ref p ∧ y = kD k ∧ At p (.dK kvs) L3 f ∧ kvs.length < 100000 ∧ A.nx Γ (f (.dK (putKD kvs k z)))) : WS P w K E (sDPut ta tb te) Γ L A := fun σ F H De sl S lk k =>
  h σ F H _ sl S lk fun vz z F1 H1 L1 e1 S1 r1 q1 => q1 σ F1 H1 _ (sl.mono e1) S1 (lk.mono e1) fun vx x F2 H2 L2 e2 S2 r2 q2 => q2 σ F2 H2 _ (sl.mono (Same.tr e1 e2)) S2 (lk.mono (Same.tr e1 e2)) fun vy y F3 H3 L3 e3 S3 r3 ⟨p, kvs, kk, f, ex1, ey, ht, hl, q⟩ => by
    subst ex1 ey
    obtain ⟨np, o, ho, kw, rfl, rk⟩ := S3.look ht
    have e13 := Same.tr e1 (Same.tr e2 e3)
    exact ⟨p, _, (r2.mono e3).ref_inv, .inl ⟨kw, kk, ho, kD_inv r3, by rw [Paired.len rk]; exact Nat.lt_of_lt_of_le hl (by decide), rfl⟩, k.nx _ _ F3 _ _ e13 (sl.mono e13) (S3.put (c' := .dK (putKD kvs kk z)) ht ⟨_, rfl, rk_put (r1.mono (Same.tr e2 e3)) rk⟩) q⟩
/-- d[k] += e, -= e; ints -/
theorem ws_daug {rd : V → V → Hp → VK → Prop} {g : Int → Int → Int} (hrd : ∀ i j H Q, Q (.int (g i j)) H → rd (.int i) (.int j) H Q) (h : WE P w K E ta Γ L A.ex fun x L1 => WE P w K E tb Γ L1 A.ex fun y L2 => ∃ p kvs k i f, x = .ref p ∧ y = kD k ∧ At p (.dK kvs) L2 f ∧ valD kvs k = some (.int i) ∧
    WE P w K E te Γ L2 A.ex fun z L3 => ∃ j kvs2 f2, z = .int j ∧ At p (.dK kvs2) L3 f2 ∧ kvs2.length < 100000 ∧ A.nx Γ (f2 (.dK (putKD kvs2 k (.int (g i j)))))) : WS P w K E (sDAug ta tb te rd) Γ L A := fun σ F H De sl S lk k =>
  h σ F H _ sl S lk fun vx x F1 H1 L1 e1 S1 r1 q1 => q1 σ F1 H1 _ (sl.mono e1) S1 (lk.mono e1) fun vy y F2 H2 L2 e2 S2 r2 ⟨p, kvs, kk, i, f, ex1, ey, ht, hv, q2⟩ => by
    subst ex1 ey
    obtain ⟨np, o, ho, kw, rfl, rk⟩ := S2.look ht
    obtain ⟨v, h1, rv⟩ := (rk_val rk).1 _ hv
    have ev := rv.int_inv
    subst ev
    have e12 := Same.tr e1 e2
    have hg : DGet H2 p vy (some (.int i)) := by
      rw [kD_inv r2, ← h1]
      exact DGet.k ho
    refine ⟨p, _, (r1.mono e2).ref_inv, hg, q2 σ F2 H2 _ (sl.mono e12) S2 (lk.mono e12) fun vz z F3 H3 L3 e3 S3 r3 ⟨j, kvs2, f2, ez, ht2, hl, q⟩ => ?_⟩
    subst ez
    obtain ⟨np2, o2, ho2, kw2, rfl, rk2⟩ := S3.look ht2
    have e13 := Same.tr e12 e3
    rw [r3.int_inv]
    refine hrd _ _ _ _ ⟨_, .inl ⟨kw2, kk, ho2, kD_inv r2, by rw [Paired.len rk2]; exact Nat.lt_of_lt_of_le hl (by decide), rfl⟩, k.nx _ _ F3 _ _ e13 (sl.mono e13) (S3.put (c' := .dK (putKD kvs2 kk (.int (g i j)))) ht2 ⟨_, rfl, rk_put (.int _) rk2⟩) q⟩
/-! ### one sign in a text -/
theorem wr_inS {c : Nat} {s : Str} (q : Φ (.bl (decide (c ∈ s.cps.toList))) L) : WR P w K (fun x y H Q => ∃ (c : Nat) (z : Str), x = .str ⟨#[c]⟩ ∧ y = .str z ∧ Q (.bl (decide (c ∈ z.cps.toList))) H) (.str ⟨#[c]⟩) (.str s) L Φ := fun F H vx vy Q r1 r2 S k => ⟨c, s, r1.str_inv, r2.str_inv, k.here S (.bl _) q⟩
/-- x in a list, a tuple of flat things -/
def D.flat : D → Option V
  | .non => some .non
  | .bl b => some (.bl b)
  | .int i => some (.int i)
  | .str x => some (.str x)
  | _ => none
def flats : List D → Option (List V)
  | [] => some []
  | d :: ds => match d.flat, flats ds with
    | some v, some vs => some (v :: vs)
    | _, _ => none
theorem Rs.of_flat {v u : V} (h : Rs K F v d) (e : d.flat = some u) : v = u ∧ flatV u = true := by
  cases h <;> first | (cases e; exact ⟨rfl, rfl⟩) | cases e
theorem RsA.of_flats : ∀ {xs : List V} {ds : List D} {us : List V}, RsA K F xs ds → flats ds = some us → xs = us ∧ us.all flatV = true
  | _, [], us, .nil, e => by
    cases e
    exact ⟨rfl, rfl⟩
  | _, d :: ds, us, .cons h t, e => by
    unfold flats at e
    cases e1 : d.flat with
    | none => rw [e1] at e; cases e
    | some v =>
      cases e2 : flats ds with
      | none => rw [e1, e2] at e; cases e
      | some vs =>
        rw [e1, e2] at e
        cases e
        obtain ⟨a1, a2⟩ := h.of_flat e1
        obtain ⟨b1, b2⟩ := RsA.of_flats t e2
        exact ⟨by rw [a1, b1], by rw [List.all_cons, a2, b2]; rfl⟩
theorem wr_inQ {neg : Bool} {ds : List D} {u : V} {us : List V} (hx : x.flat = some u) (hd : flats ds = some us) (hy : y = .tup ds ∨ y = .lst ds ∨ ∃ p f, y = .ref p ∧ At p (.lst ds) L f) (q : Φ (.bl (if neg then !inV u us else inV u us)) L) : WR P w K (rIn K neg) x y L Φ := fun F H vx vy Q r1 r2 S k => by
  obtain ⟨a1, a2⟩ := r1.of_flat hx
  subst a1
  have key : ∃ p xs, vy = .ref p ∧ (SqL K H p xs ∨ SqT K H p xs) ∧ RsA K F xs ds := by
    rcases hy with rfl | hy
    · obtain ⟨a, xs, rfl, h1, ra⟩ := r2.tup_inv
      exact ⟨a, xs, rfl, .inr (Same.sqT S.same h1), ra⟩
    · obtain ⟨a, xs, rfl, h1, ra⟩ := lst_val S r2 hy
      exact ⟨a, xs, rfl, .inl (SqL.of h1), ra⟩
  obtain ⟨p, xs, rfl, hs, ra⟩ := key
  obtain ⟨b1, b2⟩ := ra.of_flats hd
  subst b1
  exact ⟨p, xs, rfl, hs, a2, b2, k.here S (.bl _) q⟩
/-! ### deep == -/
mutual
def D.py : D → PyData
  | .non => .none
  | .bl b => .bool b
  | .int i => .int i
  | .str x => .str x
  | .tup ds => .tuple (D.pys ds)
  | .lst ds => .list (D.pys ds)
  | .ref _ => .none
  | .ty _ => .none
  | .scr ns => .list (ns.map .int)
  | .etup ds => .tuple (D.pys ds)
def D.pys : List D → List PyData
  | [] => []
  | d :: ds => D.py d :: D.pys ds
end
mutual
/-- no address in it -/
def D.pure : D → Bool
  | .ref _ => false
  | .ty _ => false
  | .scr _ => false
  | .etup _ => false
  | .tup ds => D.pures ds
  | .lst ds => D.pures ds
  | _ => true
def D.pures : List D → Bool
  | [] => true
  | d :: ds => D.pure d && D.pures ds
end
mutual
theorem Rs.dp (S : Same F H) : ∀ {v : V} {d : D}, Rs K F v d → d.pure = true → Dp K H v d.py
  | _, _, .non, _ => by unfold D.py; exact .non
  | _, _, .bl b, _ => by unfold D.py; exact .bl b
  | _, _, .int i, _ => by unfold D.py; exact .int i
  | _, _, .str x, _ => by unfold D.py; exact .str x
  | _, _, .ref a, h => by unfold D.pure at h; cases h
  | _, _, .ty n, h => by unfold D.pure at h; cases h
  | _, _, .scr _, h => by unfold D.pure at h; cases h
  | _, _, .etup _ _ _, h => by unfold D.pure at h; cases h
  | _, _, .tup h1 r, h => by unfold D.py; exact .tup (SqT.of (S _ _ h1)) (RsA.dp S r (by unfold D.pure at h; exact h))
  | _, _, .lst h1 r, h => by unfold D.py; exact .lst (SqL.of (S _ _ h1)) (RsA.dp S r (by unfold D.pure at h; exact h))
theorem RsA.dp (S : Same F H) : ∀ {vs : List V} {ds : List D}, RsA K F vs ds → D.pures ds = true → DpAll K H vs (D.pys ds)
  | _, _, .nil, _ => by unfold D.pys; exact .nil
  | _, _, .cons h r, q => by
    unfold D.pures at q
    obtain ⟨q1, q2⟩ := Bool.and_eq_true_iff.mp q
    unfold D.pys
    exact .cons (Rs.dp S h q1) (RsA.dp S r q2)
end
theorem wr_eqQ (hx : x.pure = true) (hy : y.pure = true) (sx : SeqAt.shaped x.py = true) (sy : SeqAt.shaped y.py = true) (q : Φ (.bl (PyData.eqv x.py y.py)) L) : WR P w K (rEqD K) x y L Φ := fun F H vx vy Q r1 r2 S k => ⟨x.py, y.py, r1.dp S.same hx, r2.dp S.same hy, sx, sy, k.here S (.bl _) q⟩
theorem wr_neQ (hx : x.pure = true) (hy : y.pure = true) (sx : SeqAt.shaped x.py = true) (sy : SeqAt.shaped y.py = true) (q : Φ (.bl (!PyData.eqv x.py y.py)) L) : WR P w K (rNeD K) x y L Φ := fun F H vx vy Q r1 r2 S k => ⟨x.py, y.py, r1.dp S.same hx, r2.dp S.same hy, sx, sy, k.here S (.bl _) q⟩
/-! ### list.insert, sep.join -/
abbrev rInsert : V → List V → Hp → VK → Prop := fun x vs H Q => ∃ (l : Addr) (xs : List V) (i : Int) (y : V), x = .ref l ∧ vs = [.int i, y] ∧ H l = some (.lst xs) ∧ xs.length < sizeLine ∧ 0 ≤ i ∧ i < 2 ^ 63 ∧
  Q .non (upd H l (.lst (xs.take i.toNat ++ [y] ++ xs.drop i.toNat)))
theorem wm_insert {p : Addr} {ds : List D} {n : Int} {f : Co → Sto} (ht : At p (.lst ds) L f) (hl : ds.length < 100000) (h0 : 0 ≤ n) (hn : n < 2 ^ 63) (q : Φ .non (f (.lst (ds.take n.toNat ++ [d] ++ ds.drop n.toNat)))) : WM P w K rInsert (.ref p) [.int n, d] L Φ := fun F H v vs Q r rs S k => by
  obtain ⟨v1, v2, rfl, ru1, ru2⟩ := rsa2 rs
  obtain ⟨np, o, ho, xs, rfl, ra⟩ := S.look ht
  exact ⟨p, xs, n, v2, r.ref_inv, by rw [ru1.int_inv], ho, by rw [ra.length]; exact Nat.lt_of_lt_of_le hl (by decide), h0, hn, k _ _ F _ _ (Same.refl F) (S.put (c' := .lst (ds.take n.toNat ++ [d] ++ ds.drop n.toNat)) ht ⟨_, rfl, ((ra.take _).append (.cons ru2 .nil)).append (ra.drop _)⟩) .non q⟩
abbrev rJoin (K : PySem.W.Frag) : V → List V → Hp → VK → Prop := fun x xs H Q => ∃ a p, ∃ ys : List Str, x = .str a ∧ xs = [.ref p] ∧ (SqL K H p (ys.map V.str) ∨ SqT K H p (ys.map V.str)) ∧
  (ys.map (·.length)).sum + ys.length * a.length ≤ 16777216 ∧ Q (.str (Txt.join a ys)) H
theorem we_join (h : WE P w K E ta Γ L ex fun x L1 => ∃ a, x = .str a ∧ WE P w K E tb Γ L1 ex fun y L2 => ∃ ys : List Str, y = .lst (ys.map D.str) ∧ (ys.map (·.length)).sum + ys.length * a.length ≤ 16777216 ∧ Φ (.str (Txt.join a ys)) L2) : WE P w K E (tM1 (rJoin K) ta tb) Γ L ex Φ := fun σ F H Q sl S lk k =>
  h σ F H _ sl S lk fun vx x F1 H1 L1 e1 S1 r1 ⟨a, ex1, q1⟩ => by
    subst ex1
    refine ⟨⟨a, r1.str_inv⟩, q1 σ F1 H1 _ (sl.mono e1) S1 (lk.mono e1) fun vy y F2 H2 L2 e2 S2 r2 ⟨ys, ey, hl, q⟩ => ?_⟩
    subst ey
    obtain ⟨b, xs, rfl, hs, ra⟩ := r2.lst_inv
    rw [ra.strs_inv] at hs
    exact ⟨a, b, ys, r1.str_inv, rfl, .inl (S2.same.seq hs), hl, k _ _ F2 H2 L2 (Same.tr e1 e2) S2 (.str _) q⟩
end
end Cl
set_option Elab.async false
set_option linter.all false
set_option maxRecDepth 100000
set_option maxHeartbeats 4000000
/-! Dicts from nested data, star targets. -/
namespace Cl
open PySem PySem.Spec PyProof.Rows L2

/-! ### a value that is a nested key -/
section
variable {X : Cx} {pins : List (Addr × Obj)} {σ : L2.St} {H : Hp} {s : Shared}
theorem nk_tup {ds : List D} {k : NestedKey} (h : (D.tup ds).nk = some k) : ∃ ks, D.nks ds = some ks ∧ k = .tup ks := by
  unfold D.nk at h
  cases e : D.nks ds with
  | none => rw [e] at h; cases h
  | some ks =>
    rw [e] at h
    exact ⟨ks, rfl, (Option.some.inj h).symm⟩
theorem nks_cons {d : D} {ds : List D} {ks : List NestedKey} (h : D.nks (d :: ds) = some ks) : ∃ k r, d.nk = some k ∧ D.nks ds = some r ∧ ks = k :: r := by
  unfold D.nks at h
  cases e1 : d.nk with
  | none => rw [e1] at h; cases h
  | some k =>
    cases e2 : D.nks ds with
    | none => rw [e1, e2] at h; cases h
    | some r =>
      rw [e1, e2] at h
      exact ⟨k, r, rfl, rfl, (Option.some.inj h).symm⟩
mutual
theorem nis_of (I : Inv X pins σ H s) : ∀ {v : V} {d : D}, Rs X.K H v d → ∀ {u : Value} {k : NestedKey}, RelV v u → d.nk = some k → NestedIs s.heap k u
  | _, _, .non, u, k, r, e => by
    unfold D.nk at e
    cases e
    cases r
    exact .none
  | _, _, .bl b, u, k, r, e => by
    unfold D.nk at e
    cases e
  | _, _, .int i, u, k, r, e => by
    unfold D.nk at e
    cases e
    obtain ⟨t, rfl⟩ := r
    exact .int _ _
  | _, _, .str x, u, k, r, e => by
    unfold D.nk at e
    cases e
    obtain ⟨t, rfl⟩ := r
    exact .text _ _
  | _, _, .ref a, u, k, r, e => by
    unfold D.nk at e
    cases e
  | _, _, .ty n, u, k, r, e => by
    unfold D.nk at e
    cases e
  | _, _, .scr _, u, k, r, e => by
    unfold D.nk at e
    cases e
  | _, _, .lst _ _, u, k, r, e => by
    unfold D.nk at e
    cases e
  | _, _, .etup _ _ _, u, k, r, e => by
    unfold D.nk at e
    cases e
  | _, _, .tup h1 ra, u, k, r, e => by
    obtain ⟨ks, e1, rfl⟩ := nk_tup e
    cases r
    obtain ⟨its, rv, ⟨o, ho, hc, n, hd⟩, _⟩ := I.tuple (SqT.of h1)
    exact .tup ho hc hd (by simpa using nall_of I ra rv e1)
theorem nall_of (I : Inv X pins σ H s) : ∀ {vs : List V} {ds : List D}, RsA X.K H vs ds → ∀ {us : List Value} {ks : List NestedKey}, Vals vs us → D.nks ds = some ks → NestedAll s.heap ks us
  | _, _, .nil, us, ks, r, e => by
    unfold D.nks at e
    cases e
    cases r
    exact .nil
  | _, _, .cons h t, us, ks, r, e => by
    obtain ⟨k, rr, e1, e2, rfl⟩ := nks_cons e
    cases r with
    | cons r1 r2 => exact .cons (nis_of I h r1 e1) (nall_of I t r2 e2)
end
mutual
/-- no two data are one key -/
theorem nk_inj : ∀ {a b : D} {k : NestedKey}, a.nk = some k → b.nk = some k → a = b
  | .non, b, k, h1, h2 => by
    unfold D.nk at h1
    cases h1
    cases b <;> unfold D.nk at h2 <;> first | rfl | cases h2 | (cases e : D.nks _ with
      | none => rw [e] at h2; cases h2
      | some z => rw [e] at h2; cases h2)
  | .int i, b, k, h1, h2 => by
    unfold D.nk at h1
    cases h1
    cases b <;> unfold D.nk at h2 <;> first | (cases h2; rfl) | cases h2 | (cases e : D.nks _ with
      | none => rw [e] at h2; cases h2
      | some z => rw [e] at h2; cases h2)
  | .str i, b, k, h1, h2 => by
    unfold D.nk at h1
    cases h1
    cases b <;> unfold D.nk at h2 <;> first | (cases h2; rfl) | cases h2 | (cases e : D.nks _ with
      | none => rw [e] at h2; cases h2
      | some z => rw [e] at h2; cases h2)
  | .bl _, b, k, h1, h2 => by unfold D.nk at h1; cases h1
  | .ref _, b, k, h1, h2 => by unfold D.nk at h1; cases h1
  | .ty _, b, k, h1, h2 => by unfold D.nk at h1; cases h1
  | .scr _, b, k, h1, h2 => by unfold D.nk at h1; cases h1
  | .lst _, b, k, h1, h2 => by unfold D.nk at h1; cases h1
  | .etup _, b, k, h1, h2 => by unfold D.nk at h1; cases h1
  | .tup as, b, k, h1, h2 => by
    obtain ⟨ks, e1, rfl⟩ := nk_tup h1
    cases b with
    | tup bs =>
      obtain ⟨ks2, e2, e3⟩ := nk_tup h2
      injection e3 with e4
      rw [← e4] at e2
      rw [nks_inj e1 e2]
    | _ => unfold D.nk at h2; cases h2
theorem nks_inj : ∀ {as bs : List D} {ks : List NestedKey}, D.nks as = some ks → D.nks bs = some ks → as = bs
  | [], [], _, _, _ => rfl
  | [], b :: bs, ks, h1, h2 => by
    unfold D.nks at h1
    cases h1
    obtain ⟨k, r, _, _, e⟩ := nks_cons h2
    cases e
  | a :: as, [], ks, h1, h2 => by
    unfold D.nks at h2
    cases h2
    obtain ⟨k, r, _, _, e⟩ := nks_cons h1
    cases e
  | a :: as, b :: bs, ks, h1, h2 => by
    obtain ⟨k, r, e1, e2, rfl⟩ := nks_cons h1
    obtain ⟨k2, r2, e3, e4, e5⟩ := nks_cons h2
    cases e5
    rw [nk_inj e1 e3, nks_inj e2 e4]
end
/-- what stands at d: the entries xs, their keys told by data -/
def DnAt (P : Program) (w : World) (K : PySem.W.Frag) (H : Hp) (d : Addr) (ks : List D) (xs : List (NestedKey × Addr × Value)) : Prop := H d = some (.ext (dnPhi P w d xs)) ∧ RN K H ks xs ∧ (d == sysModules) = false
theorem rn_is (I : Inv X pins σ H s) : ∀ {ks : List D} {xs : List (NestedKey × Addr × Value)}, RN X.K H ks xs → ∀ x ∈ xs, (nestedKind X.prog X.w).is s.heap x.1 x.2.1
  | _, _, .nil, x, hx => by cases hx
  | _, _, .cons ⟨⟨ds, e0⟩, e1, e2, e3, _⟩ t, x, hx => by
    rcases List.mem_cons.mp hx with rfl | hx
    · exact ⟨nis_of I e3 rfl e1, e2⟩
    · exact rn_is I t x hx
theorem dn_ofH {ks : List D} {xs : List (NestedKey × Addr × Value)} (I : Inv X pins σ H s) {d : Addr} (h : dnPhi X.prog X.w d xs s.heap) (r : RN X.K H ks xs) : s.heap.DictOfH (nestedKind X.prog X.w) d xs := by
  obtain ⟨o, es, ep, h1, h2, h3, h4, h5⟩ := h
  exact ⟨o, es, ep, h1, h2, h3, h4, rn_is I r, h5⟩
theorem rn_mem {K : PySem.W.Frag} {F : Hp} {k : NestedKey} {q : D} (hq : q.nk = some k) : ∀ {ks : List D} {xs : List (NestedKey × Addr × Value)}, RN K F ks xs → ((atKey xs k).isSome = true ↔ q ∈ ks)
  | _, _, .nil => by
    refine ⟨fun h => ?_, fun h => nomatch h⟩
    unfold atKey at h
    cases h
  | _, _, .cons (b := x) (a := d) ⟨_, e1, _⟩ t => by
    have ih := rn_mem hq t
    unfold atKey at ih ⊢
    rw [List.find?_cons]
    by_cases e : x.1 = k
    · rw [decide_eq_true e]
      rw [e] at e1
      exact ⟨fun _ => by rw [nk_inj hq e1]; exact List.mem_cons_self, fun _ => rfl⟩
    · rw [decide_eq_false e]
      refine ih.trans ⟨fun h => List.mem_cons_of_mem _ h, fun h => ?_⟩
      rcases List.mem_cons.mp h with rfl | h
      · rw [hq] at e1
        exact absurd (Option.some.inj e1).symm e
      · exact h
end
section
variable {X : Cx}
/-- k in d, k not in d: d a dict from nested data -/
def rInN (P : Program) (w : World) (K : PySem.W.Frag) (neg : Bool) : R2 := fun x y H Q => ∃ a d ds k ks xs b, x = .ref a ∧ y = .ref d ∧ Rs K H (.ref a) (.tup ds) ∧ (D.tup ds).nk = some k ∧ k.depth ≤ 8 ∧ DnAt P w K H d ks xs ∧ (b = true ↔ D.tup ds ∈ ks) ∧ Q (.bl (if neg then !b else b)) H
theorem op_inN (hu : X.A.units + 64 < cLine) : OpR X (compareOp .In) (rInN X.prog X.w X.K false) := by
  rintro pins s σ H x y v u Q I rx ry ⟨a, d, ds, k, ks, xs, b, rfl, rfl, hr, hk, hd, ⟨hat, rn, hs⟩, hb, q⟩
  cases rx
  cases ry
  have hm := dn_ofH I (I.hok d _ hat).1 rn
  have ek : (atKey xs k).isSome = b := by
    have z := rn_mem (K := X.K) hk rn
    cases b with
    | true => exact z.mpr (hb.mp rfl)
    | false => exact Bool.eq_false_iff.mpr fun z2 => Bool.noConfusion (hb.mpr (z.mp z2))
  refine wpAny_in_heap (knd := nestedKind X.prog X.w) (xs := xs) (k := k) (by show X.A.units + 1 + 8 < cLine; omega) ⟨nis_of I hr rfl hk, hd⟩ hs hm ?_
  rw [ek]
  exact ⟨.bl b, H, I.tok _, rfl, q⟩
theorem op_notInN (hu : X.A.units + 64 < cLine) : OpR X (compareOp .NotIn) (rInN X.prog X.w X.K true) := by
  rintro pins s σ H x y v u Q I rx ry ⟨a, d, ds, k, ks, xs, b, rfl, rfl, hr, hk, hd, ⟨hat, rn, hs⟩, hb, q⟩
  cases rx
  cases ry
  have hm := dn_ofH I (I.hok d _ hat).1 rn
  have ek : (atKey xs k).isSome = b := by
    have z := rn_mem (K := X.K) hk rn
    cases b with
    | true => exact z.mpr (hb.mp rfl)
    | false => exact Bool.eq_false_iff.mpr fun z2 => Bool.noConfusion (hb.mpr (z.mp z2))
  refine wpAny_notIn_heap (knd := nestedKind X.prog X.w) (xs := xs) (k := k) (by show X.A.units + 1 + 8 < cLine; omega) ⟨nis_of I hr rfl hk, hd⟩ hs hm ?_
  rw [ek]
  exact ⟨.bl (!b), H, I.tok _, rfl, q⟩
/-- {} to be filled from nested data -/
def tDNewN (P : Program) (w : World) : TE := fun _ H Q => ∀ p, H p = none → (p == sysModules) = false → Q (.ref p) (upd H p (.ext (dnPhi P w p [])))
theorem pe_dnewN {pos : Pos} : PE X (.Dict [] [] pos) (tDNewN X.prog X.w) := ⟨fun pins s σ H Q I h =>
  wpAny_Dict_empty ⟨.ref s.heap.objs.size, _, I.laid (a := s.heap.objs.size) (o := .ext (dnPhi X.prog X.w s.heap.objs.size [])) (t' := s.toks) (fun _ _ q => Heap.get?_push_of_some _ q) (Nat.le_refl _)
    (by
      have h0 : (s.heap.push { cls := .type "dict", data := .dict #[] }).get? s.heap.objs.size = some { cls := .type "dict", data := .dict #[] } := Heap.get?_push_size _ rfl
      exact ⟨⟨_, #[], 0, h0, ⟨rfl, rfl, rfl⟩, rfl, rfl, List.nodup_nil⟩, ⟨_, h0⟩, fun h1 h2 ⟨o, es, ep, e1, e2⟩ k => ⟨o, es, ep, k o e1, e2⟩⟩), rfl, h _ (I.hok.fresh (Nat.le_refl _)) (beq_eq_false_iff_ne.mpr (Nat.ne_of_gt I.big))⟩⟩
/-- d[k] = True -/
def rSetN (P : Program) (w : World) (K : PySem.W.Frag) : TSet := fun o i v H Q => ∃ a d ds k ks xs, o = .ref d ∧ i = .ref a ∧ v = .bl true ∧ Rs K H (.ref a) (.tup ds) ∧ (D.tup ds).nk = some k ∧ k.depth ≤ 8 ∧ DnAt P w K H d ks xs ∧ xs.length < 100000 ∧
  Q (upd H d (.ext (dnPhi P w d (storedH xs k a (.bool true)))))
theorem set_dN (hu : X.A.units + 64 < cLine) : PSet X (rSetN X.prog X.w X.K) := by
  rintro pins s σ H o i v ov iv u Q I ro ri rv ⟨a, d, ds, k, ks, xs, rfl, rfl, rfl, hr, hk, hd, ⟨hat, rn, hs⟩, hl, q⟩
  cases ro
  cases ri
  cases rv
  have hm := dn_ofH I (I.hok d _ hat).1 rn
  refine wpAny_setItem_heap (knd := nestedKind X.prog X.w) (xs := xs) (k := k) (hsz := Nat.le_of_lt (Nat.lt_of_lt_of_le hl (by decide))) (by show X.A.units + 1 + 8 < cLine; omega) ⟨nis_of I hr rfl hk, hd⟩ hm fun h' hm' hsb => ?_
  obtain ⟨o2, es2, ep2, h1, h2, h3, h4, _, h6⟩ := hm'
  refine ⟨_, I.write (e := d) (o := .ext (dnPhi X.prog X.w d (storedH xs k a (.bool true)))) (t' := s.toks + (nestedKind X.prog X.w).draws k) (by rw [hat]; trivial) (.inl rfl) (fun b z hb e => (hsb.2 b hb).trans e) ⟨_, h1⟩ ⟨⟨o2, es2, ep2, h1, h2, h3, h4, h6⟩, ⟨_, h1⟩, fun h1 h2 ⟨o, es, ep, e1, e2⟩ k => ⟨o, es, ep, k o e1, e2⟩⟩, q⟩
end
section
variable {P : Program} {w : World} {K : PySem.W.Frag} {E : XK} {F F' H H' : Hp} {σ : L2.St} {Γ Γ' : Gm} {L L' : Sto} {ex : Ex} {Φ Φ' : D → Sto → Prop} {Q : VK} {ta tb te tx : TE} {d d' : D} {A : Pst}
theorem rn_mono (e : Same F F') {ks : List D} {xs : List (NestedKey × Addr × Value)} (r : RN K F ks xs) : RN K F' ks xs := Paired.imp (fun p q z => ⟨z.1, z.2.1, z.2.2.1, z.2.2.2.1.mono e, z.2.2.2.2⟩) r
theorem wr_inN {neg : Bool} {ds : List D} {k : NestedKey} {ks : List D} {p : Addr} {f : Co → Sto} (hk : (D.tup ds).nk = some k) (hd : k.depth ≤ 8) (ht : At p (.dN ks) L f) (q : ∀ b : Bool, (b = true ↔ D.tup ds ∈ ks) → Φ (.bl (if neg then !b else b)) L) : WR P w K (rInN P w K neg) (.tup ds) (.ref p) L Φ := fun F H vx vy Q r1 r2 S kk => by
  obtain ⟨np, o, ho, xs, rfl, rn, hs⟩ := S.look ht
  obtain ⟨a, ys, rfl, h1, ra⟩ := r1.tup_get
  obtain ⟨b, hb⟩ : ∃ b : Bool, (b = true ↔ D.tup ds ∈ ks) := by
    by_cases c : D.tup ds ∈ ks
    · exact ⟨true, fun _ => c, fun _ => rfl⟩
    · exact ⟨false, fun h => Bool.noConfusion h, fun h => absurd h c⟩
  exact ⟨a, p, ds, k, ks, xs, b, rfl, r2.ref_inv, r1.mono S.same, hk, hd, ⟨ho, rn_mono S.same rn, hs⟩, hb, kk.here S (.bl _) (q b hb)⟩
theorem we_dnewN (q : ∀ p, Φ (.ref p) ((p, .dN []) :: L)) : WE P w K E (tDNewN P w) Γ L ex Φ := fun σ F H Q sl S lk k p hp hs => k _ _ F _ _ (Same.refl F) (S.new (c := .dN []) hp ⟨[], rfl, .nil, hs⟩) (.ref p) (q p)
theorem Paired.app {α β : Type} {R : α → β → Prop} : ∀ {l l2 : List α} {m m2 : List β}, Paired R l m → Paired R l2 m2 → Paired R (l ++ l2) (m ++ m2)
  | _, _, _, _, .nil, s => s
  | _, _, _, _, .cons h t, s => .cons h (Paired.app t s)
theorem rn_put {k : NestedKey} {ds : List D} {a : Addr} (hk : (D.tup ds).nk = some k) (hd : k.depth ≤ 8) (r : Rs K F (.ref a) (.tup ds)) {ks : List D} {xs : List (NestedKey × Addr × Value)} (rn : RN K F ks xs) : (D.tup ds ∈ ks → RN K F ks (storedH xs k a (.bool true))) ∧ (¬ D.tup ds ∈ ks → RN K F (ks ++ [.tup ds]) (storedH xs k a (.bool true))) := by
  have z := rn_mem (K := K) hk rn
  refine ⟨fun hm => ?_, fun hm => ?_⟩
  · have h1 := z.mpr hm
    unfold storedH
    rw [if_pos h1]
    have go : ∀ {ks : List D} {xs : List (NestedKey × Addr × Value)}, RN K F ks xs → RN K F ks (xs.map (putAt k (.bool true))) := by
      intro ks xs rn
      induction rn with
      | nil => exact .nil
      | cons h t ih =>
        refine .cons ?_ ih
        obtain ⟨e0, e1, e2, e3, e4⟩ := h
        unfold putAt
        split
        · exact ⟨e0, e1, e2, e3, rfl⟩
        · exact ⟨e0, e1, e2, e3, e4⟩
    exact go rn
  · have h1 : ¬ (atKey xs k).isSome = true := fun h => hm (z.mp h)
    unfold storedH
    rw [if_neg h1]
    exact Paired.app rn (.cons ⟨⟨ds, rfl⟩, hk, hd, r, rfl⟩ .nil)
/-- d[k] = True -/
theorem ws_setN {td ti tv : TE} (h : WE P w K E tv Γ L A.ex fun y L1 => WE P w K E td Γ L1 A.ex fun x L2 => WE P w K E ti Γ L2 A.ex fun z L3 => ∃ p ds k ks f, y = .bl true ∧ x = .ref p ∧ z = .tup ds ∧ (D.tup ds).nk = some k ∧ k.depth ≤ 8 ∧ At p (.dN ks) L3 f ∧ ks.length < 100000 ∧
    (D.tup ds ∈ ks → A.nx Γ (f (.dN ks))) ∧ (¬ D.tup ds ∈ ks → A.nx Γ (f (.dN (ks ++ [.tup ds]))))) : WS P w K E (tAsg tv (gSub td ti (rSetN P w K))) Γ L A := fun σ F H De sl S lk k =>
  h σ F H _ sl S lk fun vy y F1 H1 L1 e1 S1 r1 q1 => q1 σ F1 H1 _ (sl.mono e1) S1 (lk.mono e1) fun vx x F2 H2 L2 e2 S2 r2 q2 => q2 σ F2 H2 _ (sl.mono (Same.tr e1 e2)) S2 (lk.mono (Same.tr e1 e2)) fun vz z F3 H3 L3 e3 S3 r3 ⟨p, ds, kk, ks, f, ey, ex1, ez, hk, hd, ht, hl, q3, q4⟩ => by
    subst ey ex1 ez
    obtain ⟨np, o, ho, xs, rfl, rn, hs⟩ := S3.look ht
    obtain ⟨a, ys, rfl, h1, ra⟩ := r3.tup_get
    have e13 := Same.tr e1 (Same.tr e2 e3)
    refine ⟨a, p, ds, kk, ks, xs, (r2.mono e3).ref_inv, rfl, (r1.mono (Same.tr e2 e3)).bl_inv, r3.mono S3.same, hk, hd, ⟨ho, rn_mono S3.same rn, hs⟩, by rw [← Paired.len rn]; exact hl, ?_⟩
    have rp := rn_put hk hd r3 rn
    by_cases c : D.tup ds ∈ ks
    · exact k.nx _ _ F3 _ _ e13 (sl.mono e13) (S3.put (c' := .dN ks) ht ⟨_, rfl, rp.1 c, hs⟩) (q3 c)
    · exact k.nx _ _ F3 _ _ e13 (sl.mono e13) (S3.put (c' := .dN (ks ++ [.tup ds])) ht ⟨_, rfl, rp.2 c, hs⟩) (q4 c)
end
end Cl
set_option Elab.async false
set_option linter.all false
set_option maxRecDepth 100000
set_option maxHeartbeats 4000000
/-! set(xs) of a list of ints -/
namespace Cl
open PySem PySem.Spec PyProof.Rows L2
section
variable {P : Program} {w : World} {A : Around} {E : Value → Shared → Prop} {s : Shared}
/-- set(xs) of a list of ints -/
theorem set_of_list {l : Addr} {items : Array Value} (ns : List Int) {Q : Value → Shared → Prop} (hh : A.handled = none) (hl : s.heap.IsList l items) (hit : IntsAre items.toList ns) (hb : ns.length + 1 < scanBound)
    (h : ∀ (h' : Heap) (tk c : Nat), SetR w h' s.heap.objs.size (fun j => decide (j ∈ ns)) c → c ≤ ns.length → (∀ b o, s.heap.get? b = some o → h'.get? b = some o) → Q (.ref s.heap.objs.size) { s with heap := h', toks := tk }) :
    wpAny (model P w) A (call (.type "set") [.ref l]) Q E s := by
  have esz : items.size = ns.length := by
    have q := IntsAre.length hit
    rw [Array.length_toList] at q
    exact q
  obtain ⟨c, tl, hmo⟩ := PySem.F.called_set.mro
  have hmk := PySem.F.called_set.made
  have hsub := PySem.F.called_set.sub
  refine wpAny_call (codeAny_of_tree ?_)
  show wpAny _ _ (callAny (.type "set") _) _ _ _
  refine wpAny_pure ⟨Code.quiet_builtin _ (by decide +kernel), codeAny_builtin PySem.F.entry_type_call ?_⟩
  rw [Around.under_plain (weight_type_call_type "set" [.ref l] []) rfl]
  have h1 := PySem.F.called_set.notType
  have h2 := PySem.F.called_set.canCreate
  have hct := PySem.F.typeCall_set_1 (.ref l)
  repeat (any_goals (first | assumption | wp_step))

  refine codeAny_mono (code_set_led1 (.ref l) (E := E) (Q₁ := fun obj s₁ => obj = .ref s.heap.objs.size ∧ s₁ = { s with heap := s.heap.push { cls := .type "set", dict := none, data := .set #[] 0 (.fresh 0 0 (!w.params.followText "set-order")) } }) ⟨rfl, rfl⟩) fun r s₁ hr => ?_
  cases r with
  | error e => exact hr
  | ok fl =>
    cases fl with
    | ret obj =>
      obtain ⟨rfl, rfl⟩ := hr
      have hS : (s.heap.push { cls := .type "set", dict := none, data := .set #[] 0 (.fresh 0 0 (!w.params.followText "set-order")) }).get? s.heap.objs.size = some { cls := .type "set", dict := none, data := .set #[] 0 (.fresh 0 0 (!w.params.followText "set-order")) } := Heap.get?_push_size _ rfl
      have hT : Shared.TypeIs { s with heap := s.heap.push { cls := .type "set", dict := none, data := .set #[] 0 (.fresh 0 0 (!w.params.followText "set-order")) } } (.ref s.heap.objs.size) "set" := ⟨_, hS, rfl⟩
      have hli := PySem.F.called_set.init.lookup
      have hbi := PySem.F.called_set.init.bind (.ref s.heap.objs.size)
      repeat (any_goals (first | assumption | wp_step))

      refine codeAny_mono (codeAny_call_builtin (R := wants (fun r s₂ => r = .none ∧ ∃ h' tk c, s₂ = { s with heap := h', toks := tk } ∧ SetR w h' s.heap.objs.size (fun j => decide (j ∈ ns)) c ∧ c ≤ ns.length ∧
          (∀ b o, s.heap.get? b = some o → h'.get? b = some o)) E) PySem.F.called_set.init.plain PySem.F.entry_set_init (check_set_init_1 hT ?_)) fun r₂ s₂ hr₂ => ?_
      · obtain ⟨ol, hol, hcl, nl, hdl⟩ := hl
        obtain ⟨oc1, oc2, oc3, oc4⟩ := ol
        simp only at hcl hdl
        subst hcl; subst hdl
        have hol' : (s.heap.push { cls := .type "set", dict := none, data := .set #[] 0 (.fresh 0 0 (!w.params.followText "set-order")) }).get? l = some { cls := .type "list", dict := oc2, data := .seq items nl, slots := oc4 } := Heap.get?_push_of_some _ hol
        have hsls := PySem.F.sub_list_set
        have hslf := PySem.F.sub_list_frozenset
        have hne : (Value.type "list" == Value.type "dict") = false := by decide
        have hl1 : (s.heap.push { cls := .type "set", dict := none, data := .set #[] 0 (.fresh 0 0 (!w.params.followText "set-order")) }).IsList l items := ⟨_, hol', rfl, nl, rfl⟩
        unfold Builtin.«set.__init__» noKeywords Builtin.Frozenset.updateFrom
        generalize hPI : pyIter = PI
        wp_walk
        subst hPI

        refine wpAny_pyIter_list hl1 ?_
        refine wpAny_bind (wpAny_runValue ?_)
        have hlz : l < s.heap.objs.size := Heap.lt_size hol
        have hh3 : A.in1.in1.in1.handled = none := by simp [hh]
        have hz1 : (s.heap.push { cls := .type "set", dict := none, data := .set #[] 0 (.fresh 0 0 (!w.params.followText "set-order")) }).objs.size = s.heap.objs.size + 1 := Heap.size_push ..
        have hnz : l ≠ (s.heap.push { cls := .type "set", dict := none, data := .set #[] 0 (.fresh 0 0 (!w.params.followText "set-order")) }).objs.size := by
          rw [Heap.size_push]; exact Nat.ne_of_lt (Nat.lt_succ_of_lt hlz)
        have hSf : s.heap.objs.size ∉ [(s.heap.push { cls := .type "set", dict := none, data := .set #[] 0 (.fresh 0 0 (!w.params.followText "set-order")) }).objs.size, l] := by
          rw [Heap.size_push]; simp only [List.mem_cons, List.mem_singleton, List.not_mem_nil, or_false, not_or]
          exact ⟨Nat.ne_of_lt (Nat.lt_succ_self _), Nat.ne_of_gt hlz⟩
        have hvl : ∀ (i : Nat) (v : Value), items[i]? = some v → ∃ k t, ns[i]? = some k ∧ v = .int k t := fun i v hv => by
          have hi : i < ns.length := by rw [← esz]; exact (Array.getElem?_eq_some_iff.mp hv).1
          obtain ⟨t, e⟩ := PyProof.Rows.IntsAre.int_at hit i v (by rw [Array.getElem?_toList]; exact hv)
          refine ⟨ns[i], t, List.getElem?_eq_getElem hi, ?_⟩
          rw [e, List.getD_eq_getElem?_getD, List.getElem?_eq_getElem hi] <;> rfl
        refine set_update_ints ((Walks.list hh3 _ l hnz items).toS) s.heap.objs.size
          hSf ns esz hb hvl (items.size - 0) 0 _ (by omega) (Nat.zero_le _)
          ⟨⟨_, Heap.get?_push_size _ rfl, rfl, rfl⟩, (hl1.push _)⟩ ?hS0 ?hR
        case hS0 =>
          have hgt : ((s.heap.push { cls := .type "set", dict := none, data := .set #[] 0 (.fresh 0 0 (!w.params.followText "set-order")) }).push { cls := .type "list_iterator", data := .fields #[.ref l, .int 0 0] }).get? s.heap.objs.size
              = some { cls := .type "set", dict := none, data := .set #[] 0 (.fresh 0 0 (!w.params.followText "set-order")) } := Heap.get?_push_of_some _ hS
          exact ⟨0, Nat.le_refl 0, setR_new_at hgt⟩
        case hR =>
          intro s' c' hm hc' hS'
          obtain ⟨h', g2, d', tk', os'⟩ := s'
          have eg : g2 = s.gens := hm.gens
          have ed : d' = s.drawn := hm.drawn
          have eo : os' = s.os := hm.os
          subst eg; subst ed; subst eo
          show wpAny _ _ _ _ _ _
          refine wpAny_pure ?_
          show wpAny _ _ (ret Value.none) _ _ _
          rw [esz] at hc'
          refine wpAny_pure ⟨rfl, h', tk', c', rfl, hS', hc', fun b o e => ?_⟩
          have hb0 : b < s.heap.objs.size := Heap.lt_size e
          have hb1 : b ≠ s.heap.objs.size := Nat.ne_of_lt hb0
          have hb2 : b ≠ (s.heap.push { cls := .type "set", dict := none, data := .set #[] 0 (.fresh 0 0 (!w.params.followText "set-order")) }).objs.size := by
            rw [Heap.size_push]; exact Nat.ne_of_lt (Nat.lt_succ_of_lt hb0)
          exact hm.heap b o (by simp only [List.mem_cons, List.mem_singleton, List.not_mem_nil, or_false, not_or]; exact ⟨hb1, hb2⟩) (Heap.get?_push_of_some _ (Heap.get?_push_of_some _ e))

      · cases r₂ with
        | error e => exact hr₂
        | ok fl₂ =>
          cases fl₂ with
          | ret r =>
            obtain ⟨rfl, h', tk, c', rfl, hS', hc', hk'⟩ := hr₂
            repeat (any_goals (first | assumption | wp_step))
            exact h _ _ _ hS' hc' hk'
          | _ => exact hr₂.elim
    | _ => exact hr.elim

end
end Cl
set_option Elab.async false
set_option linter.all false
set_option maxRecDepth 100000
set_option maxHeartbeats 4000000
/-! Rules the layer lacks: star targets, lists against [], sets of a list's ints, and so on. -/
namespace Cl
open PySem PySem.Spec PyProof.Rows L2
section
variable {X : Cx} {pos : Pos}
/-- a, *b, c = a tuple -/
def gStar (K : PySem.W.Frag) (n k : Nat) (t : TGs) : TG := fun v σ H Q => ∃ a xs, v = .ref a ∧ SqT K H a xs ∧ k < n ∧ n ≤ xs.length + 1 ∧ xs.length ≤ 16384 ∧
  ∀ q, H q = none → t (xs.take k ++ [.ref q] ++ (xs.drop k).drop (xs.length + 1 - n)) σ (upd H q (.lst ((xs.drop k).take (xs.length + 1 - n)))) Q
theorem pgsS_star {x : Expr} {sp : Pos} {es : List Expr} {t : TG} {u : TGs} (h1 : PG X x t) (h2 : PGs X es u) : PGs X (.Starred x sp :: es) (gCons t u) := by
  refine ⟨fun pins s σ H vs us Q I r h => ?_⟩
  obtain ⟨v, vr, rfl, h⟩ := h
  cases r with
  | cons r rr =>
    rw [show (assignEach (.Starred x sp :: es) X.env).map (·.2) = assign x X.env :: (assignEach es X.env).map (·.2) from rfl]
    exact assignInOrder_cons (thn (h1.run pins s σ H _ _ _ I r h) fun _ s1 ⟨σ1, H1, I1, q1⟩ => h2.run pins s1 σ1 H1 _ _ Q I1 rr q1)
theorem vals_take : ∀ {vs : List V} {us : List Value} (n : Nat), Vals vs us → Vals (vs.take n) (us.take n)
  | _, _, 0, _ => .nil
  | _, _, _ + 1, .nil => .nil
  | _, _, n + 1, .cons h r => .cons h (vals_take n r)
theorem vals_drop : ∀ {vs : List V} {us : List Value} (n : Nat), Vals vs us → Vals (vs.drop n) (us.drop n)
  | _, _, 0, r => r
  | _, _, _ + 1, .nil => .nil
  | _, _, n + 1, .cons h r => vals_drop n r
theorem vals_app : ∀ {vs ws : List V} {us xs : List Value}, Vals vs us → Vals ws xs → Vals (vs ++ ws) (us ++ xs)
  | _, _, _, _, .nil, s => s
  | _, _, _, _, .cons h r, s => .cons h (vals_app r s)
theorem pg_star {es : List Expr} {x1 : Nat} {t : TGs} {n k : Nat} (hc : X.calm = true) (h : PGs X es t)
    (hn : (assignEach es X.env).length = n := by rfl) (hst : (assignEach es X.env).findIdx? (·.1) = some k := by rfl) : PG X (.Tuple es x1 pos) (gStar X.K n k t) := by
  refine ⟨fun pins s σ H v u Q I r hw => ?_⟩
  obtain ⟨a, xs, rfl, hq, hkn, hl, hz, hw⟩ := hw
  cases r
  obtain ⟨its, rv, ht, hzz⟩ := I.tuple hq
  have hlen := rv.length
  rw [assign_Tuple]
  refine wpAny_bind (wpAny_standAt ?_)
  unfold unpack
  rw [hn, hst]
  refine wpAny_bind (wpAny_holding ?_)
  have hh : X.A.handled = none := I.ok.hd hc
  have hlt : a ≠ s.heap.objs.size := by obtain ⟨o, ho, _⟩ := ht; exact Nat.ne_of_lt (Heap.lt_size ho)
  unfold unpackItems
  refine wpAny_bind ?_
  unfold notIterableAtAll
  refine wpAny_bind (wpAny_specialOf ht.typeIs slot_tuple_iter.lookup ?_)
  refine wpAny_pure ?_
  simp only [Bool.false_eq_true, if_false]
  refine wpAny_bind (wpAny_holding (iter_tuple ht ?_))
  have hsz : its.toArray.size = xs.length := by rw [List.size_toArray]; exact hlen.symm
  refine wpAny_bind (wpAny_holding (draw_tuple hlt k 0 _ _ ⟨_, Heap.get?_push_size _ rfl, rfl, rfl⟩ (ht.push _) (by rw [hsz]; omega) fun h₁ hit₁ hs₁ => ?_))
  have ht₁ : IsTup h₁ a its.toArray := (ht.push _).extBut hs₁.extBut hlt
  rw [Nat.zero_add] at hit₁
  have hit₁' := hit₁
  obtain ⟨oi, hoi, _⟩ := hit₁'
  have ht₁' := ht₁
  obtain ⟨ol, hol, _⟩ := ht₁'
  rw [List.drop_zero]
  have hfl : (its.toArray.toList.take k).length = k := by rw [List.length_take, Array.length_toList, hsz]; omega
  rw [if_neg (by rw [hfl]; omega)]
  refine wpAny_bind (wpAny_holding (PySem.W.kun_collect (s := { s with heap := h₁ }) (T := "tuple_iterator") (.inr (.inr (.inr rfl))) (Walks.tuple (A := X.A.in1) hh s.heap.objs.size a hlt its.toArray) (fun j u st => st.1.typeIs) (k := k) (by rw [hsz]; omega) ⟨hit₁, ht₁⟩ (Heap.lt_size hoi) (Heap.lt_size hol) (fun h₂ tk hk => ?_) (by rw [hsz, sizeLine_eq]; omega)))
  have hrl : (its.toArray.toList.drop k).length = xs.length - k := by rw [List.length_drop, Array.length_toList, hsz]
  have hmid : (its.toArray.toList.drop k).length - (n - 1 - k) = xs.length + 1 - n := by rw [hrl]; omega
  show wpAny _ _ (if (its.toArray.toList.drop k).length < n - 1 - k then _ else _) _ _ _
  rw [if_neg (by rw [hrl]; omega)]
  show wpAny _ _ (newList ((its.toArray.toList.drop k).take ((its.toArray.toList.drop k).length - (n - 1 - k))) >>= fun d => pure (its.toArray.toList.take k ++ [d] ++ (its.toArray.toList.drop k).drop ((its.toArray.toList.drop k).length - (n - 1 - k)))) _ _ _
  rw [hmid]
  have hkeep : ∀ b o, s.heap.get? b = some o → h₂.get? b = some o := fun b o e => hk b o (Nat.ne_of_lt (Heap.lt_size e)) (hs₁.extBut b o (Nat.ne_of_lt (Heap.lt_size e)) (Heap.get?_push_of_some _ e))
  have I2 : Inv X pins σ H { s with heap := h₂, toks := tk } := I.kept hkeep
  have hf : H h₂.objs.size = none := I2.hok.fresh (Nat.le_refl _)
  refine wpAny_bind (wpAny_newList (wpAny_pure ?_) (by rw [List.length_take, hrl, sizeLine_eq]; omega))
  have I3 : Inv X pins σ (upd H h₂.objs.size (.lst ((xs.drop k).take (xs.length + 1 - n)))) { s with heap := h₂.push { cls := .type "list", data := .seq ((its.toArray.toList.drop k).take (xs.length + 1 - n)).toArray }, toks := tk } := by
    refine I2.laid (t' := tk) (fun b u e => Heap.get?_push_of_some _ e) (Nat.le_refl _) ⟨?_, _, 0, vals_take _ (vals_drop k (show Vals xs its.toArray.toList from rv)), Heap.get?_push_size _ rfl⟩
    rw [List.length_take, List.length_drop, sizeLine_eq]; omega
  refine h.run pins _ σ _ _ _ Q I3 ?_ (hw _ hf)
  exact vals_app (vals_app (vals_take k (show Vals xs its.toArray.toList from rv)) (.cons rfl .nil)) (vals_drop _ (vals_drop k (show Vals xs its.toArray.toList from rv)))
end
section
variable {X : Cx}
def rSetL (K : PySem.W.Frag) (w : World) : List V → Hp → VK → Prop := fun xs H Q => ∃ (p : Addr) (ns : List Int), xs = [.ref p] ∧ SqL K H p (ns.map V.int) ∧ ns.length + 1 < 64 ∧ ∀ q c, c ≤ ns.length → H q = none → Q (.ref q) (upd H q (SetO w q (fun j => decide (j ∈ ns)) c))
theorem cr_setL (hc : X.calm = true) : CallR X (.type "set") (rSetL X.K X.w) := by
  intro pins s σ H vs us Q I r h
  obtain ⟨a, ns, rfl, hs, hl, q⟩ := h
  rw [Vals.ref1 r]
  obtain ⟨its, rv, ⟨o, n, e, ec, en, ed⟩, hz⟩ := I.list hs
  have hi := ints_of_vals rv
  refine set_of_list ns (I.ok.hd hc) ⟨o, e, ec, n, ed⟩ (by simpa using hi) (by unfold scanBound; omega) fun h' tk c R hcl hk => ?_
  have hn : H s.heap.objs.size = none := I.hok.fresh (Nat.le_refl _)
  exact ⟨.ref s.heap.objs.size, _, I.laid (t' := tk) hk (Nat.le_refl _) (setO_new R), rfl, q _ c hcl hn⟩
end
section
variable {P : Program} {w : World} {K : PySem.W.Frag} {E : XK} {F F' H H' : Hp} {σ : L2.St} {Γ Γ' : Gm} {L L' : Sto} {ex : Ex} {Φ Φ' : D → Sto → Prop} {Q : VK} {ta tb te tx : TE} {d d' : D} {i j : Int} {A : Pst} {tr tk : TA} {x y z : D}
theorem ws_asgS {n k : Nat} {gs : TGs} (h : WE P w K E te Γ L A.ex fun d L1 => ∃ ds us, d = .tup ds ∧ k < n ∧ n ≤ ds.length + 1 ∧ ds.length ≤ 16384 ∧
    (∀ L2, WGs P w K gs (ds.take k ++ [.lst ((ds.drop k).take (ds.length + 1 - n))] ++ (ds.drop k).drop (ds.length + 1 - n)) L2 us) ∧ A.nx (setG Γ us) L1) : WS P w K E (tAsg te (gStar K n k gs)) Γ L A := fun σ F H De sl S lk k0 =>
  h σ F H _ sl S lk fun v d F1 H1 L1 e1 S1 r1 ⟨ds, us, ed, hk, hn, hz, hg, q⟩ => by
    subst ed
    obtain ⟨a, xs, rfl, hs, ra⟩ := r1.tup_inv
    have hl := ra.length
    refine ⟨a, xs, rfl, Same.sqT S1.same hs, hk, by omega, by omega, fun p hp => ?_⟩
    rw [hl]
    obtain ⟨S2, e2⟩ := S1.ice (o := .lst ((xs.drop k).take (ds.length + 1 - n))) hp
    have ra2 := ra.mono e2
    have rm : Rs K (upd F1 p (.lst ((xs.drop k).take (ds.length + 1 - n)))) (.ref p) (.lst ((ds.drop k).take (ds.length + 1 - n))) := .lst upd_same ((ra2.drop k).take _)
    exact hg L1 _ _ _ σ _ (((ra2.take k).append (.cons rm .nil)).append ((ra2.drop k).drop _)) S2 fun vs rv => k0.nx _ _ _ _ L1 (Same.tr e1 e2) (sl_all (sl.mono (Same.tr e1 e2)) rv) S2 q
end
end Cl
set_option Elab.async false
set_option linter.all false
set_option maxRecDepth 100000
set_option maxHeartbeats 4000000
/-! Rules: == [], dict of a tuple of pairs, exact tuples, sorted data, sorted dicts. -/
namespace Cl
open PySem PySem.Spec PyProof.Rows L2
section
variable {X : Cx} {pos : Pos}
def rEqNil (K : PySem.W.Frag) : R2 := fun x y H Q => ∃ (a b : Addr) (xs : List V), x = .ref a ∧ y = .ref b ∧ SqL K H a xs ∧ SqL K H b [] ∧ Q (.bl xs.isEmpty) H
theorem op_eqNil (hu : X.A.units + 64 < cLine) : OpR X (compareOp .Eq) (rEqNil X.K) := by
  intro pins s σ H x y v u Q I rx ry h
  obtain ⟨a, b, xs, rfl, rfl, ha, hb, q⟩ := h
  cases rx
  cases ry
  obtain ⟨its, r1, l1, _⟩ := I.list ha
  obtain ⟨its2, r2, l2, _⟩ := I.list hb
  cases r2
  have hun : X.A.units < cLine := by omega
  cases xs with
  | nil =>
    cases r1
    exact (PySem.SeqAt.RcAt.lists (e := fun _ => true) l1.isList l2.isList rfl hun fun j h1 => absurd h1 (by simp)) _ _ _ _ ⟨.bl true, H, I, rfl, q⟩
  | cons x xs =>
    cases r1 with
    | cons r1 rr => exact (PySem.SeqAt.RcAt.lists_lengths l1.isList l2.isList (by simp) hun) _ _ _ _ ⟨.bl false, H, I, rfl, q⟩
/-- tuple(xs) of a list: a tuple without a dict -/
def rTupE (K : PySem.W.Frag) : List V → Hp → VK → Prop := fun xs H Q => ∃ (p : Addr) (ys : List V), xs = [.ref p] ∧ SqL K H p ys ∧ ∀ l ob, ob.dict = .none → H l = none → Q (.ref l) (upd H l (.frz ob (.tup ys)))
theorem cr_tupE : CallR X (.type "tuple") (rTupE X.K) := by
  intro pins s σ H xs us Q I r h
  obtain ⟨p, ys, rfl, hq, q⟩ := h
  rw [Vals.ref1 r]
  obtain ⟨its, rv, pl, hz⟩ := I.list hq
  have hlen := rv.length
  refine call_tuple_list pl.isList (fun g kp => ?_) (by simp only [List.size_toArray] <;> omega)
  have J : Inv X pins σ H { s with heap := g } := I.kept (t' := s.toks) kp
  have J2 : Inv X pins σ (upd H g.objs.size (.frz { cls := .type "tuple", data := .seq its.toArray } (.tup ys))) { s with heap := g.push { cls := .type "tuple", data := .seq its.toArray } } :=
    J.laid (t' := s.toks) (fun b o e => Heap.get?_push_of_some _ e) (Nat.le_refl _) ⟨Heap.get?_push_size _ rfl, hz, its, rv, ⟨_, Heap.get?_push_size _ rfl, rfl, _, rfl⟩⟩
  exact ⟨.ref g.objs.size, _, J2, rfl, q _ _ rfl (J.hok.fresh (Nat.le_refl _))⟩
/-- dict(t) of such a tuple of pairs -/
def rDictT (K : PySem.W.Frag) : List V → Hp → VK → Prop := fun xs H Q => ∃ (a : Addr) (ob : Obj) (ps : List Addr) (kvs : List (Key × V)), xs = [.ref a] ∧ H a = some (.frz ob (.tup (ps.map V.ref))) ∧ ob.dict = .none ∧ Paired (fun p kv => SqT K H p [kV kv.1, kv.2]) ps kvs ∧
    ∀ p, H p = none → Q (.ref p) (upd H p (.dK (mergeK [] kvs)))
theorem cr_dictT (hcalm : X.calm = true) : CallR X (.type "dict") (rDictT X.K) := by
  intro pins s σ H xs us Q I r h
  obtain ⟨a, ob, ps, kvs, rfl, ha, hob, hp, q⟩ := h
  rw [Vals.ref1 r]
  obtain ⟨ho, hz, its, rv, ⟨o, ho', hc, n, hd⟩⟩ := I.hok a _ ha
  rw [ho] at ho'
  cases ho'
  have ei := refs_at rv
  subst ei
  rw [List.length_map] at hz
  obtain ⟨prs, rel, hl, hpr⟩ := pairs_of I hp
  have hps : ∀ (j : Nat), j < prs.length → ∃ (b : Addr) (u : Value), ps[j]? = some b ∧ IsTup s.heap b #[u, (prs[j]?.getD (.inl 0, .none)).2] ∧ keyIs (prs[j]?.getD (.inl 0, .none)).1 u = true := fun j hj => by
    obtain ⟨b, u, e1, e2, e3⟩ := hpr j prs[j] (by simp [hj])
    exact ⟨b, u, e1, by simpa [hj] using e2, by simpa [hj] using e3⟩
  have key : ∃ pvs : List (Value × Value), pvs.length = prs.length ∧ ∀ (j : Nat) k v, pvs[j]? = some (k, v) → ∃ b q, ps[j]? = some b ∧ prs[j]? = some q ∧ IsTup s.heap b #[k, v] ∧ v = q.2 ∧ keyIs q.1 k = true := by
    refine ⟨(List.range prs.length).attach.map fun j => ((hps j.1 (List.mem_range.mp j.2)).choose_spec.choose, (prs[j.1]?.getD (.inl 0, .none)).2), by simp, fun j k v e => ?_⟩
    have hj : j < prs.length := by
      have := (List.getElem?_eq_some_iff.mp e).1
      simpa using this
    obtain ⟨h1, h2, h3⟩ := (hps j hj).choose_spec.choose_spec
    have e' : ((hps j hj).choose_spec.choose, (prs[j]?.getD (.inl 0, .none)).2) = (k, v) := by simpa [hj] using e
    cases e'
    exact ⟨_, prs[j], h1, by simp [hj], h2, by simp [hj], by simpa [hj] using h3⟩
  obtain ⟨pvs, hpl, hpv⟩ := key
  refine PySem.call_dict_pairs (knd := mixKind X.prog X.w) (kvs := prs) (PySem.PairArg.tuple (prog := X.prog) (w := X.w) a (ps.map Value.ref).toArray (fun j => ps[j]?.getD 0) pvs) (I.ok.hd hcalm) ⟨⟨ob, n, ho, hc, hob, hd⟩, by simp [hpl, hl], fun j k v e => ?_⟩ ⟨by rw [hpl], fun i k v e => ?_⟩ (by rw [hpl, hl]; exact hz) fun h' tk hd' k => ?_
  · obtain ⟨b, q', e1, e2, e3, _⟩ := hpv j k v e
    exact ⟨by simp [e1], .inl (by have e4 : s.heap.IsTuple b #[k, v] := e3; simpa [e1] using e4)⟩
  · obtain ⟨b, q', e1, e2, e3, e4, e5⟩ := hpv i k v e
    subst e4
    exact ⟨q'.1, e2, e5⟩
  · have hm : (s.heap.objs.size == sysModules) = false := beq_eq_false_iff_ne.mpr (Nat.ne_of_gt I.big)
    have hlen : (mergeK [] kvs).length ≤ sizeLine := by
      refine Nat.le_trans (length_mergeK kvs []) ?_
      rw [List.length_nil, Nat.zero_add, rel.length, hl]
      exact hz
    exact ⟨.ref s.heap.objs.size, upd H s.heap.objs.size (.dK (mergeK [] kvs)), I.laid (t' := tk) (fun b o e => k b o (by simp) e) (Nat.le_refl _) ⟨hlen, hm, merged [] prs, KV.merge rel .nil, hd'⟩, rfl, q _ (I.hok.fresh (Nat.le_refl _))⟩
/-- sorted(xs) of a list of data -/
def rSortP (K : PySem.W.Frag) : List V → Hp → VK → Prop := fun xs H Q => ∃ (p : Addr) (ys : List V) (ds : List PyData), xs = [.ref p] ∧ SqL K H p ys ∧ DpAll K H ys ds ∧ PySem.W.AllAlike ds ∧ PySem.W.Sortable ds ∧ (∀ d ∈ ds, d.depth ≤ 8) ∧
  ∀ q, H q = none → Q (.ref q) (upd H q (.lst (((ys.zip ds).mergeSort (PySem.W.dataLe false Prod.snd)).map Prod.fst)))
theorem dpAll_len {K : PySem.W.Frag} {H : Hp} : ∀ {ys : List V} {ds : List PyData}, DpAll K H ys ds → ys.length = ds.length
  | _, _, .nil => rfl
  | _, _, .cons _ t => congrArg (· + 1) (dpAll_len t)
theorem each_dp {pins : List (Addr × Obj)} {σ : L2.St} {H : Hp} {s : Shared} (I : Inv X pins σ H s) : ∀ {ys : List V} {ds : List PyData} {us : List Value}, DpAll X.K H ys ds → Vals ys us →
    PySem.W.EachIs (fun (u : Value) (b : V × PyData) => RelV b.1 u) us (ys.zip ds) ∧ PySem.W.EachIs (fun (u : Value) (b : V × PyData) => ∃ as, Reads s.heap u b.2 as) us (ys.zip ds)
  | _, _, _, .nil, r => by
    cases r
    exact ⟨.nil, .nil⟩
  | _, _, _, .cons h t, r => by
    cases r with
    | cons r rr =>
      obtain ⟨a, b⟩ := each_dp I t rr
      exact ⟨.cons r a, .cons (Dp.reads I _ _ _ h r) b⟩
theorem vals_each : ∀ {us : List Value} {bs : List (V × PyData)}, PySem.W.EachIs (fun (u : Value) (b : V × PyData) => RelV b.1 u) us bs → Vals (bs.map Prod.fst) us
  | _, _, .nil => .nil
  | _, _, .cons h t => .cons h (vals_each t)
theorem cr_sortP (hu : X.A.units + 64 < cLine) : CallR X (.builtin "sorted") (rSortP X.K) := by
  intro pins s σ H xs us Q I r h
  obtain ⟨p, ys, ds, rfl, hs, hd, hal, hso, hdep, q⟩ := h
  rw [Vals.ref1 r]
  obtain ⟨its, rv, hl, hz⟩ := I.list hs
  obtain ⟨e1, e2⟩ := each_dp I hd rv
  have hlen := dpAll_len hd
  have hmap : (ys.zip ds).map Prod.snd = ds := List.map_snd_zip (by omega)
  refine PySem.W.sorted_data hl.isList e1 e2 (by rw [hmap]; exact hal) (by rw [hmap]; exact hso) (by rw [List.length_zip]; omega) (fun b hb => ?_) fun out ho e => ?_
  · have h1 := hdep b.2 (List.of_mem_zip hb).2
    omega
  · obtain ⟨ep, he'⟩ := PyProof.Rows.sortedAll_at s.heap its out.toArray
    refine ⟨.ref _, upd H (s.heap.objs.size + 1) (.lst (((ys.zip ds).mergeSort (PySem.W.dataLe false Prod.snd)).map Prod.fst)), I.laid (t' := s.toks) (fun _ _ => PyProof.Rows.sortedAll_old) (Nat.le_succ _) ⟨?_, out, ep, vals_each e, he'⟩, rfl, q _ (I.hok.fresh (Nat.le_succ _))⟩
    rw [List.length_map, List.length_mergeSort, List.length_zip]
    omega
end
section
variable {P : Program} {w : World} {K : PySem.W.Frag} {E : XK} {F F' H H' : Hp} {σ : L2.St} {Γ Γ' : Gm} {L L' : Sto} {ex : Ex} {Φ Φ' : D → Sto → Prop} {Q : VK} {ta tb te tx : TE} {d d' : D} {i j : Int} {A : Pst} {tr tk : TA} {x y z : D}
theorem wr_eqNil {ds : List D} (hx : x = .lst ds ∨ ∃ p f, x = .ref p ∧ At p (.lst ds) L f) (hy : y = .lst [] ∨ ∃ p f, y = .ref p ∧ At p (.lst []) L f) (q : Φ (.bl ds.isEmpty) L) : WR P w K (rEqNil K) x y L Φ := fun F H vx vy Q r1 r2 S k => by
  obtain ⟨a, xs, rfl, h1, ra⟩ := lst_val S r1 hx
  obtain ⟨b, ys, rfl, h2, rb⟩ := lst_val S r2 hy
  cases rb
  refine ⟨a, b, xs, rfl, rfl, SqL.of h1, SqL.of h2, ?_⟩
  have e : xs.isEmpty = ds.isEmpty := by cases ra <;> rfl
  rw [e]
  exact k.here S (.bl _) q
theorem wc_tupE {ds : List D} (hx : x = .lst ds ∨ ∃ p f, x = .ref p ∧ At p (.lst ds) L f) (q : Φ (.etup ds) L) : WC P w K (rTupE K) [x] L Φ := fun F H vs Q r S k => by
  obtain ⟨v, rfl, r1⟩ := rsa1 r
  obtain ⟨a, xs, rfl, h1, ra⟩ := lst_val S r1 hx
  refine ⟨a, xs, rfl, SqL.of h1, fun l ob ho hl => ?_⟩
  obtain ⟨S2, e2⟩ := S.ice (o := .frz ob (.tup xs)) hl
  exact k _ _ _ _ L e2 S2 (.etup upd_same ho (ra.mono e2)) q
/-- the pairs' data -/
def pairD (kv : Key × D) : D := .tup [kD kv.1, kv.2]
theorem pairs_rs (S : Spl P w K F L H) : ∀ {kvs : List (Key × D)} {xs : List V}, RsA K F xs (kvs.map pairD) → ∃ (ps : List Addr) (kw : List (Key × V)), xs = ps.map V.ref ∧ Paired (fun p kv => SqT K H p [kV kv.1, kv.2]) ps kw ∧ RK K F kw kvs
  | [], _, .nil => ⟨[], [], rfl, .nil, .nil⟩
  | kv :: kvs, _, .cons h t => by
    obtain ⟨ps, kw, rfl, h1, h2⟩ := pairs_rs S t
    obtain ⟨a, xs, rfl, hs, ra⟩ := Rs.tup_inv (ds := [kD kv.1, kv.2]) h
    obtain ⟨v, u, rfl, g1, g2⟩ := rsa2 ra
    have e := kD_inv g1
    subst e
    exact ⟨a :: ps, (kv.1, u) :: kw, rfl, .cons (Same.sqT S.same hs) h1, .cons ⟨rfl, g2⟩ h2⟩
def mergeKD (kvs more : List (Key × D)) : List (Key × D) := more.foldl (fun acc kv => putKD acc kv.1 kv.2) kvs
theorem rk_merge : ∀ {more : List (Key × V)} {moreD : List (Key × D)} {kw : List (Key × V)} {kvs : List (Key × D)}, RK K F more moreD → RK K F kw kvs → RK K F (mergeK kw more) (mergeKD kvs moreD)
  | _, _, _, _, .nil, h => h
  | (a, v) :: more, (b, e) :: moreD, _, _, .cons ⟨h1, h2⟩ t, h => by
    dsimp only at h1 h2
    subst h1
    exact rk_merge (more := more) (moreD := moreD) t (rk_put h2 h)
theorem wc_dictT {kvs : List (Key × D)} (q : ∀ p, Φ (.ref p) ((p, .dK (mergeKD [] kvs)) :: L)) : WC P w K (rDictT K) [.etup (kvs.map pairD)] L Φ := fun F H vs Q r S k => by
  obtain ⟨v, rfl, r1⟩ := rsa1 r
  obtain ⟨a, ob, xs, rfl, h1, ho, ra⟩ : ∃ a ob xs, v = .ref a ∧ F a = some (.frz ob (.tup xs)) ∧ ob.dict = .none ∧ RsA K F xs (kvs.map pairD) := by
    cases r1 with
    | etup h1 ho ra => exact ⟨_, _, _, rfl, h1, ho, ra⟩
  obtain ⟨ps, kw, rfl, hp, rk⟩ := pairs_rs S ra
  exact ⟨a, ob, ps, kw, rfl, S.same _ _ h1, ho, hp, fun p hp' => k _ _ F _ _ (Same.refl F) (S.new (c := .dK (mergeKD [] kvs)) hp' ⟨_, rfl, rk_merge rk .nil⟩) (.ref p) (q p)⟩
/-! sorted data -/
def dle (a b : D) : Bool := PySem.W.dataLe false D.py a b
theorem pys_map : ∀ ds : List D, D.pys ds = ds.map D.py
  | [] => by unfold D.pys; rfl
  | d :: ds => by unfold D.pys; rw [pys_map ds]; rfl
theorem each_rs : ∀ {ys : List V} {ds : List D}, RsA K F ys ds → PySem.W.EachIs (fun (p : V × PyData) (d : D) => Rs K F p.1 d ∧ p.2 = d.py) (ys.zip (ds.map D.py)) ds
  | _, _, .nil => .nil
  | _, _, .cons h t => .cons ⟨h, rfl⟩ (each_rs t)
theorem rsa_each : ∀ {bs : List (V × PyData)} {ds : List D}, PySem.W.EachIs (fun (p : V × PyData) (d : D) => Rs K F p.1 d ∧ p.2 = d.py) bs ds → RsA K F (bs.map Prod.fst) ds
  | _, _, .nil => .nil
  | _, _, .cons h t => .cons h.1 (rsa_each t)
theorem each_snd : ∀ {bs : List (V × PyData)} {ds : List D}, PySem.W.EachIs (fun (p : V × PyData) (d : D) => Rs K F p.1 d ∧ p.2 = d.py) bs ds → ∀ p ∈ bs.zip ds, p.1.2 = p.2.py
  | _, _, .nil, p, hp => by simp at hp
  | _, _, .cons h t, p, hp => by
    rw [List.zip_cons_cons, List.mem_cons] at hp
    rcases hp with rfl | hp
    · exact h.2
    · exact each_snd t p hp
theorem wc_sortP {ds : List D} (hx : x = .lst ds ∨ ∃ p f, x = .ref p ∧ At p (.lst ds) L f) (hp : D.pures ds = true) (h1 : PySem.W.AllAlike (ds.map D.py)) (h2 : PySem.W.Sortable (ds.map D.py)) (h3 : ∀ d ∈ ds, d.py.depth ≤ 8) (q : Φ (.lst (ds.mergeSort dle)) L) : WC P w K (rSortP K) [x] L Φ := fun F H vs Q r S k => by
  obtain ⟨v, rfl, r1⟩ := rsa1 r
  obtain ⟨a, xs, rfl, hs, ra⟩ := lst_val S r1 hx
  have hd := ra.dp S.same hp
  rw [pys_map] at hd
  refine ⟨a, xs, _, rfl, SqL.of hs, hd, h1, h2, fun d hd => ?_, fun l hl => ?_⟩
  · obtain ⟨e, he, rfl⟩ := List.mem_map.mp hd
    exact h3 e he
  · have em := each_rs ra
    have es := PySem.W.sort_each (r := PySem.W.dataLe false Prod.snd) (s := dle) em fun p hp' p2 hp2 => by
      unfold dle
      rw [PySem.W.dataLe_eq, PySem.W.dataLe_eq]
      dsimp only
      rw [each_snd em p hp', each_snd em p2 hp2]
    obtain ⟨S2, e2⟩ := S.ice (o := .lst (((xs.zip (ds.map D.py)).mergeSort (PySem.W.dataLe false Prod.snd)).map Prod.fst)) hl
    exact k _ _ _ _ L e2 S2 (.lst upd_same ((rsa_each es).mono e2)) q
/-- sorted(d), texts -/
abbrev rSortD : List V → Hp → VK → Prop := fun xs H Q => ∃ (a : Addr) (kvs : List (Key × V)) (ks : List Str), xs = [.ref a] ∧ Rd H a (.dK kvs) ∧ kvs.map (·.1) = ks.map Sum.inr ∧ ks.length < 64 ∧
    ∀ ys p, ys.Perm ks → sortedS ys = true → H p = none → Q (.ref p) (upd H p (.lst (ys.map V.str)))
theorem rk_keys : ∀ {kw : List (Key × V)} {kvs : List (Key × D)}, RK K F kw kvs → kw.map (·.1) = kvs.map (·.1)
  | _, _, .nil => rfl
  | _, _, .cons h t => by rw [List.map_cons, List.map_cons, h.1, rk_keys t]
theorem wc_sortD {p : Addr} {kvs : List (Key × D)} {f : Co → Sto} {ks : List Str} (ht : At p (.dK kvs) L f) (hk : kvs.map (·.1) = ks.map Sum.inr) (hl : ks.length < 64) (q : ∀ ys : List Str, ys.Perm ks → sortedS ys = true → Φ (.lst (ys.map D.str)) L) : WC P w K rSortD [.ref p] L Φ := fun F H vs Q r S k => by
  obtain ⟨v, rfl, r1⟩ := rsa1 r
  obtain ⟨np, o, ho, kw, rfl, rk⟩ := S.look ht
  refine ⟨p, kw, ks, by rw [r1.ref_inv], .inl ho, by rw [rk_keys rk]; exact hk, hl, fun ys l hp hs hn => ?_⟩
  obtain ⟨S2, e2⟩ := S.ice (o := .lst (ys.map V.str)) hn
  exact k _ _ _ _ L e2 S2 (.lst upd_same (RsA.strs ys)) (q ys hp hs)
end
end Cl
set_option Elab.async false
set_option linter.all false
set_option maxRecDepth 100000
set_option maxHeartbeats 4000000
/-! The head's facts by names; calls of the text's own defs. -/
namespace Cl
open PySem PySem.Spec PyProof.Rows L2
/-- what the head says of the written part -/
structure Tx (K : PySem.W.Frag) (mg : Str → Option Value) : Prop where
  says : He.SaysD fas fns K
  exs : ex K = true
  ns : ∃ h : Heap, K.In h ∧ h.Ns mainGlobals mg
section
variable {P : Program} {w : World} {K : PySem.W.Frag} {mg : Str → Option Value} {base : Heap}
theorem Tx.glo (T : Tx K mg) (i : Nat) {x : Str} (h : fas[i]? = some (.glo x) := by rfl) : mg x = some (.ref (He.ga K x)) := let ⟨_, X, G⟩ := T.ns; He.glo_ok X G (T.says.fact i h)
theorem Tx.free (T : Tx K mg) (i : Nat) {x : Str} (h : fas[i]? = some (.free x) := by rfl) : mg x = none := let ⟨_, X, G⟩ := T.ns; He.free_ok X G (T.says.fact i h)
theorem Tx.int (T : Tx K mg) (i : Nat) {x : Str} {n : Int} (h : fas[i]? = some (.int x n) := by rfl) : ∃ t, mg x = some (.int n t) := let ⟨_, X, G⟩ := T.ns; He.int_ok X G (T.says.fact i h)
theorem Tx.str (T : Tx K mg) (i : Nat) {x z : Str} (h : fas[i]? = some (.str x z) := by rfl) : ∃ t, mg x = some (.str z t) := let ⟨_, X, G⟩ := T.ns; He.str_ok X G (T.says.fact i h)
theorem g_CoinError (T : Tx K mg) : mg "CoinError" = some (.ref (He.ga K "CoinError")) := T.glo 0
theorem g_NoName (T : Tx K mg) : mg "NoName" = some (.ref (He.ga K "NoName")) := T.glo 1
theorem g_NoSecret (T : Tx K mg) : mg "NoSecret" = some (.ref (He.ga K "NoSecret")) := T.glo 2
theorem g_NoNumber (T : Tx K mg) : mg "NoNumber" = some (.ref (He.ga K "NoNumber")) := T.glo 3
theorem g_NoCoins (T : Tx K mg) : mg "NoCoins" = some (.ref (He.ga K "NoCoins")) := T.glo 4
theorem g_NoState (T : Tx K mg) : mg "NoState" = some (.ref (He.ga K "NoState")) := T.glo 5
theorem g_NoPaper (T : Tx K mg) : mg "NoPaper" = some (.ref (He.ga K "NoPaper")) := T.glo 6
theorem g_NoHand (T : Tx K mg) : mg "NoHand" = some (.ref (He.ga K "NoHand")) := T.glo 7
theorem g_NoLane (T : Tx K mg) : mg "NoLane" = some (.ref (He.ga K "NoLane")) := T.glo 8
theorem g_NotSigned (T : Tx K mg) : mg "NotSigned" = some (.ref (He.ga K "NotSigned")) := T.glo 9
theorem g_Settled (T : Tx K mg) : mg "Settled" = some (.ref (He.ga K "Settled")) := T.glo 10
theorem g_Old (T : Tx K mg) : mg "Old" = some (.ref (He.ga K "Old")) := T.glo 11
theorem g_is_whole (T : Tx K mg) : mg "is_whole" = some (.ref (He.ga K "is_whole")) := T.glo 12
theorem g_is_count_seals (T : Tx K mg) : mg "is_count_seals" = some (.ref (He.ga K "is_count_seals")) := T.glo 13
theorem g_is_amount (T : Tx K mg) : mg "is_amount" = some (.ref (He.ga K "is_amount")) := T.glo 14
theorem g_is_name (T : Tx K mg) : mg "is_name" = some (.ref (He.ga K "is_name")) := T.glo 15
theorem g_seal_of (T : Tx K mg) : mg "seal_of" = some (.ref (He.ga K "seal_of")) := T.glo 16
theorem g_is_side (T : Tx K mg) : mg "is_side" = some (.ref (He.ga K "is_side")) := T.glo 17
theorem g_is_lock (T : Tx K mg) : mg "is_lock" = some (.ref (He.ga K "is_lock")) := T.glo 18
theorem g_is_state (T : Tx K mg) : mg "is_state" = some (.ref (He.ga K "is_state")) := T.glo 19
theorem g_need_state (T : Tx K mg) : mg "need_state" = some (.ref (He.ga K "need_state")) := T.glo 20
theorem g_worth (T : Tx K mg) : mg "worth" = some (.ref (He.ga K "worth")) := T.glo 21
theorem g_first_state (T : Tx K mg) : mg "first_state" = some (.ref (He.ga K "first_state")) := T.glo 22
theorem g_is_count_signs (T : Tx K mg) : mg "is_count_signs" = some (.ref (He.ga K "is_count_signs")) := T.glo 23
theorem g_is_opening (T : Tx K mg) : mg "is_opening" = some (.ref (He.ga K "is_opening")) := T.glo 24
theorem g_look_name (T : Tx K mg) : mg "look_name" = some (.ref (He.ga K "look_name")) := T.glo 25
theorem g_look_paper (T : Tx K mg) : mg "look_paper" = some (.ref (He.ga K "look_paper")) := T.glo 26
theorem g_Signs (T : Tx K mg) : mg "Signs" = some (.ref (He.ga K "Signs")) := T.glo 27
theorem g_look_purses (T : Tx K mg) : mg "look_purses" = some (.ref (He.ga K "look_purses")) := T.glo 28
theorem g_Lane (T : Tx K mg) : mg "Lane" = some (.ref (He.ga K "Lane")) := T.glo 29
theorem g_Court (T : Tx K mg) : mg "Court" = some (.ref (He.ga K "Court")) := T.glo 30
theorem g_law_well (T : Tx K mg) : mg "_law_well" = some (.ref (He.ga K "_law_well")) := T.glo 31
theorem g_law_take (T : Tx K mg) : mg "_law_take" = some (.ref (He.ga K "_law_take")) := T.glo 32
theorem g_law_name (T : Tx K mg) : mg "_law_name" = some (.ref (He.ga K "_law_name")) := T.glo 33
theorem g_law_folk (T : Tx K mg) : mg "_law_folk" = some (.ref (He.ga K "_law_folk")) := T.glo 34
theorem g_law_sum (T : Tx K mg) : mg "_law_sum" = some (.ref (He.ga K "_law_sum")) := T.glo 35
theorem g_law_parts (T : Tx K mg) : mg "_law_parts" = some (.ref (He.ga K "_law_parts")) := T.glo 36
theorem g_law_locks (T : Tx K mg) : mg "_law_locks" = some (.ref (He.ga K "_law_locks")) := T.glo 37
theorem g_law_state (T : Tx K mg) : mg "_law_state" = some (.ref (He.ga K "_law_state")) := T.glo 38
theorem g_law_whole (T : Tx K mg) : mg "_law_whole" = some (.ref (He.ga K "_law_whole")) := T.glo 39
theorem g_law_bags (T : Tx K mg) : mg "_law_bags" = some (.ref (He.ga K "_law_bags")) := T.glo 40
theorem g_law_book (T : Tx K mg) : mg "_law_book" = some (.ref (He.ga K "_law_book")) := T.glo 41
theorem g_law_is_coins (T : Tx K mg) : mg "_law_is_coins" = some (.ref (He.ga K "_law_is_coins")) := T.glo 42
theorem g_law_open_due (T : Tx K mg) : mg "_law_open_due" = some (.ref (He.ga K "_law_open_due")) := T.glo 43
theorem g_law_tell_due (T : Tx K mg) : mg "_law_tell_due" = some (.ref (He.ga K "_law_tell_due")) := T.glo 44
theorem g_law_turned (T : Tx K mg) : mg "_law_turned" = some (.ref (He.ga K "_law_turned")) := T.glo 45
theorem g_law_done (T : Tx K mg) : mg "_law_done" = some (.ref (He.ga K "_law_done")) := T.glo 46
theorem g_law_kind (T : Tx K mg) : mg "_law_kind" = some (.ref (He.ga K "_law_kind")) := T.glo 47
theorem g_law_asked (T : Tx K mg) : mg "_law_asked" = some (.ref (He.ga K "_law_asked")) := T.glo 48
theorem g_law_same (T : Tx K mg) : mg "_law_same" = some (.ref (He.ga K "_law_same")) := T.glo 49
theorem g_law_secrets (T : Tx K mg) : mg "_law_secrets" = some (.ref (He.ga K "_law_secrets")) := T.glo 50
theorem g_law_looked (T : Tx K mg) : mg "_law_looked" = some (.ref (He.ga K "_law_looked")) := T.glo 51
theorem g_law_signing (T : Tx K mg) : mg "_law_signing" = some (.ref (He.ga K "_law_signing")) := T.glo 52
theorem g_law_opening (T : Tx K mg) : mg "_law_opening" = some (.ref (He.ga K "_law_opening")) := T.glo 53
theorem g_law_telling (T : Tx K mg) : mg "_law_telling" = some (.ref (He.ga K "_law_telling")) := T.glo 54
theorem g_law_deed (T : Tx K mg) : mg "_law_deed" = some (.ref (He.ga K "_law_deed")) := T.glo 55
theorem g_law (T : Tx K mg) : mg "law" = some (.ref (He.ga K "law")) := T.glo 56
theorem i_LONGEST (T : Tx K mg) : ∃ t, mg "LONGEST" = some (.int 8 t) := T.int 57
theorem i_FIRST_SEAL (T : Tx K mg) : ∃ t, mg "FIRST_SEAL" = some (.int 17 t) := T.int 58
theorem i_STRETCH (T : Tx K mg) : ∃ t, mg "STRETCH" = some (.int 3 t) := T.int 59
theorem i_MOST_LOCKS (T : Tx K mg) : ∃ t, mg "MOST_LOCKS" = some (.int 30 t) := T.int 60
theorem i_MOST_WAIT (T : Tx K mg) : ∃ t, mg "MOST_WAIT" = some (.int 100 t) := T.int 61
theorem t_LETTERS (T : Tx K mg) : ∃ t, mg "LETTERS" = some (.str "abcdefghijklmnopqrstuvwxyz" t) := T.str 62
theorem t_LEFT (T : Tx K mg) : ∃ t, mg "LEFT" = some (.str "left" t) := T.str 63
theorem t_RIGHT (T : Tx K mg) : ∃ t, mg "RIGHT" = some (.str "right" t) := T.str 64
theorem f_isinstance (T : Tx K mg) : mg "isinstance" = none := T.free 65
theorem f_int (T : Tx K mg) : mg "int" = none := T.free 66
theorem f_bool (T : Tx K mg) : mg "bool" = none := T.free 67
theorem f_str (T : Tx K mg) : mg "str" = none := T.free 68
theorem f_tuple (T : Tx K mg) : mg "tuple" = none := T.free 69
theorem f_list (T : Tx K mg) : mg "list" = none := T.free 70
theorem f_len (T : Tx K mg) : mg "len" = none := T.free 71
theorem f_all (T : Tx K mg) : mg "all" = none := T.free 72
theorem f_sum (T : Tx K mg) : mg "sum" = none := T.free 73
theorem f_enumerate (T : Tx K mg) : mg "enumerate" = none := T.free 74
theorem f_sorted (T : Tx K mg) : mg "sorted" = none := T.free 75
theorem f_zip (T : Tx K mg) : mg "zip" = none := T.free 76
theorem f_range (T : Tx K mg) : mg "range" = none := T.free 77
theorem f_abs (T : Tx K mg) : mg "abs" = none := T.free 78
theorem f_set (T : Tx K mg) : mg "set" = none := T.free 79
theorem f_max (T : Tx K mg) : mg "max" = none := T.free 80
theorem f_min (T : Tx K mg) : mg "min" = none := T.free 81
theorem f_dict (T : Tx K mg) : mg "dict" = none := T.free 82
theorem f_ValueError (T : Tx K mg) : mg "ValueError" = none := T.free 83
theorem c_Signs (T : Tx K mg) : Cls K (He.ga K "Signs") := He.cls_ok (T.says.fact 84 rfl)
theorem k_Signs (T : Tx K mg) : Mk K (He.ga K "Signs") (He.ma K (He.ga K "Signs") "__init__") := He.mkr_ok (T.says.fact 85 rfl)
theorem c_Lane (T : Tx K mg) : Cls K (He.ga K "Lane") := He.cls_ok (T.says.fact 86 rfl)
theorem k_Lane (T : Tx K mg) : Mk K (He.ga K "Lane") (He.ma K (He.ga K "Lane") "__init__") := He.mkr_ok (T.says.fact 87 rfl)
theorem c_Court (T : Tx K mg) : Cls K (He.ga K "Court") := He.cls_ok (T.says.fact 88 rfl)
theorem k_Court (T : Tx K mg) : Mk K (He.ga K "Court") (He.ma K (He.ga K "Court") "__init__") := He.mkr_ok (T.says.fact 89 rfl)
theorem m_Signs_sign (T : Tx K mg) : Meth K (He.ga K "Signs") "sign" (He.ma K (He.ga K "Signs") "sign") := He.meth_ok (T.says.fact 90 rfl)
theorem m_Signs_signed (T : Tx K mg) : Meth K (He.ga K "Signs") "signed" (He.ma K (He.ga K "Signs") "signed") := He.meth_ok (T.says.fact 91 rfl)
theorem n_Signs_by_hand (T : Tx K mg) : NoAttr K (He.ga K "Signs") "by_hand" := He.noat_ok (T.says.fact 92 rfl)
theorem m_Lane_gets (T : Tx K mg) : Meth K (He.ga K "Lane") "gets" (He.ma K (He.ga K "Lane") "gets") := He.meth_ok (T.says.fact 93 rfl)
theorem n_Lane_both (T : Tx K mg) : NoAttr K (He.ga K "Lane") "both" := He.noat_ok (T.says.fact 94 rfl)
theorem n_Lane_first (T : Tx K mg) : NoAttr K (He.ga K "Lane") "first" := He.noat_ok (T.says.fact 95 rfl)
theorem n_Lane_standing (T : Tx K mg) : NoAttr K (He.ga K "Lane") "standing" := He.noat_ok (T.says.fact 96 rfl)
theorem n_Lane_mood (T : Tx K mg) : NoAttr K (He.ga K "Lane") "mood" := He.noat_ok (T.says.fact 97 rfl)
theorem n_Lane_ending (T : Tx K mg) : NoAttr K (He.ga K "Lane") "ending" := He.noat_ok (T.says.fact 98 rfl)
theorem m_Court_lane (T : Tx K mg) : Meth K (He.ga K "Court") "lane" (He.ma K (He.ga K "Court") "lane") := He.meth_ok (T.says.fact 99 rfl)
theorem m_Court_look_coins (T : Tx K mg) : Meth K (He.ga K "Court") "look_coins" (He.ma K (He.ga K "Court") "look_coins") := He.meth_ok (T.says.fact 100 rfl)
theorem m_Court_road (T : Tx K mg) : Meth K (He.ga K "Court") "road" (He.ma K (He.ga K "Court") "road") := He.meth_ok (T.says.fact 101 rfl)
theorem m_Court_tell (T : Tx K mg) : Meth K (He.ga K "Court") "tell" (He.ma K (He.ga K "Court") "tell") := He.meth_ok (T.says.fact 102 rfl)
theorem m_Court_show (T : Tx K mg) : Meth K (He.ga K "Court") "show" (He.ma K (He.ga K "Court") "show") := He.meth_ok (T.says.fact 103 rfl)
theorem m_Court_settled_now (T : Tx K mg) : Meth K (He.ga K "Court") "settled_now" (He.ma K (He.ga K "Court") "settled_now") := He.meth_ok (T.says.fact 104 rfl)
theorem m_Court_decided_now (T : Tx K mg) : Meth K (He.ga K "Court") "decided_now" (He.ma K (He.ga K "Court") "decided_now") := He.meth_ok (T.says.fact 105 rfl)
theorem m_Court_turn (T : Tx K mg) : Meth K (He.ga K "Court") "turn" (He.ma K (He.ga K "Court") "turn") := He.meth_ok (T.says.fact 106 rfl)
theorem m_Court_now (T : Tx K mg) : Meth K (He.ga K "Court") "now" (He.ma K (He.ga K "Court") "now") := He.meth_ok (T.says.fact 107 rfl)
theorem m_Court_patience (T : Tx K mg) : Meth K (He.ga K "Court") "patience" (He.ma K (He.ga K "Court") "patience") := He.meth_ok (T.says.fact 108 rfl)
theorem m_Court_purse (T : Tx K mg) : Meth K (He.ga K "Court") "purse" (He.ma K (He.ga K "Court") "purse") := He.meth_ok (T.says.fact 109 rfl)
theorem m_Court_hands (T : Tx K mg) : Meth K (He.ga K "Court") "hands" (He.ma K (He.ga K "Court") "hands") := He.meth_ok (T.says.fact 110 rfl)
theorem m_Court_lanes (T : Tx K mg) : Meth K (He.ga K "Court") "lanes" (He.ma K (He.ga K "Court") "lanes") := He.meth_ok (T.says.fact 111 rfl)
theorem m_Court_stand (T : Tx K mg) : Meth K (He.ga K "Court") "stand" (He.ma K (He.ga K "Court") "stand") := He.meth_ok (T.says.fact 112 rfl)
theorem m_Court_seen_of (T : Tx K mg) : Meth K (He.ga K "Court") "seen_of" (He.ma K (He.ga K "Court") "seen_of") := He.meth_ok (T.says.fact 113 rfl)
theorem m_Court_shown (T : Tx K mg) : Meth K (He.ga K "Court") "shown" (He.ma K (He.ga K "Court") "shown") := He.meth_ok (T.says.fact 114 rfl)
theorem m_Court_secret (T : Tx K mg) : Meth K (He.ga K "Court") "secret" (He.ma K (He.ga K "Court") "secret") := He.meth_ok (T.says.fact 115 rfl)
theorem m_Court_held (T : Tx K mg) : Meth K (He.ga K "Court") "held" (He.ma K (He.ga K "Court") "held") := He.meth_ok (T.says.fact 116 rfl)
theorem m_Court_rows (T : Tx K mg) : Meth K (He.ga K "Court") "rows" (He.ma K (He.ga K "Court") "rows") := He.meth_ok (T.says.fact 117 rfl)
theorem n_Court_book (T : Tx K mg) : NoAttr K (He.ga K "Court") "book" := He.noat_ok (T.says.fact 118 rfl)
theorem n_Court_long (T : Tx K mg) : NoAttr K (He.ga K "Court") "long" := He.noat_ok (T.says.fact 119 rfl)
theorem n_Court_clock (T : Tx K mg) : NoAttr K (He.ga K "Court") "clock" := He.noat_ok (T.says.fact 120 rfl)
theorem n_Court_bags (T : Tx K mg) : NoAttr K (He.ga K "Court") "bags" := He.noat_ok (T.says.fact 121 rfl)
theorem n_Court_opened (T : Tx K mg) : NoAttr K (He.ga K "Court") "opened" := He.noat_ok (T.says.fact 122 rfl)
theorem n_Court_seen (T : Tx K mg) : NoAttr K (He.ga K "Court") "seen" := He.noat_ok (T.says.fact 123 rfl)
theorem n_Court_kept (T : Tx K mg) : NoAttr K (He.ga K "Court") "kept" := He.noat_ok (T.says.fact 124 rfl)
theorem n_Court_deeds (T : Tx K mg) : NoAttr K (He.ga K "Court") "deeds" := He.noat_ok (T.says.fact 125 rfl)
theorem x_CoinError (T : Tx K mg) : PySem.W.excIn K (He.ga K "CoinError") He.veBase "ValueError.__new__" = true ∧ PySem.W.keepIn K (.ref (He.ga K "CoinError")) = true ∧ PySem.W.subIn K (.ref (He.ga K "CoinError")) (.type "BaseException") = some true ∧ PySem.W.typeIn K (.ref (He.ga K "CoinError")) = some (.type "type") := He.exc_ok (T.says.fact 126 rfl)
theorem x_NoName (T : Tx K mg) : PySem.W.excIn K (He.ga K "NoName") He.veBase "ValueError.__new__" = true ∧ PySem.W.keepIn K (.ref (He.ga K "NoName")) = true ∧ PySem.W.subIn K (.ref (He.ga K "NoName")) (.type "BaseException") = some true ∧ PySem.W.typeIn K (.ref (He.ga K "NoName")) = some (.type "type") := He.exc_ok (T.says.fact 127 rfl)
theorem x_NoSecret (T : Tx K mg) : PySem.W.excIn K (He.ga K "NoSecret") He.veBase "ValueError.__new__" = true ∧ PySem.W.keepIn K (.ref (He.ga K "NoSecret")) = true ∧ PySem.W.subIn K (.ref (He.ga K "NoSecret")) (.type "BaseException") = some true ∧ PySem.W.typeIn K (.ref (He.ga K "NoSecret")) = some (.type "type") := He.exc_ok (T.says.fact 128 rfl)
theorem x_NoNumber (T : Tx K mg) : PySem.W.excIn K (He.ga K "NoNumber") He.veBase "ValueError.__new__" = true ∧ PySem.W.keepIn K (.ref (He.ga K "NoNumber")) = true ∧ PySem.W.subIn K (.ref (He.ga K "NoNumber")) (.type "BaseException") = some true ∧ PySem.W.typeIn K (.ref (He.ga K "NoNumber")) = some (.type "type") := He.exc_ok (T.says.fact 129 rfl)
theorem x_NoCoins (T : Tx K mg) : PySem.W.excIn K (He.ga K "NoCoins") He.veBase "ValueError.__new__" = true ∧ PySem.W.keepIn K (.ref (He.ga K "NoCoins")) = true ∧ PySem.W.subIn K (.ref (He.ga K "NoCoins")) (.type "BaseException") = some true ∧ PySem.W.typeIn K (.ref (He.ga K "NoCoins")) = some (.type "type") := He.exc_ok (T.says.fact 130 rfl)
theorem x_NoState (T : Tx K mg) : PySem.W.excIn K (He.ga K "NoState") He.veBase "ValueError.__new__" = true ∧ PySem.W.keepIn K (.ref (He.ga K "NoState")) = true ∧ PySem.W.subIn K (.ref (He.ga K "NoState")) (.type "BaseException") = some true ∧ PySem.W.typeIn K (.ref (He.ga K "NoState")) = some (.type "type") := He.exc_ok (T.says.fact 131 rfl)
theorem x_NoPaper (T : Tx K mg) : PySem.W.excIn K (He.ga K "NoPaper") He.veBase "ValueError.__new__" = true ∧ PySem.W.keepIn K (.ref (He.ga K "NoPaper")) = true ∧ PySem.W.subIn K (.ref (He.ga K "NoPaper")) (.type "BaseException") = some true ∧ PySem.W.typeIn K (.ref (He.ga K "NoPaper")) = some (.type "type") := He.exc_ok (T.says.fact 132 rfl)
theorem x_NoHand (T : Tx K mg) : PySem.W.excIn K (He.ga K "NoHand") He.veBase "ValueError.__new__" = true ∧ PySem.W.keepIn K (.ref (He.ga K "NoHand")) = true ∧ PySem.W.subIn K (.ref (He.ga K "NoHand")) (.type "BaseException") = some true ∧ PySem.W.typeIn K (.ref (He.ga K "NoHand")) = some (.type "type") := He.exc_ok (T.says.fact 133 rfl)
theorem x_NoLane (T : Tx K mg) : PySem.W.excIn K (He.ga K "NoLane") He.veBase "ValueError.__new__" = true ∧ PySem.W.keepIn K (.ref (He.ga K "NoLane")) = true ∧ PySem.W.subIn K (.ref (He.ga K "NoLane")) (.type "BaseException") = some true ∧ PySem.W.typeIn K (.ref (He.ga K "NoLane")) = some (.type "type") := He.exc_ok (T.says.fact 134 rfl)
theorem x_NotSigned (T : Tx K mg) : PySem.W.excIn K (He.ga K "NotSigned") He.veBase "ValueError.__new__" = true ∧ PySem.W.keepIn K (.ref (He.ga K "NotSigned")) = true ∧ PySem.W.subIn K (.ref (He.ga K "NotSigned")) (.type "BaseException") = some true ∧ PySem.W.typeIn K (.ref (He.ga K "NotSigned")) = some (.type "type") := He.exc_ok (T.says.fact 135 rfl)
theorem x_Settled (T : Tx K mg) : PySem.W.excIn K (He.ga K "Settled") He.veBase "ValueError.__new__" = true ∧ PySem.W.keepIn K (.ref (He.ga K "Settled")) = true ∧ PySem.W.subIn K (.ref (He.ga K "Settled")) (.type "BaseException") = some true ∧ PySem.W.typeIn K (.ref (He.ga K "Settled")) = some (.type "type") := He.exc_ok (T.says.fact 136 rfl)
theorem x_Old (T : Tx K mg) : PySem.W.excIn K (He.ga K "Old") He.veBase "ValueError.__new__" = true ∧ PySem.W.keepIn K (.ref (He.ga K "Old")) = true ∧ PySem.W.subIn K (.ref (He.ga K "Old")) (.type "BaseException") = some true ∧ PySem.W.typeIn K (.ref (He.ga K "Old")) = some (.type "type") := He.exc_ok (T.says.fact 137 rfl)
theorem xm_CoinError (T : Tx K mg) : PySem.W.exmOne K (.ref (He.ga K "CoinError")) (.ref (He.ga K "CoinError")) = some true := He.exm_ok (T.says.fact 138 rfl)
theorem xm_NoName (T : Tx K mg) : PySem.W.exmOne K (.ref (He.ga K "NoName")) (.ref (He.ga K "CoinError")) = some true := He.exm_ok (T.says.fact 139 rfl)
theorem xm_NoSecret (T : Tx K mg) : PySem.W.exmOne K (.ref (He.ga K "NoSecret")) (.ref (He.ga K "CoinError")) = some true := He.exm_ok (T.says.fact 140 rfl)
theorem xm_NoNumber (T : Tx K mg) : PySem.W.exmOne K (.ref (He.ga K "NoNumber")) (.ref (He.ga K "CoinError")) = some true := He.exm_ok (T.says.fact 141 rfl)
theorem xm_NoCoins (T : Tx K mg) : PySem.W.exmOne K (.ref (He.ga K "NoCoins")) (.ref (He.ga K "CoinError")) = some true := He.exm_ok (T.says.fact 142 rfl)
theorem xm_NoState (T : Tx K mg) : PySem.W.exmOne K (.ref (He.ga K "NoState")) (.ref (He.ga K "CoinError")) = some true := He.exm_ok (T.says.fact 143 rfl)
theorem xm_NoPaper (T : Tx K mg) : PySem.W.exmOne K (.ref (He.ga K "NoPaper")) (.ref (He.ga K "CoinError")) = some true := He.exm_ok (T.says.fact 144 rfl)
theorem xm_NoHand (T : Tx K mg) : PySem.W.exmOne K (.ref (He.ga K "NoHand")) (.ref (He.ga K "CoinError")) = some true := He.exm_ok (T.says.fact 145 rfl)
theorem xm_NoLane (T : Tx K mg) : PySem.W.exmOne K (.ref (He.ga K "NoLane")) (.ref (He.ga K "CoinError")) = some true := He.exm_ok (T.says.fact 146 rfl)
theorem xm_NotSigned (T : Tx K mg) : PySem.W.exmOne K (.ref (He.ga K "NotSigned")) (.ref (He.ga K "CoinError")) = some true := He.exm_ok (T.says.fact 147 rfl)
theorem xm_Settled (T : Tx K mg) : PySem.W.exmOne K (.ref (He.ga K "Settled")) (.ref (He.ga K "CoinError")) = some true := He.exm_ok (T.says.fact 148 rfl)
theorem xm_Old (T : Tx K mg) : PySem.W.exmOne K (.ref (He.ga K "Old")) (.ref (He.ga K "CoinError")) = some true := He.exm_ok (T.says.fact 149 rfl)
/-- a def of the text keeps its promise -/
def FOk (P : Program) (w : World) (K : PySem.W.Frag) (mg : Str → Option Value) (base : Heap) (k : Nat) (f : Addr) (ps : List Str) (A : ASp) : Prop :=
  ∃ fd, FnOk P w K mg base (L2.CX P w) k f fd ps (spOf P w K A) ∧ Binds K fd ps [] ∧ PySem.W.keepIn K (.ref f) = true
theorem fok_of {d : He.DefD} (T : Tx K mg) (i : Nat) {N ps : List Str} {k : Nat} {A : ASp} (hi : fns[i]? = some d) (hd : d.dfl = []) (hkw : d.kwd = []) (S : FnScope N ps d.scope) (len : ∀ ds L Φ ex, A ds L Φ ex → ds.length = ps.length)
    (hb : ∀ (kV doc pm : Value) (an : Option Addr) (cdv ct : Value) (us : List Value), us.length = ps.length → bindArgs (PySem.W.fnOf d.name d.qual d.params d.body d.scope .none kV doc pm an cdv ct) ⟨us, []⟩ = pure (ps.zip us))
    (body : ∀ (cdv : Value) (Ar : Around) (outer : List Env) (s : Shared) (H : Hp) (E : XK) (ds : List D) (L : Sto) (Φ : D → Sto → Prop) (ex : Ex), Room k (Ar.deeper (envOfC d.qual d.scope s.heap.objs.size (He.fAd K d.at_) cdv)) → A ds L Φ ex →
      ∃ t, PSs (cxOf (L2.CX P w) P w K mg base N d.qual d.scope (He.fAd K d.at_) cdv Ar outer s H E) d.body t ∧ WS P w K E t (startG N ds) L { nx := fun _ L' => Φ .non L', rt := Φ, ex := ex }) :
    FOk P w K mg base (k + 1) (He.fAd K d.at_) ps A := by
  obtain ⟨fd, F⟩ := T.says.def_ i hi
  have e1 : d.dvs K = [] := by unfold He.DefD.dvs; rw [hd]; rfl
  have e2 : d.kws K = [] := by unfold He.DefD.kws; rw [hkw]; rfl
  rw [e1, e2] at F
  refine ⟨fd, ?_, F.bindsN hb, F.kp⟩
  refine F.ok S (fun vs H Q E ⟨F0, ds, L, Φ, ex, r, _, a, _⟩ => by rw [r.length]; exact len _ _ _ _ a) fun cdv Ar outer s H vs Q E hr ⟨F0, ds, L, Φ, ex, r, S0, a, k1, lk⟩ => ?_
  obtain ⟨t, h1, h2⟩ := body cdv Ar outer s H E ds L Φ ex hr a
  exact ⟨t, h1, h2 _ F0 H _ (Sl.start r) S0 lk ⟨fun σ Γ F' H' L' e s sp q => k1 _ _ F' H' L' e sp .non q, k1, fun _ _ _ _ _ _ _ _ q => q.elim, fun _ _ _ _ _ _ _ _ q => q.elim⟩⟩
theorem FOk.mono {j k : Nat} {f : Addr} {ps : List Str} {A : ASp} (o : FOk P w K mg base j f ps A) (h : j ≤ k) : FOk P w K mg base k f ps A := let ⟨fd, F, b, kp⟩ := o; ⟨fd, F.mono h, b, kp⟩
end
/-! calls, fields, constants: phase 1 -/
section
variable {X : Cx} {C f : Addr} {ps : List Str} {B : ASp} {x m : Str} {p pos apos : Pos} {e o : Expr} {es : List Expr} {ta : TE} {t : TA} {j k : Nat} {E : XK}
/-- f(e, ..), nothing is let out -/
theorem pe_c (h : FOk X.prog X.w X.K X.mg X.base j f ps B) (hr : Room k X.A) (hg : Gl X x) (hm : X.mg x = some (.ref f)) (ha : PA X (e :: es) t) (hj : j ≤ k := by decide) (hdb : (x == ("__debug__" : Str)) = false := by decide)
    (he : starEach (e :: es) X.env = (false, eval e X.env) :: starEach es X.env := by rfl) (hpl : (backTo pos (starEach es X.env)).any (·.1) = false := by rfl) : PE X (.Call (.Name x p) (e :: es) [] pos) (tCall (spOf X.prog X.w X.K B) [] E0 t) := by
  obtain ⟨fd, F, b, kp⟩ := h
  exact pe_call F (hr.mono hj) hg hm kp b .nil passL ha hdb he hpl
/-- .. what it lets out leaves this def too -/
theorem pe_cx (tk : Takes X (fun c d _ H => E c d H)) (h : FOk X.prog X.w X.K X.mg X.base j f ps B) (hr : Room k X.A) (hg : Gl X x) (hm : X.mg x = some (.ref f)) (ha : PA X (e :: es) t) (hj : j ≤ k := by decide) (hdb : (x == ("__debug__" : Str)) = false := by decide)
    (he : starEach (e :: es) X.env = (false, eval e X.env) :: starEach es X.env := by rfl) (hpl : (backTo pos (starEach es X.env)).any (·.1) = false := by rfl) : PE X (.Call (.Name x p) (e :: es) [] pos) (tCall (spOf X.prog X.w X.K B) [] E t) := by
  obtain ⟨fd, F, b, kp⟩ := h
  exact pe_call F (hr.mono hj) hg hm kp b .nil (passes_call tk fun _ _ _ _ q => q) ha hdb he hpl
/-- o.m(e, ..) -/
theorem pe_m {pl : Sem Bool} (he : PE X o ta) (c : Cls X.K C) (hm : Meth X.K C m f) (h : FOk X.prog X.w X.K X.mg X.base j f ps B) (hr : Room k X.A) (ha : PA X (e :: es) t) (hj : j ≤ k := by decide)
    (hst : starEach (e :: es) X.env = (false, eval e X.env) :: starEach es X.env := by rfl) (hpl : (backTo pos (starEach es X.env)).any (·.1) = false := by rfl)
    (ht : eval (.Call (.Attribute o m apos) (e :: es) [] pos) X.env = (do
      let ov ← eval o X.env
      standAt apos.atName
      let (f, first) ← holding [ov] (getMethod ov m pl)
      callWith pos f first (backTo pos (starEach (e :: es) X.env)) (backToKw pos (keywordEach [] X.env))) := by rfl) :
    PE X (.Call (.Attribute o m apos) (e :: es) [] pos) (tMeth C m (spOf X.prog X.w X.K B) [] E0 ta t) := by
  obtain ⟨fd, F, b, kp⟩ := h
  exact pe_meth he c hm F (hr.mono hj) b .nil passL ha hst hpl ht
theorem pe_mx {pl : Sem Bool} (tk : Takes X (fun c d _ H => E c d H)) (he : PE X o ta) (c : Cls X.K C) (hm : Meth X.K C m f) (h : FOk X.prog X.w X.K X.mg X.base j f ps B) (hr : Room k X.A) (ha : PA X (e :: es) t) (hj : j ≤ k := by decide)
    (hst : starEach (e :: es) X.env = (false, eval e X.env) :: starEach es X.env := by rfl) (hpl : (backTo pos (starEach es X.env)).any (·.1) = false := by rfl)
    (ht : eval (.Call (.Attribute o m apos) (e :: es) [] pos) X.env = (do
      let ov ← eval o X.env
      standAt apos.atName
      let (f, first) ← holding [ov] (getMethod ov m pl)
      callWith pos f first (backTo pos (starEach (e :: es) X.env)) (backToKw pos (keywordEach [] X.env))) := by rfl) :
    PE X (.Call (.Attribute o m apos) (e :: es) [] pos) (tMeth C m (spOf X.prog X.w X.K B) [] E ta t) := by
  obtain ⟨fd, F, b, kp⟩ := h
  exact pe_meth he c hm F (hr.mono hj) b .nil (passes_call tk fun _ _ _ _ q => q) ha hst hpl ht
/-- o.m() -/
theorem pe_m0 {pl : Sem Bool} (he : PE X o ta) (c : Cls X.K C) (hm : Meth X.K C m f) (h : FOk X.prog X.w X.K X.mg X.base j f ps B) (hr : Room k X.A) (hj : j ≤ k := by decide)
    (ht : eval (.Call (.Attribute o m apos) [] [] pos) X.env = (do
      let ov ← eval o X.env
      standAt apos.atName
      let (f, first) ← holding [ov] (getMethod ov m pl)
      callWith pos f first (backTo pos (starEach [] X.env)) (backToKw pos (keywordEach [] X.env))) := by rfl) :
    PE X (.Call (.Attribute o m apos) [] [] pos) (tMeth C m (spOf X.prog X.w X.K B) [] E0 ta tNil) := by
  obtain ⟨fd, F, b, kp⟩ := h
  exact pe_meth0 he c hm F (hr.mono hj) b .nil passL ht
theorem pe_gint {n : Int} (hg : Gl X x) (h : ∃ t, X.mg x = some (.int n t)) (hd : (x == ("__debug__" : Str)) = false := by decide) : PE X (.Name x pos) (tC (.int n)) := let ⟨t, h⟩ := h; pe_glob hg h ⟨t, rfl⟩ hd
theorem pe_gstr {n : Str} (hg : Gl X x) (h : ∃ t, X.mg x = some (.str n t)) (hd : (x == ("__debug__" : Str)) = false := by decide) : PE X (.Name x pos) (tC (.str n)) := let ⟨t, h⟩ := h; pe_glob hg h ⟨t, rfl⟩ hd
theorem pe_gty {n : String} (hg : Gl X x) (hm : X.mg x = none) (hv : bootBuiltins x = some (.type n)) (hn : x ≠ "__name__" := by decide) (hd : (x == ("__debug__" : Str)) = false := by decide) : PE X (.Name x pos) (tC (.ty n)) := pe_bltn hg hm hv rfl hn hd
theorem pe_gcls {a : Addr} (hg : Gl X x) (hm : X.mg x = some (.ref a)) (hd : (x == ("__debug__" : Str)) = false := by decide) : PE X (.Name x pos) (tC (.ref a)) := pe_glob hg hm rfl hd
end
end Cl
set_option Elab.async false
set_option linter.all false
set_option maxRecDepth 100000
set_option maxHeartbeats 4000000
/-! Small helps of the walks. -/
namespace Cl
open PySem PySem.Spec PyProof.Rows L2
def A1 (B : D → Sto → (D → Sto → Prop) → Ex → Prop) : ASp := fun ds L Φ ex => ∃ a, ds = [a] ∧ B a L Φ ex
def A2 (B : D → D → Sto → (D → Sto → Prop) → Ex → Prop) : ASp := fun ds L Φ ex => ∃ a b, ds = [a, b] ∧ B a b L Φ ex
def A3 (B : D → D → D → Sto → (D → Sto → Prop) → Ex → Prop) : ASp := fun ds L Φ ex => ∃ a b c, ds = [a, b, c] ∧ B a b c L Φ ex
def A4 (B : D → D → D → D → Sto → (D → Sto → Prop) → Ex → Prop) : ASp := fun ds L Φ ex => ∃ a b c d, ds = [a, b, c, d] ∧ B a b c d L Φ ex
def A5 (B : D → D → D → D → D → Sto → (D → Sto → Prop) → Ex → Prop) : ASp := fun ds L Φ ex => ∃ a b c d e, ds = [a, b, c, d, e] ∧ B a b c d e L Φ ex
theorem A1.len {B} {ds : List D} {L Φ ex} (h : A1 B ds L Φ ex) : ds.length = 1 := by obtain ⟨_, rfl, _⟩ := h; rfl
theorem A2.len {B} {ds : List D} {L Φ ex} (h : A2 B ds L Φ ex) : ds.length = 2 := by obtain ⟨_, _, rfl, _⟩ := h; rfl
theorem A3.len {B} {ds : List D} {L Φ ex} (h : A3 B ds L Φ ex) : ds.length = 3 := by obtain ⟨_, _, _, rfl, _⟩ := h; rfl
theorem A4.len {B} {ds : List D} {L Φ ex} (h : A4 B ds L Φ ex) : ds.length = 4 := by obtain ⟨_, _, _, _, rfl, _⟩ := h; rfl
theorem A5.len {B} {ds : List D} {L Φ ex} (h : A5 B ds L Φ ex) : ds.length = 5 := by obtain ⟨_, _, _, _, _, rfl, _⟩ := h; rfl
theorem ex_bl {c : Bool} {p : Bool → Prop} (h : p c) : ∃ b, D.bl c = D.bl b ∧ p b := ⟨c, rfl, h⟩
theorem lenAnd {ds : List D} {q : Prop} (h : ds.length ≤ 100000) (k : q) : ds.length ≤ 100000 ∧ q := ⟨h, k⟩
theorem ex_int {c : Int} {p : Int → Prop} (h : p c) : ∃ b, D.int c = D.int b ∧ p b := ⟨c, rfl, h⟩
theorem ex_str {c : Str} {p : Str → Prop} (h : p c) : ∃ b, D.str c = D.str b ∧ p b := ⟨c, rfl, h⟩
theorem ex_tup {c : List D} {p : List D → Prop} (h : p c) : ∃ b, D.tup c = D.tup b ∧ p b := ⟨c, rfl, h⟩
theorem ex_lst {c : List D} {p : List D → Prop} (h : p c) : ∃ b, D.lst c = D.lst b ∧ p b := ⟨c, rfl, h⟩
theorem br_true {p q : Prop} (h : p) : (true = true → p) ∧ (true = false → q) := ⟨fun _ => h, fun e => nomatch e⟩
theorem br_false {p q : Prop} (h : q) : (false = true → p) ∧ (false = false → q) := ⟨fun e => (nomatch e), fun _ => h⟩
theorem br_t {b : Bool} {p q : Prop} (e : b = true) (h : p) : (b = true → p) ∧ (b = false → q) := ⟨fun _ => h, fun z => (nomatch e.symm.trans z)⟩
theorem br_f {b : Bool} {p q : Prop} (e : b = false) (h : q) : (b = true → p) ∧ (b = false → q) := ⟨fun z => (nomatch e.symm.trans z), fun _ => h⟩
section
variable {P : Program} {w : World} {K : PySem.W.Frag} {E : XK} {F F' H H' : Hp} {σ : L2.St} {Γ Γ' : Gm} {L L' : Sto} {ex : Ex} {Φ Φ' : D → Sto → Prop} {Q : VK} {ta tb te tx : TE} {d d' : D} {i j : Int} {A : Pst} {tr tk : TA} {x y z : D}
theorem ex_fld {a C : Addr} {fs : List (Str × D)} {d : D} {g : Co → Sto} {L : Sto} {f : Str} {Ψ : D → Prop} (h1 : At a (.ins C fs) L g) (h2 : Cls K C) (h3 : NoAttr K C f) (h4 : fs.lookup f = some d) (h : Ψ d) :
    ∃ (a' : Addr) (C' : Addr) (fs' : List (Str × D)) (d' : D) (g' : Co → Sto), D.ref a = D.ref a' ∧ At a' (.ins C' fs') L g' ∧ Cls K C' ∧ NoAttr K C' f ∧ fs'.lookup f = some d' ∧ Ψ d' := ⟨a, C, fs, d, g, rfl, h1, h2, h3, h4, h⟩
theorem wc_allT {ds : List D} (hb : ∀ d ∈ ds, d = .bl true) (q : Φ (.bl true) L) : WC P w K (rAll K) [.lst ds] L Φ := by
  have e : ds = (List.replicate ds.length true).map D.bl := by
    rw [List.map_replicate]
    exact List.eq_replicate_of_mem hb
  rw [e]
  refine wc_all ?_
  rw [List.all_replicate]
  simpa using q
theorem wr_inT {neg : Bool} {ds : List D} {u : V} {us : List V} (hx : x.flat = some u) (hd : flats ds = some us) (q : Φ (.bl (if neg then !inV u us else inV u us)) L) : WR P w K (rIn K neg) x (.tup ds) L Φ := wr_inQ hx hd (.inl rfl) q
theorem wr_inL {neg : Bool} {ds : List D} {u : V} {us : List V} (hx : x.flat = some u) (hd : flats ds = some us) (q : Φ (.bl (if neg then !inV u us else inV u us)) L) : WR P w K (rIn K neg) x (.lst ds) L Φ := wr_inQ hx hd (.inr (.inl rfl)) q
theorem wc_sumE {ds : List D} {ns : List Int} (e : ds = ns.map D.int) (q : Φ (.int ns.sum) L) : WC P w K (rSum K) [.lst ds] L Φ := by
  subst e
  exact wc_sum q
theorem ex_put {a C : Addr} {fs : List (Str × D)} {g : Co → Sto} {L : Sto} {f : Str} (h1 : At a (.ins C fs) L g) (h2 : Cls K C) (h3 : NoAttr K C f) (h4 : fs.length < 1000) (h : A.nx Γ (g (.ins C (putD f y fs)))) :
    ∃ (a' : Addr) (C' : Addr) (fs' : List (Str × D)) (g' : Co → Sto), D.ref a = D.ref a' ∧ At a' (.ins C' fs') L g' ∧ Cls K C' ∧ NoAttr K C' f ∧ fs'.length < 1000 ∧ A.nx Γ (g' (.ins C' (putD f y fs'))) := ⟨a, C, fs, g, rfl, h1, h2, h3, h4, h⟩
theorem ex_meth {a C : Addr} {m : Str} {fs : List (Str × D)} {g : Co → Sto} {L : Sto} {B : ASp} {ex2 : Ex} (h1 : At a (.ins C fs) L g) (h2 : fs.lookup m = none) (h : WA P w K E tr Γ L ex fun ds L2 => B (.ref a :: ds) L2 Φ ex2) :
    ∃ (a' : Addr) (fs' : List (Str × D)) (g' : Co → Sto), D.ref a = D.ref a' ∧ At a' (.ins C fs') L g' ∧ fs'.lookup m = none ∧ WA P w K E tr Γ L ex fun ds L2 => B (.ref a' :: ds) L2 Φ ex2 := ⟨a, fs, g, rfl, h1, h2, h⟩
/-- a comprehension that leaves the cells alone -/
theorem we_lcP {wi : TI} {g : TG} {tt : TT} {vs : List Nat} (h : WI P w K E wi Γ L ex fun ds stay L1 => (∀ p acc, stay ((p, .lst acc) :: L1)) ∧ ds.length ≤ 100000 ∧ ∃ (sel : D → Bool) (f : D → D),
    (∀ d ∈ ds, ∀ p acc, ∃ us, WG P w K g d ((p, .lst acc) :: L1) us ∧ (∀ u ∈ us, u.1 ∈ vs) ∧ WT P w K E tt (setG (wipeG Γ vs) us) ((p, .lst acc) :: L1) ex fun b L3 =>
      (b = true → WE P w K E te (setG (wipeG Γ vs) us) L3 ex fun y L4 => sel d = true ∧ y = f d ∧ L4 = (p, .lst acc) :: L1) ∧ (b = false → sel d = false ∧ L3 = (p, .lst acc) :: L1)) ∧
    Φ (.lst ((ds.filter sel).map f)) L1) : WE P w K E (tLc wi g tt te vs) Γ L ex Φ := by
  refine we_lc ?_
  intro σ F H R sl S lk k
  refine h σ F H R sl S lk fun J ds stay F1 H1 L1 e1 S1 it ⟨hst, hl, sel, f, hs, hf⟩ => k J ds stay F1 H1 L1 e1 S1 it ⟨fun i acc L' => L' = L1 ∧ acc = ((ds.take i).filter sel).map f ∧ i ≤ ds.length, ⟨rfl, by simp, Nat.zero_le _⟩, fun i acc L' p ⟨e, _⟩ => by rw [e]; exact hst p acc, fun i d acc L' p hd ⟨e, ea, hi⟩ => ?_, fun acc L' ⟨e, ea, _⟩ => ?_⟩
  · subst e
    have hlt : i < ds.length := (List.getElem?_eq_some_iff.mp hd).1
    have tk : ds.take (i + 1) = ds.take i ++ [d] := by rw [List.take_add_one, hd]; rfl
    obtain ⟨us, hg, hu, ht⟩ := hs d (List.mem_of_getElem? hd) p acc
    refine ⟨us, hg, hu, ht.imp fun b L3 ⟨q1, q2⟩ => ⟨fun hb => (q1 hb).imp fun y L4 ⟨a1, a2, a3⟩ => ⟨?_, L', a3, rfl, ?_, hlt⟩, fun hb => ⟨L', (q2 hb).2, rfl, ?_, hlt⟩⟩⟩
    · rw [ea, List.length_map]
      exact Nat.lt_of_le_of_lt (List.length_filter_le _ _) (by rw [List.length_take]; omega)
    · rw [tk, List.filter_append, List.map_append, ea, a2]
      simp [a1]
    · rw [tk, List.filter_append, List.map_append, ea]
      simp [(q2 hb).1]
  · subst e ea
    rw [List.take_length]
    exact hf
theorem we_lcM {wi : TI} {g : TG} {vs : List Nat} (h : WI P w K E wi Γ L ex fun ds stay L1 => (∀ p acc, stay ((p, .lst acc) :: L1)) ∧ ds.length ≤ 100000 ∧ ∃ (f : D → D),
    (∀ d ∈ ds, ∀ p acc, ∃ us, WG P w K g d ((p, .lst acc) :: L1) us ∧ (∀ u ∈ us, u.1 ∈ vs) ∧ WE P w K E te (setG (wipeG Γ vs) us) ((p, .lst acc) :: L1) ex fun y L4 => y = f d ∧ L4 = (p, .lst acc) :: L1) ∧
    Φ (.lst (ds.map f)) L1) : WE P w K E (tLc wi g tYes te vs) Γ L ex Φ := by
  refine we_lcP ?_
  intro σ F H R sl S lk k
  refine h σ F H R sl S lk fun J ds stay F1 H1 L1 e1 S1 it ⟨hst, hl, f, hs, hf⟩ => k J ds stay F1 H1 L1 e1 S1 it ⟨hst, hl, fun _ => true, f, fun d hd p acc => ?_, ?_⟩
  · obtain ⟨us, h1, h2, h3⟩ := hs d hd p acc
    exact ⟨us, h1, h2, wt_yes ⟨fun _ => h3.imp fun y L4 z => ⟨rfl, z.1, z.2⟩, fun z => nomatch z⟩⟩
  · rw [List.filter_eq_self.mpr fun _ _ => rfl]
    exact hf
/-- a loop whose turns leave the cells and slots as an index tells -/
theorem ws_forP {wi : TI} {g : TG} {ts : TS} (h : WI P w K E wi Γ L A.ex fun ds stay L1 => ∃ I : Nat → Gm → Sto → Prop, I 0 Γ L1 ∧ (∀ i Γ' L', I i Γ' L' → stay L') ∧
    (∀ i d Γ' L', ds[i]? = some d → I i Γ' L' → ∃ us, WG P w K g d L' us ∧ WS P w K E ts (setG Γ' us) L' { A with nx := I (i + 1), ct := I (i + 1), bk := A.nx }) ∧ (∀ Γ' L', I ds.length Γ' L' → A.nx Γ' L')) : WS P w K E (tFor wi g ts) Γ L A := ws_for h
theorem WS.perm {ts : TS} (hp : L'.Perm L) (h : WS P w K E ts Γ L' A) : WS P w K E ts Γ L A := fun σ F H De sl S lk k => h σ F H De sl (S.perm hp) lk k
theorem WE.perm (hp : L'.Perm L) (h : WE P w K E te Γ L' ex Φ) : WE P w K E te Γ L ex Φ := fun σ F H Q sl S lk k => h σ F H Q sl (S.perm hp) lk k
/-- cells that are forgotten behind -/
theorem WE.forget (h : WE P w K E te Γ L ex fun d L' => ∃ L2, L2.Sublist L' ∧ Φ d L2) : WE P w K E te Γ L ex Φ := fun σ F H Q sl S lk k => h σ F H Q sl S lk fun v d F' H' L' e s r ⟨L2, hs, q⟩ => k v d F' H' L2 e (s.sub hs) r q
theorem At.mid {p : Addr} {c : Co} {A B : Sto} : At p c (A ++ (p, c) :: B) (fun c' => A ++ (p, c') :: B) := ⟨A, B, fun _ => rfl, rfl⟩
theorem perm_mid {x : Addr × Co} {A B : Sto} : (A ++ x :: B).Perm (x :: (A ++ B)) := List.perm_middle
theorem wr_mul (hc : CMul i j) (q : Φ (.int (i * j)) L) : WR P w K (rI CMul fun i j => .int (i * j)) (.int i) (.int j) L Φ := wr_I hc q
theorem wr_mulW (hc : CMulW i j) (q : Φ (.int (i * j)) L) : WR P w K (rI CMulW fun i j => .int (i * j)) (.int i) (.int j) L Φ := wr_I hc q
theorem wr_divW (hc : CDivW i j) (q : Φ (.int (i / j)) L) : WR P w K (rI CDivW fun i j => .int (i / j)) (.int i) (.int j) L Φ := wr_I hc q
theorem wr_mod (hc : 0 < j) (q : Φ (.int (i % j)) L) : WR P w K (rI (fun _ j => 0 < j) fun i j => .int (i % j)) (.int i) (.int j) L Φ := wr_I (C := fun _ j => 0 < j) hc q
theorem wr_pow (hc : CPow i j) (q : Φ (.int (i ^ j.toNat)) L) : WR P w K (rI CPow fun i j => .int (i ^ j.toNat)) (.int i) (.int j) L Φ := wr_I hc q
end
section
variable {X : Cx}
theorem op_fdivB : OpR X (binaryOp .FloorDiv) (rI CDivW fun i j => .int (i / j)) := op_fdivW
theorem op_mulB : OpR X (binaryOp .Mult) (rI CMulW fun i j => .int (i * j)) := op_mulW
theorem op_catX : OpR X (binaryOp .Add) rCat := op_cat
end
section
variable {X : Cx} {P : Program} {w : World} {K : PySem.W.Frag} {mg : Str → Option Value} {base : Heap} {C f : Addr} {ps : List Str} {B : ASp} {x m : Str} {p pos apos : Pos} {e o : Expr} {es : List Expr} {ta : TE} {t : TA} {tg : TGs} {j k n : Nat} {E : XK}
/-! inside a comprehension: the kit's part named -/
theorem ix_listK (eK : X.K = K) : IxR X (rIxL K) := eK ▸ ix_list
theorem ix_tupK (eK : X.K = K) : IxR X (rIxT K) := eK ▸ ix_tup
theorem call_list_ofK (eK : X.K = K) : CallR X (.type "list") (rListOf K) := eK ▸ call_list_of
theorem call_lenK (eK : X.K = K) : CallR X (.builtin "len") (rLenV K) := eK ▸ call_len
theorem pg_tupK (eK : X.K = K) (hc : X.calm = true) (h : PGs X es tg) (hn : (assignEach es X.env).length = n := by rfl) (hst : (assignEach es X.env).findIdx? (·.1) = none := by rfl) : PG X (.Tuple es k pos) (gTup K n tg) := by
  subst eK
  exact pg_tup hc h hn hst
theorem pe_fldK (eK : X.K = K) (he : PE X e ta) (hb : attributeBase e x X.env (eval e X.env) = eval e X.env) : PE X (.Attribute e x pos) (tFld K ta x) := by
  subst eK
  exact pe_fld he hb
theorem pe_cK (eP : X.prog = P) (ew : X.w = w) (eK : X.K = K) (em : X.mg = mg) (eb : X.base = base) (h : FOk P w K mg base j f ps B) (hr : Room k X.A) (hg : Gl X x) (hm : mg x = some (.ref f)) (ha : PA X (e :: es) t) (hj : j ≤ k := by decide) (hdb : (x == ("__debug__" : Str)) = false := by decide)
    (he : starEach (e :: es) X.env = (false, eval e X.env) :: starEach es X.env := by rfl) (hpl : (backTo pos (starEach es X.env)).any (·.1) = false := by rfl) : PE X (.Call (.Name x p) (e :: es) [] pos) (tCall (spOf P w K B) [] E0 t) := by
  subst eP ew eK em eb
  exact pe_c h hr hg hm ha hj hdb he hpl
theorem pe_mK {pl : Sem Bool} (eP : X.prog = P) (ew : X.w = w) (eK : X.K = K) (em : X.mg = mg) (eb : X.base = base) (he : PE X o ta) (c : Cls K C) (hm : Meth K C m f) (h : FOk P w K mg base j f ps B) (hr : Room k X.A) (ha : PA X (e :: es) t) (hj : j ≤ k := by decide)
    (hst : starEach (e :: es) X.env = (false, eval e X.env) :: starEach es X.env := by rfl) (hpl : (backTo pos (starEach es X.env)).any (·.1) = false := by rfl)
    (ht : eval (.Call (.Attribute o m apos) (e :: es) [] pos) X.env = (do
      let ov ← eval o X.env
      standAt apos.atName
      let (f, first) ← holding [ov] (getMethod ov m pl)
      callWith pos f first (backTo pos (starEach (e :: es) X.env)) (backToKw pos (keywordEach [] X.env))) := by rfl) :
    PE X (.Call (.Attribute o m apos) (e :: es) [] pos) (tMeth C m (spOf P w K B) [] E0 ta t) := by
  subst eP ew eK em eb
  exact pe_m he c hm h hr ha hj hst hpl ht
theorem pe_m0K {pl : Sem Bool} (eP : X.prog = P) (ew : X.w = w) (eK : X.K = K) (em : X.mg = mg) (eb : X.base = base) (he : PE X o ta) (c : Cls K C) (hm : Meth K C m f) (h : FOk P w K mg base j f ps B) (hr : Room k X.A) (hj : j ≤ k := by decide)
    (ht : eval (.Call (.Attribute o m apos) [] [] pos) X.env = (do
      let ov ← eval o X.env
      standAt apos.atName
      let (f, first) ← holding [ov] (getMethod ov m pl)
      callWith pos f first (backTo pos (starEach [] X.env)) (backToKw pos (keywordEach [] X.env))) := by rfl) :
    PE X (.Call (.Attribute o m apos) [] [] pos) (tMeth C m (spOf P w K B) [] E0 ta tNil) := by
  subst eP ew eK em eb
  exact pe_m0 he c hm h hr hj ht
end
theorem cutD_take {ds : List D} {i : Nat} (h : i ≤ ds.length) : cutD ds none (some (i : Int)) = ds.take i := by
  unfold cutD
  rw [HT.sIx_none, HT.sIx_nat, List.drop_zero, Nat.sub_zero, Nat.min_eq_left h]
theorem cutD_from {ds : List D} {i : Nat} (h : i ≤ ds.length) : cutD ds (some (i : Int)) none = ds.drop i := by
  unfold cutD
  rw [HT.sIx_none, HT.sIx_nat, Nat.min_eq_left h]
  exact List.take_of_length_le (by rw [List.length_drop]; exact Nat.le_refl _)
theorem flats_str : ∀ ss : List Str, flats (ss.map D.str) = some (ss.map V.str)
  | [] => rfl
  | s :: ss => by unfold flats; rw [List.map_cons]; dsimp only [D.flat]; rw [flats_str ss]; rfl
theorem flats_int : ∀ ss : List Int, flats (ss.map D.int) = some (ss.map V.int)
  | [] => rfl
  | s :: ss => by unfold flats; rw [List.map_cons]; dsimp only [D.flat]; rw [flats_int ss]; rfl
theorem inV_str (s : Str) : ∀ ss : List Str, inV (.str s) (ss.map V.str) = decide (s ∈ ss)
  | [] => rfl
  | t :: ss => by
    have ih := inV_str s ss
    unfold inV at ih ⊢
    rw [List.map_cons, List.any_cons, ih]
    by_cases q : t = s
    · subst q
      simp [eqV]
    · have q2 : ¬ s = t := fun z => q z.symm
      simp [eqV, q, q2]
theorem inV_int (s : Int) : ∀ ss : List Int, inV (.int s) (ss.map V.int) = decide (s ∈ ss)
  | [] => rfl
  | t :: ss => by
    have ih := inV_int s ss
    unfold inV at ih ⊢
    rw [List.map_cons, List.any_cons, ih]
    by_cases q : t = s
    · subst q
      simp [eqV]
    · have q2 : ¬ s = t := fun z => q z.symm
      simp [eqV, q, q2]
/-- an index within -/
theorem atI_nat {ds : List D} {n : Nat} {d : D} (h : ds[n]? = some d) : atI ds (n : Int) = some d := by
  have hl := (List.getElem?_eq_some_iff.mp h).1
  unfold atI ixN
  rw [if_pos (by omega), if_pos (by omega)]
  simpa using h
theorem atI_int {ds : List D} {i : Int} {d : D} (h0 : 0 ≤ i) (h : ds[i.toNat]? = some d) : atI ds i = some d := by
  have := atI_nat h
  rwa [Int.toNat_of_nonneg h0] at this
/-- the items of a pair -/
def fstD : D → D
  | .tup [a, _] => a
  | d => d
def sndD : D → D
  | .tup [_, b] => b
  | d => d
/-! plain things -/
def Let : Str := "abcdefghijklmnopqrstuvwxyz"
structure isNm (s : Str) : Prop where
  ne : s ≠ ""
  len : s.length ≤ 8
  let_ : ∀ c ∈ s.cps.toList, c ∈ Let.cps.toList
end Cl
set_option Elab.async false
set_option linter.all false
set_option maxRecDepth 100000
set_option maxHeartbeats 4000000
/-! The kinds of goals of a walk. -/
namespace Cl
open PySem PySem.Spec PyProof.Rows L2
section
variable {P : Program} {w : World} {K : PySem.W.Frag} {E : XK} {Γ : Gm} {L : Sto} {ex : Ex} {Φ : D → Sto → Prop} {Φa : List D → Sto → Prop} {Φb : Bool → Sto → Prop} {te : TE} {t : TT} {ta : TA} {ts : TS} {A : Pst} {r : R2} {x y : D} {rc : List V → Hp → VK → Prop} {ds : List D}
theorem isWE (h : WE P w K E te Γ L ex Φ) : WE P w K E te Γ L ex Φ := h
theorem isWT (h : WT P w K E t Γ L ex Φb) : WT P w K E t Γ L ex Φb := h
theorem isWA (h : WA P w K E ta Γ L ex Φa) : WA P w K E ta Γ L ex Φa := h
theorem isWS (h : WS P w K E ts Γ L A) : WS P w K E ts Γ L A := h
theorem isWR (h : WR P w K r x y L Φ) : WR P w K r x y L Φ := h
theorem isWC (h : WC P w K rc ds L Φ) : WC P w K rc ds L Φ := h
theorem isFld {a : Addr} {f : Str} {Ψ : D → Prop} (h : ∃ (a' : Addr) (C' : Addr) (fs' : List (Str × D)) (d' : D) (g' : Co → Sto), D.ref a = D.ref a' ∧ At a' (.ins C' fs') L g' ∧ Cls K C' ∧ NoAttr K C' f ∧ fs'.lookup f = some d' ∧ Ψ d') :
    ∃ (a' : Addr) (C' : Addr) (fs' : List (Str × D)) (d' : D) (g' : Co → Sto), D.ref a = D.ref a' ∧ At a' (.ins C' fs') L g' ∧ Cls K C' ∧ NoAttr K C' f ∧ fs'.lookup f = some d' ∧ Ψ d' := h
theorem isPut {a : Addr} {f : Str} {Ψ : Addr → Addr → List (Str × D) → (Co → Sto) → Prop} (h : ∃ (a' : Addr) (C' : Addr) (fs' : List (Str × D)) (g' : Co → Sto), D.ref a = D.ref a' ∧ At a' (.ins C' fs') L g' ∧ Cls K C' ∧ NoAttr K C' f ∧ fs'.length < 1000 ∧ Ψ a' C' fs' g') :
    ∃ (a' : Addr) (C' : Addr) (fs' : List (Str × D)) (g' : Co → Sto), D.ref a = D.ref a' ∧ At a' (.ins C' fs') L g' ∧ Cls K C' ∧ NoAttr K C' f ∧ fs'.length < 1000 ∧ Ψ a' C' fs' g' := h
theorem isMeth {a C : Addr} {m : Str} {Ψ : Addr → List (Str × D) → (Co → Sto) → Prop} (h : ∃ (a' : Addr) (fs' : List (Str × D)) (g' : Co → Sto), D.ref a = D.ref a' ∧ At a' (.ins C fs') L g' ∧ fs'.lookup m = none ∧ Ψ a' fs' g') :
    ∃ (a' : Addr) (fs' : List (Str × D)) (g' : Co → Sto), D.ref a = D.ref a' ∧ At a' (.ins C fs') L g' ∧ fs'.lookup m = none ∧ Ψ a' fs' g' := h
theorem isTy {p : Addr} {q : Prop} (h : (∀ F H v, Rs K F v (.ref p) → Spl P w K F L H → tyV K "list" v H) ∧ q) : (∀ F H v, Rs K F v (.ref p) → Spl P w K F L H → tyV K "list" v H) ∧ q := h
theorem isLen {p : Addr} (h : WC P w K (rLenV K) [.ref p] L Φ) : WC P w K (rLenV K) [.ref p] L Φ := h
theorem isIxC {p : Addr} {i : Int} (h : WR P w K (rIxL K) (.ref p) (.int i) L Φ) : WR P w K (rIxL K) (.ref p) (.int i) L Φ := h
theorem isLn {q : Prop} (h : ds.length ≤ 100000 ∧ q) : ds.length ≤ 100000 ∧ q := h
theorem isPow {i j : Int} (h : WR P w K (rI CPow fun i j => .int (i ^ j.toNat)) (.int i) (.int j) L Φ) : WR P w K (rI CPow fun i j => .int (i ^ j.toNat)) (.int i) (.int j) L Φ := h
theorem isBr {b : Bool} {p q : Prop} (h : (b = true → p) ∧ (b = false → q)) : (b = true → p) ∧ (b = false → q) := h
end
end Cl
set_option Elab.async false
set_option linter.all false
set_option maxRecDepth 100000
set_option maxHeartbeats 4000000
namespace Cl
open PySem PySem.Spec PyProof.Rows L2
local macro_rules | `(tactic| walk_at "at") => `(tactic| repeat first | with_reducible exact At.here | with_reducible apply At.tail | (with_reducible apply At.in (by assumption)))
local macro_rules | `(tactic| walk_at "fact") => `(tactic| first | exact c_Court (by assumption) | exact c_Lane (by assumption) | exact c_Signs (by assumption) | exact n_Court_clock (by assumption) | exact n_Court_long (by assumption) | exact n_Court_bags (by assumption) | exact n_Court_book (by assumption) | exact n_Court_opened (by assumption) | exact n_Court_seen (by assumption) | exact n_Court_kept (by assumption) | exact n_Court_deeds (by assumption) | exact n_Lane_both (by assumption) | exact n_Lane_first (by assumption) | exact n_Lane_standing (by assumption) | exact n_Lane_mood (by assumption) | exact n_Lane_ending (by assumption) | exact n_Signs_by_hand (by assumption))
local macro_rules | `(tactic| walk_at "ge") => `(tactic| first
  | with_reducible refine we_var rfl ?_
  | with_reducible refine we_int ?_
  | with_reducible refine we_str ?_
  | with_reducible refine we_ty ?_
  | with_reducible refine we_bl ?_
  | with_reducible refine we_non ?_
  | with_reducible refine we_ref ?_
  | with_reducible refine we_op ?_
  | with_reducible refine we_cb ?_
  | with_reducible refine we_call0 ?_
  | with_reducible refine we_call ?_
  | with_reducible refine we_lst ?_
  | with_reducible refine we_tup ?_
  | with_reducible refine we_andV ?_
  | with_reducible refine we_orV ?_
  | with_reducible refine we_notV ?_
  | with_reducible refine we_if ?_
  | with_reducible refine we_chain ?_
  | with_reducible refine we_sl ?_
  | with_reducible refine we_dnewK (fun _ => ?_)
  | with_reducible refine we_dnewN (fun _ => ?_)
  | with_reducible refine we_fld ?_
  | with_reducible refine we_dget ?_
  | with_reducible refine we_din ?_
  | with_reducible refine we_dnotIn ?_
  | with_reducible refine we_dget2 ?_
  | with_reducible refine we_dsetd ?_
  | with_reducible refine we_meth0 ?_
  | with_reducible refine we_meth ?_
  | with_reducible refine we_bm ?_)
local macro_rules | `(tactic| walk_at "gt") => `(tactic| first
  | with_reducible refine wt_B ?_
  | with_reducible refine wt_test ?_
  | with_reducible refine wt_not ?_
  | with_reducible refine wt_and ?_
  | with_reducible refine wt_or ?_
  | with_reducible refine wt_yes ?_)
local macro_rules | `(tactic| walk_at "gst") => `(tactic| first
  | with_reducible refine ws_ret ?_
  | with_reducible refine ws_retN ?_
  | with_reducible refine ws_seq ?_
  | with_reducible refine ws_set ?_
  | with_reducible refine ws_drop ?_
  | with_reducible refine ws_if ?_
  | with_reducible refine ws_next ?_
  | with_reducible refine ws_raise ?_
  | with_reducible refine ws_asgS ?_
  | with_reducible refine ws_setL ?_
  | with_reducible refine ws_setN ?_
  | with_reducible refine ws_asg ?_
  | with_reducible refine ws_fld ?_
  | with_reducible refine ws_fldaddI ?_
  | with_reducible refine ws_dput ?_)
local macro_rules | `(tactic| walk_at "gr") => `(tactic| first
  | with_reducible refine wr_ixT rfl ?_
  | with_reducible refine wr_ixL rfl ?_
  | with_reducible refine wr_int ?_
  | with_reducible refine wr_bool ?_
  | with_reducible refine wr_eqI ?_
  | with_reducible refine wr_neI ?_
  | with_reducible refine wr_eqS ?_
  | with_reducible refine wr_neS ?_
  | with_reducible refine wr_eqB ?_
  | with_reducible refine wr_neB ?_
  | with_reducible refine wr_isN ?_
  | with_reducible refine wr_notN ?_
  | (with_reducible refine isIxC ?_; with_reducible refine wr_ixC (by walk_at "at") (by with_unfolding_all rfl) ?_))
local macro_rules | `(tactic| walk_at "gc") => `(tactic| first
  | with_reducible refine wc_isi rfl rfl ?_
  | with_reducible refine wc_isi (by decide) (by decide +kernel) ?_
  | (with_reducible refine isLen ?_; with_reducible refine wc_lenC (by walk_at "at") ?_)
  | with_reducible refine wc_lenT ?_
  | with_reducible refine wc_lenL ?_)
local macro_rules | `(tactic| walk_at "ga") => `(tactic| first
  | with_reducible refine wa_cons ?_
  | with_reducible refine wa_nil ?_)
local macro_rules | `(tactic| walk_at "gx") => `(tactic| first
  | (with_reducible refine isLn ?_; with_reducible refine lenAnd (by simp) ?_)
  | with_reducible refine wo_none ?_
  | with_reducible refine wo_some ?_
  | with_reducible refine ex_bl ?_
  | with_reducible refine ex_int ?_
  | with_reducible refine ex_str ?_
  | with_reducible refine ex_tup ?_
  | with_reducible refine ex_lst ?_
  | with_reducible refine br_true ?_
  | with_reducible refine br_false ?_
  | (with_reducible refine isBr ?_; refine br_t rfl ?_)
  | (with_reducible refine isBr ?_; refine br_f rfl ?_)
  | (with_reducible refine isFld ?_; with_reducible refine ex_fld (by walk_at "at") (by walk_at "fact") (by walk_at "fact") (by with_unfolding_all rfl) ?_)
  | (with_reducible refine isPut ?_; with_reducible refine ex_put (by walk_at "at") (by walk_at "fact") (by walk_at "fact") (by simp) ?_)
  | (with_reducible refine isMeth ?_; with_reducible refine ex_meth (by walk_at "at") (by with_unfolding_all rfl) ?_)
  | (with_reducible refine isTy ?_; with_reducible refine And.intro (ty_cell (by walk_at "at")) ?_))
local macro_rules | `(tactic| walk_at "s") => `(tactic| first
  | (with_reducible refine isWE ?_; walk_at "ge")
  | (with_reducible refine isWS ?_; walk_at "gst")
  | (with_reducible refine isWT ?_; walk_at "gt")
  | (with_reducible refine isWR ?_; walk_at "gr")
  | (with_reducible refine isWA ?_; walk_at "ga")
  | (with_reducible refine isWC ?_; walk_at "gc")
  | walk_at "gx")
local macro_rules | `(tactic| walk_at "w") => `(tactic| repeat walk_at "s")

section
variable {P : Program} {w : World} {K : PySem.W.Frag} {mg : Str → Option Value} {base : Heap}
abbrev aWhole : ASp := A1 fun a L Φ _ => ∃ i, a = .int i ∧ Φ (.bl true) L
theorem sc_is_whole : FnScope ["thing"] ["thing"] d_is_whole.scope := ⟨rfl, rfl, rfl, by decide +kernel, rfl, by decide +kernel, by decide +kernel⟩
theorem ok_is_whole (T : Tx K mg) : FOk P w K mg base 1 (He.fAd K d_is_whole.at_) ["thing"] aWhole := by
  refine fok_of (d := d_is_whole) T 0 (k := 0) rfl rfl rfl sc_is_whole (fun ds L Φ ex h => A1.len h) (fun _ _ _ _ _ _ us hl => match us, hl with | [_], _ => rfl) (fun cdv Ar outer s H E ds L Φ ex hr h => ?_)
  obtain ⟨thing, rfl, h⟩ := h
  refine ⟨_, (pss_one (ps_ret (pe_and (pe_callB call_isi rfl (f_isinstance T) (by decide +kernel) (pa_cons (pv 0) (pa_cons (pe_gty (n := "int") rfl (f_int T) (by decide +kernel)) pa_nil))) (pe_one (pe_not (pe_callB call_isi rfl (f_isinstance T) (by decide +kernel) (pa_cons (pv 0) (pa_cons (pe_gty (n := "bool") rfl (f_bool T) (by decide +kernel)) pa_nil)))))))), ?_⟩
  obtain ⟨i, rfl, h⟩ := h
  dsimp only [cxOf]
  walk_at "w"
  exact h
theorem k_whole {i : Int} {L Φ ex} (h : Φ (.bl true) L) : aWhole [.int i] L Φ ex := ⟨_, rfl, i, rfl, h⟩
local macro_rules | `(tactic| walk_at "s") => `(tactic| with_reducible refine k_whole ?_)
abbrev aCount : ASp := A1 fun a L Φ _ => ∃ i, a = .int i ∧ Φ (.bl (decide (i ≥ 0))) L
theorem k_count {i : Int} {L Φ ex} (h : Φ (.bl (decide (i ≥ 0))) L) : aCount [.int i] L Φ ex := ⟨_, rfl, i, rfl, h⟩
local macro_rules | `(tactic| walk_at "s") => `(tactic| with_reducible refine k_count ?_)
theorem sc_is_count_seals : FnScope ["thing"] ["thing"] d_is_count_seals.scope := ⟨rfl, rfl, rfl, by decide +kernel, rfl, by decide +kernel, by decide +kernel⟩
theorem ok_is_count_seals (T : Tx K mg) : FOk P w K mg base 2 (He.fAd K d_is_count_seals.at_) ["thing"] aCount := by
  refine fok_of (d := d_is_count_seals) T 1 (k := 1) rfl rfl rfl sc_is_count_seals (fun ds L Φ ex h => A1.len h) (fun _ _ _ _ _ _ us hl => match us, hl with | [_], _ => rfl) (fun cdv Ar outer s H E ds L Φ ex hr h => ?_)
  obtain ⟨thing, rfl, h⟩ := h
  refine ⟨_, (pss_one (ps_ret (pe_and (pe_c (ok_is_whole T) hr rfl (g_is_whole T) (pa_cons (pv 0) pa_nil)) (pe_one (pe_cmpR op_ge (pv 0) pe_int (nomark _)))))), ?_⟩
  obtain ⟨i, rfl, h⟩ := h
  dsimp only [cxOf]
  walk_at "w"
  exact h
abbrev aAmount : ASp := A1 fun a L Φ _ => ∃ i, a = .int i ∧ Φ (.bl (decide (i ≥ 1))) L
theorem k_amount {i : Int} {L Φ ex} (h : Φ (.bl (decide (i ≥ 1))) L) : aAmount [.int i] L Φ ex := ⟨_, rfl, i, rfl, h⟩
local macro_rules | `(tactic| walk_at "s") => `(tactic| with_reducible refine k_amount ?_)
theorem sc_is_amount : FnScope ["thing"] ["thing"] d_is_amount.scope := ⟨rfl, rfl, rfl, by decide +kernel, rfl, by decide +kernel, by decide +kernel⟩
theorem ok_is_amount (T : Tx K mg) : FOk P w K mg base 2 (He.fAd K d_is_amount.at_) ["thing"] aAmount := by
  refine fok_of (d := d_is_amount) T 2 (k := 1) rfl rfl rfl sc_is_amount (fun ds L Φ ex h => A1.len h) (fun _ _ _ _ _ _ us hl => match us, hl with | [_], _ => rfl) (fun cdv Ar outer s H E ds L Φ ex hr h => ?_)
  obtain ⟨thing, rfl, h⟩ := h
  refine ⟨_, (pss_one (ps_ret (pe_and (pe_c (ok_is_whole T) hr rfl (g_is_whole T) (pa_cons (pv 0) pa_nil)) (pe_one (pe_cmpR op_ge (pv 0) pe_int (nomark _)))))), ?_⟩
  obtain ⟨i, rfl, h⟩ := h
  dsimp only [cxOf]
  walk_at "w"
  exact h
theorem sc_is_count_signs : FnScope ["thing"] ["thing"] d_is_count_signs.scope := ⟨rfl, rfl, rfl, by decide +kernel, rfl, by decide +kernel, by decide +kernel⟩
theorem ok_is_count_signs (T : Tx K mg) : FOk P w K mg base 1 (He.fAd K d_is_count_signs.at_) ["thing"] aCount := by
  refine fok_of (d := d_is_count_signs) T 11 (k := 0) rfl rfl rfl sc_is_count_signs (fun ds L Φ ex h => A1.len h) (fun _ _ _ _ _ _ us hl => match us, hl with | [_], _ => rfl) (fun cdv Ar outer s H E ds L Φ ex hr h => ?_)
  obtain ⟨thing, rfl, h⟩ := h
  refine ⟨_, (pss_one (ps_ret (pe_and (pe_callB call_isi rfl (f_isinstance T) (by decide +kernel) (pa_cons (pv 0) (pa_cons (pe_gty (n := "int") rfl (f_int T) (by decide +kernel)) pa_nil))) (pe_and (pe_not (pe_callB call_isi rfl (f_isinstance T) (by decide +kernel) (pa_cons (pv 0) (pa_cons (pe_gty (n := "bool") rfl (f_bool T) (by decide +kernel)) pa_nil)))) (pe_one (pe_cmpR op_ge (pv 0) pe_int (nomark _))))))), ?_⟩
  obtain ⟨i, rfl, h⟩ := h
  dsimp only [cxOf]
  walk_at "w"
  exact h
abbrev aName : ASp := A1 fun a L Φ _ => ∃ s, a = .str s ∧ isNm s ∧ Φ (.bl true) L
theorem k_name {s : Str} {L Φ ex} (hs : isNm s) (h : Φ (.bl true) L) : aName [.str s] L Φ ex := ⟨_, rfl, s, rfl, hs, h⟩
local macro_rules | `(tactic| walk_at "s") => `(tactic| with_reducible refine k_name (by assumption) ?_)
theorem sc_is_name : FnScope ["thing", "sign"] ["thing"] d_is_name.scope := ⟨rfl, rfl, rfl, by decide +kernel, rfl, by decide +kernel, by decide +kernel⟩
theorem ok_is_name (T : Tx K mg) : FOk P w K mg base 1 (He.fAd K d_is_name.at_) ["thing"] aName := by
  refine fok_of (d := d_is_name) T 3 (k := 0) rfl rfl rfl sc_is_name (fun ds L Φ ex h => A1.len h) (fun _ _ _ _ _ _ us hl => match us, hl with | [_], _ => rfl) (fun cdv Ar outer s H E ds L Φ ex hr h => ?_)
  obtain ⟨thing, rfl, h⟩ := h
  refine ⟨_, (pss_cons (ps_if (PW.pt (pw_or (pt_not (pt_val (pe_callB call_isi rfl (f_isinstance T) (by decide +kernel) (pa_cons (pv 0) (pa_cons (pe_gty (n := "str") rfl (f_str T) (by decide +kernel)) pa_nil))))) (pw_or (pt_cmpR op_eq (pv 0) pe_str (nomark _)) (pw_or1 (pt_cmpR op_gt (pe_callB call_len rfl (f_len T) (by decide +kernel) (pa_cons (pv 0) pa_nil)) (pe_gint rfl (i_LONGEST T)) (nomark _)))))) (pss_one (ps_ret pe_bl)) pss_nil)
    (pss_one (ps_ret (pe_callB (cr_all rfl) rfl (f_all T) (by decide +kernel) (pa_cons (pe_lc (own := [("sign", 1)]) rfl sc_is_name.nd (pi_str (pv 0)) (blkOk_by (own := [("sign", 1)]) (N := ["thing", "sign"]) (sc := d_is_name.scope) (by decide +kernel)) (fun _ _ _ _ _ => by exact (pg_name (i := 1) sc_is_name.nd rfl (Or.inl rfl))) (fun _ _ _ _ _ => by exact pts_nil) (fun _ _ _ _ _ => by exact (pe_cmpR op_in_sign (pv 1) (pe_gstr rfl (t_LETTERS T)) rfl))) pa_nil))))), ?_⟩
  obtain ⟨s, rfl, hs, h⟩ := h
  dsimp only [cxOf]
  walk_at "w"
  refine br_f (decide_eq_false hs.ne) ?_
  walk_at "w"
  refine wc_lenS (Nat.le_trans hs.len (by decide)) ?_
  walk_at "w"
  refine br_f (decide_eq_false (by have := hs.len; omega)) ?_
  walk_at "w"
  refine we_lcP (wi_str ?_)
  walk_at "w"
  refine ⟨fun _ _ => trivial, by rw [List.length_map, Array.length_toList]; exact Nat.le_trans hs.len (by decide), fun _ => true, fun d => .bl true, fun d hd p acc => ?_, ?_⟩
  · obtain ⟨c, hc, rfl⟩ := List.mem_map.mp hd
    refine ⟨_, wg_name, by simp, ?_⟩
    walk_at "w"
    refine wr_inS ?_
    exact ⟨rfl, congrArg D.bl (decide_eq_true (hs.let_ c hc)), rfl⟩
  · walk_at "w"
    exact wc_allT (fun d hd => by obtain ⟨_, _, rfl⟩ := List.mem_map.mp hd; rfl) h
abbrev aSeal : ASp := A1 fun a L Φ _ => ∃ i, a = .int i ∧ 0 ≤ i ∧ Φ (.int (3 * i + 17)) L
theorem k_seal {i : Int} {L Φ ex} (hi : 0 ≤ i) (h : Φ (.int (3 * i + 17)) L) : aSeal [.int i] L Φ ex := ⟨_, rfl, i, rfl, hi, h⟩
theorem sc_seal_of : FnScope ["secret"] ["secret"] d_seal_of.scope := ⟨rfl, rfl, rfl, by decide +kernel, rfl, by decide +kernel, by decide +kernel⟩
theorem ok_seal_of (T : Tx K mg) : FOk P w K mg base 3 (He.fAd K d_seal_of.at_) ["secret"] aSeal := by
  refine fok_of (d := d_seal_of) T 4 (k := 2) rfl rfl rfl sc_seal_of (fun ds L Φ ex h => A1.len h) (fun _ _ _ _ _ _ us hl => match us, hl with | [_], _ => rfl) (fun cdv Ar outer s H E ds L Φ ex hr h => ?_)
  obtain ⟨secret, rfl, h⟩ := h
  refine ⟨_, (pss_cons (ps_if (pt_not (pt_val (pe_c (ok_is_count_seals T) hr rfl (g_is_count_seals T) (pa_cons (pv 0) pa_nil)))) (pss_one (ps_raise rfl (takes_of rfl rfl rfl rfl) (pmk_own PySem.F.excBase_ValueError (x_NoSecret T).1 (g_NoSecret T) (x_NoSecret T).2.1 (raises_own (x_NoSecret T).2.2.1 (x_NoSecret T).2.2.2) rfl))) pss_nil)
    (pss_one (ps_ret (pe_op op_add (pe_op op_mul (pe_gint rfl (i_STRETCH T)) (pv 0)) (pe_gint rfl (i_FIRST_SEAL T)))))), ?_⟩
  obtain ⟨i, rfl, hi, h⟩ := h
  dsimp only [cxOf]
  walk_at "w"
  refine br_f (by simp; omega) ?_
  walk_at "w"
  refine wr_mul (.inl (by decide)) ?_
  walk_at "w"
  exact h
abbrev aSide : ASp := A1 fun a L Φ _ => ∃ i, a = .str i ∧ (i = "left" ∨ i = "right") ∧ Φ (.bl true) L
theorem k_side {i : Str} {L Φ ex} (hi : i = "left" ∨ i = "right") (h : Φ (.bl true) L) : aSide [.str i] L Φ ex := ⟨_, rfl, i, rfl, hi, h⟩
theorem sc_is_side : FnScope ["thing"] ["thing"] d_is_side.scope := ⟨rfl, rfl, rfl, by decide +kernel, rfl, by decide +kernel, by decide +kernel⟩
theorem ok_is_side (T : Tx K mg) : FOk P w K mg base 1 (He.fAd K d_is_side.at_) ["thing"] aSide := by
  refine fok_of (d := d_is_side) T 5 (k := 0) rfl rfl rfl sc_is_side (fun ds L Φ ex h => A1.len h) (fun _ _ _ _ _ _ us hl => match us, hl with | [_], _ => rfl) (fun cdv Ar outer s H E ds L Φ ex hr h => ?_)
  obtain ⟨thing, rfl, h⟩ := h
  refine ⟨_, (pss_one (ps_ret (pe_and (pe_callB call_isi rfl (f_isinstance T) (by decide +kernel) (pa_cons (pv 0) (pa_cons (pe_gty (n := "str") rfl (f_str T) (by decide +kernel)) pa_nil))) (pe_one (pe_cmpR op_in_seq (pv 0) (pe_tup (pa_cons (pe_gstr rfl (t_LEFT T)) (pa_cons (pe_gstr rfl (t_RIGHT T)) pa_nil))) rfl))))), ?_⟩
  obtain ⟨i, rfl, hi, h⟩ := h
  dsimp only [cxOf]
  walk_at "w"
  refine wr_inT rfl rfl ?_
  rcases hi with rfl | rfl <;> exact h
/-! ### locks, states -/
structure Lck where
  id : Int
  rt : Bool
  am : Int
  sl : Int
  la : Int
def side (b : Bool) : Str := if b then "right" else "left"
theorem side_or (b : Bool) : side b = "left" ∨ side b = "right" := by cases b <;> simp [side]
def Lck.d (l : Lck) : D := .tup [.int l.id, .str (side l.rt), .int l.am, .int l.sl, .int l.la]
structure Lck.ok (l : Lck) : Prop where
  id : 1 ≤ l.id
  am : 1 ≤ l.am
  sl : 0 ≤ l.sl
  la : 0 ≤ l.la
structure Stt where
  lane : Int
  num : Int
  l : Int
  r : Int
  locks : List Lck
def Stt.d (t : Stt) : D := .tup [.int t.lane, .int t.num, .int t.l, .int t.r, .tup (t.locks.map Lck.d)]
structure Stt.ok (t : Stt) : Prop where
  lane : 0 ≤ t.lane
  num : 0 ≤ t.num
  l : 0 ≤ t.l
  r : 0 ≤ t.r
  few : t.locks.length ≤ 30
  each : ∀ k ∈ t.locks, k.ok
  asc : t.locks.Pairwise (fun a b => a.id < b.id)
  top : ∀ k ∈ t.locks, k.id ≤ t.num
abbrev aLock : ASp := A1 fun a L Φ _ => ∃ l : Lck, a = l.d ∧ l.ok ∧ Φ (.bl true) L
theorem k_lock {l : Lck} {L Φ ex} (hl : l.ok) (h : Φ (.bl true) L) : aLock [l.d] L Φ ex := ⟨_, rfl, l, rfl, hl, h⟩
theorem sc_is_lock : FnScope ["thing", "number", "giver", "amount", "seal", "last"] ["thing"] d_is_lock.scope := ⟨rfl, rfl, rfl, by decide +kernel, rfl, by decide +kernel, by decide +kernel⟩
theorem ok_is_lock (T : Tx K mg) : FOk P w K mg base 3 (He.fAd K d_is_lock.at_) ["thing"] aLock := by
  refine fok_of (d := d_is_lock) T 6 (k := 2) rfl rfl rfl sc_is_lock (fun ds L Φ ex h => A1.len h) (fun _ _ _ _ _ _ us hl => match us, hl with | [_], _ => rfl) (fun cdv Ar outer s H E ds L Φ ex hr h => ?_)
  obtain ⟨thing, rfl, h⟩ := h
  refine ⟨_, (pss_cons (ps_if (PW.pt (pw_or (pt_not (pt_val (pe_callB call_isi rfl (f_isinstance T) (by decide +kernel) (pa_cons (pv 0) (pa_cons (pe_gty (n := "tuple") rfl (f_tuple T) (by decide +kernel)) pa_nil))))) (pw_or1 (pt_cmpR op_ne (pe_callB call_len rfl (f_len T) (by decide +kernel) (pa_cons (pv 0) pa_nil)) pe_int (nomark _))))) (pss_one (ps_ret pe_bl)) pss_nil)
    (pss_cons (ps_asg (pv 0) (pg_tup (n := 5) rfl (pgs_cons (pg_name (i := 1) sc_is_lock.nd rfl (Or.inl rfl)) (pgs_cons (pg_name (i := 2) sc_is_lock.nd rfl (Or.inl rfl)) (pgs_cons (pg_name (i := 3) sc_is_lock.nd rfl (Or.inl rfl)) (pgs_cons (pg_name (i := 4) sc_is_lock.nd rfl (Or.inl rfl)) (pgs_cons (pg_name (i := 5) sc_is_lock.nd rfl (Or.inl rfl)) pgs_nil)))))))
    (pss_one (ps_ret (pe_and (pe_c (ok_is_amount T) hr rfl (g_is_amount T) (pa_cons (pv 1) pa_nil)) (pe_and (pe_c (ok_is_side T) hr rfl (g_is_side T) (pa_cons (pv 2) pa_nil)) (pe_and (pe_c (ok_is_amount T) hr rfl (g_is_amount T) (pa_cons (pv 3) pa_nil)) (pe_and (pe_c (ok_is_count_seals T) hr rfl (g_is_count_seals T) (pa_cons (pv 4) pa_nil)) (pe_one (pe_c (ok_is_count_seals T) hr rfl (g_is_count_seals T) (pa_cons (pv 5) pa_nil))))))))))), ?_⟩
  obtain ⟨l, rfl, hl, h⟩ := h
  obtain ⟨n, b, am, sl, la⟩ := l
  obtain ⟨h1, h2, h3, h4⟩ := hl
  dsimp only [cxOf, Lck.d] at *
  walk_at "w"
  refine ⟨_, wg_tup rfl (wgs_cons wg_name (wgs_cons wg_name (wgs_cons wg_name (wgs_cons wg_name (wgs_cons wg_name wgs_nil))))), ?_⟩
  dsimp only [setG, startG]
  walk_at "w"
  refine br_t (decide_eq_true h1) ?_
  walk_at "w"
  refine k_side (side_or b) ?_
  walk_at "w"
  refine br_t (decide_eq_true h2) ?_
  walk_at "w"
  refine br_t (decide_eq_true h3) ?_
  walk_at "w"
  rw [decide_eq_true (show la ≥ 0 from h4)]
  exact h
abbrev aState : ASp := A1 fun a L Φ _ => ∃ t : Stt, a = t.d ∧ t.ok ∧ Φ (.bl true) L
theorem k_state {t : Stt} {L Φ ex} (ht : t.ok) (h : Φ (.bl true) L) : aState [t.d] L Φ ex := ⟨_, rfl, t, rfl, ht, h⟩
theorem sc_is_state : FnScope ["thing", "counts", "locks", "least", "lock", "count"] ["thing"] d_is_state.scope := ⟨rfl, rfl, rfl, by decide +kernel, rfl, by decide +kernel, by decide +kernel⟩
theorem ok_is_state (T : Tx K mg) : FOk P w K mg base 4 (He.fAd K d_is_state.at_) ["thing"] aState := by
  refine fok_of (d := d_is_state) T 7 (k := 3) rfl rfl rfl sc_is_state (fun ds L Φ ex h => A1.len h) (fun _ _ _ _ _ _ us hl => match us, hl with | [_], _ => rfl) (fun cdv Ar outer s H E ds L Φ ex hr h => ?_)
  obtain ⟨thing, rfl, h⟩ := h
  refine ⟨_, (pss_cons (ps_if (PW.pt (pw_or (pt_not (pt_val (pe_callB call_isi rfl (f_isinstance T) (by decide +kernel) (pa_cons (pv 0) (pa_cons (pe_gty (n := "tuple") rfl (f_tuple T) (by decide +kernel)) pa_nil))))) (pw_or (pt_cmpR op_ne (pe_callB call_len rfl (f_len T) (by decide +kernel) (pa_cons (pv 0) pa_nil)) pe_int (nomark _)) (pw_or1 (pt_not (pt_val (pe_callB call_isi rfl (f_isinstance T) (by decide +kernel) (pa_cons (pe_ix ix_tup (pv 0) pe_int (fun _ _ => rfl)) (pa_cons (pe_gty (n := "tuple") rfl (f_tuple T) (by decide +kernel)) pa_nil))))))))) (pss_one (ps_ret pe_bl)) pss_nil)
    (pss_cons (ps_asg (pv 0) (pg_star (n := 2) (k := 0) rfl (pgsS_star (pg_name (i := 1) sc_is_state.nd rfl (Or.inl rfl)) (pgs_cons (pg_name (i := 2) sc_is_state.nd rfl (Or.inl rfl)) pgs_nil))))
    (pss_cons (ps_if (PW.pt (pw_or (pt_not (pt_val (pe_callB (cr_all rfl) rfl (f_all T) (by decide +kernel) (pa_cons (pe_lc (own := [("count", 5)]) rfl sc_is_state.nd (pi_list (pv 1)) (blkOk_by (own := [("count", 5)]) (N := ["thing", "counts", "locks", "least", "lock", "count"]) (sc := d_is_state.scope) (by decide +kernel)) (fun _ _ _ _ _ => by exact (pg_name (i := 5) sc_is_state.nd rfl (Or.inl rfl))) (fun _ _ _ _ _ => by exact pts_nil) (fun _ _ _ _ _ => by exact (pe_cK (P := P) (w := w) (K := K) (mg := mg) (base := base) rfl rfl rfl rfl rfl (ok_is_count_seals T) hr rfl (g_is_count_seals T) (pa_cons (pv 5) pa_nil)))) pa_nil)))) (pw_or1 (pt_cmpR op_gt (pe_callB call_len rfl (f_len T) (by decide +kernel) (pa_cons (pv 2) pa_nil)) (pe_gint rfl (i_MOST_LOCKS T)) (nomark _))))) (pss_one (ps_ret pe_bl)) pss_nil)
    (pss_cons (ps_set (i := 3) sc_is_state.nd rfl (Or.inl rfl) pe_int)
    (pss_cons (ps_for (passes_of rfl) rfl (pi_tup (pv 2)) (pg_name (i := 4) sc_is_state.nd rfl (Or.inl rfl)) (pss_cons (ps_if (PW.pt (pw_or (pt_not (pt_val (pe_c (ok_is_lock T) hr rfl (g_is_lock T) (pa_cons (pv 4) pa_nil)))) (pw_or1 (pt_cmpR op_lt (pe_ix ix_tup (pv 4) pe_int (fun _ _ => rfl)) (pv 3) (nomark _))))) (pss_one (ps_ret pe_bl)) pss_nil)
    (pss_one (ps_set (i := 3) sc_is_state.nd rfl (Or.inl rfl) (pe_op op_add (pe_ix ix_tup (pv 4) pe_int (fun _ _ => rfl)) pe_int)))))
    (pss_one (ps_ret (pe_cmpR op_le (pv 3) (pe_op op_add (pe_ix ix_list (pv 1) pe_int (fun _ _ => rfl)) pe_int) (nomark _))))))))), ?_⟩
  obtain ⟨t, rfl, ht, h⟩ := h
  dsimp only [cxOf, Stt.d]
  walk_at "w"
  refine ⟨_, [(1, .lst [.int t.lane, .int t.num, .int t.l, .int t.r]), (2, .tup (t.locks.map Lck.d))], rfl, by decide, by simp, by simp, fun L2 => wgs_cons wg_name (wgs_cons wg_name wgs_nil), ?_⟩
  dsimp only [setG, startG]
  walk_at "w"
  refine we_lcP (wi_listD ?_)
  walk_at "w"
  refine ⟨fun _ _ => trivial, by simp, fun _ => true, fun d => .bl true, fun d hd p acc => ?_, ?_⟩
  · obtain ⟨n, rfl, hn⟩ : ∃ n, d = .int n ∧ n ≥ 0 := by
      simp only [List.mem_cons, List.not_mem_nil, or_false] at hd
      rcases hd with rfl | rfl | rfl | rfl
      · exact ⟨_, rfl, ht.lane⟩
      · exact ⟨_, rfl, ht.num⟩
      · exact ⟨_, rfl, ht.l⟩
      · exact ⟨_, rfl, ht.r⟩
    refine ⟨_, wg_name, by simp, ?_⟩
    walk_at "w"
    exact ⟨rfl, congrArg D.bl (decide_eq_true hn), rfl⟩
  · walk_at "w"
    refine wc_allT (fun d hd => by obtain ⟨_, _, rfl⟩ := List.mem_map.mp hd; rfl) ?_
    walk_at "w"
    refine br_f (by have := ht.few; simp; omega) ?_
    walk_at "w"
    refine ws_for (wi_tup ?_)
    walk_at "w"
    refine ⟨fun i Γ' L' => L' = L ∧ i ≤ t.locks.length ∧ ∃ m x, Γ' = [some t.d, some (.lst [.int t.lane, .int t.num, .int t.l, .int t.r]), some (.tup (t.locks.map Lck.d)), some (.int m), x, none] ∧ (∀ k ∈ t.locks.drop i, m ≤ k.id) ∧ m ≤ t.num + 1, ?_, fun _ _ _ _ => trivial, fun i d Γ' L' hd hI => ?_, fun Γ' L' hI => ?_⟩
    · exact ⟨rfl, Nat.zero_le _, 1, none, rfl, fun k hk => (ht.each k hk).id, by have := ht.num; omega⟩
    · obtain ⟨rfl, hi, m, x, rfl, hm, hm2⟩ := hI
      rw [List.getElem?_map] at hd
      obtain ⟨k, hk, rfl⟩ := Option.map_eq_some_iff.mp hd
      have hlt : i < t.locks.length := (List.getElem?_eq_some_iff.mp hk).1
      have hdr : t.locks.drop i = k :: t.locks.drop (i + 1) := by
        rw [List.drop_eq_getElem_cons hlt]
        rw [List.getElem?_eq_getElem hlt] at hk
        rw [Option.some.inj hk]
      have hmem : k ∈ t.locks := List.mem_of_getElem? hk
      refine ⟨_, wg_name, ?_⟩
      dsimp only [setG]
      walk_at "w"
      refine k_lock (ht.each k hmem) ?_
      walk_at "w"
      dsimp only [Lck.d]
      walk_at "w"
      refine br_f (by have := hm k (by rw [hdr]; simp); simp; omega) ?_
      walk_at "w"
      refine ⟨rfl, hlt, _, _, rfl, fun k2 hk2 => ?_, by have := ht.top k hmem; omega⟩
      have hp := List.Pairwise.sublist (List.drop_sublist i t.locks) ht.asc
      rw [hdr, List.pairwise_cons] at hp
      have := hp.1 k2 hk2
      omega
    · obtain ⟨rfl, hi, m, x, rfl, hm, hm2⟩ := hI
      walk_at "w"
      rw [decide_eq_true (by omega)]
      exact h
abbrev aNeed : ASp := A1 fun a L Φ _ => ∃ t : Stt, a = t.d ∧ t.ok ∧ Φ .non L
theorem k_need {t : Stt} {L Φ ex} (ht : t.ok) (h : Φ .non L) : aNeed [t.d] L Φ ex := ⟨_, rfl, t, rfl, ht, h⟩
theorem sc_need_state : FnScope ["thing"] ["thing"] d_need_state.scope := ⟨rfl, rfl, rfl, by decide +kernel, rfl, by decide +kernel, by decide +kernel⟩
theorem ok_need_state (T : Tx K mg) : FOk P w K mg base 5 (He.fAd K d_need_state.at_) ["thing"] aNeed := by
  refine fok_of (d := d_need_state) T 8 (k := 4) rfl rfl rfl sc_need_state (fun ds L Φ ex h => A1.len h) (fun _ _ _ _ _ _ us hl => match us, hl with | [_], _ => rfl) (fun cdv Ar outer s H E ds L Φ ex hr h => ?_)
  obtain ⟨thing, rfl, h⟩ := h
  refine ⟨_, (pss_one (ps_if (pt_not (pt_val (pe_c (ok_is_state T) hr rfl (g_is_state T) (pa_cons (pv 0) pa_nil)))) (pss_one (ps_raise rfl (takes_of rfl rfl rfl rfl) (pmk_own PySem.F.excBase_ValueError (x_NoState T).1 (g_NoState T) (x_NoState T).2.1 (raises_own (x_NoState T).2.2.1 (x_NoState T).2.2.2) rfl))) pss_nil)), ?_⟩
  obtain ⟨t, rfl, ht, h⟩ := h
  dsimp only [cxOf]
  walk_at "w"
  refine k_state ht ?_
  walk_at "w"
  exact h
def Stt.worth (t : Stt) : Int := t.l + t.r + (t.locks.map (·.am)).sum
abbrev aWorth : ASp := A1 fun a L Φ _ => ∃ t : Stt, a = t.d ∧ t.ok ∧ Φ (.int t.worth) L
theorem k_worth {t : Stt} {L Φ ex} (ht : t.ok) (h : Φ (.int t.worth) L) : aWorth [t.d] L Φ ex := ⟨_, rfl, t, rfl, ht, h⟩
theorem sc_worth : FnScope ["state", "lock"] ["state"] d_worth.scope := ⟨rfl, rfl, rfl, by decide +kernel, rfl, by decide +kernel, by decide +kernel⟩
theorem ok_worth (T : Tx K mg) : FOk P w K mg base 6 (He.fAd K d_worth.at_) ["state"] aWorth := by
  refine fok_of (d := d_worth) T 9 (k := 5) rfl rfl rfl sc_worth (fun ds L Φ ex h => A1.len h) (fun _ _ _ _ _ _ us hl => match us, hl with | [_], _ => rfl) (fun cdv Ar outer s H E ds L Φ ex hr h => ?_)
  obtain ⟨state, rfl, h⟩ := h
  refine ⟨_, (pss_cons (ps_expr (pe_c (ok_need_state T) hr rfl (g_need_state T) (pa_cons (pv 0) pa_nil)))
    (pss_one (ps_ret (pe_op op_add (pe_op op_add (pe_ix ix_tup (pv 0) pe_int (fun _ _ => rfl)) (pe_ix ix_tup (pv 0) pe_int (fun _ _ => rfl))) (pe_callB (cr_sum rfl) rfl (f_sum T) (by decide +kernel) (pa_cons (pe_lc (own := [("lock", 1)]) rfl sc_worth.nd (pi_tup (pe_ix ix_tup (pv 0) pe_int (fun _ _ => rfl))) (blkOk_by (own := [("lock", 1)]) (N := ["state", "lock"]) (sc := d_worth.scope) (by decide +kernel)) (fun _ _ _ _ _ => by exact (pg_name (i := 1) sc_worth.nd rfl (Or.inl rfl))) (fun _ _ _ _ _ => by exact pts_nil) (fun _ _ _ _ _ => by exact (pe_ix (ix_tupK (K := K) rfl) (pv 1) pe_int (fun _ _ => rfl)))) pa_nil)))))), ?_⟩
  obtain ⟨t, rfl, ht, h⟩ := h
  dsimp only [cxOf]
  walk_at "w"
  refine k_need ht ?_
  dsimp only [Stt.d]
  walk_at "w"
  refine we_lcP (wi_tup ?_)
  walk_at "w"
  refine ⟨fun _ _ => trivial, by have := ht.few; rw [List.length_map]; omega, fun _ => true, fun d => (match d with | .tup [_, _, .int a, _, _] => .int a | _ => .non), fun d hd p acc => ?_, ?_⟩
  · obtain ⟨k, hk, rfl⟩ := List.mem_map.mp hd
    refine ⟨_, wg_name, by simp, ?_⟩
    dsimp only [Lck.d]
    walk_at "w"
    exact ⟨rfl, rfl, rfl⟩
  · walk_at "w"
    refine wc_sumE (ns := t.locks.map (·.am)) (by rw [List.filter_eq_self.mpr (fun _ _ => rfl), List.map_map, List.map_map]; rfl) ?_
    walk_at "w"
    exact h
abbrev aFirst : ASp := A3 fun a b c L Φ _ => Φ (.tup [a, .int 0, b, c, .tup []]) L
theorem k_first {a b c : D} {L Φ ex} (h : Φ (.tup [a, .int 0, b, c, .tup []]) L) : aFirst [a, b, c] L Φ ex := ⟨_, _, _, rfl, h⟩
theorem sc_first_state : FnScope ["lane", "left", "right"] ["lane", "left", "right"] d_first_state.scope := ⟨rfl, rfl, rfl, by decide +kernel, rfl, by decide +kernel, by decide +kernel⟩
theorem ok_first_state (T : Tx K mg) : FOk P w K mg base 1 (He.fAd K d_first_state.at_) ["lane", "left", "right"] aFirst := by
  refine fok_of (d := d_first_state) T 10 (k := 0) rfl rfl rfl sc_first_state (fun ds L Φ ex h => A3.len h) (fun _ _ _ _ _ _ us hl => match us, hl with | [_, _, _], _ => rfl) (fun cdv Ar outer s H E ds L Φ ex hr h => ?_)
  obtain ⟨lane, left_, right_, rfl, h⟩ := h
  refine ⟨_, (pss_one (ps_ret (pe_tup (pa_cons (pv 0) (pa_cons pe_int (pa_cons (pv 1) (pa_cons (pv 2) (pa_cons (pe_tup pa_nil) pa_nil)))))))), ?_⟩
  walk_at "w"
  exact h
/-! ### papers -/
structure Opn where
  lane : Int
  l : Str
  r : Str
  a : Int
  b : Int
def Opn.d (o : Opn) : D := .tup [.str "open", .int o.lane, .str o.l, .str o.r, .int o.a, .int o.b]
structure Opn.ok (o : Opn) : Prop where
  lane : 0 ≤ o.lane
  l : isNm o.l
  r : isNm o.r
  ne : o.l ≠ o.r
  a : 0 ≤ o.a
  b : 0 ≤ o.b
  pos : 0 < o.a + o.b
inductive Ppr where
  | o (x : Opn)
  | t (x : Stt)
def Ppr.d : Ppr → D
  | .o x => x.d
  | .t x => x.d
def Ppr.ok : Ppr → Prop
  | .o x => x.ok
  | .t x => x.ok
def Ppr.isO : Ppr → Bool
  | .o _ => true
  | .t _ => false
abbrev aOpening : ASp := A1 fun a L Φ _ => ∃ p : Ppr, a = p.d ∧ p.ok ∧ Φ (.bl p.isO) L
theorem k_opening {p : Ppr} {L Φ ex} (hp : p.ok) (h : Φ (.bl p.isO) L) : aOpening [p.d] L Φ ex := ⟨_, rfl, p, rfl, hp, h⟩
theorem sc_is_opening : FnScope ["thing", "word", "lane", "hands", "one", "other", "hand"] ["thing"] d_is_opening.scope := ⟨rfl, rfl, rfl, by decide +kernel, rfl, by decide +kernel, by decide +kernel⟩
theorem ok_is_opening (T : Tx K mg) : FOk P w K mg base 2 (He.fAd K d_is_opening.at_) ["thing"] aOpening := by
  refine fok_of (d := d_is_opening) T 12 (k := 1) rfl rfl rfl sc_is_opening (fun ds L Φ ex h => A1.len h) (fun _ _ _ _ _ _ us hl => match us, hl with | [_], _ => rfl) (fun cdv Ar outer s H E ds L Φ ex hr h => ?_)
  obtain ⟨thing, rfl, h⟩ := h
  refine ⟨_, (pss_cons (ps_if (PW.pt (pw_or (pt_not (pt_val (pe_callB call_isi rfl (f_isinstance T) (by decide +kernel) (pa_cons (pv 0) (pa_cons (pe_gty (n := "tuple") rfl (f_tuple T) (by decide +kernel)) pa_nil))))) (pw_or (pt_cmpR op_ne (pe_callB call_len rfl (f_len T) (by decide +kernel) (pa_cons (pv 0) pa_nil)) pe_int (nomark _)) (pw_or (pt_not (pt_val (pe_callB call_isi rfl (f_isinstance T) (by decide +kernel) (pa_cons (pe_ix ix_tup (pv 0) pe_int (fun _ _ => rfl)) (pa_cons (pe_gty (n := "str") rfl (f_str T) (by decide +kernel)) pa_nil))))) (pw_or1 (pt_cmpR op_ne (pe_ix ix_tup (pv 0) pe_int (fun _ _ => rfl)) pe_str (nomark _))))))) (pss_one (ps_ret pe_bl)) pss_nil)
    (pss_cons (ps_asg (pv 0) (pg_star (n := 5) (k := 2) rfl (pgs_cons (pg_name (i := 1) sc_is_opening.nd rfl (Or.inl rfl)) (pgs_cons (pg_name (i := 2) sc_is_opening.nd rfl (Or.inl rfl)) (pgsS_star (pg_name (i := 3) sc_is_opening.nd rfl (Or.inl rfl)) (pgs_cons (pg_name (i := 4) sc_is_opening.nd rfl (Or.inl rfl)) (pgs_cons (pg_name (i := 5) sc_is_opening.nd rfl (Or.inl rfl)) pgs_nil)))))))
    (pss_cons (ps_if (PW.pt (pw_or (pt_not (pt_val (pe_callB (cr_all rfl) rfl (f_all T) (by decide +kernel) (pa_cons (pe_lc (own := [("hand", 6)]) rfl sc_is_opening.nd (pi_list (pv 3)) (blkOk_by (own := [("hand", 6)]) (N := ["thing", "word", "lane", "hands", "one", "other", "hand"]) (sc := d_is_opening.scope) (by decide +kernel)) (fun _ _ _ _ _ => by exact (pg_name (i := 6) sc_is_opening.nd rfl (Or.inl rfl))) (fun _ _ _ _ _ => by exact pts_nil) (fun _ _ _ _ _ => by exact (pe_cK (P := P) (w := w) (K := K) (mg := mg) (base := base) rfl rfl rfl rfl rfl (ok_is_name T) hr rfl (g_is_name T) (pa_cons (pv 6) pa_nil)))) pa_nil)))) (pw_or1 (pt_cmpR op_eq (pe_ix ix_list (pv 3) pe_int (fun _ _ => rfl)) (pe_ix ix_list (pv 3) pe_int (fun _ _ => rfl)) (nomark _))))) (pss_one (ps_ret pe_bl)) pss_nil)
    (pss_one (ps_ret (pe_and (pe_c (ok_is_count_signs T) hr rfl (g_is_count_signs T) (pa_cons (pv 2) pa_nil)) (pe_and (pe_c (ok_is_count_signs T) hr rfl (g_is_count_signs T) (pa_cons (pv 4) pa_nil)) (pe_and (pe_c (ok_is_count_signs T) hr rfl (g_is_count_signs T) (pa_cons (pv 5) pa_nil)) (pe_one (pe_cmpR op_gt (pe_op op_add (pv 4) (pv 5)) pe_int (nomark _))))))))))), ?_⟩
  obtain ⟨p, rfl, hp, h⟩ := h
  dsimp only [cxOf]
  cases p with
  | t t =>
    dsimp only [Ppr.d, Stt.d]
    walk_at "w"
    exact h
  | o o =>
    dsimp only [Ppr.d, Opn.d]
    walk_at "w"
    refine ⟨_, [(1, _), (2, _), (3, .lst [.str o.l, .str o.r]), (4, _), (5, _)], rfl, by decide, by simp, by simp, fun L2 => wgs_cons wg_name (wgs_cons wg_name (wgs_cons wg_name (wgs_cons wg_name (wgs_cons wg_name wgs_nil)))), ?_⟩
    dsimp only [setG, startG]
    walk_at "w"
    refine we_lcP (wi_listD ?_)
    walk_at "w"
    refine ⟨fun _ _ => trivial, by simp, fun _ => true, fun d => .bl true, fun d hd p acc => ?_, ?_⟩
    · obtain ⟨n, rfl, hn⟩ : ∃ n, d = .str n ∧ isNm n := by
        simp only [List.mem_cons, List.not_mem_nil, or_false] at hd
        rcases hd with rfl | rfl
        · exact ⟨_, rfl, hp.l⟩
        · exact ⟨_, rfl, hp.r⟩
      refine ⟨_, wg_name, by simp, ?_⟩
      walk_at "w"
      exact ⟨rfl, rfl, rfl⟩
    · walk_at "w"
      refine wc_allT (fun d hd => by obtain ⟨_, _, rfl⟩ := List.mem_map.mp hd; rfl) ?_
      walk_at "w"
      refine br_f (decide_eq_false hp.ne) ?_
      walk_at "w"
      refine br_t (decide_eq_true hp.lane) ?_
      walk_at "w"
      refine br_t (decide_eq_true hp.a) ?_
      walk_at "w"
      refine br_t (decide_eq_true hp.b) ?_
      walk_at "w"
      rw [decide_eq_true (show o.a + o.b > 0 from hp.pos)]
      exact h
abbrev aLookName : ASp := A1 fun a L Φ _ => ∃ s, a = .str s ∧ isNm s ∧ Φ .non L
theorem k_lookName {s : Str} {L Φ ex} (hs : isNm s) (h : Φ .non L) : aLookName [.str s] L Φ ex := ⟨_, rfl, s, rfl, hs, h⟩
theorem sc_look_name : FnScope ["hand"] ["hand"] d_look_name.scope := ⟨rfl, rfl, rfl, by decide +kernel, rfl, by decide +kernel, by decide +kernel⟩
theorem ok_look_name (T : Tx K mg) : FOk P w K mg base 2 (He.fAd K d_look_name.at_) ["hand"] aLookName := by
  refine fok_of (d := d_look_name) T 13 (k := 1) rfl rfl rfl sc_look_name (fun ds L Φ ex h => A1.len h) (fun _ _ _ _ _ _ us hl => match us, hl with | [_], _ => rfl) (fun cdv Ar outer s H E ds L Φ ex hr h => ?_)
  obtain ⟨hand, rfl, h⟩ := h
  refine ⟨_, (pss_one (ps_if (pt_not (pt_val (pe_c (ok_is_name T) hr rfl (g_is_name T) (pa_cons (pv 0) pa_nil)))) (pss_one (ps_raise rfl (takes_of rfl rfl rfl rfl) (pmk_own PySem.F.excBase_ValueError (x_NoName T).1 (g_NoName T) (x_NoName T).2.1 (raises_own (x_NoName T).2.2.1 (x_NoName T).2.2.2) rfl))) pss_nil)), ?_⟩
  obtain ⟨s, rfl, hs, h⟩ := h
  dsimp only [cxOf]
  walk_at "w"
  exact h
abbrev aLookPaper : ASp := A2 fun a b L Φ _ => ∃ s p, a = .str s ∧ isNm s ∧ b = Ppr.d p ∧ p.ok ∧ Φ .non L
theorem k_lookPaper {s : Str} {p : Ppr} {L Φ ex} (hs : isNm s) (hp : p.ok) (h : Φ .non L) : aLookPaper [.str s, p.d] L Φ ex := ⟨_, _, rfl, s, p, rfl, hs, rfl, hp, h⟩
theorem sc_look_paper : FnScope ["hand", "paper"] ["hand", "paper"] d_look_paper.scope := ⟨rfl, rfl, rfl, by decide +kernel, rfl, by decide +kernel, by decide +kernel⟩
theorem ok_look_paper (T : Tx K mg) : FOk P w K mg base 5 (He.fAd K d_look_paper.at_) ["hand", "paper"] aLookPaper := by
  refine fok_of (d := d_look_paper) T 14 (k := 4) rfl rfl rfl sc_look_paper (fun ds L Φ ex h => A2.len h) (fun _ _ _ _ _ _ us hl => match us, hl with | [_, _], _ => rfl) (fun cdv Ar outer s H E ds L Φ ex hr h => ?_)
  obtain ⟨hand, paper, rfl, h⟩ := h
  refine ⟨_, (pss_cons (ps_expr (pe_c (ok_look_name T) hr rfl (g_look_name T) (pa_cons (pv 0) pa_nil)))
    (pss_one (ps_if (PW.pt (pw_and (pt_not (pt_val (pe_c (ok_is_opening T) hr rfl (g_is_opening T) (pa_cons (pv 1) pa_nil)))) (pw_and1 (pt_not (pt_val (pe_c (ok_is_state T) hr rfl (g_is_state T) (pa_cons (pv 1) pa_nil))))))) (pss_one (ps_raise rfl (takes_of rfl rfl rfl rfl) (pmk_own PySem.F.excBase_ValueError (x_NoPaper T).1 (g_NoPaper T) (x_NoPaper T).2.1 (raises_own (x_NoPaper T).2.2.1 (x_NoPaper T).2.2.2) rfl))) pss_nil))), ?_⟩
  obtain ⟨s, p, rfl, hs, rfl, hp, h⟩ := h
  dsimp only [cxOf]
  walk_at "w"
  refine k_lookName hs ?_
  walk_at "w"
  refine k_opening hp ?_
  walk_at "w"
  cases p with
  | o o =>
    refine br_f rfl ?_
    walk_at "w"
    exact h
  | t t =>
    refine br_t rfl ?_
    walk_at "w"
    refine k_state hp ?_
    walk_at "w"
    exact h
end
end Cl
set_option Elab.async false
set_option linter.all false
set_option maxRecDepth 100000
set_option maxHeartbeats 4000000
namespace Cl
open PySem PySem.Spec PyProof.Rows L2
local macro_rules | `(tactic| walk_at "at") => `(tactic| repeat first | with_reducible exact At.here | with_reducible apply At.tail | (with_reducible apply At.in (by assumption)))
local macro_rules | `(tactic| walk_at "fact") => `(tactic| first | exact c_Court (by assumption) | exact c_Lane (by assumption) | exact c_Signs (by assumption) | exact n_Court_clock (by assumption) | exact n_Court_long (by assumption) | exact n_Court_bags (by assumption) | exact n_Court_book (by assumption) | exact n_Court_opened (by assumption) | exact n_Court_seen (by assumption) | exact n_Court_kept (by assumption) | exact n_Court_deeds (by assumption) | exact n_Lane_both (by assumption) | exact n_Lane_first (by assumption) | exact n_Lane_standing (by assumption) | exact n_Lane_mood (by assumption) | exact n_Lane_ending (by assumption) | exact n_Signs_by_hand (by assumption))
local macro_rules | `(tactic| walk_at "ge") => `(tactic| first
  | with_reducible refine we_var rfl ?_
  | with_reducible refine we_int ?_
  | with_reducible refine we_str ?_
  | with_reducible refine we_ty ?_
  | with_reducible refine we_bl ?_
  | with_reducible refine we_non ?_
  | with_reducible refine we_ref ?_
  | with_reducible refine we_op ?_
  | with_reducible refine we_cb ?_
  | with_reducible refine we_call0 ?_
  | with_reducible refine we_call ?_
  | with_reducible refine we_lst ?_
  | with_reducible refine we_tup ?_
  | with_reducible refine we_andV ?_
  | with_reducible refine we_orV ?_
  | with_reducible refine we_notV ?_
  | with_reducible refine we_if ?_
  | with_reducible refine we_chain ?_
  | with_reducible refine we_sl ?_
  | with_reducible refine we_dnewK (fun _ => ?_)
  | with_reducible refine we_dnewN (fun _ => ?_)
  | with_reducible refine we_fld ?_
  | with_reducible refine we_dget ?_
  | with_reducible refine we_din ?_
  | with_reducible refine we_dnotIn ?_
  | with_reducible refine we_dget2 ?_
  | with_reducible refine we_dsetd ?_
  | with_reducible refine we_meth0 ?_
  | with_reducible refine we_meth ?_
  | with_reducible refine we_bm ?_)
local macro_rules | `(tactic| walk_at "gt") => `(tactic| first
  | with_reducible refine wt_B ?_
  | with_reducible refine wt_test ?_
  | with_reducible refine wt_not ?_
  | with_reducible refine wt_and ?_
  | with_reducible refine wt_or ?_
  | with_reducible refine wt_yes ?_)
local macro_rules | `(tactic| walk_at "gst") => `(tactic| first
  | with_reducible refine ws_ret ?_
  | with_reducible refine ws_retN ?_
  | with_reducible refine ws_seq ?_
  | with_reducible refine ws_set ?_
  | with_reducible refine ws_drop ?_
  | with_reducible refine ws_if ?_
  | with_reducible refine ws_next ?_
  | with_reducible refine ws_raise ?_
  | with_reducible refine ws_asgS ?_
  | with_reducible refine ws_setL ?_
  | with_reducible refine ws_setN ?_
  | with_reducible refine ws_asg ?_
  | with_reducible refine ws_fld ?_
  | with_reducible refine ws_fldaddI ?_
  | with_reducible refine ws_dput ?_)
local macro_rules | `(tactic| walk_at "gr") => `(tactic| first
  | with_reducible refine wr_ixT rfl ?_
  | with_reducible refine wr_ixL rfl ?_
  | with_reducible refine wr_int ?_
  | with_reducible refine wr_bool ?_
  | with_reducible refine wr_eqI ?_
  | with_reducible refine wr_neI ?_
  | with_reducible refine wr_eqS ?_
  | with_reducible refine wr_neS ?_
  | with_reducible refine wr_eqB ?_
  | with_reducible refine wr_neB ?_
  | with_reducible refine wr_isN ?_
  | with_reducible refine wr_notN ?_
  | (with_reducible refine isIxC ?_; with_reducible refine wr_ixC (by walk_at "at") (by with_unfolding_all rfl) ?_))
local macro_rules | `(tactic| walk_at "gc") => `(tactic| first
  | with_reducible refine wc_isi rfl rfl ?_
  | with_reducible refine wc_isi (by decide) (by decide +kernel) ?_
  | (with_reducible refine isLen ?_; with_reducible refine wc_lenC (by walk_at "at") ?_)
  | with_reducible refine wc_lenT ?_
  | with_reducible refine wc_lenL ?_)
local macro_rules | `(tactic| walk_at "ga") => `(tactic| first
  | with_reducible refine wa_cons ?_
  | with_reducible refine wa_nil ?_)
local macro_rules | `(tactic| walk_at "gx") => `(tactic| first
  | (with_reducible refine isLn ?_; with_reducible refine lenAnd (by simp) ?_)
  | with_reducible refine wo_none ?_
  | with_reducible refine wo_some ?_
  | with_reducible refine ex_bl ?_
  | with_reducible refine ex_int ?_
  | with_reducible refine ex_str ?_
  | with_reducible refine ex_tup ?_
  | with_reducible refine ex_lst ?_
  | with_reducible refine br_true ?_
  | with_reducible refine br_false ?_
  | (with_reducible refine isBr ?_; refine br_t rfl ?_)
  | (with_reducible refine isBr ?_; refine br_f rfl ?_)
  | (with_reducible refine isFld ?_; with_reducible refine ex_fld (by walk_at "at") (by walk_at "fact") (by walk_at "fact") (by with_unfolding_all rfl) ?_)
  | (with_reducible refine isPut ?_; with_reducible refine ex_put (by walk_at "at") (by walk_at "fact") (by walk_at "fact") (by simp) ?_)
  | (with_reducible refine isMeth ?_; with_reducible refine ex_meth (by walk_at "at") (by with_unfolding_all rfl) ?_)
  | (with_reducible refine isTy ?_; with_reducible refine And.intro (ty_cell (by walk_at "at")) ?_))
local macro_rules | `(tactic| walk_at "s") => `(tactic| first
  | (with_reducible refine isWE ?_; walk_at "ge")
  | (with_reducible refine isWS ?_; walk_at "gst")
  | (with_reducible refine isWT ?_; walk_at "gt")
  | (with_reducible refine isWR ?_; walk_at "gr")
  | (with_reducible refine isWA ?_; walk_at "ga")
  | (with_reducible refine isWC ?_; walk_at "gc")
  | walk_at "gx")
local macro_rules | `(tactic| walk_at "w") => `(tactic| repeat walk_at "s")

section
variable {P : Program} {w : World} {K : PySem.W.Frag} {mg : Str → Option Value} {base : Heap}
/-! ### papers as keys -/
theorem lock_nk (l : Lck) : l.d.nk = some (.tup [.num l.id, .text (side l.rt), .num l.am, .num l.sl, .num l.la]) := by simp [Lck.d, D.nk, D.nks]
theorem locks_nk : ∀ ls : List Lck, D.nks (ls.map Lck.d) = some (ls.map fun l => .tup [.num l.id, .text (side l.rt), .num l.am, .num l.sl, .num l.la])
  | [] => by simp [D.nks]
  | l :: ls => by rw [List.map_cons, List.map_cons, D.nks, lock_nk, locks_nk ls]
theorem locks_depth : ∀ ls : List Lck, NestedKey.depthAll (ls.map fun l => NestedKey.tup [.num l.id, .text (side l.rt), .num l.am, .num l.sl, .num l.la]) ≤ 1
  | [] => by simp [NestedKey.depthAll]
  | l :: ls => by
    rw [List.map_cons, NestedKey.depthAll]
    have := locks_depth ls
    have e : (NestedKey.tup [.num l.id, .text (side l.rt), .num l.am, .num l.sl, .num l.la]).depth = 1 := by simp [NestedKey.depth, NestedKey.depthAll]
    omega
theorem ppr_nk (p : Ppr) : ∃ ds k, p.d = .tup ds ∧ (D.tup ds).nk = some k ∧ k.depth ≤ 4 := by
  cases p with
  | o o => exact ⟨_, _, rfl, by simp [D.nk, D.nks]; rfl, by simp [NestedKey.depth, NestedKey.depthAll]⟩
  | t t =>
    refine ⟨_, .tup [.num t.lane, .num t.num, .num t.l, .num t.r, .tup (t.locks.map fun l => .tup [.num l.id, .text (side l.rt), .num l.am, .num l.sl, .num l.la])], rfl, by simp [D.nk, D.nks, locks_nk], ?_⟩
    have := locks_depth t.locks
    simp [NestedKey.depth, NestedKey.depthAll]
    omega
/-! ### the signs' cells -/
abbrev Sg := List (Str × Addr × List D)
def sgK (sg : Sg) : List (Key × D) := sg.map fun e => (.inr e.1, .ref e.2.1)
def sgN (sg : Sg) : Sto := sg.map fun e => (e.2.1, .dN e.2.2)
theorem sgN_app (A B : Sg) : sgN (A ++ B) = sgN A ++ sgN B := List.map_append
theorem sgN_cons (e : Str × Addr × List D) (B : Sg) : sgN (e :: B) = (e.2.1, .dN e.2.2) :: sgN B := rfl
theorem sgK_app (A B : Sg) : sgK (A ++ B) = sgK A ++ sgK B := List.map_append
theorem sgK_len (A : Sg) : (sgK A).length = A.length := List.length_map _
def SgC (K : PySem.W.Frag) (g h : Addr) (sg : Sg) : Sto := (g, .ins (He.ga K "Signs") [("by_hand", .ref h)]) :: (h, .dK (sgK sg)) :: sgN sg
structure SgOk (N : Nat) (sg : Sg) : Prop where
  nd : (sg.map (·.1)).Nodup
  len : sg.length ≤ N
  each : ∀ e ∈ sg, e.2.2.length ≤ N
def sgd (sg : Sg) (s : Str) (d : D) : Prop := ∃ e ∈ sg, e.1 = s ∧ d ∈ e.2.2
theorem valD_sg {s : Str} : ∀ {sg : Sg}, (∀ e ∈ sg, e.1 ≠ s) → valD (sgK sg) (.inr s) = none
  | [], _ => rfl
  | e :: sg, h => by
    have h1 := h e List.mem_cons_self
    have ih := valD_sg (s := s) (sg := sg) fun e he => h e (List.mem_cons_of_mem _ he)
    unfold valD sgK at ih ⊢
    rw [List.map_cons, List.find?_cons]
    have : decide ((Sum.inr e.1 : Key) = .inr s) = false := decide_eq_false fun z => h1 (Sum.inr.inj z)
    rw [this]
    exact ih
theorem valD_sg2 {s : Str} {a : Addr} {ps : List D} : ∀ {sg : Sg}, (sg.map (·.1)).Nodup → (s, a, ps) ∈ sg → valD (sgK sg) (.inr s) = some (.ref a)
  | e :: sg, nd, h => by
    unfold valD sgK
    rw [List.map_cons, List.find?_cons]
    by_cases q : e.1 = s
    · rw [decide_eq_true (congrArg Sum.inr q)]
      rcases List.mem_cons.mp h with h | h
      · subst h; rfl
      · rw [List.map_cons, List.nodup_cons] at nd
        exact absurd (List.mem_map.mpr ⟨_, h, q.symm⟩) nd.1
    · rw [decide_eq_false fun z => q (Sum.inr.inj z)]
      rcases List.mem_cons.mp h with h | h
      · subst h; exact absurd rfl q
      · rw [List.map_cons, List.nodup_cons] at nd
        exact valD_sg2 nd.2 h
def aSInit (K : PySem.W.Frag) : ASp := A1 fun self L Φ _ => ∃ g L0, self = .ref g ∧ L = (g, .ins (He.ga K "Signs") []) :: L0 ∧ ∀ h, Φ .non ((h, .dK []) :: (g, .ins (He.ga K "Signs") [("by_hand", .ref h)]) :: L0)
theorem sc_Signs_init : FnScope ["self"] ["self"] d_Signs_init.scope := ⟨rfl, rfl, rfl, by decide +kernel, rfl, by decide +kernel, by decide +kernel⟩
theorem ok_Signs_init (T : Tx K mg) : FOk P w K mg base 1 (He.fAd K d_Signs_init.at_) ["self"] (aSInit K) := by
  refine fok_of (d := d_Signs_init) T 15 (k := 0) rfl rfl rfl sc_Signs_init (fun ds L Φ ex h => A1.len h) (fun _ _ _ _ _ _ us hl => match us, hl with | [_], _ => rfl) (fun cdv Ar outer s H E ds L Φ ex hr h => ?_)
  obtain ⟨self_, rfl, h⟩ := h
  refine ⟨_, (pss_one (ps_fld (pv 0) pe_dnewK rfl)), ?_⟩
  obtain ⟨g, L0, rfl, rfl, h⟩ := h
  dsimp only [cxOf]
  walk_at "w"
  exact h _
theorem hole_snoc {f : Sto → Sto} (hf : Hole f) {S : Sto} {x : Addr × Co} : (f (S ++ [x])).Perm (x :: f S) := by
  obtain ⟨A, B, e⟩ := hf
  rw [e, e]
  have := List.perm_middle (a := x) (l₁ := A ++ S) (l₂ := B)
  simpa using this
theorem nodup_key {sg : Sg} {e e' : Str × Addr × List D} (nd : (sg.map (·.1)).Nodup) (h1 : e ∈ sg) (h2 : e' ∈ sg) (h : e.1 = e'.1) : e = e' := by
  induction sg with
  | nil => exact nomatch h1
  | cons x sg ih =>
    rw [List.map_cons, List.nodup_cons] at nd
    rcases List.mem_cons.mp h1 with z | z
    · rcases List.mem_cons.mp h2 with y | y
      · rw [z, y]
      · rw [z] at h
        exact absurd (List.mem_map.mpr ⟨_, y, h.symm⟩) nd.1
    · rcases List.mem_cons.mp h2 with y | y
      · rw [y] at h
        exact absurd (List.mem_map.mpr ⟨_, z, h⟩) nd.1
      · exact ih nd.2 z y
def aSigned (K : PySem.W.Frag) : ASp := A3 fun self a b L Φ _ => ∃ g h sg N f s p, self = .ref g ∧ a = .str s ∧ isNm s ∧ b = Ppr.d p ∧ p.ok ∧ Part (SgC K g h sg) L f ∧ SgOk N sg ∧ ∀ c : Bool, (c = true ↔ sgd sg s p.d) → Φ (.bl c) L
theorem sc_Signs_signed : FnScope ["self", "hand", "paper"] ["self", "hand", "paper"] d_Signs_signed.scope := ⟨rfl, rfl, rfl, by decide +kernel, rfl, by decide +kernel, by decide +kernel⟩
theorem ok_Signs_signed (T : Tx K mg) : FOk P w K mg base 6 (He.fAd K d_Signs_signed.at_) ["self", "hand", "paper"] (aSigned K) := by
  refine fok_of (d := d_Signs_signed) T 17 (k := 5) rfl rfl rfl sc_Signs_signed (fun ds L Φ ex h => A3.len h) (fun _ _ _ _ _ _ us hl => match us, hl with | [_, _, _], _ => rfl) (fun cdv Ar outer s H E ds L Φ ex hr h => ?_)
  obtain ⟨self_, hand, paper, rfl, h⟩ := h
  refine ⟨_, (pss_cons (ps_expr (pe_c (ok_look_paper T) hr rfl (g_look_paper T) (pa_cons (pv 1) (pa_cons (pv 2) pa_nil))))
    (pss_one (ps_ret (pe_cmpR (op_inN hr.units) (pv 2) (pe_dget2 (hu_of hr) (pe_fld (pv 0) rfl) (pv 1) pe_dnewN ⟨rfl, rfl, rfl, rfl⟩) rfl)))), ?_⟩
  obtain ⟨g, h0, sg, N, f, s, p, rfl, rfl, hs, rfl, hp, ⟨hf, rfl⟩, ok, h⟩ := h
  dsimp only [cxOf]
  walk_at "w"
  refine k_lookPaper hs hp ?_
  refine ws_ret (WE.forget ?_)
  unfold SgC
  walk_at "w"
  refine ⟨_, _, _, rfl, by walk_at "at", ?_⟩
  walk_at "w"
  refine ⟨_, .inr s, _, rfl, by walk_at "at", ?_⟩
  obtain ⟨pd, k, epd, hk, hdep⟩ := ppr_nk p
  rw [epd]
  by_cases hx : ∃ e ∈ sg, e.1 = s
  · obtain ⟨⟨s1, a, ps⟩, he, rfl⟩ := hx
    obtain ⟨A, B, rfl⟩ := List.append_of_mem he
    rw [valD_sg2 ok.nd he]
    refine wr_inN hk (by omega) (At.tail (At.in hf (At.tail (At.tail (by rw [sgN_app, sgN_cons]; exact At.mid))))) fun b hb => ⟨_, List.sublist_cons_self _ _, h b ?_⟩
    rw [hb, ← epd]
    refine Iff.intro (fun (hm : p.d ∈ ps) => ⟨_, he, rfl, hm⟩) (fun ⟨e, h1, h2, h3⟩ => ?_)
    have : e = (s1, a, ps) := nodup_key ok.nd h1 he h2
    rw [this] at h3
    exact h3
  · rw [valD_sg (s := s) fun e he q => hx ⟨e, he, q⟩]
    refine wr_inN (ks := []) hk (by omega) At.here fun b hb => ⟨_, List.sublist_cons_self _ _, h b ?_⟩
    rw [hb]
    exact ⟨fun z => (nomatch z), fun ⟨e, h1, h2, _⟩ => absurd ⟨e, h1, h2⟩ hx⟩
theorem putKD_none {kvs : List (Key × D)} {k : Key} {v : D} (h : valD kvs k = none) : putKD kvs k v = kvs ++ [(k, v)] := by
  unfold putKD
  rw [if_neg]
  intro hc
  obtain ⟨kv, h1, h2⟩ := List.any_eq_true.mp hc
  unfold valD at h
  rw [Option.map_eq_none_iff, List.find?_eq_none] at h
  exact h _ h1 h2
def aSign (K : PySem.W.Frag) : ASp := A3 fun self a b L Φ _ => ∃ g h sg N f s p, self = .ref g ∧ a = .str s ∧ isNm s ∧ b = Ppr.d p ∧ p.ok ∧ Part (SgC K g h sg) L f ∧ SgOk N sg ∧ N < 90000 ∧
  ∀ sg', SgOk (N + 1) sg' → (∀ s' d', sgd sg' s' d' ↔ sgd sg s' d' ∨ (s' = s ∧ d' = p.d)) → Φ .non (f (SgC K g h sg'))
theorem sc_Signs_sign : FnScope ["self", "hand", "paper", "own"] ["self", "hand", "paper"] d_Signs_sign.scope := ⟨rfl, rfl, rfl, by decide +kernel, rfl, by decide +kernel, by decide +kernel⟩
theorem ok_Signs_sign (T : Tx K mg) : FOk P w K mg base 6 (He.fAd K d_Signs_sign.at_) ["self", "hand", "paper"] (aSign K) := by
  refine fok_of (d := d_Signs_sign) T 16 (k := 5) rfl rfl rfl sc_Signs_sign (fun ds L Φ ex h => A3.len h) (fun _ _ _ _ _ _ us hl => match us, hl with | [_, _, _], _ => rfl) (fun cdv Ar outer s H E ds L Φ ex hr h => ?_)
  obtain ⟨self_, hand, paper, rfl, h⟩ := h
  refine ⟨_, (pss_cons (ps_expr (pe_c (ok_look_paper T) hr rfl (g_look_paper T) (pa_cons (pv 1) (pa_cons (pv 2) pa_nil))))
    (pss_cons (ps_set (i := 3) sc_Signs_sign.nd rfl (Or.inl rfl) (pe_dsetd (pe_fld (pv 0) rfl) (pv 1) pe_dnewN ⟨rfl, rfl, rfl, rfl⟩))
    (pss_one (ps_asg pe_bl (pg_sub (pv 3) (pv 2) (set_dN hr.units)))))), ?_⟩
  obtain ⟨g, h0, sg, N, f, s, p, rfl, rfl, hs, rfl, hp, ⟨hf, rfl⟩, ok, hN, h⟩ := h
  dsimp only [cxOf]
  walk_at "w"
  refine k_lookPaper hs hp ?_
  walk_at "w"
  unfold SgC
  walk_at "w"
  refine ⟨_, _, _, rfl, by walk_at "at", ?_⟩
  walk_at "w"
  obtain ⟨pd, k, epd, hk, hdep⟩ := ppr_nk p
  rw [epd] at h ⊢
  rename_i q
  refine ⟨_, .inr s, _, rfl, by walk_at "at", by have := ok.len; rw [sgK_len]; omega, fun d hd => ?_, fun hd => ?_⟩
  · by_cases hx : ∃ e ∈ sg, e.1 = s
    · obtain ⟨⟨s1, a, ps⟩, he, rfl⟩ := hx
      rw [valD_sg2 ok.nd he] at hd
      cases hd
      obtain ⟨A, B, rfl⟩ := List.append_of_mem he
      refine WS.drop (List.sublist_cons_self _ _) ?_
      walk_at "w"
      have hl : ps.length ≤ N := ok.each _ he
      have hA : At a (.dN ps) (f ((g, .ins (He.ga K "Signs") [("by_hand", .ref h0)]) :: (h0, .dK (sgK (A ++ (s1, a, ps) :: B))) :: sgN (A ++ (s1, a, ps) :: B))) (fun c => f ((g, .ins (He.ga K "Signs") [("by_hand", .ref h0)]) :: (h0, .dK (sgK (A ++ (s1, a, ps) :: B))) :: (sgN A ++ (a, c) :: sgN B))) :=
        At.in hf (At.tail (At.tail (by rw [sgN_app, sgN_cons]; exact At.mid)))
      refine ⟨a, pd, k, ps, _, rfl, rfl, rfl, hk, by omega, hA, by omega, fun hm => ?_, fun hm => ?_⟩
      · have := h (A ++ (s1, a, ps) :: B) ⟨ok.nd, by have := ok.len; omega, fun e he => by have := ok.each e he; omega⟩ fun s' d' => ⟨.inl, fun z => z.elim id fun ⟨e1, e2⟩ => ⟨_, he, e1.symm, by rw [e2]; exact hm⟩⟩
        unfold SgC at this
        rw [sgN_app, sgN_cons] at this
        exact this
      · have := h (A ++ (s1, a, ps ++ [.tup pd]) :: B) ⟨by have := ok.nd; rw [List.map_append, List.map_cons] at this ⊢; exact this, by have := ok.len; rw [List.length_append, List.length_cons] at this ⊢; omega, fun e he' => ?_⟩ fun s' d' => ?_
        · unfold SgC at this
          rw [sgN_app, sgN_cons, sgK_app] at this
          rw [sgK_app]
          exact this
        · rcases List.mem_append.mp he' with z | z
          · have := ok.each e (List.mem_append_left _ z); omega
          · rcases List.mem_cons.mp z with rfl | z
            · rw [List.length_append]; simp; omega
            · have := ok.each e (List.mem_append_right _ (List.mem_cons_of_mem _ z)); omega
        · constructor
          · rintro ⟨e, h1, h2, h3⟩
            rcases List.mem_append.mp h1 with z | z
            · exact .inl ⟨e, List.mem_append_left _ z, h2, h3⟩
            · rcases List.mem_cons.mp z with rfl | z
              · rcases List.mem_append.mp h3 with y | y
                · exact .inl ⟨_, he, h2, y⟩
                · exact .inr ⟨h2.symm, by simpa using y⟩
              · exact .inl ⟨e, List.mem_append_right _ (List.mem_cons_of_mem _ z), h2, h3⟩
          · rintro (⟨e, h1, h2, h3⟩ | ⟨rfl, rfl⟩)
            · rcases List.mem_append.mp h1 with z | z
              · exact ⟨e, List.mem_append_left _ z, h2, h3⟩
              · rcases List.mem_cons.mp z with rfl | z
                · exact ⟨_, List.mem_append_right _ List.mem_cons_self, h2, List.mem_append_left _ h3⟩
                · exact ⟨e, List.mem_append_right _ (List.mem_cons_of_mem _ z), h2, h3⟩
            · exact ⟨_, List.mem_append_right _ List.mem_cons_self, rfl, by simp⟩
    · rw [valD_sg (s := s) fun e he q => hx ⟨e, he, q⟩] at hd
      cases hd
  · have hx : ∀ e ∈ sg, e.1 ≠ s := fun e he q => by
      have := valD_sg2 (s := e.1) (a := e.2.1) (ps := e.2.2) ok.nd he
      rw [q, hd] at this
      cases this
    rw [putKD_none hd]
    refine WS.perm (hole_snoc (S := (g, .ins (He.ga K "Signs") [("by_hand", .ref h0)]) :: (h0, .dK (sgK (sg ++ [(s, q, [])]))) :: sgN sg) (x := (q, .dN [])) hf |>.trans (by rw [sgK_app]; exact .refl _)) ?_
    walk_at "w"
    refine ⟨q, pd, k, [], fun c => f (((g, .ins (He.ga K "Signs") [("by_hand", .ref h0)]) :: (h0, .dK (sgK (sg ++ [(s, q, [])]))) :: sgN sg) ++ [(q, c)]), rfl, rfl, rfl, hk, by omega, At.in hf (At.right At.here), by decide, fun hm => (nomatch hm), fun _ => ?_⟩
    have := h (sg ++ [(s, q, [.tup pd])]) ⟨?_, by have := ok.len; rw [List.length_append]; simp; omega, fun e he => ?_⟩ fun s' d' => ?_
    · unfold SgC at this
      rw [sgN_app, sgK_app] at this
      rw [sgK_app]
      exact this
    · rw [List.map_append, List.nodup_append]
      refine ⟨ok.nd, by simp, fun a ha b hb => ?_⟩
      obtain ⟨e, he, rfl⟩ := List.mem_map.mp ha
      have : b = s := by simpa using hb
      rw [this]
      exact hx e he
    · rcases List.mem_append.mp he with z | z
      · have := ok.each e z; omega
      · have : e = (s, q, [.tup pd]) := by simpa using z
        rw [this]
        simp
    · constructor
      · rintro ⟨e, h1, h2, h3⟩
        rcases List.mem_append.mp h1 with z | z
        · exact .inl ⟨e, z, h2, h3⟩
        · have : e = (s, q, [.tup pd]) := by simpa using z
          rw [this] at h2 h3
          exact .inr ⟨h2.symm, by simpa using h3⟩
      · rintro (⟨e, h1, h2, h3⟩ | ⟨rfl, rfl⟩)
        · exact ⟨e, List.mem_append_left _ h1, h2, h3⟩
        · exact ⟨_, List.mem_append_right _ List.mem_cons_self, rfl, by simp⟩
end
end Cl
set_option Elab.async false
set_option linter.all false
set_option maxRecDepth 100000
set_option maxHeartbeats 4000000
namespace Cl
open PySem PySem.Spec PyProof.Rows L2
theorem ex_etup {c : List D} {p : List D → Prop} (h : p c) : ∃ b, D.etup c = D.etup b ∧ p b := ⟨c, rfl, h⟩
local macro_rules | `(tactic| walk_at "at") => `(tactic| repeat first | with_reducible exact At.here | with_reducible apply At.tail | (with_reducible apply At.in (by assumption)))
local macro_rules | `(tactic| walk_at "fact") => `(tactic| first | exact c_Court (by assumption) | exact c_Lane (by assumption) | exact c_Signs (by assumption) | exact n_Court_clock (by assumption) | exact n_Court_long (by assumption) | exact n_Court_bags (by assumption) | exact n_Court_book (by assumption) | exact n_Court_opened (by assumption) | exact n_Court_seen (by assumption) | exact n_Court_kept (by assumption) | exact n_Court_deeds (by assumption) | exact n_Lane_both (by assumption) | exact n_Lane_first (by assumption) | exact n_Lane_standing (by assumption) | exact n_Lane_mood (by assumption) | exact n_Lane_ending (by assumption) | exact n_Signs_by_hand (by assumption))
local macro_rules | `(tactic| walk_at "ge") => `(tactic| first
  | with_reducible refine we_var rfl ?_
  | with_reducible refine we_int ?_
  | with_reducible refine we_str ?_
  | with_reducible refine we_ty ?_
  | with_reducible refine we_bl ?_
  | with_reducible refine we_non ?_
  | with_reducible refine we_ref ?_
  | with_reducible refine we_op ?_
  | with_reducible refine we_cb ?_
  | with_reducible refine we_call0 ?_
  | with_reducible refine we_call ?_
  | with_reducible refine we_lst ?_
  | with_reducible refine we_tup ?_
  | with_reducible refine we_andV ?_
  | with_reducible refine we_orV ?_
  | with_reducible refine we_notV ?_
  | with_reducible refine we_if ?_
  | with_reducible refine we_chain ?_
  | with_reducible refine we_sl ?_
  | with_reducible refine we_dnewK (fun _ => ?_)
  | with_reducible refine we_dnewN (fun _ => ?_)
  | with_reducible refine we_fld ?_
  | with_reducible refine we_dget ?_
  | with_reducible refine we_din ?_
  | with_reducible refine we_dnotIn ?_
  | with_reducible refine we_dget2 ?_
  | with_reducible refine we_dsetd ?_
  | with_reducible refine we_meth0 ?_
  | with_reducible refine we_meth ?_
  | with_reducible refine we_bm ?_)
local macro_rules | `(tactic| walk_at "gt") => `(tactic| first
  | with_reducible refine wt_B ?_
  | with_reducible refine wt_test ?_
  | with_reducible refine wt_not ?_
  | with_reducible refine wt_and ?_
  | with_reducible refine wt_or ?_
  | with_reducible refine wt_yes ?_)
local macro_rules | `(tactic| walk_at "gst") => `(tactic| first
  | with_reducible refine ws_ret ?_
  | with_reducible refine ws_retN ?_
  | with_reducible refine ws_seq ?_
  | with_reducible refine ws_set ?_
  | with_reducible refine ws_drop ?_
  | with_reducible refine ws_if ?_
  | with_reducible refine ws_next ?_
  | with_reducible refine ws_raise ?_
  | with_reducible refine ws_asgS ?_
  | with_reducible refine ws_setL ?_
  | with_reducible refine ws_setN ?_
  | with_reducible refine ws_asg ?_
  | with_reducible refine ws_fld ?_
  | with_reducible refine ws_fldaddI ?_
  | with_reducible refine ws_dput ?_)
local macro_rules | `(tactic| walk_at "gr") => `(tactic| first
  | with_reducible refine wr_ixT rfl ?_
  | with_reducible refine wr_ixL rfl ?_
  | with_reducible refine wr_int ?_
  | with_reducible refine wr_bool ?_
  | with_reducible refine wr_eqI ?_
  | with_reducible refine wr_neI ?_
  | with_reducible refine wr_eqS ?_
  | with_reducible refine wr_neS ?_
  | with_reducible refine wr_eqB ?_
  | with_reducible refine wr_neB ?_
  | with_reducible refine wr_isN ?_
  | with_reducible refine wr_notN ?_
  | (with_reducible refine isIxC ?_; with_reducible refine wr_ixC (by walk_at "at") (by with_unfolding_all rfl) ?_))
local macro_rules | `(tactic| walk_at "gc") => `(tactic| first
  | with_reducible refine wc_isi rfl rfl ?_
  | with_reducible refine wc_isi (by decide) (by decide +kernel) ?_
  | (with_reducible refine isLen ?_; with_reducible refine wc_lenC (by walk_at "at") ?_)
  | with_reducible refine wc_lenT ?_
  | with_reducible refine wc_lenL ?_)
local macro_rules | `(tactic| walk_at "ga") => `(tactic| first
  | with_reducible refine wa_cons ?_
  | with_reducible refine wa_nil ?_)
local macro_rules | `(tactic| walk_at "gx") => `(tactic| first
  | (with_reducible refine isLn ?_; with_reducible refine lenAnd (by simp) ?_)
  | with_reducible refine wo_none ?_
  | with_reducible refine wo_some ?_
  | with_reducible refine ex_bl ?_
  | with_reducible refine ex_int ?_
  | with_reducible refine ex_str ?_
  | with_reducible refine ex_tup ?_
  | with_reducible refine ex_lst ?_
  | with_reducible refine ex_etup ?_
  | with_reducible refine br_true ?_
  | with_reducible refine br_false ?_
  | (with_reducible refine isBr ?_; refine br_t rfl ?_)
  | (with_reducible refine isBr ?_; refine br_f rfl ?_)
  | (with_reducible refine isFld ?_; with_reducible refine ex_fld (by walk_at "at") (by walk_at "fact") (by walk_at "fact") (by with_unfolding_all rfl) ?_)
  | (with_reducible refine isPut ?_; with_reducible refine ex_put (by walk_at "at") (by walk_at "fact") (by walk_at "fact") (by with_unfolding_all exact of_decide_eq_true rfl) ?_)
  | (with_reducible refine isMeth ?_; with_reducible refine ex_meth (by walk_at "at") (by with_unfolding_all rfl) ?_)
  | (with_reducible refine isTy ?_; with_reducible refine And.intro (ty_cell (by walk_at "at")) ?_)
  | with_reducible refine k_whole ?_
  | with_reducible refine k_count ?_
  | with_reducible refine k_amount ?_)
local macro_rules | `(tactic| walk_at "s") => `(tactic| first
  | (with_reducible refine isWE ?_; walk_at "ge")
  | (with_reducible refine isWS ?_; walk_at "gst")
  | (with_reducible refine isWT ?_; walk_at "gt")
  | (with_reducible refine isWR ?_; walk_at "gr")
  | (with_reducible refine isWA ?_; walk_at "ga")
  | (with_reducible refine isWC ?_; walk_at "gc")
  | walk_at "gx")
local macro_rules | `(tactic| walk_at "w") => `(tactic| repeat walk_at "s")

section
variable {P : Program} {w : World} {K : PySem.W.Frag} {mg : Str → Option Value} {base : Heap}
/-! ### the court's plain state -/
def oD : Option Int → D
  | none => .non
  | some i => .int i
structure Rd where
  l : Str
  r : Str
  first : Stt
  st : Stt
  mood : Str
  en : Option Int
def Rd.fs (r : Rd) : List (Str × D) := [("both", .tup [.str r.l, .str r.r]), ("first", r.first.d), ("standing", r.st.d), ("mood", .str r.mood), ("ending", oD r.en)]
structure CtS where
  long : Int
  clock : Int
  bags : List (Str × Int)
  lanes : List Rd
  seen : List (Int × Int × Int)
  kept : List (Int × Lck)
  rows : List D
def kpD (e : Int × Lck) : D := .tup [.int e.1, e.2.d]
def bagK (bs : List (Str × Int)) : List (Key × D) := bs.map fun e => (.inr e.1, .int e.2)
def seenK (bs : List (Int × Int × Int)) : List (Key × D) := bs.map fun e => (.inl e.1, .tup [.int e.2.1, .int e.2.2])
structure Ad where
  c : Addr
  g : Addr
  h : Addr
  b : Addr
  o : Addr
  sn : Addr
  dd : Addr
def ctF (a : Ad) (s : CtS) : List (Str × D) := [("book", .ref a.g), ("long", .int s.long), ("clock", .int s.clock), ("bags", .ref a.b), ("opened", .ref a.o), ("seen", .ref a.sn), ("kept", .lst (s.kept.map kpD)), ("deeds", .ref a.dd)]
def laC (K : PySem.W.Frag) (la : List Addr) (ls : List Rd) : Sto := (la.zip ls).map fun e => (e.1, .ins (He.ga K "Lane") e.2.fs)
def MC (K : PySem.W.Frag) (a : Ad) (la : List Addr) (s : CtS) (sg : Sg) : Sto :=
  (a.c, .ins (He.ga K "Court") (ctF a s)) :: (a.b, .dK (bagK s.bags)) :: (a.o, .lst (la.map D.ref)) :: (a.sn, .dK (seenK s.seen)) :: (a.dd, .lst s.rows) :: (laC K la s.lanes ++ SgC K a.g a.h sg)
def bget (bs : List (Str × Int)) (h : Str) : Option Int := (bs.find? fun e => decide (e.1 = h)).map (·.2)
def bput (bs : List (Str × Int)) (h : Str) (v : Int) : List (Str × Int) := bs.map fun e => if e.1 = h then (e.1, v) else e
theorem bagK_get (h : Str) : ∀ bs : List (Str × Int), valD (bagK bs) (.inr h) = (bget bs h).map D.int
  | [] => rfl
  | e :: bs => by
    have ih := bagK_get h bs
    unfold valD bagK bget at ih ⊢
    rw [List.map_cons, List.find?_cons, List.find?_cons]
    by_cases q : e.1 = h
    · rw [decide_eq_true (congrArg Sum.inr q), decide_eq_true q]; rfl
    · rw [decide_eq_false fun z => q (Sum.inr.inj z), decide_eq_false q]; exact ih
theorem bagK_any (h : Str) : ∀ bs : List (Str × Int), ((bagK bs).any fun kv => decide (kv.1 = .inr h)) = (bget bs h).isSome
  | [] => rfl
  | e :: bs => by
    have ih := bagK_any h bs
    unfold bagK bget at ih ⊢
    rw [List.map_cons, List.find?_cons, List.any_cons]
    by_cases q : e.1 = h
    · rw [decide_eq_true (congrArg Sum.inr q), decide_eq_true q]; rfl
    · rw [decide_eq_false fun z => q (Sum.inr.inj z), decide_eq_false q]; exact ih
theorem bagK_put {h : Str} {v : Int} {bs : List (Str × Int)} (hb : (bget bs h).isSome = true) : putKD (bagK bs) (.inr h) (.int v) = bagK (bput bs h v) := by
  unfold putKD
  rw [if_pos (by rw [bagK_any]; exact hb)]
  unfold bagK bput
  rw [List.map_map, List.map_map]
  refine List.map_congr_left fun e _ => ?_
  dsimp only [Function.comp]
  by_cases q : e.1 = h
  · rw [if_pos (congrArg Sum.inr q), if_pos q]
  · rw [if_neg (fun z => q (Sum.inr.inj z)), if_neg q]
def sget (bs : List (Int × Int × Int)) (k : Int) : Option (Int × Int) := (bs.find? fun e => decide (e.1 = k)).map (·.2)
theorem seenK_get (k : Int) : ∀ bs : List (Int × Int × Int), valD (seenK bs) (.inl k) = (sget bs k).map fun e => .tup [.int e.1, .int e.2]
  | [] => rfl
  | e :: bs => by
    have ih := seenK_get k bs
    unfold valD seenK sget at ih ⊢
    rw [List.map_cons, List.find?_cons, List.find?_cons]
    by_cases q : e.1 = k
    · rw [decide_eq_true (congrArg Sum.inl q), decide_eq_true q]; rfl
    · rw [decide_eq_false fun z => q (Sum.inl.inj z), decide_eq_false q]; exact ih
/-! ### purses -/
def prD (e : Str × Int) : D := .tup [.str e.1, .int e.2]
structure BgOk (bs : List (Str × Int)) : Prop where
  nd : (bs.map (·.1)).Nodup
  nm : ∀ e ∈ bs, isNm e.1
  nn : ∀ e ∈ bs, 0 ≤ e.2
  few : bs.length < 60
theorem flats_strs : ∀ ss : List Str, flats (ss.map D.str) = some (ss.map V.str)
  | [] => rfl
  | s :: ss => by unfold flats; rw [List.map_cons]; dsimp only [D.flat]; rw [flats_strs ss]; rfl
abbrev aPurses : ASp := A1 fun a L Φ _ => ∃ bs : List (Str × Int), a = .etup (bs.map prD) ∧ BgOk bs ∧ Φ .non L
theorem k_purses {bs : List (Str × Int)} {L Φ ex} (hb : BgOk bs) (h : Φ .non L) : aPurses [.etup (bs.map prD)] L Φ ex := ⟨_, rfl, bs, rfl, hb, h⟩
theorem enumD_at {ds : List D} {i : Nat} {d : D} (h : (enumD 0 ds)[i]? = some d) : ∃ e, ds[i]? = some e ∧ d = .tup [.int (i : Int), e] := by
  obtain ⟨e, h1, h2⟩ := enumD_get h
  rw [Nat.zero_add] at h2
  exact ⟨e, h1, h2⟩
theorem nodup_take {α : Type} {l : List α} {i : Nat} {x : α} (nd : l.Nodup) (h : l[i]? = some x) : x ∉ l.take i := by
  have hl := (List.getElem?_eq_some_iff.mp h).1
  have e : l = l.take i ++ x :: l.drop (i + 1) := by
    rw [List.getElem?_eq_getElem hl] at h
    have h2 := Option.some.inj h
    rw [← h2, List.getElem_cons_drop, List.take_append_drop]
  rw [e] at nd
  intro hm
  exact (List.nodup_append.mp nd).2.2 x hm x List.mem_cons_self rfl
theorem sc_look_purses : FnScope ["purses", "names", "at", "hand", "many"] ["purses"] d_look_purses.scope := ⟨rfl, rfl, rfl, by decide +kernel, rfl, by decide +kernel, by decide +kernel⟩
theorem ok_look_purses (T : Tx K mg) : FOk P w K mg base 2 (He.fAd K d_look_purses.at_) ["purses"] aPurses := by
  refine fok_of (d := d_look_purses) T 18 (k := 1) rfl rfl rfl sc_look_purses (fun ds L Φ ex h => A1.len h) (fun _ _ _ _ _ _ us hl => match us, hl with | [_], _ => rfl) (fun cdv Ar outer s H E ds L Φ ex hr h => ?_)
  obtain ⟨purses, rfl, h⟩ := h
  refine ⟨_, (pss_cons (ps_setLc (i := 1) (own := [("hand", 3), ("many", 4)]) rfl sc_look_purses.nd rfl rfl (sw_true rfl rfl rfl (by decide +kernel)) (pi_tup (pv 0)) (blkOk_by (own := [("hand", 3), ("many", 4)]) (N := ["purses", "names", "at", "hand", "many"]) (sc := d_look_purses.scope) (by decide +kernel)) (fun _ _ _ _ _ => by exact (pg_tupK (n := 2) (K := K) rfl rfl (pgs_cons (pg_name (i := 3) sc_look_purses.nd rfl (Or.inl rfl)) (pgs_cons (pg_name (i := 4) sc_look_purses.nd rfl (Or.inl rfl)) pgs_nil)))) (fun _ _ _ _ _ => by exact pts_nil) (fun _ _ _ _ _ => by exact (pv 3)))
    (pss_cons (ps_for (passes_of rfl) rfl (pi_enum rfl (f_enumerate T) (pa_cons (pv 1) pa_nil)) (pg_tup (n := 2) rfl (pgs_cons (pg_name (i := 2) sc_look_purses.nd rfl (Or.inl rfl)) (pgs_cons (pg_name (i := 3) sc_look_purses.nd rfl (Or.inl rfl)) pgs_nil))) (pss_one (ps_if (PW.pt (pw_or (pt_not (pt_val (pe_c (ok_is_name T) hr rfl (g_is_name T) (pa_cons (pv 3) pa_nil)))) (pw_or1 (pt_cmpR op_in_seq (pv 3) (pe_slice sl_list (pv 1) po_none (po_some (pv 2))) rfl)))) (pss_one (ps_raise rfl (takes_of rfl rfl rfl rfl) (pmk_own PySem.F.excBase_ValueError (x_NoName T).1 (g_NoName T) (x_NoName T).2.1 (raises_own (x_NoName T).2.2.1 (x_NoName T).2.2.2) rfl))) pss_nil)))
    (pss_one (ps_for (passes_of rfl) rfl (pi_tup (pv 0)) (pg_tup (n := 2) rfl (pgs_cons (pg_name (i := 3) sc_look_purses.nd rfl (Or.inl rfl)) (pgs_cons (pg_name (i := 4) sc_look_purses.nd rfl (Or.inl rfl)) pgs_nil))) (pss_one (ps_if (pt_not (pt_val (pe_c (ok_is_count_signs T) hr rfl (g_is_count_signs T) (pa_cons (pv 4) pa_nil)))) (pss_one (ps_raise rfl (takes_of rfl rfl rfl rfl) (pmk_own PySem.F.excBase_ValueError (x_NoCoins T).1 (g_NoCoins T) (x_NoCoins T).2.1 (raises_own (x_NoCoins T).2.2.1 (x_NoCoins T).2.2.2) rfl))) pss_nil)))))), ?_⟩
  obtain ⟨bs, rfl, hb, h⟩ := h
  dsimp only [cxOf]
  walk_at "w"
  refine we_lcM (wi_etup ?_)
  walk_at "w"
  refine ⟨fun _ _ => trivial, by have := hb.few; rw [List.length_map]; omega, fstD, fun d hd p acc => ?_, ?_⟩
  · obtain ⟨e, he, rfl⟩ := List.mem_map.mp hd
    refine ⟨_, wg_tup (us := [(3, .str e.1), (4, .int e.2)]) rfl (wgs_cons wg_name (wgs_cons wg_name wgs_nil)), by simp, ?_⟩
    walk_at "w"
    exact ⟨rfl, rfl⟩
  · rw [List.map_map, show bs.map (fstD ∘ prD) = (bs.map (·.1)).map D.str from by rw [List.map_map]; rfl]
    walk_at "w"
    refine ws_for (wi_enumD ?_)
    walk_at "w"
    refine ⟨_, rfl, fun i Γ' L' => L' = L ∧ ∃ x y z, Γ' = [some (.etup (bs.map prD)), some (.lst ((bs.map (·.1)).map D.str)), x, y, z], ⟨rfl, none, none, none, rfl⟩, fun _ _ _ _ => trivial, fun i d Γ' L' hd hI => ?_, fun Γ' L' hI => ?_⟩
    · obtain ⟨rfl, x, y, z, rfl⟩ := hI
      obtain ⟨e, he, rfl⟩ := enumD_at hd
      rw [List.getElem?_map] at he
      obtain ⟨n, hn, rfl⟩ := Option.map_eq_some_iff.mp he
      obtain ⟨pr, hpr, rfl⟩ := List.mem_map.mp (List.mem_of_getElem? hn)
      refine ⟨_, wg_tup (us := [(2, .int (i : Int)), (3, .str pr.1)]) rfl (wgs_cons wg_name (wgs_cons wg_name wgs_nil)), ?_⟩
      dsimp only [setG]
      walk_at "w"
      refine k_name (hb.nm _ hpr) ?_
      walk_at "w"
      refine wsl_lst (.inl rfl) ?_
      have hi : i < (bs.map (·.1)).length := (List.getElem?_eq_some_iff.mp hn).1
      rw [cutD_take (by rw [List.length_map]; omega), ← List.map_take]
      refine wr_inL rfl (flats_str _) ?_
      walk_at "w"
      refine br_f (by rw [if_neg (by decide), inV_str]; exact decide_eq_false (nodup_take hb.nd hn)) ?_
      walk_at "w"
      exact ⟨rfl, _, _, _, rfl⟩
    · obtain ⟨rfl, x, y, z, rfl⟩ := hI
      refine ws_for (wi_etup ?_)
      walk_at "w"
      refine ⟨fun i Γ2 L2 => L2 = L' ∧ ∃ x y z, Γ2 = [some (.etup (bs.map prD)), some (.lst ((bs.map (·.1)).map D.str)), x, y, z], ⟨rfl, _, _, _, rfl⟩, fun _ _ _ _ => trivial, fun i d Γ2 L2 hd hI => ?_, fun Γ2 L2 hI => ?_⟩
      · obtain ⟨rfl, x, y, z, rfl⟩ := hI
        obtain ⟨pr, hpr, rfl⟩ := List.mem_map.mp (List.mem_of_getElem? hd)
        refine ⟨_, wg_tup (us := [(3, .str pr.1), (4, .int pr.2)]) rfl (wgs_cons wg_name (wgs_cons wg_name wgs_nil)), ?_⟩
        dsimp only [setG]
        walk_at "w"
        refine br_f (by have := hb.nn _ hpr; simp; omega) ?_
        walk_at "w"
        exact ⟨rfl, _, _, _, rfl⟩
      · obtain ⟨rfl, x, y, z, rfl⟩ := hI
        exact h
abbrev aLInit (K : PySem.W.Frag) : ASp := A4 fun self l r t L Φ _ => ∃ x L0 a b st, self = .ref x ∧ L = (x, .ins (He.ga K "Lane") []) :: L0 ∧ l = .str a ∧ r = .str b ∧ t = Stt.d st ∧ Φ .non ((x, .ins (He.ga K "Lane") (Rd.fs ⟨a, b, st, st, "open", none⟩)) :: L0)
theorem sc_Lane_init : FnScope ["self", "left", "right", "first"] ["self", "left", "right", "first"] d_Lane_init.scope := ⟨rfl, rfl, rfl, by decide +kernel, rfl, by decide +kernel, by decide +kernel⟩
theorem ok_Lane_init (T : Tx K mg) : FOk P w K mg base 1 (He.fAd K d_Lane_init.at_) ["self", "left", "right", "first"] (aLInit K) := by
  refine fok_of (d := d_Lane_init) T 19 (k := 0) rfl rfl rfl sc_Lane_init (fun ds L Φ ex h => A4.len h) (fun _ _ _ _ _ _ us hl => match us, hl with | [_, _, _, _], _ => rfl) (fun cdv Ar outer s H E ds L Φ ex hr h => ?_)
  obtain ⟨self_, left_, right_, first, rfl, h⟩ := h
  refine ⟨_, (pss_cons (ps_fld (pv 0) (pe_tup (pa_cons (pv 1) (pa_cons (pv 2) pa_nil))) rfl)
    (pss_cons (ps_fld (pv 0) (pv 3) rfl)
    (pss_cons (ps_fld (pv 0) (pv 3) rfl)
    (pss_cons (ps_fld (pv 0) pe_str rfl)
    (pss_one (ps_fld (pv 0) pe_non rfl)))))), ?_⟩
  obtain ⟨x, L0, a, b, st, rfl, rfl, rfl, rfl, rfl, h⟩ := h
  dsimp only [cxOf]
  walk_at "w"
  exact h
def pick (r : Rd) (b : Bool) : Str := if b then r.r else r.l
/-- whose coins a kept lock's are -/
def gets (r : Rd) (l : Lck) (sh : Option Int) (clock : Int) : Option Str :=
  if (match sh with | some t => decide (t ≤ l.la) | none => false) then some (pick r !l.rt) else if clock > l.la then some (pick r l.rt) else none
def sD : Option Str → D
  | none => .non
  | some s => .str s
abbrev aGets (K : PySem.W.Frag) : ASp := A4 fun self lk sh cl L Φ _ => ∃ x r g l o c, self = .ref x ∧ At x (.ins (He.ga K "Lane") (Rd.fs r)) L g ∧ lk = Lck.d l ∧ sh = oD o ∧ cl = .int c ∧ Φ (sD (gets r l o c)) L
theorem sc_Lane_gets : FnScope ["self", "lock", "shown", "clock", "number", "giver", "many", "seal", "last", "at"] ["self", "lock", "shown", "clock"] d_Lane_gets.scope := ⟨rfl, rfl, rfl, by decide +kernel, rfl, by decide +kernel, by decide +kernel⟩
theorem ok_Lane_gets (T : Tx K mg) : FOk P w K mg base 1 (He.fAd K d_Lane_gets.at_) ["self", "lock", "shown", "clock"] (aGets K) := by
  refine fok_of (d := d_Lane_gets) T 20 (k := 0) rfl rfl rfl sc_Lane_gets (fun ds L Φ ex h => A4.len h) (fun _ _ _ _ _ _ us hl => match us, hl with | [_, _, _, _], _ => rfl) (fun cdv Ar outer s H E ds L Φ ex hr h => ?_)
  obtain ⟨self_, lock, shown, clock, rfl, h⟩ := h
  refine ⟨_, (pss_cons (ps_asg (pv 1) (pg_tup (n := 5) rfl (pgs_cons (pg_name (i := 4) sc_Lane_gets.nd rfl (Or.inl rfl)) (pgs_cons (pg_name (i := 5) sc_Lane_gets.nd rfl (Or.inl rfl)) (pgs_cons (pg_name (i := 6) sc_Lane_gets.nd rfl (Or.inl rfl)) (pgs_cons (pg_name (i := 7) sc_Lane_gets.nd rfl (Or.inl rfl)) (pgs_cons (pg_name (i := 8) sc_Lane_gets.nd rfl (Or.inl rfl)) pgs_nil)))))))
    (pss_cons (ps_set (i := 9) sc_Lane_gets.nd rfl (Or.inl rfl) (pe_ifExp (pt_cmpR op_eq (pv 5) pe_str (nomark _)) pe_int pe_int))
    (pss_cons (ps_if (PW.pt (pw_and (pt_cmpR op_notN (pv 2) pe_non (nomark _)) (pw_and1 (pt_cmpR op_le (pv 2) (pv 8) (nomark _))))) (pss_one (ps_ret (pe_ix ix_tup (pe_fld (pv 0) rfl) (pe_op op_sub pe_int (pv 9)) (fun _ _ => rfl)))) pss_nil)
    (pss_one (ps_ret (pe_ifExp (pt_cmpR op_gt (pv 3) (pv 8) (nomark _)) (pe_ix ix_tup (pe_fld (pv 0) rfl) (pv 9) (fun _ _ => rfl)) pe_non)))))), ?_⟩
  obtain ⟨x, r, g, l, o, c, rfl, ht, rfl, rfl, rfl, h⟩ := h
  obtain ⟨id, rt, am, sl, la⟩ := l
  dsimp only [cxOf, Lck.d]
  walk_at "w"
  refine ⟨_, wg_tup (us := [(4, .int id), (5, .str (side rt)), (6, .int am), (7, .int sl), (8, .int la)]) rfl (wgs_cons wg_name (wgs_cons wg_name (wgs_cons wg_name (wgs_cons wg_name (wgs_cons wg_name wgs_nil))))), ?_⟩
  dsimp only [setG, startG]
  cases rt
  all_goals
    walk_at "w"
    cases o with
    | none =>
      dsimp only [oD]
      walk_at "w"
      by_cases hc : c > la
      · refine br_t (decide_eq_true hc) ?_
        walk_at "w"
        refine ex_fld ht (by walk_at "fact") (by walk_at "fact") (by with_unfolding_all rfl) ?_
        walk_at "w"
        simp only [gets, if_neg Bool.false_ne_true, if_pos hc, pick] at h
        exact h
      · refine br_f (decide_eq_false hc) ?_
        walk_at "w"
        simp only [gets, if_neg Bool.false_ne_true, if_neg hc] at h
        exact h
    | some t =>
      dsimp only [oD]
      walk_at "w"
      by_cases hl : t ≤ la
      · refine br_t (decide_eq_true hl) ?_
        walk_at "w"
        refine ex_fld ht (by walk_at "fact") (by walk_at "fact") (by with_unfolding_all rfl) ?_
        walk_at "w"
        simp only [gets, decide_eq_true hl, if_true, pick] at h
        exact h
      · refine br_f (decide_eq_false hl) ?_
        walk_at "w"
        by_cases hc : c > la
        · refine br_t (decide_eq_true hc) ?_
          walk_at "w"
          refine ex_fld ht (by walk_at "fact") (by walk_at "fact") (by with_unfolding_all rfl) ?_
          walk_at "w"
          simp only [gets, decide_eq_false hl, if_neg Bool.false_ne_true, if_pos hc, pick] at h
          exact h
        · refine br_f (decide_eq_false hc) ?_
          walk_at "w"
          simp only [gets, decide_eq_false hl, if_neg Bool.false_ne_true, if_neg hc] at h
          exact h
/-! ### the court's small words -/
structure RdOk (i : Nat) (bs : List (Str × Int)) (q : Rd) : Prop where
  l : isNm q.l
  r : isNm q.r
  lb : (bget bs q.l).isSome = true
  rb : (bget bs q.r).isSome = true
  f : q.first.ok
  s : q.st.ok
  fl : q.first.lane = (i : Int)
  fn : q.first.num = 0
  fk : q.first.locks = []
  sl : q.st.lane = (i : Int)
  md : q.mood = "open" ∨ q.mood = "closing" ∨ q.mood = "settled"
  op : q.mood = "open" → q.en = none ∧ q.st = q.first
  cl : q.mood = "closing" → ∃ e, q.en = some e
structure CtOk (N : Nat) (la : List Addr) (s : CtS) : Prop where
  big : N ≤ 1000
  ll : la.length = s.lanes.length
  nl : s.lanes.length ≤ N
  nr : s.rows.length ≤ N
  ns : s.seen.length ≤ N
  nk : s.kept.length ≤ 30 * (s.lanes.countP fun r => r.mood == ("settled" : Str))
  bg : BgOk s.bags
  rd : ∀ (i : Nat) (r : Rd), s.lanes[i]? = some r → RdOk i s.bags r
  rw : ∀ d ∈ s.rows, ∃ x ys, d = .tup [x, .lst ys]
  kp : ∀ e ∈ s.kept, e.2.ok ∧ 0 ≤ e.1 ∧ e.1.toNat < s.lanes.length
  ck : 0 ≤ s.clock
theorem at_lane {K : PySem.W.Frag} : ∀ {la : List Addr} {ls : List Rd} {i : Nat} {a : Addr} {r : Rd}, la[i]? = some a → ls[i]? = some r → ∃ g, At a (.ins (He.ga K "Lane") r.fs) (laC K la ls) g ∧ ∀ r', g (.ins (He.ga K "Lane") r'.fs) = laC K la (ls.set i r')
  | x :: la, y :: ls, 0, a, r, h1, h2 => by
    have e1 := Option.some.inj h1
    have e2 := Option.some.inj h2
    subst e1 e2
    exact ⟨fun c => (x, c) :: laC K la ls, At.here, fun r' => rfl⟩
  | x :: la, y :: ls, i + 1, a, r, h1, h2 => by
    obtain ⟨g, h3, h4⟩ := at_lane (K := K) (la := la) (ls := ls) (i := i) (by simpa using h1) (by simpa using h2)
    exact ⟨fun c => (x, .ins (He.ga K "Lane") y.fs) :: g c, h3.tail, fun r' => by dsimp only; rw [h4]; rfl⟩
  | [], _, _, _, _, h1, _ => by simp at h1
  | _ :: _, [], _, _, _, _, h2 => by simp at h2
abbrev aC0 (K : PySem.W.Frag) (B : Ad → List Addr → CtS → Sg → (Sto → Sto) → Nat → (D → Sto → Prop) → Ex → Prop) : ASp := A1 fun self L Φ ex => ∃ a la s sg f N, self = .ref a.c ∧ Part (MC K a la s sg) L f ∧ CtOk N la s ∧ B a la s sg f N Φ ex
abbrev aC1 (K : PySem.W.Frag) (B : D → Ad → List Addr → CtS → Sg → (Sto → Sto) → Nat → (D → Sto → Prop) → Ex → Prop) : ASp := A2 fun self x L Φ ex => ∃ a la s sg f N, self = .ref a.c ∧ Part (MC K a la s sg) L f ∧ CtOk N la s ∧ B x a la s sg f N Φ ex
abbrev aNow (K : PySem.W.Frag) : ASp := aC0 K fun a la s sg f _ Φ _ => Φ (.int s.clock) (f (MC K a la s sg))
theorem sc_Court_now : FnScope ["self"] ["self"] d_Court_now.scope := ⟨rfl, rfl, rfl, by decide +kernel, rfl, by decide +kernel, by decide +kernel⟩
theorem ok_Court_now (T : Tx K mg) : FOk P w K mg base 1 (He.fAd K d_Court_now.at_) ["self"] (aNow K) := by
  refine fok_of (d := d_Court_now) T 30 (k := 0) rfl rfl rfl sc_Court_now (fun ds L Φ ex h => A1.len h) (fun _ _ _ _ _ _ us hl => match us, hl with | [_], _ => rfl) (fun cdv Ar outer s H E ds L Φ ex hr h => ?_)
  obtain ⟨self_, rfl, h⟩ := h
  refine ⟨_, (pss_one (ps_ret (pe_fld (pv 0) rfl))), ?_⟩
  obtain ⟨a, la, s, sg, f, N, rfl, ⟨hf, rfl⟩, ok, h⟩ := h
  dsimp only [cxOf]
  unfold MC at h ⊢
  walk_at "w"
  exact h
abbrev aPatience (K : PySem.W.Frag) : ASp := aC0 K fun a la s sg f _ Φ _ => Φ (.int s.long) (f (MC K a la s sg))
theorem sc_Court_patience : FnScope ["self"] ["self"] d_Court_patience.scope := ⟨rfl, rfl, rfl, by decide +kernel, rfl, by decide +kernel, by decide +kernel⟩
theorem ok_Court_patience (T : Tx K mg) : FOk P w K mg base 1 (He.fAd K d_Court_patience.at_) ["self"] (aPatience K) := by
  refine fok_of (d := d_Court_patience) T 31 (k := 0) rfl rfl rfl sc_Court_patience (fun ds L Φ ex h => A1.len h) (fun _ _ _ _ _ _ us hl => match us, hl with | [_], _ => rfl) (fun cdv Ar outer s H E ds L Φ ex hr h => ?_)
  obtain ⟨self_, rfl, h⟩ := h
  refine ⟨_, (pss_one (ps_ret (pe_fld (pv 0) rfl))), ?_⟩
  obtain ⟨a, la, s, sg, f, N, rfl, ⟨hf, rfl⟩, ok, h⟩ := h
  dsimp only [cxOf]
  unfold MC at h ⊢
  walk_at "w"
  exact h
abbrev aLanes (K : PySem.W.Frag) : ASp := aC0 K fun a la s sg f _ Φ _ => Φ (.int s.lanes.length) (f (MC K a la s sg))
theorem sc_Court_lanes : FnScope ["self"] ["self"] d_Court_lanes.scope := ⟨rfl, rfl, rfl, by decide +kernel, rfl, by decide +kernel, by decide +kernel⟩
theorem ok_Court_lanes (T : Tx K mg) : FOk P w K mg base 1 (He.fAd K d_Court_lanes.at_) ["self"] (aLanes K) := by
  refine fok_of (d := d_Court_lanes) T 34 (k := 0) rfl rfl rfl sc_Court_lanes (fun ds L Φ ex h => A1.len h) (fun _ _ _ _ _ _ us hl => match us, hl with | [_], _ => rfl) (fun cdv Ar outer s H E ds L Φ ex hr h => ?_)
  obtain ⟨self_, rfl, h⟩ := h
  refine ⟨_, (pss_one (ps_ret (pe_callB call_len rfl (f_len T) (by decide +kernel) (pa_cons (pe_fld (pv 0) rfl) pa_nil)))), ?_⟩
  obtain ⟨a, la, s, sg, f, N, rfl, ⟨hf, rfl⟩, ok, h⟩ := h
  dsimp only [cxOf]
  unfold MC at h ⊢
  walk_at "w"
  rw [List.length_map, ok.ll]
  exact h
/-- a value's class, raised -/
abbrev exC (K : PySem.W.Frag) (x : Str) : Value := .ref (He.ga K x)
abbrev aCoins (K : PySem.W.Frag) : ASp := A3 fun self x y L Φ ex => ∃ a la s sg f N h m v, self = .ref a.c ∧ Part (MC K a la s sg) L f ∧ CtOk N la s ∧ x = .str h ∧ y = .int m ∧ 0 ≤ m ∧ bget s.bags h = some v ∧ (m ≤ v → Φ .non (f (MC K a la s sg))) ∧ (v < m → ex (exC K "NoCoins") (f (MC K a la s sg)))
theorem sc_Court_look_coins : FnScope ["self", "hand", "many"] ["self", "hand", "many"] d_Court_look_coins.scope := ⟨rfl, rfl, rfl, by decide +kernel, rfl, by decide +kernel, by decide +kernel⟩
theorem ok_Court_look_coins (T : Tx K mg) : FOk P w K mg base 2 (He.fAd K d_Court_look_coins.at_) ["self", "hand", "many"] (aCoins K) := by
  refine fok_of (d := d_Court_look_coins) T 23 (k := 1) rfl rfl rfl sc_Court_look_coins (fun ds L Φ ex h => A3.len h) (fun _ _ _ _ _ _ us hl => match us, hl with | [_, _, _], _ => rfl) (fun cdv Ar outer s H E ds L Φ ex hr h => ?_)
  obtain ⟨self_, hand, many_, rfl, h⟩ := h
  refine ⟨_, (pss_one (ps_if (PW.pt (pw_or (pt_not (pt_val (pe_c (ok_is_count_signs T) hr rfl (g_is_count_signs T) (pa_cons (pv 2) pa_nil)))) (pw_or1 (pt_cmpR op_gt (pv 2) (pe_dget (hu_of hr) (pe_fld (pv 0) rfl) (pv 1) (fun _ _ => rfl)) (nomark _))))) (pss_one (ps_raise rfl (takes_of rfl rfl rfl rfl) (pmk_own PySem.F.excBase_ValueError (x_NoCoins T).1 (g_NoCoins T) (x_NoCoins T).2.1 (raises_own (x_NoCoins T).2.2.1 (x_NoCoins T).2.2.2) rfl))) pss_nil)), ?_⟩
  obtain ⟨a, la, s, sg, f, N, h0, m, v, rfl, ⟨hf, rfl⟩, ok, rfl, rfl, hm, hv, h1, h2⟩ := h
  dsimp only [cxOf]
  unfold MC at h1 h2 ⊢
  walk_at "w"
  refine br_f (by simp; omega) ?_
  walk_at "w"
  refine ⟨_, _, .inr h0, _, _, rfl, rfl, by walk_at "at", by rw [bagK_get, hv]; rfl, ?_⟩
  walk_at "w"
  by_cases q : m > v
  · refine br_t (decide_eq_true q) ?_
    walk_at "w"
    exact h2 q
  · refine br_f (decide_eq_false q) ?_
    walk_at "w"
    exact h1 (by omega)
abbrev aRoad (K : PySem.W.Frag) : ASp := A2 fun self x L Φ ex => ∃ a la s sg f N i, self = .ref a.c ∧ Part (MC K a la s sg) L f ∧ CtOk N la s ∧ x = .int i ∧ 0 ≤ i ∧ (∀ ad r, la[i.toNat]? = some ad → s.lanes[i.toNat]? = some r → Φ (.ref ad) (f (MC K a la s sg))) ∧ ((s.lanes.length : Int) ≤ i → ex (exC K "NoLane") (f (MC K a la s sg)))
theorem sc_Court_road : FnScope ["self", "number"] ["self", "number"] d_Court_road.scope := ⟨rfl, rfl, rfl, by decide +kernel, rfl, by decide +kernel, by decide +kernel⟩
theorem ok_Court_road (T : Tx K mg) : FOk P w K mg base 2 (He.fAd K d_Court_road.at_) ["self", "number"] (aRoad K) := by
  refine fok_of (d := d_Court_road) T 24 (k := 1) rfl rfl rfl sc_Court_road (fun ds L Φ ex h => A2.len h) (fun _ _ _ _ _ _ us hl => match us, hl with | [_, _], _ => rfl) (fun cdv Ar outer s H E ds L Φ ex hr h => ?_)
  obtain ⟨self_, number, rfl, h⟩ := h
  refine ⟨_, (pss_cons (ps_if (PW.pt (pw_or (pt_not (pt_val (pe_c (ok_is_count_signs T) hr rfl (g_is_count_signs T) (pa_cons (pv 1) pa_nil)))) (pw_or1 (pt_cmpR op_ge (pv 1) (pe_callB call_len rfl (f_len T) (by decide +kernel) (pa_cons (pe_fld (pv 0) rfl) pa_nil)) (nomark _))))) (pss_one (ps_raise rfl (takes_of rfl rfl rfl rfl) (pmk_own PySem.F.excBase_ValueError (x_NoLane T).1 (g_NoLane T) (x_NoLane T).2.1 (raises_own (x_NoLane T).2.2.1 (x_NoLane T).2.2.2) rfl))) pss_nil)
    (pss_one (ps_ret (pe_ix ix_list (pe_fld (pv 0) rfl) (pv 1) (fun _ _ => rfl))))), ?_⟩
  obtain ⟨a, la, s, sg, f, N, i, rfl, ⟨hf, rfl⟩, ok, rfl, hi, h1, h2⟩ := h
  dsimp only [cxOf]
  unfold MC at h1 h2 ⊢
  walk_at "w"
  refine br_f (by simp; omega) ?_
  walk_at "w"
  rw [List.length_map, ok.ll]
  by_cases q : i ≥ (s.lanes.length : Int)
  · refine br_t (decide_eq_true q) ?_
    walk_at "w"
    exact h2 q
  · refine br_f (decide_eq_false q) ?_
    walk_at "w"
    have hl := ok.ll
    have e1 : la[i.toNat]? = some la[i.toNat] := List.getElem?_eq_getElem (by omega)
    have e2 : s.lanes[i.toNat]? = some s.lanes[i.toNat] := List.getElem?_eq_getElem (by omega)
    refine wr_ixC (by walk_at "at") (atI_int hi (by rw [List.getElem?_map, e1]; rfl)) ?_
    exact h1 _ _ e1 e2
abbrev aPurse (K : PySem.W.Frag) : ASp := A2 fun self x L Φ ex => ∃ a la s sg f N h v, self = .ref a.c ∧ Part (MC K a la s sg) L f ∧ CtOk N la s ∧ x = .str h ∧ isNm h ∧ bget s.bags h = some v ∧ Φ (.int v) (f (MC K a la s sg))
theorem sc_Court_purse : FnScope ["self", "hand"] ["self", "hand"] d_Court_purse.scope := ⟨rfl, rfl, rfl, by decide +kernel, rfl, by decide +kernel, by decide +kernel⟩
theorem ok_Court_purse (T : Tx K mg) : FOk P w K mg base 2 (He.fAd K d_Court_purse.at_) ["self", "hand"] (aPurse K) := by
  refine fok_of (d := d_Court_purse) T 32 (k := 1) rfl rfl rfl sc_Court_purse (fun ds L Φ ex h => A2.len h) (fun _ _ _ _ _ _ us hl => match us, hl with | [_, _], _ => rfl) (fun cdv Ar outer s H E ds L Φ ex hr h => ?_)
  obtain ⟨self_, hand, rfl, h⟩ := h
  refine ⟨_, (pss_cons (ps_if (PW.pt (pw_or (pt_not (pt_val (pe_c (ok_is_name T) hr rfl (g_is_name T) (pa_cons (pv 1) pa_nil)))) (pw_or1 (pt_cmp (pc_dnotin (hu_of hr) (pv 1) (pe_fld (pv 0) rfl)))))) (pss_one (ps_raise rfl (takes_of rfl rfl rfl rfl) (pmk_own PySem.F.excBase_ValueError (x_NoHand T).1 (g_NoHand T) (x_NoHand T).2.1 (raises_own (x_NoHand T).2.2.1 (x_NoHand T).2.2.2) rfl))) pss_nil)
    (pss_one (ps_ret (pe_dget (hu_of hr) (pe_fld (pv 0) rfl) (pv 1) (fun _ _ => rfl))))), ?_⟩
  obtain ⟨a, la, s, sg, f, N, h0, v, rfl, ⟨hf, rfl⟩, ok, rfl, hm, hv, h1⟩ := h
  dsimp only [cxOf]
  unfold MC at h1 ⊢
  walk_at "w"
  refine k_name hm ?_
  walk_at "w"
  refine ⟨_, _, .inr h0, _, rfl, rfl, by walk_at "at", ?_⟩
  rw [bagK_get, hv]
  walk_at "w"
  refine ⟨_, _, .inr h0, _, _, rfl, rfl, by walk_at "at", by rw [bagK_get, hv]; rfl, ?_⟩
  exact h1
abbrev aHands (K : PySem.W.Frag) : ASp := aC0 K fun a la s sg f _ Φ _ => ∀ ys : List Str, ys.Perm (s.bags.map (·.1)) → sortedS ys = true → Φ (.lst (ys.map D.str)) (f (MC K a la s sg))
theorem sc_Court_hands : FnScope ["self"] ["self"] d_Court_hands.scope := ⟨rfl, rfl, rfl, by decide +kernel, rfl, by decide +kernel, by decide +kernel⟩
theorem ok_Court_hands (T : Tx K mg) : FOk P w K mg base 1 (He.fAd K d_Court_hands.at_) ["self"] (aHands K) := by
  refine fok_of (d := d_Court_hands) T 33 (k := 0) rfl rfl rfl sc_Court_hands (fun ds L Φ ex h => A1.len h) (fun _ _ _ _ _ _ us hl => match us, hl with | [_], _ => rfl) (fun cdv Ar outer s H E ds L Φ ex hr h => ?_)
  obtain ⟨self_, rfl, h⟩ := h
  refine ⟨_, (pss_one (ps_ret (pe_callB (call_sortedD rfl) rfl (f_sorted T) (by decide +kernel) (pa_cons (pe_fld (pv 0) rfl) pa_nil)))), ?_⟩
  obtain ⟨a, la, s, sg, f, N, rfl, ⟨hf, rfl⟩, ok, h⟩ := h
  dsimp only [cxOf]
  unfold MC at h ⊢
  walk_at "w"
  refine wc_sortD (ks := s.bags.map (·.1)) (by walk_at "at") (by unfold bagK; rw [List.map_map, List.map_map]; rfl) (by have := ok.bg.few; rw [List.length_map]; omega) fun ys h1 h2 => ?_
  exact h ys h1 h2
def seenD : Option (Int × Int) → D
  | none => .tup [.non, .non]
  | some e => .tup [.int e.1, .int e.2]
abbrev aSeen (K : PySem.W.Frag) : ASp := A2 fun self x L Φ ex => ∃ a la s sg f N k, self = .ref a.c ∧ Part (MC K a la s sg) L f ∧ CtOk N la s ∧ x = .int k ∧ 0 ≤ k ∧ Φ (seenD (sget s.seen k)) (f (MC K a la s sg))
theorem sc_Court_seen_of : FnScope ["self", "seal"] ["self", "seal"] d_Court_seen_of.scope := ⟨rfl, rfl, rfl, by decide +kernel, rfl, by decide +kernel, by decide +kernel⟩
theorem ok_Court_seen_of (T : Tx K mg) : FOk P w K mg base 2 (He.fAd K d_Court_seen_of.at_) ["self", "seal"] (aSeen K) := by
  refine fok_of (d := d_Court_seen_of) T 36 (k := 1) rfl rfl rfl sc_Court_seen_of (fun ds L Φ ex h => A2.len h) (fun _ _ _ _ _ _ us hl => match us, hl with | [_, _], _ => rfl) (fun cdv Ar outer s H E ds L Φ ex hr h => ?_)
  obtain ⟨self_, seal_, rfl, h⟩ := h
  refine ⟨_, (pss_cons (ps_if (pt_not (pt_val (pe_c (ok_is_count_signs T) hr rfl (g_is_count_signs T) (pa_cons (pv 1) pa_nil)))) (pss_one (ps_raise rfl (takes_of rfl rfl rfl rfl) (pmk_own PySem.F.excBase_ValueError (x_NoNumber T).1 (g_NoNumber T) (x_NoNumber T).2.1 (raises_own (x_NoNumber T).2.2.1 (x_NoNumber T).2.2.2) rfl))) pss_nil)
    (pss_one (ps_ret (pe_dget2 (hu_of hr) (pe_fld (pv 0) rfl) (pv 1) (pe_tup (pa_cons pe_non (pa_cons pe_non pa_nil))) ⟨rfl, rfl, rfl, rfl⟩)))), ?_⟩
  obtain ⟨a, la, s, sg, f, N, k, rfl, ⟨hf, rfl⟩, ok, rfl, hk, h⟩ := h
  dsimp only [cxOf]
  unfold MC at h ⊢
  walk_at "w"
  refine br_f (by simp; omega) ?_
  walk_at "w"
  refine ⟨_, _, _, rfl, by walk_at "at", ?_⟩
  walk_at "w"
  refine ⟨_, .inl k, _, rfl, by walk_at "at", ?_⟩
  rw [seenK_get]
  cases e : sget s.seen k with
  | none => rw [e] at h; exact h
  | some z => rw [e] at h; exact h
abbrev aShown (K : PySem.W.Frag) : ASp := A2 fun self x L Φ ex => ∃ a la s sg f N k, self = .ref a.c ∧ Part (MC K a la s sg) L f ∧ CtOk N la s ∧ x = .int k ∧ 0 ≤ k ∧ Φ (oD ((sget s.seen k).map (·.1))) (f (MC K a la s sg))
theorem sc_Court_shown : FnScope ["self", "seal"] ["self", "seal"] d_Court_shown.scope := ⟨rfl, rfl, rfl, by decide +kernel, rfl, by decide +kernel, by decide +kernel⟩
theorem ok_Court_shown (T : Tx K mg) : FOk P w K mg base 3 (He.fAd K d_Court_shown.at_) ["self", "seal"] (aShown K) := by
  refine fok_of (d := d_Court_shown) T 37 (k := 2) rfl rfl rfl sc_Court_shown (fun ds L Φ ex h => A2.len h) (fun _ _ _ _ _ _ us hl => match us, hl with | [_, _], _ => rfl) (fun cdv Ar outer s H E ds L Φ ex hr h => ?_)
  obtain ⟨self_, seal_, rfl, h⟩ := h
  refine ⟨_, (pss_one (ps_ret (pe_ix ix_tup (pe_m (pv 0) (c_Court T) (m_Court_seen_of T) (ok_Court_seen_of T) hr (pa_cons (pv 1) pa_nil)) pe_int (fun _ _ => rfl)))), ?_⟩
  obtain ⟨a, la, s, sg, f, N, k, rfl, ⟨hf, rfl⟩, ok, rfl, hk, h⟩ := h
  dsimp only [cxOf]
  refine ws_ret (we_op (we_meth0 (we_var rfl ?_)))
  refine ⟨_, _, _, rfl, At.in hf At.here, by with_unfolding_all rfl, ?_⟩
  walk_at "w"
  refine ⟨_, _, rfl, a, la, s, sg, f, N, k, rfl, ⟨hf, rfl⟩, ok, rfl, hk, ?_⟩
  cases e : sget s.seen k with
  | none => rw [e] at h; dsimp only [seenD]; walk_at "w"; exact h
  | some z => rw [e] at h; dsimp only [seenD]; walk_at "w"; exact h
abbrev aSecret (K : PySem.W.Frag) : ASp := A2 fun self x L Φ ex => ∃ a la s sg f N k, self = .ref a.c ∧ Part (MC K a la s sg) L f ∧ CtOk N la s ∧ x = .int k ∧ 0 ≤ k ∧ Φ (oD ((sget s.seen k).map (·.2))) (f (MC K a la s sg))
theorem sc_Court_secret : FnScope ["self", "seal"] ["self", "seal"] d_Court_secret.scope := ⟨rfl, rfl, rfl, by decide +kernel, rfl, by decide +kernel, by decide +kernel⟩
theorem ok_Court_secret (T : Tx K mg) : FOk P w K mg base 3 (He.fAd K d_Court_secret.at_) ["self", "seal"] (aSecret K) := by
  refine fok_of (d := d_Court_secret) T 38 (k := 2) rfl rfl rfl sc_Court_secret (fun ds L Φ ex h => A2.len h) (fun _ _ _ _ _ _ us hl => match us, hl with | [_, _], _ => rfl) (fun cdv Ar outer s H E ds L Φ ex hr h => ?_)
  obtain ⟨self_, seal_, rfl, h⟩ := h
  refine ⟨_, (pss_one (ps_ret (pe_ix ix_tup (pe_m (pv 0) (c_Court T) (m_Court_seen_of T) (ok_Court_seen_of T) hr (pa_cons (pv 1) pa_nil)) pe_int (fun _ _ => rfl)))), ?_⟩
  obtain ⟨a, la, s, sg, f, N, k, rfl, ⟨hf, rfl⟩, ok, rfl, hk, h⟩ := h
  dsimp only [cxOf]
  refine ws_ret (we_op (we_meth0 (we_var rfl ?_)))
  refine ⟨_, _, _, rfl, At.in hf At.here, by with_unfolding_all rfl, ?_⟩
  walk_at "w"
  refine ⟨_, _, rfl, a, la, s, sg, f, N, k, rfl, ⟨hf, rfl⟩, ok, rfl, hk, ?_⟩
  cases e : sget s.seen k with
  | none => rw [e] at h; dsimp only [seenD]; walk_at "w"; exact h
  | some z => rw [e] at h; dsimp only [seenD]; walk_at "w"; exact h
abbrev aHeld (K : PySem.W.Frag) : ASp := aC0 K fun a la s sg f _ Φ _ => Φ (.lst (s.kept.map kpD)) (f (MC K a la s sg))
theorem sc_Court_held : FnScope ["self"] ["self"] d_Court_held.scope := ⟨rfl, rfl, rfl, by decide +kernel, rfl, by decide +kernel, by decide +kernel⟩
theorem ok_Court_held (T : Tx K mg) : FOk P w K mg base 1 (He.fAd K d_Court_held.at_) ["self"] (aHeld K) := by
  refine fok_of (d := d_Court_held) T 39 (k := 0) rfl rfl rfl sc_Court_held (fun ds L Φ ex h => A1.len h) (fun _ _ _ _ _ _ us hl => match us, hl with | [_], _ => rfl) (fun cdv Ar outer s H E ds L Φ ex hr h => ?_)
  obtain ⟨self_, rfl, h⟩ := h
  refine ⟨_, (pss_one (ps_ret (pe_callTy call_list_of rfl (f_list T) (by decide +kernel) (pa_cons (pe_fld (pv 0) rfl) pa_nil)))), ?_⟩
  obtain ⟨a, la, s, sg, f, N, rfl, ⟨hf, rfl⟩, ok, h⟩ := h
  dsimp only [cxOf]
  unfold MC at h ⊢
  walk_at "w"
  refine wc_list ?_ (.inl rfl)
  exact h
abbrev aRows (K : PySem.W.Frag) : ASp := aC0 K fun a la s sg f _ Φ _ => Φ (.lst s.rows) (f (MC K a la s sg))
theorem sc_Court_rows : FnScope ["self", "deed", "paid"] ["self"] d_Court_rows.scope := ⟨rfl, rfl, rfl, by decide +kernel, rfl, by decide +kernel, by decide +kernel⟩
theorem ok_Court_rows (T : Tx K mg) : FOk P w K mg base 1 (He.fAd K d_Court_rows.at_) ["self"] (aRows K) := by
  refine fok_of (d := d_Court_rows) T 40 (k := 0) rfl rfl rfl sc_Court_rows (fun ds L Φ ex h => A1.len h) (fun _ _ _ _ _ _ us hl => match us, hl with | [_], _ => rfl) (fun cdv Ar outer s H E ds L Φ ex hr h => ?_)
  obtain ⟨self_, rfl, h⟩ := h
  refine ⟨_, (pss_one (ps_ret (pe_lc (own := [("deed", 1), ("paid", 2)]) rfl sc_Court_rows.nd (pi_list (pe_fld (pv 0) rfl)) (blkOk_by (own := [("deed", 1), ("paid", 2)]) (N := ["self", "deed", "paid"]) (sc := d_Court_rows.scope) (by decide +kernel)) (fun _ _ _ _ _ => by exact (pg_tupK (n := 2) (K := K) rfl rfl (pgs_cons (pg_name (i := 1) sc_Court_rows.nd rfl (Or.inl rfl)) (pgs_cons (pg_name (i := 2) sc_Court_rows.nd rfl (Or.inl rfl)) pgs_nil)))) (fun _ _ _ _ _ => by exact pts_nil) (fun _ _ _ _ _ => by exact (pe_tup (pa_cons (pv 1) (pa_cons (pe_callTy (call_list_ofK (K := K) rfl) rfl (f_list T) (by decide +kernel) (pa_cons (pv 2) pa_nil)) pa_nil))))))), ?_⟩
  obtain ⟨a, la, s, sg, f, N, rfl, ⟨hf, rfl⟩, ok, h⟩ := h
  dsimp only [cxOf]
  unfold MC at h ⊢
  walk_at "w"
  refine we_lcM (wi_listC ?_)
  walk_at "w"
  refine ⟨_, _, _, rfl, by walk_at "at", fun p acc => ⟨_, by walk_at "at"⟩, by have := ok.nr; have := ok.big; omega, id, fun d hd p acc => ?_, ?_⟩
  · obtain ⟨x, ys, rfl⟩ := ok.rw d hd
    refine ⟨_, wg_tup (us := [(1, x), (2, .lst ys)]) rfl (wgs_cons wg_name (wgs_cons wg_name wgs_nil)), by simp, ?_⟩
    walk_at "w"
    refine wc_list ?_ (.inl rfl)
    walk_at "w"
    exact ⟨rfl, rfl⟩
  · rw [List.map_id]
    exact h
theorem at_road {K : PySem.W.Frag} {a : Ad} {la : List Addr} {s : CtS} {sg : Sg} {f : Sto → Sto} {i : Nat} {ad : Addr} {r : Rd} (hf : Hole f) (h1 : la[i]? = some ad) (h2 : s.lanes[i]? = some r) :
    ∃ g, At ad (.ins (He.ga K "Lane") r.fs) (f (MC K a la s sg)) g ∧ ∀ r', g (.ins (He.ga K "Lane") r'.fs) = f (MC K a la { s with lanes := s.lanes.set i r' } sg) := by
  obtain ⟨g, hg, hs⟩ := at_lane (K := K) h1 h2
  refine ⟨_, At.in hf (At.tail (x := (a.c, .ins (He.ga K "Court") (ctF a s))) (At.tail (x := (a.b, .dK (bagK s.bags))) (At.tail (x := (a.o, .lst (la.map D.ref))) (At.tail (x := (a.sn, .dK (seenK s.seen))) (At.tail (x := (a.dd, .lst s.rows)) (At.left (B := SgC K a.g a.h sg) hg)))))), fun r' => ?_⟩
  show f (_ :: _ :: _ :: _ :: _ :: (g _ ++ _)) = _
  rw [hs]
  rfl
end
end Cl
set_option Elab.async false
set_option linter.all false
set_option maxRecDepth 100000
set_option maxHeartbeats 4000000
namespace Cl
open PySem PySem.Spec PyProof.Rows L2
local macro_rules | `(tactic| walk_at "at") => `(tactic| first | assumption | repeat first | with_reducible exact At.here | with_reducible apply At.tail | (with_reducible apply At.in (by assumption)))
local macro_rules | `(tactic| walk_at "fact") => `(tactic| first | exact c_Court (by assumption) | exact c_Lane (by assumption) | exact c_Signs (by assumption) | exact n_Court_clock (by assumption) | exact n_Court_long (by assumption) | exact n_Court_bags (by assumption) | exact n_Court_book (by assumption) | exact n_Court_opened (by assumption) | exact n_Court_seen (by assumption) | exact n_Court_kept (by assumption) | exact n_Court_deeds (by assumption) | exact n_Lane_both (by assumption) | exact n_Lane_first (by assumption) | exact n_Lane_standing (by assumption) | exact n_Lane_mood (by assumption) | exact n_Lane_ending (by assumption) | exact n_Signs_by_hand (by assumption))
local macro_rules | `(tactic| walk_at "ge") => `(tactic| first
  | with_reducible refine we_var rfl ?_
  | with_reducible refine we_int ?_
  | with_reducible refine we_str ?_
  | with_reducible refine we_ty ?_
  | with_reducible refine we_bl ?_
  | with_reducible refine we_non ?_
  | with_reducible refine we_ref ?_
  | with_reducible refine we_op ?_
  | with_reducible refine we_cb ?_
  | with_reducible refine we_call0 ?_
  | with_reducible refine we_call ?_
  | with_reducible refine we_lst ?_
  | with_reducible refine we_tup ?_
  | with_reducible refine we_andV ?_
  | with_reducible refine we_orV ?_
  | with_reducible refine we_notV ?_
  | with_reducible refine we_if ?_
  | with_reducible refine we_chain ?_
  | with_reducible refine we_sl ?_
  | with_reducible refine we_dnewK (fun _ => ?_)
  | with_reducible refine we_dnewN (fun _ => ?_)
  | with_reducible refine we_fld ?_
  | with_reducible refine we_dget ?_
  | with_reducible refine we_din ?_
  | with_reducible refine we_dnotIn ?_
  | with_reducible refine we_dget2 ?_
  | with_reducible refine we_dsetd ?_
  | with_reducible refine we_meth0 ?_
  | with_reducible refine we_meth ?_
  | with_reducible refine we_bm ?_)
local macro_rules | `(tactic| walk_at "gt") => `(tactic| first
  | with_reducible refine wt_B ?_
  | with_reducible refine wt_test ?_
  | with_reducible refine wt_not ?_
  | with_reducible refine wt_and ?_
  | with_reducible refine wt_or ?_
  | with_reducible refine wt_yes ?_)
local macro_rules | `(tactic| walk_at "gst") => `(tactic| first
  | with_reducible refine ws_ret ?_
  | with_reducible refine ws_retN ?_
  | with_reducible refine ws_seq ?_
  | with_reducible refine ws_set ?_
  | with_reducible refine ws_drop ?_
  | with_reducible refine ws_if ?_
  | with_reducible refine ws_next ?_
  | with_reducible refine ws_raise ?_
  | with_reducible refine ws_asgS ?_
  | with_reducible refine ws_setL ?_
  | with_reducible refine ws_setN ?_
  | with_reducible refine ws_asg ?_
  | with_reducible refine ws_fld ?_
  | with_reducible refine ws_fldaddI ?_
  | with_reducible refine ws_dput ?_)
local macro_rules | `(tactic| walk_at "gr") => `(tactic| first
  | with_reducible refine wr_ixT rfl ?_
  | with_reducible refine wr_ixL rfl ?_
  | with_reducible refine wr_int ?_
  | with_reducible refine wr_bool ?_
  | with_reducible refine wr_eqI ?_
  | with_reducible refine wr_neI ?_
  | with_reducible refine wr_eqS ?_
  | with_reducible refine wr_neS ?_
  | with_reducible refine wr_eqB ?_
  | with_reducible refine wr_neB ?_
  | with_reducible refine wr_isN ?_
  | with_reducible refine wr_notN ?_
  | (with_reducible refine isIxC ?_; with_reducible refine wr_ixC (by walk_at "at") (by with_unfolding_all rfl) ?_))
local macro_rules | `(tactic| walk_at "gc") => `(tactic| first
  | with_reducible refine wc_isi rfl rfl ?_
  | with_reducible refine wc_isi (by decide) (by decide +kernel) ?_
  | (with_reducible refine isLen ?_; with_reducible refine wc_lenC (by walk_at "at") ?_)
  | with_reducible refine wc_lenT ?_
  | with_reducible refine wc_lenL ?_)
local macro_rules | `(tactic| walk_at "ga") => `(tactic| first
  | with_reducible refine wa_cons ?_
  | with_reducible refine wa_nil ?_)
local macro_rules | `(tactic| walk_at "gx") => `(tactic| first
  | (with_reducible refine isLn ?_; with_reducible refine lenAnd (by simp) ?_)
  | with_reducible refine wo_none ?_
  | with_reducible refine wo_some ?_
  | with_reducible refine ex_bl ?_
  | with_reducible refine ex_int ?_
  | with_reducible refine ex_str ?_
  | with_reducible refine ex_tup ?_
  | with_reducible refine ex_lst ?_
  | with_reducible refine ex_etup ?_
  | with_reducible refine br_true ?_
  | with_reducible refine br_false ?_
  | (with_reducible refine isBr ?_; refine br_t rfl ?_)
  | (with_reducible refine isBr ?_; refine br_f rfl ?_)
  | (with_reducible refine isFld ?_; with_reducible refine ex_fld (by walk_at "at") (by walk_at "fact") (by walk_at "fact") (by with_unfolding_all rfl) ?_)
  | (with_reducible refine isPut ?_; with_reducible refine ex_put (by walk_at "at") (by walk_at "fact") (by walk_at "fact") (by with_unfolding_all exact of_decide_eq_true rfl) ?_)
  | (with_reducible refine isMeth ?_; with_reducible refine ex_meth (by walk_at "at") (by with_unfolding_all rfl) ?_)
  | (with_reducible refine isTy ?_; with_reducible refine And.intro (ty_cell (by walk_at "at")) ?_)
  | with_reducible refine k_whole ?_
  | with_reducible refine k_count ?_
  | with_reducible refine k_amount ?_)
local macro_rules | `(tactic| walk_at "s") => `(tactic| first
  | (with_reducible refine isWE ?_; walk_at "ge")
  | (with_reducible refine isWS ?_; walk_at "gst")
  | (with_reducible refine isWT ?_; walk_at "gt")
  | (with_reducible refine isWR ?_; walk_at "gr")
  | (with_reducible refine isWA ?_; walk_at "ga")
  | (with_reducible refine isWC ?_; walk_at "gc")
  | walk_at "gx")
local macro_rules | `(tactic| walk_at "w") => `(tactic| repeat walk_at "s")

section
variable {P : Program} {w : World} {K : PySem.W.Frag} {mg : Str → Option Value} {base : Heap}
abbrev aStand (K : PySem.W.Frag) : ASp := A2 fun self x L Φ ex => ∃ a la s sg f N i r, self = .ref a.c ∧ Part (MC K a la s sg) L f ∧ CtOk N la s ∧ x = .int i ∧ 0 ≤ i ∧ s.lanes[i.toNat]? = some r ∧ Φ (.tup [.str r.mood, .str r.l, .str r.r, .int r.first.worth, r.st.d, oD r.en]) (f (MC K a la s sg))
theorem sc_Court_stand : FnScope ["self", "lane", "road"] ["self", "lane"] d_Court_stand.scope := ⟨rfl, rfl, rfl, by decide +kernel, rfl, by decide +kernel, by decide +kernel⟩
theorem ok_Court_stand (T : Tx K mg) : FOk P w K mg base 7 (He.fAd K d_Court_stand.at_) ["self", "lane"] (aStand K) := by
  refine fok_of (d := d_Court_stand) T 35 (k := 6) rfl rfl rfl sc_Court_stand (fun ds L Φ ex h => A2.len h) (fun _ _ _ _ _ _ us hl => match us, hl with | [_, _], _ => rfl) (fun cdv Ar outer s H E ds L Φ ex hr h => ?_)
  obtain ⟨self_, lane, rfl, h⟩ := h
  refine ⟨_, (pss_cons (ps_set (i := 2) sc_Court_stand.nd rfl (Or.inl rfl) (pe_m (pv 0) (c_Court T) (m_Court_road T) (ok_Court_road T) hr (pa_cons (pv 1) pa_nil)))
    (pss_one (ps_ret (pe_op op_catA (pe_op op_catA (pe_tup (pa_cons (pe_fld (pv 2) rfl) pa_nil)) (pe_fld (pv 2) rfl)) (pe_tup (pa_cons (pe_c (ok_worth T) hr rfl (g_worth T) (pa_cons (pe_fld (pv 2) rfl) pa_nil)) (pa_cons (pe_fld (pv 2) rfl) (pa_cons (pe_fld (pv 2) rfl) pa_nil)))))))), ?_⟩
  obtain ⟨a, la, s, sg, f, N, i, r, rfl, ⟨hf, rfl⟩, ok, rfl, hi, hr, h⟩ := h
  dsimp only [cxOf]
  walk_at "w"
  refine ⟨_, _, _, rfl, At.in hf At.here, by with_unfolding_all rfl, ?_⟩
  walk_at "w"
  have hlt : i.toNat < s.lanes.length := (List.getElem?_eq_some_iff.mp hr).1
  refine ⟨_, _, rfl, a, la, s, sg, f, N, i, rfl, ⟨hf, rfl⟩, ok, rfl, hi, fun ad r2 h1 h2 => ?_, fun q => by omega⟩
  rw [hr] at h2
  cases h2
  obtain ⟨g, hA, _⟩ := at_road (K := K) (a := a) (sg := sg) hf h1 hr
  walk_at "w"
  refine wr_catT (by simp) ?_
  walk_at "w"
  refine k_worth (ok.rd _ _ hr).f ?_
  walk_at "w"
  refine wr_catT (by simp) ?_
  exact h
def sput (bs : List (Int × Int × Int)) (k c x : Int) : List (Int × Int × Int) := if (sget bs k).isSome then bs else bs ++ [(k, c, x)]
def rowD (d : D) (ps : List D) : D := .tup [d, .lst ps]
def showS (s : CtS) (x : Int) : CtS := { s with seen := sput s.seen (3 * x + 17) s.clock x, rows := s.rows ++ [rowD (.tup [.str "show", .int x]) []] }
abbrev aShow (K : PySem.W.Frag) : ASp := A2 fun self x L Φ ex => ∃ a la s sg f N k, self = .ref a.c ∧ Part (MC K a la s sg) L f ∧ CtOk N la s ∧ x = .int k ∧ 0 ≤ k ∧ Φ .non (f (MC K a la (showS s k) sg))
theorem sc_Court_show : FnScope ["self", "secret"] ["self", "secret"] d_Court_show.scope := ⟨rfl, rfl, rfl, by decide +kernel, rfl, by decide +kernel, by decide +kernel⟩
theorem ok_Court_show (T : Tx K mg) : FOk P w K mg base 4 (He.fAd K d_Court_show.at_) ["self", "secret"] (aShow K) := by
  refine fok_of (d := d_Court_show) T 26 (k := 3) rfl rfl rfl sc_Court_show (fun ds L Φ ex h => A2.len h) (fun _ _ _ _ _ _ us hl => match us, hl with | [_, _], _ => rfl) (fun cdv Ar outer s H E ds L Φ ex hr h => ?_)
  obtain ⟨self_, secret, rfl, h⟩ := h
  refine ⟨_, (pss_cons (ps_expr (pe_dsetd (pe_fld (pv 0) rfl) (pe_c (ok_seal_of T) hr rfl (g_seal_of T) (pa_cons (pv 1) pa_nil)) (pe_tup (pa_cons (pe_fld (pv 0) rfl) (pa_cons (pv 1) pa_nil))) ⟨rfl, rfl, rfl, rfl⟩))
    (pss_one (ps_expr (pe_bm PySem.F.plainAttrs_list PySem.F.slot_list_append PySem.F.type_list_append mt_append (pe_fld (pv 0) rfl) (pa_cons (pe_tup (pa_cons (pe_tup (pa_cons pe_str (pa_cons (pv 1) pa_nil))) (pa_cons (pe_lst pa_nil) pa_nil))) pa_nil))))), ?_⟩
  obtain ⟨a, la, s, sg, f, N, k, rfl, ⟨hf, rfl⟩, ok, rfl, hk, h⟩ := h
  dsimp only [cxOf]
  unfold MC at h ⊢
  walk_at "w"
  refine ⟨_, _, _, rfl, by walk_at "at", ?_⟩
  walk_at "w"
  refine k_seal hk ?_
  walk_at "w"
  refine ⟨_, .inl (3 * k + 17), _, rfl, by walk_at "at", by have := ok.ns; have := ok.big; unfold seenK; rw [List.length_map]; omega, fun d hd => ?_, fun hd => ?_⟩
  · have hs : (sget s.seen (3 * k + 17)).isSome = true := by
      rw [seenK_get] at hd
      cases e : sget s.seen (3 * k + 17) with
      | none => rw [e] at hd; cases hd
      | some z => rfl
    walk_at "w"
    refine wm_append (by walk_at "at") (by have := ok.nr; have := ok.big; omega) ?_
    dsimp only [showS, sput] at h
    rw [if_pos hs] at h
    exact h
  · have hs : ¬ (sget s.seen (3 * k + 17)).isSome = true := by
      rw [seenK_get] at hd
      cases e : sget s.seen (3 * k + 17) with
      | none => simp
      | some z => rw [e] at hd; cases hd
    rw [putKD_none hd]
    walk_at "w"
    refine wm_append (by walk_at "at") (by have := ok.nr; have := ok.big; omega) ?_
    dsimp only [showS, sput] at h
    rw [if_neg hs] at h
    unfold seenK at h
    rw [List.map_append] at h
    exact h
end
end Cl
set_option Elab.async false
set_option linter.all false
set_option maxRecDepth 100000
set_option maxHeartbeats 4000000
namespace Cl
open PySem PySem.Spec PyProof.Rows L2
section
variable {P : Program} {w : World} {K : PySem.W.Frag} {t : Stt} {l : Lck} {L : Sto} {Φ : D → Sto → Prop}
theorem ix_t0 (q : Φ (.int t.lane) L) : WR P w K (rIxT K) t.d (.int 0) L Φ := wr_ixT rfl q
theorem ix_t1 (q : Φ (.int t.num) L) : WR P w K (rIxT K) t.d (.int 1) L Φ := wr_ixT rfl q
theorem ix_t2 (q : Φ (.int t.l) L) : WR P w K (rIxT K) t.d (.int 2) L Φ := wr_ixT rfl q
theorem ix_t3 (q : Φ (.int t.r) L) : WR P w K (rIxT K) t.d (.int 3) L Φ := wr_ixT rfl q
theorem ix_t4 (q : Φ (.tup (t.locks.map Lck.d)) L) : WR P w K (rIxT K) t.d (.int 4) L Φ := wr_ixT rfl q
theorem ix_l0 (q : Φ (.int l.id) L) : WR P w K (rIxT K) l.d (.int 0) L Φ := wr_ixT rfl q
theorem ix_l1 (q : Φ (.str (side l.rt)) L) : WR P w K (rIxT K) l.d (.int 1) L Φ := wr_ixT rfl q
theorem ix_l2 (q : Φ (.int l.am) L) : WR P w K (rIxT K) l.d (.int 2) L Φ := wr_ixT rfl q
theorem ix_l3 (q : Φ (.int l.sl) L) : WR P w K (rIxT K) l.d (.int 3) L Φ := wr_ixT rfl q
theorem ix_l4 (q : Φ (.int l.la) L) : WR P w K (rIxT K) l.d (.int 4) L Φ := wr_ixT rfl q
end
local macro_rules | `(tactic| walk_at "at") => `(tactic| first | assumption | repeat first | with_reducible exact At.here | with_reducible apply At.tail | (with_reducible apply At.in (by assumption)))
local macro_rules | `(tactic| walk_at "fact") => `(tactic| first | exact c_Court (by assumption) | exact c_Lane (by assumption) | exact c_Signs (by assumption) | exact n_Court_clock (by assumption) | exact n_Court_long (by assumption) | exact n_Court_bags (by assumption) | exact n_Court_book (by assumption) | exact n_Court_opened (by assumption) | exact n_Court_seen (by assumption) | exact n_Court_kept (by assumption) | exact n_Court_deeds (by assumption) | exact n_Lane_both (by assumption) | exact n_Lane_first (by assumption) | exact n_Lane_standing (by assumption) | exact n_Lane_mood (by assumption) | exact n_Lane_ending (by assumption) | exact n_Signs_by_hand (by assumption))
local macro_rules | `(tactic| walk_at "ge") => `(tactic| first
  | with_reducible refine we_var rfl ?_
  | with_reducible refine we_int ?_
  | with_reducible refine we_str ?_
  | with_reducible refine we_ty ?_
  | with_reducible refine we_bl ?_
  | with_reducible refine we_non ?_
  | with_reducible refine we_ref ?_
  | with_reducible refine we_op ?_
  | with_reducible refine we_cb ?_
  | with_reducible refine we_call0 ?_
  | with_reducible refine we_call ?_
  | with_reducible refine we_lst ?_
  | with_reducible refine we_tup ?_
  | with_reducible refine we_andV ?_
  | with_reducible refine we_orV ?_
  | with_reducible refine we_notV ?_
  | with_reducible refine we_if ?_
  | with_reducible refine we_chain ?_
  | with_reducible refine we_sl ?_
  | with_reducible refine we_dnewK (fun _ => ?_)
  | with_reducible refine we_dnewN (fun _ => ?_)
  | with_reducible refine we_fld ?_
  | with_reducible refine we_dget ?_
  | with_reducible refine we_din ?_
  | with_reducible refine we_dnotIn ?_
  | with_reducible refine we_dget2 ?_
  | with_reducible refine we_dsetd ?_
  | with_reducible refine we_meth0 ?_
  | with_reducible refine we_meth ?_
  | with_reducible refine we_bm ?_)
local macro_rules | `(tactic| walk_at "gt") => `(tactic| first
  | with_reducible refine wt_B ?_
  | with_reducible refine wt_test ?_
  | with_reducible refine wt_not ?_
  | with_reducible refine wt_and ?_
  | with_reducible refine wt_or ?_
  | with_reducible refine wt_yes ?_)
local macro_rules | `(tactic| walk_at "gst") => `(tactic| first
  | with_reducible refine ws_ret ?_
  | with_reducible refine ws_retN ?_
  | with_reducible refine ws_seq ?_
  | with_reducible refine ws_set ?_
  | with_reducible refine ws_drop ?_
  | with_reducible refine ws_if ?_
  | with_reducible refine ws_next ?_
  | with_reducible refine ws_raise ?_
  | with_reducible refine ws_asgS ?_
  | with_reducible refine ws_setL ?_
  | with_reducible refine ws_setN ?_
  | with_reducible refine ws_asg ?_
  | with_reducible refine ws_fld ?_
  | with_reducible refine ws_fldaddI ?_
  | with_reducible refine ws_dput ?_)
local macro_rules | `(tactic| walk_at "gr") => `(tactic| first
  | with_reducible refine wr_ixT rfl ?_
  | with_reducible refine wr_ixL rfl ?_
  | with_reducible refine ix_t0 ?_
  | with_reducible refine ix_t1 ?_
  | with_reducible refine ix_t2 ?_
  | with_reducible refine ix_t3 ?_
  | with_reducible refine ix_t4 ?_
  | with_reducible refine ix_l0 ?_
  | with_reducible refine ix_l1 ?_
  | with_reducible refine ix_l2 ?_
  | with_reducible refine ix_l3 ?_
  | with_reducible refine ix_l4 ?_
  | with_reducible refine wr_int ?_
  | with_reducible refine wr_bool ?_
  | with_reducible refine wr_eqI ?_
  | with_reducible refine wr_neI ?_
  | with_reducible refine wr_eqS ?_
  | with_reducible refine wr_neS ?_
  | with_reducible refine wr_eqB ?_
  | with_reducible refine wr_neB ?_
  | with_reducible refine wr_isN ?_
  | with_reducible refine wr_notN ?_
  | (with_reducible refine isIxC ?_; with_reducible refine wr_ixC (by walk_at "at") (by with_unfolding_all rfl) ?_))
local macro_rules | `(tactic| walk_at "gc") => `(tactic| first
  | with_reducible refine wc_isi rfl rfl ?_
  | with_reducible refine wc_isi (by decide) (by decide +kernel) ?_
  | (with_reducible refine isLen ?_; with_reducible refine wc_lenC (by walk_at "at") ?_)
  | with_reducible refine wc_lenT ?_
  | with_reducible refine wc_lenL ?_)
local macro_rules | `(tactic| walk_at "ga") => `(tactic| first
  | with_reducible refine wa_cons ?_
  | with_reducible refine wa_nil ?_)
local macro_rules | `(tactic| walk_at "gx") => `(tactic| first
  | (with_reducible refine isLn ?_; with_reducible refine lenAnd (by simp) ?_)
  | with_reducible refine wo_none ?_
  | with_reducible refine wo_some ?_
  | with_reducible refine ex_bl ?_
  | with_reducible refine ex_int ?_
  | with_reducible refine ex_str ?_
  | with_reducible refine ex_tup ?_
  | with_reducible refine ex_lst ?_
  | with_reducible refine ex_etup ?_
  | with_reducible refine br_true ?_
  | with_reducible refine br_false ?_
  | (with_reducible refine isBr ?_; refine br_t rfl ?_)
  | (with_reducible refine isBr ?_; refine br_f rfl ?_)
  | (with_reducible refine isFld ?_; with_reducible refine ex_fld (by walk_at "at") (by walk_at "fact") (by walk_at "fact") (by with_unfolding_all rfl) ?_)
  | (with_reducible refine isPut ?_; with_reducible refine ex_put (by walk_at "at") (by walk_at "fact") (by walk_at "fact") (by with_unfolding_all exact of_decide_eq_true rfl) ?_)
  | (with_reducible refine isMeth ?_; with_reducible refine ex_meth (by walk_at "at") (by with_unfolding_all rfl) ?_)
  | (with_reducible refine isTy ?_; with_reducible refine And.intro (ty_cell (by walk_at "at")) ?_)
  | with_reducible refine k_whole ?_
  | with_reducible refine k_count ?_
  | with_reducible refine k_amount ?_)
local macro_rules | `(tactic| walk_at "s") => `(tactic| first
  | (with_reducible refine isWE ?_; walk_at "ge")
  | (with_reducible refine isWS ?_; walk_at "gst")
  | (with_reducible refine isWT ?_; walk_at "gt")
  | (with_reducible refine isWR ?_; walk_at "gr")
  | (with_reducible refine isWA ?_; walk_at "ga")
  | (with_reducible refine isWC ?_; walk_at "gc")
  | walk_at "gx")
local macro_rules | `(tactic| walk_at "w") => `(tactic| repeat walk_at "s")

section
variable {P : Program} {w : World} {K : PySem.W.Frag} {mg : Str → Option Value} {base : Heap}
def MCh (K : PySem.W.Frag) (a : Ad) (la : List Addr) (s : CtS) : Sto :=
  (a.c, .ins (He.ga K "Court") (ctF a s)) :: (a.b, .dK (bagK s.bags)) :: (a.o, .lst (la.map D.ref)) :: (a.sn, .dK (seenK s.seen)) :: (a.dd, .lst s.rows) :: laC K la s.lanes
theorem mc_eq {K : PySem.W.Frag} {a : Ad} {la : List Addr} {s : CtS} {sg : Sg} : MC K a la s sg = MCh K a la s ++ SgC K a.g a.h sg := rfl
theorem part_sg {K : PySem.W.Frag} {a : Ad} {la : List Addr} {s : CtS} {sg : Sg} {f : Sto → Sto} (hf : Hole f) : Part (SgC K a.g a.h sg) (f (MC K a la s sg)) (fun S => f (MCh K a la s ++ S)) := Part.in hf ⟨Hole.id.right, rfl⟩
theorem letStrOk : True := trivial
theorem side_ok (b : Bool) : SeqAt.shaped (.str (side b)) = true := by cases b <;> decide +kernel
theorem canAll : ∀ ls : List Lck, PyData.canLayAll0 (D.pys (ls.map Lck.d)) = true
  | [] => by simp [D.pys, PyData.canLayAll0]
  | l :: ls => by
    rw [List.map_cons, D.pys, PyData.canLayAll0, canAll ls, Bool.and_true]
    have := SeqAt.canLay_of_shaped (side_ok l.rt)
    simpa [Lck.d, D.py, D.pys, PyData.canLay0, PyData.canLayAll0] using this
theorem depAll : ∀ ls : List Lck, PyData.depthAll (D.pys (ls.map Lck.d)) ≤ 1
  | [] => by simp [D.pys, PyData.depthAll]
  | l :: ls => by
    rw [List.map_cons, D.pys, PyData.depthAll]
    have := depAll ls
    have e : (Lck.d l).py.depth = 1 := by simp [Lck.d, D.py, D.pys, PyData.depth, PyData.depthAll]
    omega
theorem stt_shaped (t : Stt) : SeqAt.shaped t.d.py = true := by
  unfold SeqAt.shaped
  have h1 := canAll t.locks
  have h2 := depAll t.locks
  have e1 : t.d.py.canLay0 = true := by simp [Stt.d, D.py, D.pys, PyData.canLay0, PyData.canLayAll0, h1]
  have e2 : t.d.py.depth ≤ 64 := by simp [Stt.d, D.py, D.pys, PyData.depth, PyData.depthAll]; omega
  rw [e1, decide_eq_true e2]
  rfl
theorem pureAll : ∀ ls : List Lck, D.pures (ls.map Lck.d) = true
  | [] => by simp [D.pures]
  | l :: ls => by
    rw [List.map_cons, D.pures, pureAll ls, Bool.and_true]
    simp [Lck.d, D.pure, D.pures]
theorem stt_pure (t : Stt) : t.d.pure = true := by
  have := pureAll t.locks
  simp [Stt.d, D.pure, D.pures, this]
def tellDue (S : Str → D → Bool) (s : CtS) (t : Stt) : Str :=
  match s.lanes[t.lane.toNat]? with
  | none => "NoLane"
  | some r =>
    if r.mood = "settled" then "Settled"
    else if PyData.eqv t.d.py r.first.d.py = false ∧ (t.worth ≠ r.first.worth ∨ ¬ (S r.l t.d = true ∧ S r.r t.d = true)) then "NotSigned"
    else if r.mood = "closing" ∧ t.num ≤ r.st.num then "Old" else ""
def tellR (s : CtS) (t : Stt) (r : Rd) : Rd := { r with mood := "closing", en := if r.mood = "open" then some (s.clock + s.long) else r.en, st := t }
def tellS (s : CtS) (t : Stt) : CtS :=
  match s.lanes[t.lane.toNat]? with
  | none => s
  | some r => { s with lanes := s.lanes.set t.lane.toNat (tellR s t r), rows := s.rows ++ [rowD (.tup [.str "tell", t.d]) []] }
abbrev aTell (K : PySem.W.Frag) : ASp := A2 fun self x L Φ ex => ∃ a la s sg f N M t S, self = .ref a.c ∧ Part (MC K a la s sg) L f ∧ CtOk N la s ∧ SgOk M sg ∧ x = Stt.d t ∧ t.ok ∧ (∀ h d, S h d = true ↔ sgd sg h d) ∧
  (tellDue S s t = "" → Φ .non (f (MC K a la (tellS s t) sg))) ∧ (tellDue S s t ≠ "" → ex (exC K (tellDue S s t)) (f (MC K a la s sg)))
theorem sc_Court_tell : FnScope ["self", "state", "road", "signed", "hand"] ["self", "state"] d_Court_tell.scope := ⟨rfl, rfl, rfl, by decide +kernel, rfl, by decide +kernel, by decide +kernel⟩
theorem ok_Court_tell (T : Tx K mg) : FOk P w K mg base 7 (He.fAd K d_Court_tell.at_) ["self", "state"] (aTell K) := by
  refine fok_of (d := d_Court_tell) T 25 (k := 6) rfl rfl rfl sc_Court_tell (fun ds L Φ ex h => A2.len h) (fun _ _ _ _ _ _ us hl => match us, hl with | [_, _], _ => rfl) (fun cdv Ar outer s H E ds L Φ ex hr h => ?_)
  obtain ⟨self_, state, rfl, h⟩ := h
  refine ⟨_, (pss_cons (ps_if (pt_not (pt_val (pe_c (ok_is_state T) hr rfl (g_is_state T) (pa_cons (pv 1) pa_nil)))) (pss_one (ps_raise rfl (takes_of rfl rfl rfl rfl) (pmk_own PySem.F.excBase_ValueError (x_NoState T).1 (g_NoState T) (x_NoState T).2.1 (raises_own (x_NoState T).2.2.1 (x_NoState T).2.2.2) rfl))) pss_nil)
    (pss_cons (ps_set (i := 2) sc_Court_tell.nd rfl (Or.inl rfl) (pe_mx (takes_of rfl rfl rfl rfl) (pv 0) (c_Court T) (m_Court_road T) (ok_Court_road T) hr (pa_cons (pe_ix ix_tup (pv 1) pe_int (fun _ _ => rfl)) pa_nil)))
    (pss_cons (ps_if (pt_cmpR op_eq (pe_fld (pv 2) rfl) pe_str (nomark _)) (pss_one (ps_raise rfl (takes_of rfl rfl rfl rfl) (pmk_own PySem.F.excBase_ValueError (x_Settled T).1 (g_Settled T) (x_Settled T).2.1 (raises_own (x_Settled T).2.2.1 (x_Settled T).2.2.2) rfl))) pss_nil)
    (pss_cons (ps_if (pt_cmpR (op_neD hr.units) (pv 1) (pe_fld (pv 2) rfl) (nomark _)) (pss_cons (ps_set (i := 3) sc_Court_tell.nd rfl (Or.inl rfl) (pe_callB (cr_all rfl) rfl (f_all T) (by decide +kernel) (pa_cons (pe_lc (own := [("hand", 4)]) rfl sc_Court_tell.nd (pi_tup (pe_fld (pv 2) rfl)) (blkOk_by (own := [("hand", 4)]) (N := ["self", "state", "road", "signed", "hand"]) (sc := d_Court_tell.scope) (by decide +kernel)) (fun _ _ _ _ _ => by exact (pg_name (i := 4) sc_Court_tell.nd rfl (Or.inl rfl))) (fun _ _ _ _ _ => by exact pts_nil) (fun _ _ _ _ _ => by exact (pe_mK (P := P) (w := w) (K := K) (mg := mg) (base := base) rfl rfl rfl rfl rfl (pe_fldK (K := K) rfl (pv 0) rfl) (c_Signs T) (m_Signs_signed T) (ok_Signs_signed T) hr (pa_cons (pv 4) (pa_cons (pv 1) pa_nil))))) pa_nil)))
    (pss_one (ps_if (PW.pt (pw_or (pt_cmpR op_ne (pe_c (ok_worth T) hr rfl (g_worth T) (pa_cons (pv 1) pa_nil)) (pe_c (ok_worth T) hr rfl (g_worth T) (pa_cons (pe_fld (pv 2) rfl) pa_nil)) (nomark _)) (pw_or1 (pt_not (pt_val (pv 3)))))) (pss_one (ps_raise rfl (takes_of rfl rfl rfl rfl) (pmk_own PySem.F.excBase_ValueError (x_NotSigned T).1 (g_NotSigned T) (x_NotSigned T).2.1 (raises_own (x_NotSigned T).2.2.1 (x_NotSigned T).2.2.2) rfl))) pss_nil))) pss_nil)
    (pss_cons (ps_if (PW.pt (pw_and (pt_cmpR op_eq (pe_fld (pv 2) rfl) pe_str (nomark _)) (pw_and1 (pt_cmpR op_le (pe_ix ix_tup (pv 1) pe_int (fun _ _ => rfl)) (pe_ix ix_tup (pe_fld (pv 2) rfl) pe_int (fun _ _ => rfl)) (nomark _))))) (pss_one (ps_raise rfl (takes_of rfl rfl rfl rfl) (pmk_own PySem.F.excBase_ValueError (x_Old T).1 (g_Old T) (x_Old T).2.1 (raises_own (x_Old T).2.2.1 (x_Old T).2.2.2) rfl))) pss_nil)
    (pss_cons (ps_if (pt_cmpR op_eq (pe_fld (pv 2) rfl) pe_str (nomark _)) (pss_cons (ps_fld (pv 2) pe_str rfl)
    (pss_one (ps_fld (pv 2) (pe_op op_add (pe_fld (pv 0) rfl) (pe_fld (pv 0) rfl)) rfl))) pss_nil)
    (pss_cons (ps_fld (pv 2) (pv 1) rfl)
    (pss_one (ps_expr (pe_bm PySem.F.plainAttrs_list PySem.F.slot_list_append PySem.F.type_list_append mt_append (pe_fld (pv 0) rfl) (pa_cons (pe_tup (pa_cons (pe_tup (pa_cons pe_str (pa_cons (pv 1) pa_nil))) (pa_cons (pe_lst pa_nil) pa_nil))) pa_nil))))))))))), ?_⟩
  obtain ⟨a, la, s, sg, f, N, M, t, S, rfl, ⟨hf, rfl⟩, ok, sok, rfl, tok, hS, h1, h2⟩ := h
  dsimp only [cxOf]
  refine ws_seq (ws_if ?_)
  walk_at "w"
  refine k_state tok ?_
  walk_at "w"
  refine ⟨_, _, _, rfl, At.in hf At.here, by with_unfolding_all rfl, ?_⟩
  walk_at "w"
  refine ⟨_, _, rfl, a, la, s, sg, f, N, t.lane, rfl, ⟨hf, rfl⟩, ok, rfl, tok.lane, fun ad r g1 g2 => ?_, fun hge => ?_⟩
  · obtain ⟨g, hA, hs⟩ := at_road (K := K) (a := a) (sg := sg) hf g1 g2
    have ro := ok.rd _ _ g2
    refine ws_seq (ws_if ?_)
    walk_at "w"
    have td : tellDue S s t = if r.mood = "settled" then ("Settled" : Str) else if PyData.eqv t.d.py r.first.d.py = false ∧ (t.worth ≠ r.first.worth ∨ ¬ (S r.l t.d = true ∧ S r.r t.d = true)) then ("NotSigned" : Str) else if r.mood = "closing" ∧ t.num ≤ r.st.num then ("Old" : Str) else ("" : Str) := by
      unfold tellDue
      rw [g2]
    by_cases c1 : r.mood = "settled"
    · refine br_t (decide_eq_true c1) ?_
      walk_at "w"
      rw [if_pos c1] at td
      rw [td] at h2
      exact h2 (by decide)
    refine br_f (decide_eq_false c1) ?_
    refine ws_next ?_
    rw [if_neg c1] at td
    refine ws_cut (fun Γ' L' => L' = f (MC K a la s sg) ∧ ¬ (PyData.eqv t.d.py r.first.d.py = false ∧ (t.worth ≠ r.first.worth ∨ ¬ (S r.l t.d = true ∧ S r.r t.d = true))) ∧ ∃ x y, Γ' = [some (.ref a.c), some t.d, some (.ref ad), x, y]) ?_ ?_
    · walk_at "w"
      refine wr_neQ (stt_pure t) (stt_pure r.first) (stt_shaped t) (stt_shaped r.first) ?_
      walk_at "w"
      cases c2 : PyData.eqv t.d.py r.first.d.py with
      | true =>
        refine br_f rfl ?_
        refine ws_next ⟨rfl, fun z => (nomatch z.1), _, _, rfl⟩
      | false =>
        refine br_t rfl ?_
        walk_at "w"
        refine we_lcM (wi_tup ?_)
        walk_at "w"
        refine ⟨fun _ _ => trivial, by simp, fun d => (match d with | .str x => .bl (S x t.d) | d => d), fun d hd p acc => ?_, ?_⟩
        · obtain ⟨n, rfl, hn⟩ : ∃ n, d = .str n ∧ isNm n := by
            simp only [List.mem_cons, List.not_mem_nil, or_false] at hd
            rcases hd with rfl | rfl
            · exact ⟨_, rfl, ro.l⟩
            · exact ⟨_, rfl, ro.r⟩
          refine ⟨_, wg_name, by simp, ?_⟩
          refine we_meth0 ?_
          refine we_fld (we_var rfl ?_)
          refine ex_fld (At.tail (At.in hf At.here)) (by walk_at "fact") (by walk_at "fact") (by with_unfolding_all rfl) ?_
          obtain ⟨pf, pe⟩ := part_sg (K := K) (a := a) (la := la) (s := s) (sg := sg) hf
          refine ⟨_, _, _, rfl, At.tail (At.in hf (by rw [mc_eq]; exact At.right At.here)), by with_unfolding_all rfl, ?_⟩
          walk_at "w"
          refine ⟨_, _, _, rfl, a.g, a.h, sg, M, fun S => (p, .lst acc) :: f (MCh K a la s ++ S), n, .t t, rfl, rfl, hn, rfl, tok, ⟨pf.tail, rfl⟩, sok, fun c hc => ?_⟩
          refine ⟨?_, rfl⟩
          have : c = S n t.d := by
            have h3 := hS n t.d
            cases c <;> cases e : S n t.d
            · rfl
            · rw [e] at h3
              exact nomatch hc.mpr (h3.mp rfl)
            · rw [e] at h3
              exact nomatch h3.mpr (hc.mp rfl)
            · rfl
          rw [this]
        · walk_at "w"
          refine wc_all (bs := [S r.l t.d, S r.r t.d]) ?_
          walk_at "w"
          refine k_worth tok ?_
          walk_at "w"
          refine k_worth ro.f ?_
          walk_at "w"
          by_cases c3 : t.worth = r.first.worth
          · refine br_f (by rw [decide_eq_true c3]; rfl) ?_
            walk_at "w"
            by_cases c4 : S r.l t.d = true ∧ S r.r t.d = true
            · refine br_f (by rw [List.all_cons, List.all_cons]; simp [c4.1, c4.2]) ?_
              refine ws_next ⟨rfl, fun z => z.2.elim (fun y => y c3) fun y => y c4, _, _, rfl⟩
            · refine br_t (by rw [List.all_cons, List.all_cons]; cases e1 : S r.l t.d <;> cases e2 : S r.r t.d <;> simp_all) ?_
              walk_at "w"
              rw [if_pos ⟨c2, .inr c4⟩] at td
              rw [td] at h2
              exact h2 (by decide)
          · refine br_t (by rw [decide_eq_false c3]; rfl) ?_
            walk_at "w"
            rw [if_pos ⟨c2, .inl c3⟩] at td
            rw [td] at h2
            exact h2 (by decide)
    · rintro Γ' L' ⟨rfl, c2, x, y, rfl⟩
      rw [if_neg c2] at td
      refine ws_seq (ws_if ?_)
      walk_at "w"
      by_cases c3 : r.mood = "closing"
      · refine br_t (decide_eq_true c3) ?_
        walk_at "w"
        by_cases c4 : t.num ≤ r.st.num
        · refine br_t (decide_eq_true c4) ?_
          walk_at "w"
          rw [if_pos ⟨c3, c4⟩] at td
          rw [td] at h2
          exact h2 (by decide)
        · refine br_f (decide_eq_false c4) ?_
          rw [if_neg (fun z => c4 z.2)] at td
          have c1' : ¬ r.mood = "open" := by rw [c3]; decide
          have h1 := h1 td
          unfold tellS at h1
          rw [g2] at h1
          dsimp only at h1
          walk_at "w"
          refine br_f (by rw [c3]; decide) ?_
          walk_at "w"
          rw [show putD "standing" t.d r.fs = Rd.fs (tellR s t r) from by unfold tellR; rw [if_neg c1', ← c3]; rfl, hs]
          have g3 := hs (tellR s t r)
          unfold MC
          walk_at "w"
          refine wm_append (by walk_at "at") (by have := ok.nr; have := ok.big; show s.rows.length < _; omega) ?_
          exact h1
      · refine br_f (decide_eq_false c3) ?_
        have c5 : r.mood = "open" := by
          rcases ro.md with z | z | z
          · exact z
          · exact absurd z c3
          · exact absurd z c1
        rw [if_neg (fun z => c3 z.1)] at td
        have h1 := h1 td
        unfold tellS at h1
        rw [g2] at h1
        dsimp only at h1
        walk_at "w"
        refine br_t (decide_eq_true c5) ?_
        walk_at "w"
        rw [show putD "mood" (.str "closing") r.fs = Rd.fs { r with mood := "closing" } from rfl, hs]
        have hl : t.lane.toNat < s.lanes.length := (List.getElem?_eq_some_iff.mp g2).1
        obtain ⟨g', hA2, hs2⟩ := at_road (K := K) (a := a) (s := { s with lanes := s.lanes.set t.lane.toNat { r with mood := "closing" } }) (sg := sg) hf g1 (List.getElem?_set_self hl)
        unfold MC at hA2 ⊢
        walk_at "w"
        refine ex_put hA2.to (by walk_at "fact") (by walk_at "fact") (by with_unfolding_all exact of_decide_eq_true rfl) ?_
        have e3 : putD "standing" t.d (putD "ending" (.int (s.clock + s.long)) (Rd.fs { r with mood := "closing" })) = Rd.fs (tellR s t r) := by
          unfold tellR
          rw [if_pos c5]
          rfl
        have e4 := hs2 (tellR s t r)
        dsimp only at e4
        rw [List.set_set] at e4
        dsimp only
        rw [e3, e4]
        unfold MC
        walk_at "w"
        refine wm_append (by walk_at "at") (by have := ok.nr; have := ok.big; show s.rows.length < _; omega) ?_
        exact h1
  · have e : tellDue S s t = "NoLane" := by
      unfold tellDue
      rw [List.getElem?_eq_none (by omega)]
    rw [e] at h2
    exact h2 (by decide)
end
end Cl
set_option Elab.async false
set_option linter.all false
set_option maxRecDepth 100000
set_option maxHeartbeats 4000000
/-! list(zip(s, t)) of two pairs. -/
namespace Cl
open PySem PySem.Spec PyProof.Rows L2
section
variable {prog : Program} {w : World} {A : Around} {E : Value → Shared → Prop} {s : Shared}
theorem zt_item {z TI TO T i1 i2 l1 l2 : Addr} {f : Bool} {oT : Obj} {k1 k2 : Nat} {xs ys : Array Value} {x y : Value} {Q : Value → Shared → Prop} (D : ZipApart z TI TO i1 i2 l1 l2)
    (hz : IsZipHeld s.heap z TI TO T f) (hT : s.heap.get? T = some oT) (hTI : IsPair s.heap TI (.ref i1) (.ref i2))
    (h1 : s.heap.IsTupleIter i1 l1 k1) (h2 : s.heap.IsTupleIter i2 l2 k2) (hl1 : s.heap.IsTuple l1 xs) (hl2 : s.heap.IsTuple l2 ys) (hx : xs[k1]? = some x) (hy : ys[k2]? = some y)
    (hQ : ∀ h', IsZipHeld h' z TI TO T true → h'.IsTupleIter i1 l1 (k1 + 1) → h'.IsTupleIter i2 l2 (k2 + 1) → IsPair h' s.heap.objs.size x y → h'.objs.size = s.heap.objs.size + 1 →
      (∀ c o, c ≠ z → c ≠ i1 → c ≠ i2 → s.heap.get? c = some o → h'.get? c = some o) → Q (.ref s.heap.objs.size) { s with heap := h' }) :
    wpAny (model prog w) A (Builtin.«zip.__next__» ⟨[.ref z], []⟩) (fun fin s' => ∃ v, fin = .done (.ret v) ∧ Q v s') E s := by
  show wpAny _ _ (field (.ref z) 2 >>= _) _ _ _
  refine wpAny_bind (wpAny_field hz rfl (x := .bool false) rfl ?_)
  show wpAny _ _ (field (.ref z) 3 >>= _) _ _ _
  refine wpAny_bind (wpAny_field hz rfl (x := .ref TI) rfl ?_)
  refine wpAny_bind (wpAny_seqItems hTI rfl ?_)
  show wpAny _ _ (Builtin.SmallTypes.ownedTupleIsFree (.ref z) >>= _) _ _ _
  refine wpAny_bind (wpAny_tupleHeld_zip hz hT fun h₁ hz₁ hs₁ => ?_)
  simp only [Bool.false_eq_true, if_false]
  refine wpAny_bind ?_
  rw [← Array.forIn_toList]
  simp only [List.forIn_cons, List.forIn_nil]
  refine wpAny_bind (wpAny_bind (wpAny_holding ?_))
  show wpAny _ _ (Builtin.SmallTypes.nextOf (.ref i1) >>= _) _ _ _
  refine wpAny_bind (RZ.nextOf_tuple_item (s := { s with heap := h₁ }) (h1.extBut hs₁.extBut D.i1z) (hl1.extBut hs₁.extBut D.l1z) hx fun h₂ h1₂ hs₂ => wpAny_pure ?_)
  refine wpAny_pure ?_
  refine wpAny_bind (wpAny_bind (wpAny_holding ?_))
  show wpAny _ _ (Builtin.SmallTypes.nextOf (.ref i2) >>= _) _ _ _
  refine wpAny_bind (RZ.nextOf_tuple_item (s := { s with heap := h₂ }) ((h2.extBut hs₁.extBut D.i2z).extBut hs₂.extBut D.i12.symm) ((hl2.extBut hs₁.extBut D.l2z).extBut hs₂.extBut D.l2i1) hy fun h₃ h2₃ hs₃ => wpAny_pure ?_)
  refine wpAny_pure (wpAny_pure ?_)
  show wpAny _ _ (newTuple [x, y] >>= _) _ _ _
  refine wpAny_bind (wpAny_newTuple ?_)
  have hsz : h₃.objs.size = s.heap.objs.size := by rw [hs₃.1, hs₂.1, hs₁.1]
  have hz₃ : IsZipHeld h₃ z TI TO T true := hs₃.extBut _ _ D.i2z.symm (hs₂.extBut _ _ D.i1z.symm hz₁)
  have hk : ∀ c o, c ≠ z → c ≠ i1 → c ≠ i2 → s.heap.get? c = some o → h₃.get? c = some o := fun c o c1 c2 c3 e => hs₃.extBut _ _ c3 (hs₂.extBut _ _ c2 (hs₁.extBut _ _ c1 e))
  have h1₃ : h₃.IsTupleIter i1 l1 (k1 + 1) := h1₂.extBut hs₃.extBut D.i12
  refine wpAny_pure ⟨_, rfl, ?_⟩
  show Q (.ref h₃.objs.size) _
  have hp : IsPair (h₃.push { cls := .type "tuple", data := .seq #[x, y] }) h₃.objs.size x y := Heap.get?_push_size _ rfl
  have hz4 : (h₃.push { cls := .type "tuple", data := .seq #[x, y] }).objs.size = h₃.objs.size + 1 := Heap.size_push ..
  rw [hsz] at hp hz4 ⊢
  exact hQ _ (Heap.get?_push_of_some _ hz₃) (h1₃.at fun o e => Heap.get?_push_of_some _ e) (h2₃.at fun o e => Heap.get?_push_of_some _ e) hp hz4 fun c o c1 c2 c3 e => Heap.get?_push_of_some _ (hk c o c1 c2 c3 e)
theorem zt_end {z TI TO T i1 i2 l1 l2 : Addr} {f : Bool} {oT : Obj} {k1 k2 : Nat} {xs ys : Array Value} {Q : Fin → Shared → Prop} (hh : A.handled = none) (D : ZipApart z TI TO i1 i2 l1 l2)
    (hz : IsZipHeld s.heap z TI TO T f) (hT : s.heap.get? T = some oT) (hTI : IsPair s.heap TI (.ref i1) (.ref i2))
    (h1 : s.heap.IsTupleIter i1 l1 k1) (h2 : s.heap.IsTupleIter i2 l2 k2) (hl1 : s.heap.IsTuple l1 xs) (hl2 : s.heap.IsTuple l2 ys) (hend : xs[k1]? = none ∨ ys[k2]? = none)
    (hE : ∀ h' e, (∀ c o, c ≠ z → c ≠ i1 → c ≠ i2 → s.heap.get? c = some o → h'.get? c = some o) → (∃ o, h'.get? e = some o ∧ o.cls = .type "StopIteration") → E (.ref e) { s with heap := h' }) :
    wpAny (model prog w) A (Builtin.«zip.__next__» ⟨[.ref z], []⟩) Q E s := by
  show wpAny _ _ (field (.ref z) 2 >>= _) _ _ _
  refine wpAny_bind (wpAny_field hz rfl (x := .bool false) rfl ?_)
  show wpAny _ _ (field (.ref z) 3 >>= _) _ _ _
  refine wpAny_bind (wpAny_field hz rfl (x := .ref TI) rfl ?_)
  refine wpAny_bind (wpAny_seqItems hTI rfl ?_)
  show wpAny _ _ (Builtin.SmallTypes.ownedTupleIsFree (.ref z) >>= _) _ _ _
  refine wpAny_bind (wpAny_tupleHeld_zip hz hT fun h₁ hz₁ hs₁ => ?_)
  simp only [Bool.false_eq_true, if_false]
  refine wpAny_bind ?_
  rw [← Array.forIn_toList]
  simp only [List.forIn_cons, List.forIn_nil]
  refine wpAny_bind (wpAny_bind (wpAny_holding ?_))
  show wpAny _ _ (Builtin.SmallTypes.nextOf (.ref i1) >>= _) _ _ _
  cases hx : xs[k1]? with
  | none =>
    refine wpAny_bind (RZ.nextOf_tuple_end (s := { s with heap := h₁ }) hh (h1.extBut hs₁.extBut D.i1z) (hl1.extBut hs₁.extBut D.l1z) hx fun h₂ e hs₂ he => ?_)
    exact hE h₂ e (fun c o c1 c2 _ x => hs₂ _ _ c2 (hs₁.extBut _ _ c1 x)) he
  | some x =>
    have hy : ys[k2]? = none := by rcases hend with h | h; rw [hx] at h; cases h; exact h
    refine wpAny_bind (RZ.nextOf_tuple_item (s := { s with heap := h₁ }) (h1.extBut hs₁.extBut D.i1z) (hl1.extBut hs₁.extBut D.l1z) hx fun h₂ h1₂ hs₂ => wpAny_pure ?_)
    refine wpAny_pure ?_
    refine wpAny_bind (wpAny_bind (wpAny_holding ?_))
    show wpAny _ _ (Builtin.SmallTypes.nextOf (.ref i2) >>= _) _ _ _
    refine wpAny_bind (RZ.nextOf_tuple_end (s := { s with heap := h₂ }) hh ((h2.extBut hs₁.extBut D.i2z).extBut hs₂.extBut D.i12.symm) ((hl2.extBut hs₁.extBut D.l2z).extBut hs₂.extBut D.l2i1) hy fun h₃ e hs₃ he => ?_)
    exact hE h₃ e (fun c o c1 c2 c3 x => hs₃ _ _ c3 (hs₂.extBut _ _ c2 (hs₁.extBut _ _ c1 x))) he
theorem zt_nextItem {z TI TO T i1 i2 l1 l2 : Addr} {f : Bool} {oT : Obj} {k1 k2 : Nat} {xs ys : Array Value} {x y : Value} {Q : Option Value → Shared → Prop} (D : ZipApart z TI TO i1 i2 l1 l2)
    (hz : IsZipHeld s.heap z TI TO T f) (hT : s.heap.get? T = some oT) (hTI : IsPair s.heap TI (.ref i1) (.ref i2))
    (h1 : s.heap.IsTupleIter i1 l1 k1) (h2 : s.heap.IsTupleIter i2 l2 k2) (hl1 : s.heap.IsTuple l1 xs) (hl2 : s.heap.IsTuple l2 ys) (hx : xs[k1]? = some x) (hy : ys[k2]? = some y)
    (hQ : ∀ h', IsZipHeld h' z TI TO T true → h'.IsTupleIter i1 l1 (k1 + 1) → h'.IsTupleIter i2 l2 (k2 + 1) → IsPair h' s.heap.objs.size x y → h'.objs.size = s.heap.objs.size + 1 →
      (∀ c o, c ≠ z → c ≠ i1 → c ≠ i2 → s.heap.get? c = some o → h'.get? c = some o) → Q (some (.ref s.heap.objs.size)) { s with heap := h' }) :
    wpAny (model prog w) A (pyNext (.ref z)) Q E s := by
  have hTy : s.TypeIs (.ref z) "zip" := ⟨_, hz, rfl⟩
  unfold pyNext
  exact wpAny_bind (wpAny_attempt (wpAny_callSpecial?_slot (name := Str.ofString "__next__") hTy PySem.F.slot_zip_next
    (wpAny_call_entry PySem.F.slot_zip_next hTy PySem.F.entry_zip_next
      (zt_item D hz hT hTI h1 h2 hl1 hl2 hx hy fun h' a1 a3 a4 a5 a6 a7 => wpAny_pure (hQ h' a1 a3 a4 a5 a6 a7)) (PySem.F.args_zip_next_1 _))))
theorem zt_nextEnd {z TI TO T i1 i2 l1 l2 : Addr} {f : Bool} {oT : Obj} {k1 k2 : Nat} {xs ys : Array Value} {Q : Option Value → Shared → Prop} (hh : A.handled = none) (D : ZipApart z TI TO i1 i2 l1 l2)
    (hz : IsZipHeld s.heap z TI TO T f) (hT : s.heap.get? T = some oT) (hTI : IsPair s.heap TI (.ref i1) (.ref i2))
    (h1 : s.heap.IsTupleIter i1 l1 k1) (h2 : s.heap.IsTupleIter i2 l2 k2) (hl1 : s.heap.IsTuple l1 xs) (hl2 : s.heap.IsTuple l2 ys) (hend : xs[k1]? = none ∨ ys[k2]? = none)
    (hQ : ∀ h', (∀ c o, c ≠ z → c ≠ i1 → c ≠ i2 → s.heap.get? c = some o → h'.get? c = some o) → Q none { s with heap := h' }) : wpAny (model prog w) A (pyNext (.ref z)) Q E s := by
  have hTy : s.TypeIs (.ref z) "zip" := ⟨_, hz, rfl⟩
  unfold pyNext
  refine wpAny_bind (wpAny_attempt (wpAny_callSpecial?_slot (name := Str.ofString "__next__") hTy PySem.F.slot_zip_next
    (wpAny_call_entry PySem.F.slot_zip_next hTy PySem.F.entry_zip_next (zt_end hh D hz hT hTI h1 h2 hl1 hl2 hend fun h' e hk he => ?_) (PySem.F.args_zip_next_1 _))))
  obtain ⟨o, ho, hc⟩ := he
  refine wpAny_bind (wpAny_isInstance (T := "StopIteration") (b := true) ⟨o, ho, hc⟩ isSubtype_stop ?_)
  exact wpAny_pure (hQ _ hk)
theorem nolen_zip : typeLookup (.type "zip") "__len__" = pure none := by rw [typeLookup_type, builtinLookup_eq_fast]; kernel_rfl
theorem nohint_zip : typeLookup (.type "zip") "__length_hint__" = pure none := by rw [typeLookup_type, builtinLookup_eq_fast]; kernel_rfl
theorem hint_zip {z : Addr} {Q : Bool → Shared → Prop} (hT : s.TypeIs (.ref z) "zip") (h : Q true s) : wpAny (model prog w) A (Builtin.List.listLengthHint (.ref z)) Q E s := by
  unfold Builtin.List.listLengthHint
  refine wpAny_bind (wpAny_specialOf hT nolen_zip ?_)
  show wpAny _ _ (specialOf (Value.ref z) (Str.ofString "__length_hint__") >>= _) _ _ _
  refine wpAny_bind (wpAny_specialOf hT nohint_zip ?_)
  exact wpAny_pure h
/-- the loop of list.extend over the zip: two items, the end -/
theorem zip_loop {z TI TO i1 i2 l1 l2 S : Addr} {c : Nat} {x1 x2 y1 y2 a b : Value} {R : Result → Shared → Prop} (hh : A.handled = none) (D : ZipApart z TI TO i1 i2 l1 l2) (res : Value)
    (hz : IsZip s.heap z TI TO .none) (hTI : IsPair s.heap TI (.ref i1) (.ref i2)) (hTO : IsPair s.heap TO a b) (h1 : s.heap.IsTupleIter i1 l1 0) (h2 : s.heap.IsTupleIter i2 l2 0)
    (hl1 : s.heap.IsTuple l1 #[x1, x2]) (hl2 : s.heap.IsTuple l2 #[y1, y2]) (hS : s.heap.get? S = some { cls := .type "list", dict := none, data := .seq #[] c, slots := #[] })
    (n1 : S ≠ z) (n2 : S ≠ TI) (n3 : S ≠ TO) (n4 : S ≠ i1) (n5 : S ≠ i2) (n6 : S ≠ l1) (n7 : S ≠ l2) (TIi1 : TI ≠ i1) (TIi2 : TI ≠ i2)
    (hR : ∀ h' T1 T2 c', T1 = s.heap.objs.size → T2 = s.heap.objs.size + 1 → (∀ d o, d ≠ z → d ≠ TO → d ≠ i1 → d ≠ i2 → d ≠ S → s.heap.get? d = some o → h'.get? d = some o) → IsPair h' T1 x1 y1 → IsPair h' T2 x2 y2 →
      h'.get? S = some { cls := .type "list", dict := none, data := .seq #[.ref T1, .ref T2] c', slots := #[] } → R (.ok (.ret res)) { s with heap := h' }) :
    codeAny (model prog w) A (.builtin "list.extend.loop" ⟨[.ref S, .ref z, res], []⟩) R s := by
  have hSl : S < s.heap.objs.size := Heap.lt_size hS
  refine codeAny_builtin F.entry_extend_loop ?_
  rw [Around.under_plainId F.plain_extend_loop _]
  show wpAny _ A.in1 (pyNext (.ref z) >>= _) _ _ s
  refine wpAny_bind (RZ.pyNext_zipT_item D hz hTI hTO h1 h2 hl1 hl2 (x := x1) (y := y1) rfl rfl fun g1 z1 to1 j1 j2 p1 sz1 k1 => ?_)
  have hS1 := k1 S _ n1 n3 n4 n5 hS
  show wpAny _ A.in1 (updateSeq S (·.push _) >>= _) _ _ _
  refine wpAny_bind ?_
  refine wpAny_updateSeq hS1 rfl (wpAny_pure ⟨plainId_quiet F.plain_extend_loop _, ?_⟩)
  have hS2 := Heap.get?_update_self (Obj.mapSeq (·.push (Value.ref s.heap.objs.size))) hS1 rfl
  have o1 : ∀ d o, d ≠ S → g1.get? d = some o → (g1.update S (Obj.mapSeq (·.push (Value.ref s.heap.objs.size)))).get? d = some o := fun d o hd e => (Heap.get?_update_other _ _ (Ne.symm hd)).trans e
  have us : (g1.update S (Obj.mapSeq (·.push (Value.ref s.heap.objs.size)))).objs.size = s.heap.objs.size + 1 := by rw [Heap.size_update, sz1]
  generalize g1.update S (Obj.mapSeq (·.push (Value.ref s.heap.objs.size))) = g2 at hS2 o1 us
  have z1' : IsZipHeld g2 z TI TO s.heap.objs.size false := o1 _ _ n1.symm z1
  have p1' : IsPair g2 s.heap.objs.size x1 y1 := o1 _ _ (Nat.ne_of_gt hSl) p1
  have lt1 : l1 < s.heap.objs.size := by obtain ⟨o, e, _⟩ := hl1; exact Heap.lt_size e
  have lt2 : l2 < s.heap.objs.size := by obtain ⟨o, e, _⟩ := hl2; exact Heap.lt_size e
  have m1 : g2.IsTuple l1 #[x1, x2] := hl1.at fun o e => o1 _ _ n6.symm (k1 _ _ D.l1z D.l1TO D.l1i1 D.l1i2 e)
  have m2 : g2.IsTuple l2 #[y1, y2] := hl2.at fun o e => o1 _ _ n7.symm (k1 _ _ D.l2z D.l2TO D.l2i1 D.l2i2 e)
  have ti1 : IsPair g2 TI (.ref i1) (.ref i2) := o1 _ _ n2.symm (k1 _ _ D.TIz D.TITO TIi1 TIi2 hTI)
  refine codeAny_builtin F.entry_extend_loop ?_
  rw [Around.under_plainId F.plain_extend_loop _]
  show wpAny _ A.in1 (pyNext (.ref z) >>= _) _ _ _
  refine wpAny_bind (zt_nextItem (s := { s with heap := g2 }) D z1' p1' ti1 (j1.at fun o e => o1 _ _ n4.symm e) (j2.at fun o e => o1 _ _ n5.symm e) m1 m2 (x := x2) (y := y2) rfl rfl fun g3 z3 j1' j2' p3 sz3 k3 => ?_)
  have e2 : Shared.heap { s with heap := g2 } = g2 := rfl
  rw [e2, us] at p3 sz3
  have hS3 := k3 S _ n1 n4 n5 hS2
  rw [e2, us]
  show wpAny _ A.in1 (updateSeq S (·.push _) >>= _) _ _ _
  refine wpAny_bind ?_
  refine wpAny_updateSeq hS3 rfl (wpAny_pure ⟨plainId_quiet F.plain_extend_loop _, ?_⟩)
  have hS4 := Heap.get?_update_self (Obj.mapSeq (·.push (Value.ref (s.heap.objs.size + 1)))) hS3 rfl
  have o3 : ∀ d o, d ≠ S → g3.get? d = some o → (g3.update S (Obj.mapSeq (·.push (Value.ref (s.heap.objs.size + 1))))).get? d = some o := fun d o hd e => (Heap.get?_update_other _ _ (Ne.symm hd)).trans e
  generalize g3.update S (Obj.mapSeq (·.push (Value.ref (s.heap.objs.size + 1)))) = g4 at hS4 o3
  have zlt : z < s.heap.objs.size := Heap.lt_size hz
  have i1lt : i1 < s.heap.objs.size := by obtain ⟨o, e, _⟩ := h1; exact Heap.lt_size e
  have i2lt : i2 < s.heap.objs.size := by obtain ⟨o, e, _⟩ := h2; exact Heap.lt_size e
  have TOlt : TO < s.heap.objs.size := Heap.lt_size hTO
  have q1 : IsPair g4 s.heap.objs.size x1 y1 := o3 _ _ (Nat.ne_of_gt hSl) (k3 _ _ (Nat.ne_of_gt zlt) (Nat.ne_of_gt i1lt) (Nat.ne_of_gt i2lt) p1')
  have q2 : IsPair g4 (s.heap.objs.size + 1) x2 y2 := o3 _ _ (Nat.ne_of_gt (Nat.lt_succ_of_lt hSl)) p3
  refine codeAny_builtin F.entry_extend_loop ?_
  rw [Around.under_plainId F.plain_extend_loop _]
  show wpAny _ A.in1 (pyNext (.ref z) >>= _) _ _ _
  have ti3 : IsPair g4 TI (.ref i1) (.ref i2) := o3 _ _ n2.symm (k3 _ _ D.TIz TIi1 TIi2 ti1)
  have m3 : g4.IsTuple l1 #[x1, x2] := m1.at fun o e => o3 _ _ n6.symm (k3 _ _ D.l1z D.l1i1 D.l1i2 e)
  have m4 : g4.IsTuple l2 #[y1, y2] := m2.at fun o e => o3 _ _ n7.symm (k3 _ _ D.l2z D.l2i1 D.l2i2 e)
  refine wpAny_bind (zt_nextEnd (s := { s with heap := g4 }) hh D (show IsZipHeld g4 z TI TO s.heap.objs.size true from o3 _ _ n1.symm z3) q1 ti3 (j1'.at fun o e => o3 _ _ n4.symm e) (j2'.at fun o e => o3 _ _ n5.symm e) m3 m4 (.inl rfl) fun g5 k5 => ?_)
  refine wpAny_pure ?_
  refine hR g5 s.heap.objs.size (s.heap.objs.size + 1) _ rfl rfl (fun d o d1 d2 d3 d4 d5 e => ?_) (k5 _ _ (Nat.ne_of_gt zlt) (Nat.ne_of_gt i1lt) (Nat.ne_of_gt i2lt) q1) (k5 _ _ (Nat.ne_of_gt (Nat.lt_succ_of_lt zlt)) (Nat.ne_of_gt (Nat.lt_succ_of_lt i1lt)) (Nat.ne_of_gt (Nat.lt_succ_of_lt i2lt)) q2) (k5 _ _ n1 n4 n5 hS4)
  exact k5 d o d1 d3 d4 (o3 d o d5 (k3 d o d1 d3 d4 (o1 d o d5 (k1 d o d1 d2 d3 d4 e))))
theorem list_of_zip {z TI TO i1 i2 l1 l2 : Addr} {x1 x2 y1 y2 a b : Value} {Q : Value → Shared → Prop} (hh : A.handled = none) (D : ZipApart z TI TO i1 i2 l1 l2)
    (hz : IsZip s.heap z TI TO .none) (hTI : IsPair s.heap TI (.ref i1) (.ref i2)) (hTO : IsPair s.heap TO a b) (h1 : s.heap.IsTupleIter i1 l1 0) (h2 : s.heap.IsTupleIter i2 l2 0)
    (hl1 : s.heap.IsTuple l1 #[x1, x2]) (hl2 : s.heap.IsTuple l2 #[y1, y2])
    (hQ : ∀ h' c', (∀ d o, d ≠ z → d ≠ TO → d ≠ i1 → d ≠ i2 → s.heap.get? d = some o → h'.get? d = some o) → IsPair h' (s.heap.objs.size + 1) x1 y1 → IsPair h' (s.heap.objs.size + 2) x2 y2 →
      h'.get? s.heap.objs.size = some { cls := .type "list", dict := none, data := .seq #[.ref (s.heap.objs.size + 1), .ref (s.heap.objs.size + 2)] c', slots := #[] } → Q (.ref s.heap.objs.size) { s with heap := h' }) :
    wpAny (model prog w) A (call (.type "list") [.ref z]) Q E s := by
  refine callType_codes (Q₁ := fun obj s₁ => obj = .ref s.heap.objs.size ∧ s₁ = { s with heap := s.heap.push { cls := .type "list", data := .seq #[] } }) PySem.F.called_list (PySem.F.typeCall_list_1 _) PySem.F.entry_list_init
    (code_list_new _ ⟨rfl, rfl⟩) fun obj s₁ h₁ => ?_
  obtain ⟨rfl, rfl⟩ := h₁
  have hS : (s.heap.push { cls := .type "list", data := .seq #[] }).get? s.heap.objs.size = some { cls := .type "list", data := .seq #[] } := Heap.get?_push_size _ rfl
  have zlt : z < s.heap.objs.size := Heap.lt_size hz
  have TIlt : TI < s.heap.objs.size := Heap.lt_size hTI
  have TOlt : TO < s.heap.objs.size := Heap.lt_size hTO
  have i1lt : i1 < s.heap.objs.size := by obtain ⟨o, e, _⟩ := h1; exact Heap.lt_size e
  have i2lt : i2 < s.heap.objs.size := by obtain ⟨o, e, _⟩ := h2; exact Heap.lt_size e
  have lt1 : l1 < s.heap.objs.size := by obtain ⟨o, e, _⟩ := hl1; exact Heap.lt_size e
  have lt2 : l2 < s.heap.objs.size := by obtain ⟨o, e, _⟩ := hl2; exact Heap.lt_size e
  refine ⟨⟨_, hS, rfl⟩, PySem.F.args_list_init_2 _ _, ?_⟩
  have key : ∀ (g : Heap) (c tk : Nat), (∀ d o, d ≠ s.heap.objs.size → s.heap.get? d = some o → g.get? d = some o) → g.objs.size = s.heap.objs.size + 1 → g.get? s.heap.objs.size = some { cls := .type "list", data := .seq #[] c } →
      codeAny (model prog w) A.in1 (.builtin "list.extend.loop" ⟨[.ref s.heap.objs.size, .ref z, .none], []⟩) (wants (fun r s₂ => r = .none ∧ Q (.ref s.heap.objs.size) s₂) E) { s with heap := g } := by
    intro g c tk k sz hg
    refine zip_loop (s := { s with heap := g }) (a := a) (b := b) (x1 := x1) (x2 := x2) (y1 := y1) (y2 := y2) (A := A.in1) hh D .none (k _ _ (Nat.ne_of_lt zlt) hz) (k _ _ (Nat.ne_of_lt TIlt) hTI) (k _ _ (Nat.ne_of_lt TOlt) hTO) (h1.at fun o e => k _ _ (Nat.ne_of_lt i1lt) e) (h2.at fun o e => k _ _ (Nat.ne_of_lt i2lt) e)
      (hl1.at fun o e => k _ _ (Nat.ne_of_lt lt1) e) (hl2.at fun o e => k _ _ (Nat.ne_of_lt lt2) e) hg (Nat.ne_of_gt zlt) (Nat.ne_of_gt TIlt) (Nat.ne_of_gt TOlt) (Nat.ne_of_gt i1lt) (Nat.ne_of_gt i2lt) (Nat.ne_of_gt lt1) (Nat.ne_of_gt lt2) D.TIi1 D.TIi2 fun h' T1 T2 c' e1 e2 k2 p1 p2 hl => ?_
    have e0 : Shared.heap { s with heap := g } = g := rfl
    rw [e0, sz] at e1 e2
    subst e1 e2
    exact ⟨rfl, hQ h' c' (fun d o d1 d2 d3 d4 e => k2 d o d1 d2 d3 d4 (Nat.ne_of_lt (Heap.lt_size e)) (k d o (Nat.ne_of_lt (Heap.lt_size e)) e)) p1 p2 hl⟩
  show wpAny _ _ (do let old ← Builtin.List.listItems (.ref s.heap.objs.size); Builtin.List.listUpdate (.ref s.heap.objs.size) (fun _ => #[]); letGo old.toList.reverse; Builtin.List.listExtendWith (.ref s.heap.objs.size) (.ref z) .none) _ _ _
  refine wpAny_bind ?_
  unfold Builtin.List.listItems
  refine wpAny_bind (wpAny_seqItems hS rfl (wpAny_pure ?_))
  show wpAny _ _ (updateSeq s.heap.objs.size (fun _ => #[]) >>= fun _ => letGo (#[] : Array Value).toList.reverse >>= fun _ => Builtin.List.listExtendWith (.ref s.heap.objs.size) (.ref z) .none) _ _ _
  refine wpAny_bind (wpAny_updateSeq hS rfl ?_)
  have hS₂ := Heap.get?_update_self (Obj.mapSeq (fun _ => (#[] : Array Value))) hS rfl
  have oth : ∀ d o, d ≠ s.heap.objs.size → s.heap.get? d = some o → ((s.heap.push { cls := .type "list", data := .seq #[] }).update s.heap.objs.size (Obj.mapSeq (fun _ => (#[] : Array Value)))).get? d = some o :=
    fun d o hb e => (Heap.get?_update_other _ _ (Ne.symm hb)).trans (Heap.get?_push_of_some _ e)
  have sz2 : ((s.heap.push { cls := .type "list", data := .seq #[] }).update s.heap.objs.size (Obj.mapSeq (fun _ => (#[] : Array Value)))).objs.size = s.heap.objs.size + 1 := by rw [Heap.size_update, Heap.size_push]
  generalize ((s.heap.push { cls := .type "list", data := .seq #[] }).update s.heap.objs.size (Obj.mapSeq (fun _ => (#[] : Array Value)))) = g at hS₂ oth sz2
  refine wpAny_bind (wpAny_letGo ?_)
  have hzg : IsZip g z TI TO .none := oth _ _ (Nat.ne_of_lt zlt) hz
  unfold Builtin.List.listExtendWith
  refine wpAny_bind (wpAny_typeOf (T := "zip") ⟨_, hzg, rfl⟩ ?_)
  have e1 : Builtin.List.listSameRef (.ref s.heap.objs.size) (.ref z) = false := by simp [Builtin.List.listSameRef, Nat.ne_of_gt zlt]
  have e2 : (Value.type "zip" == Value.type "list") = false := by decide
  have e3 : (Value.type "zip" == Value.type "tuple") = false := by decide
  simp only [e1, e2, e3, Bool.or_false, Bool.false_eq_true, if_false]
  refine wpAny_bind (wpAny_pyIter_zip hzg ?_)
  refine wpAny_bind (wpAny_holding (hint_zip ⟨_, hzg, rfl⟩ ?_))
  refine wpAny_ite_split (fun _ => ?_) (fun _ => wpAny_pure ⟨plainId_quiet PySem.F.plain_extend_loop _, key _ _ 0 oth sz2 hS₂⟩)
  refine wpAny_bind (wpAny_rule ?_)
  refine wpAny_bind ?_
  show wpAny _ _ (updateSeq s.heap.objs.size (·.push .none) >>= fun _ => updateSeq s.heap.objs.size (·.pop)) _ _ _
  refine wpAny_bind (wpAny_updateSeq hS₂ rfl ?_)
  have hS₃ := Heap.get?_update_self (Obj.mapSeq (·.push Value.none)) hS₂ rfl
  refine wpAny_updateSeq (hz := by seq_fits) hS₃ rfl ?_
  have hS₄ := Heap.get?_update_self (Obj.mapSeq (·.pop)) hS₃ rfl
  refine wpAny_pure ⟨plainId_quiet PySem.F.plain_extend_loop _, key _ _ 0 (fun d o hd e => ?_) ?_ hS₄⟩
  · exact (Heap.get?_update_other _ _ (Ne.symm hd)).trans ((Heap.get?_update_other _ _ (Ne.symm hd)).trans (oth d o hd e))
  · rw [Heap.size_update, Heap.size_update, sz2]
end
section
variable {X : Cx} {p p2 pos pos2 : Pos} {e e2 : Expr} {ta : TA}
theorem un3 {fs ex : List Addr} {H : Hp} {h h' : Heap} {a b c : Addr} {o1 o2 o3 : HO} (k : ∀ d u, h.get? d = some u → h'.get? d = some u) (ha : h.get? a = none) (hb : h.get? b = none) (hc : h.get? c = none) (na : H a = none) (nb : H b = none) (nc : H c = none) :
    Un fs ex H (upd (upd (upd H a o1) b o2) c o3) h h' where
  keep := fun d u q _ _ _ => k d u q
  slot := fun d u q _ _ _ => ⟨u.slots, k d u q⟩
  free := fun d u q n _ => by
    rw [upd_ne (fun z => by rw [z, hc] at q; cases q), upd_ne (fun z => by rw [z, hb] at q; cases q), upd_ne (fun z => by rw [z, ha] at q; cases q)]
    exact n
  there := fun d u q _ => ⟨u, k d u q⟩
  tups := fun d xs q => by rw [upd_ne (ne_of_none q nc), upd_ne (ne_of_none q nb), upd_ne (ne_of_none q na)]; exact q
  frzs := fun d u xs q => by rw [upd_ne (ne_of_none q nc), upd_ne (ne_of_none q nb), upd_ne (ne_of_none q na)]; exact q
  tbls := fun d ps q => ⟨#[], by rw [upd_ne (ne_of_none q nc), upd_ne (ne_of_none q nb), upd_ne (ne_of_none q na), q]; simp⟩
def tLZ (K : PySem.W.Frag) (ta : TA) : TE := fun σ H Q => ta σ H fun vs H1 => ∃ a b x1 x2 y1 y2, vs = [.ref a, .ref b] ∧ SqT K H1 a [x1, x2] ∧ SqT K H1 b [y1, y2] ∧ ∀ T1 T2 l, T2 ≠ T1 → l ≠ T1 → l ≠ T2 → H1 T1 = none → H1 T2 = none → H1 l = none →
  Q (.ref l) (upd (upd (upd H1 T1 (.tup [x1, y1])) T2 (.tup [x2, y2])) l (.lst [.ref T1, .ref T2]))
theorem pe_lz (hcalm : X.calm = true) (hg1 : Gl X "list") (hm1 : X.mg "list" = none) (hg2 : Gl X "zip") (hm2 : X.mg "zip" = none) (ha : PA X [e, e2] ta)
    (hs1 : starEach [.Call (.Name "zip" p2) [e, e2] [] pos2] X.env = (false, eval (.Call (.Name "zip" p2) [e, e2] [] pos2) X.env) :: starEach [] X.env := by rfl)
    (hs : starEach [e, e2] X.env = (false, eval e X.env) :: starEach [e2] X.env := by rfl) (hpl : (backTo pos2 (starEach [e2] X.env)).any (·.1) = false := by rfl) :
    PE X (.Call (.Name "list" p) [.Call (.Name "zip" p2) [e, e2] [] pos2] [] pos) (tLZ X.K ta) := by
  refine ⟨fun pins s σ H Q I h => ?_⟩
  refine wpAny_Call_Name_kw (ld_blt I hg1 hm1 PyProof.Rows.boot_list ?_)
  refine PyProof.Rows.callWith_type1 (rest := []) ?_ hs1 rfl
  rw [hs1]
  refine Calls.spliced_cons ?_
  refine wpAny_Call_Name_kw (ld_blt I hg2 hm2 PyProof.Rows.boot_zip (PyProof.Rows.callWith_type1 (thn (ha.run pos2 pins s σ H _ I h) fun us s1 ⟨vs, H1, I1, r1, q1⟩ => ?_) hs hpl))
  obtain ⟨a, b, x1, x2, y1, y2, rfl, hqx, hqy, q⟩ := q1
  cases r1 with
  | cons r rr =>
    cases rr with
    | cons r' rr =>
      cases rr
      cases r
      cases r'
      obtain ⟨its, rv, pl1, _⟩ := I1.tuple hqx
      obtain ⟨its2, rv2, pl2, _⟩ := I1.tuple hqy
      obtain ⟨u1, u2, rfl, rx1, rx2⟩ := vals2 rv
      obtain ⟨w1, w2, rfl, ry1, ry2⟩ := vals2 rv2
      obtain ⟨o1, ho1, _⟩ := id pl1
      obtain ⟨o2, ho2, _⟩ := id pl2
      refine RZ.call_zipT (show s1.heap.IsTuple a #[u1, u2] from pl1) (show s1.heap.IsTuple b #[w1, w2] from pl2) fun g hz hTI hTO h1 h2 hsz hk => ?_
      refine Calls.spliced_nil ?_
      have D := PySem.W.ktu_apart s1.heap.objs.size a b (Heap.lt_size ho1) (Heap.lt_size ho2)
      have ht1 : g.IsTuple a #[u1, u2] := (show s1.heap.IsTuple a #[u1, u2] from pl1).at fun o e => hk _ o e
      have ht2 : g.IsTuple b #[w1, w2] := (show s1.heap.IsTuple b #[w1, w2] from pl2).at fun o e => hk _ o e
      refine list_of_zip (s := { s1 with heap := g }) (x1 := u1) (x2 := u2) (y1 := w1) (y2 := w2) (I1.ok.hd hcalm) D hz hTI hTO h1 h2 ht1 ht2 fun h' c' k2 p1 p2 hl => ?_
      have e0 : Shared.heap { s1 with heap := g } = g := rfl
      rw [e0, hsz] at p1 p2 hl ⊢
      have kk : ∀ d u, s1.heap.get? d = some u → h'.get? d = some u := fun d u e => by
        have hlt := Heap.lt_size e
        exact k2 d u (Nat.ne_of_lt (Nat.lt_of_lt_of_le hlt (Nat.le_add_right _ _))) (Nat.ne_of_lt (Nat.lt_of_lt_of_le hlt (Nat.le_add_right _ _))) (Nat.ne_of_lt hlt) (Nat.ne_of_lt (Nat.lt_of_lt_of_le hlt (Nat.le_add_right _ _))) (hk d u e)
      have fr : ∀ j, H1 (s1.heap.objs.size + j) = none := fun j => I1.hok.fresh (Nat.le_add_right _ _)
      have gn : ∀ j, s1.heap.get? (s1.heap.objs.size + j) = none := fun j => Heap.get?_none_of_le (Nat.le_add_right _ _)
      have ne1 : s1.heap.objs.size + 5 + 2 ≠ s1.heap.objs.size + 5 + 1 := by omega
      have ne2 : s1.heap.objs.size + 5 ≠ s1.heap.objs.size + 5 + 1 := by omega
      have ne3 : s1.heap.objs.size + 5 ≠ s1.heap.objs.size + 5 + 2 := by omega
      have u3 := un3 (fs := X.fs) (ex := []) (H := H1) (a := s1.heap.objs.size + 5 + 1) (b := s1.heap.objs.size + 5 + 2) (c := s1.heap.objs.size + 5) (o1 := .tup [x1, y1]) (o2 := .tup [x2, y2]) (o3 := .lst [.ref (s1.heap.objs.size + 5 + 1), .ref (s1.heap.objs.size + 5 + 2)]) kk (gn 6) (gn 7) (gn 5) (fr 6) (fr 7) (fr 5)
      have n2 : upd H1 (s1.heap.objs.size + 5 + 1) (.tup [x1, y1]) (s1.heap.objs.size + 5 + 2) = none := by rw [upd_ne ne1]; exact fr 7
      have n3 : upd (upd H1 (s1.heap.objs.size + 5 + 1) (.tup [x1, y1])) (s1.heap.objs.size + 5 + 2) (.tup [x2, y2]) (s1.heap.objs.size + 5) = none := by rw [upd_ne ne3, upd_ne ne2]; exact fr 5
      have k1 := (HOk.laidN I1.hok kk (fr 6) (show ObjOk X.prog X.w (upd H1 (s1.heap.objs.size + 5 + 1) (.tup [x1, y1])) h' (s1.heap.objs.size + 5 + 1) (.tup [x1, y1]) from ⟨by show 2 ≤ sizeLine; decide, [u1, w1], .cons rx1 (.cons ry1 .nil), ⟨_, p1, rfl, _, rfl⟩⟩))
      have k2' := HOk.laidN k1 (fun d u e => e) n2 (show ObjOk X.prog X.w (upd (upd H1 (s1.heap.objs.size + 5 + 1) (.tup [x1, y1])) (s1.heap.objs.size + 5 + 2) (.tup [x2, y2])) h' (s1.heap.objs.size + 5 + 2) (.tup [x2, y2]) from ⟨by show 2 ≤ sizeLine; decide, [u2, w2], .cons rx2 (.cons ry2 .nil), ⟨_, p2, rfl, _, rfl⟩⟩)
      have k3 := HOk.laidN k2' (o := .lst [.ref (s1.heap.objs.size + 5 + 1), .ref (s1.heap.objs.size + 5 + 2)]) (fun d u e => e) n3 ⟨by show 2 ≤ sizeLine; decide, [.ref (s1.heap.objs.size + 5 + 1), .ref (s1.heap.objs.size + 5 + 2)], c', .cons rfl (.cons rfl .nil), hl⟩
      exact ⟨.ref (s1.heap.objs.size + 5), _, I1.un (t' := s1.toks) u3 k3, rfl, q _ _ _ ne1 ne2 ne3 (fr 6) (fr 7) (fr 5)⟩
end
section
variable {P : Program} {w : World} {K : PySem.W.Frag} {E : XK} {Γ : Gm} {L : Sto} {ex : Ex} {Φ : D → Sto → Prop} {tr : TA}
theorem we_lz (h : WA P w K E tr Γ L ex fun ds L1 => ∃ a b c d, ds = [.tup [a, b], .tup [c, d]] ∧ Φ (.lst [.tup [a, c], .tup [b, d]]) L1) : WE P w K E (tLZ K tr) Γ L ex Φ := fun σ F H Q sl S lk k =>
  h σ F H _ sl S lk fun vs ds F1 H1 L1 e1 S1 r1 ⟨a, b, c, d, ed, q⟩ => by
    subst ed
    obtain ⟨v, u, rfl, rv, ru⟩ := rsa2 r1
    obtain ⟨p1, xs, rfl, hs, ra⟩ := rv.tup_inv
    obtain ⟨p2, ys, rfl, ht, rb⟩ := ru.tup_inv
    obtain ⟨x1, x2, rfl, rx1, rx2⟩ := rsa2 ra
    obtain ⟨y1, y2, rfl, ry1, ry2⟩ := rsa2 rb
    refine ⟨p1, p2, x1, x2, y1, y2, rfl, Same.sqT S1.same hs, Same.sqT S1.same ht, fun T1 T2 l n1 n2 n3 f1 f2 f3 => ?_⟩
    obtain ⟨S2, e2⟩ := S1.ice (o := .tup [x1, y1]) f1
    obtain ⟨S3, e3⟩ := S2.ice (p := T2) (o := .tup [x2, y2]) (by rw [upd_ne n1]; exact f2)
    obtain ⟨S4, e4⟩ := S3.ice (p := l) (o := .lst [.ref T1, .ref T2]) (by rw [upd_ne n3, upd_ne n2]; exact f3)
    have e24 := Same.tr e2 (Same.tr e3 e4)
    have t1 : Rs K (upd F1 T1 (.tup [x1, y1])) (.ref T1) (.tup [a, c]) := .tup upd_same (.cons (rx1.mono e2) (.cons (ry1.mono e2) .nil))
    have t2 : Rs K (upd (upd F1 T1 (.tup [x1, y1])) T2 (.tup [x2, y2])) (.ref T2) (.tup [b, d]) := .tup upd_same (.cons (rx2.mono (Same.tr e2 e3)) (.cons (ry2.mono (Same.tr e2 e3)) .nil))
    exact k _ _ _ _ L1 (Same.tr e1 e24) S4 (.lst upd_same (.cons (t1.mono (Same.tr e3 e4)) (.cons (t2.mono e4) .nil))) q
/-- xs.extend(ys), ys data -/
theorem wm_extendD {p : Addr} {ds es : List D} {f : Co → Sto} (ht : At p (.lst ds) L f) (hl : ds.length + es.length ≤ 100000) (q : Φ .non (f (.lst (ds ++ es)))) : WM P w K rExtend (.ref p) [.lst es] L Φ := fun F H v vs Q r rs S k => by
  obtain ⟨u, rfl, ru⟩ := rsa1 rs
  obtain ⟨np, o, ho, xs, rfl, ra⟩ := S.look ht
  obtain ⟨b, ys, rfl, h1, rb⟩ := ru.lst_get
  exact ⟨p, b, xs, ys, r.ref_inv, rfl, ho, S.same _ _ h1, by rw [ra.length, rb.length]; exact Nat.le_trans hl (by decide), k _ _ F _ _ (Same.refl F) (S.put (c' := .lst (ds ++ es)) ht ⟨_, rfl, ra.append rb⟩) .non q⟩
end
end Cl
set_option Elab.async false
set_option linter.all false
set_option maxRecDepth 100000
set_option maxHeartbeats 4000000
namespace Cl
open PySem PySem.Spec PyProof.Rows L2
section
variable {K : PySem.W.Frag} {a : Ad} {la : List Addr} {s : CtS} {sg : Sg}
theorem at_mc : At a.c (.ins (He.ga K "Court") (ctF a s)) (MC K a la s sg) (fun c' => (a.c, c') :: (MC K a la s sg).tail) := At.here
theorem at_mb : At a.b (.dK (bagK s.bags)) (MC K a la s sg) (fun c' => (a.c, .ins (He.ga K "Court") (ctF a s)) :: (a.b, c') :: (MC K a la s sg).tail.tail) := At.tail At.here
theorem at_mo : At a.o (.lst (la.map D.ref)) (MC K a la s sg) (fun c' => (a.c, .ins (He.ga K "Court") (ctF a s)) :: (a.b, .dK (bagK s.bags)) :: (a.o, c') :: (MC K a la s sg).tail.tail.tail) := At.tail (At.tail At.here)
theorem at_ms : At a.sn (.dK (seenK s.seen)) (MC K a la s sg) (fun c' => (a.c, .ins (He.ga K "Court") (ctF a s)) :: (a.b, .dK (bagK s.bags)) :: (a.o, .lst (la.map D.ref)) :: (a.sn, c') :: (MC K a la s sg).tail.tail.tail.tail) := At.tail (At.tail (At.tail At.here))
theorem at_md : At a.dd (.lst s.rows) (MC K a la s sg) (fun c' => (a.c, .ins (He.ga K "Court") (ctF a s)) :: (a.b, .dK (bagK s.bags)) :: (a.o, .lst (la.map D.ref)) :: (a.sn, .dK (seenK s.seen)) :: (a.dd, c') :: (MC K a la s sg).tail.tail.tail.tail.tail) := At.tail (At.tail (At.tail (At.tail At.here)))
end
local macro_rules | `(tactic| walk_at "at") => `(tactic| first | assumption | repeat first | with_reducible exact At.here | with_reducible exact at_mc | with_reducible exact at_mb | with_reducible exact at_mo | with_reducible exact at_ms | with_reducible exact at_md | with_reducible apply At.tail | (with_reducible apply At.in (by assumption)))
local macro_rules | `(tactic| walk_at "fact") => `(tactic| first | exact c_Court (by assumption) | exact c_Lane (by assumption) | exact c_Signs (by assumption) | exact n_Court_clock (by assumption) | exact n_Court_long (by assumption) | exact n_Court_bags (by assumption) | exact n_Court_book (by assumption) | exact n_Court_opened (by assumption) | exact n_Court_seen (by assumption) | exact n_Court_kept (by assumption) | exact n_Court_deeds (by assumption) | exact n_Lane_both (by assumption) | exact n_Lane_first (by assumption) | exact n_Lane_standing (by assumption) | exact n_Lane_mood (by assumption) | exact n_Lane_ending (by assumption) | exact n_Signs_by_hand (by assumption))
local macro_rules | `(tactic| walk_at "ge") => `(tactic| first
  | with_reducible refine we_var rfl ?_
  | with_reducible refine we_int ?_
  | with_reducible refine we_str ?_
  | with_reducible refine we_ty ?_
  | with_reducible refine we_bl ?_
  | with_reducible refine we_non ?_
  | with_reducible refine we_ref ?_
  | with_reducible refine we_op ?_
  | with_reducible refine we_cb ?_
  | with_reducible refine we_call0 ?_
  | with_reducible refine we_call ?_
  | with_reducible refine we_lst ?_
  | with_reducible refine we_tup ?_
  | with_reducible refine we_andV ?_
  | with_reducible refine we_orV ?_
  | with_reducible refine we_notV ?_
  | with_reducible refine we_if ?_
  | with_reducible refine we_chain ?_
  | with_reducible refine we_sl ?_
  | with_reducible refine we_lz ?_
  | with_reducible refine we_dnewK (fun _ => ?_)
  | with_reducible refine we_dnewN (fun _ => ?_)
  | with_reducible refine we_fld ?_
  | with_reducible refine we_dget ?_
  | with_reducible refine we_din ?_
  | with_reducible refine we_dnotIn ?_
  | with_reducible refine we_dget2 ?_
  | with_reducible refine we_dsetd ?_
  | with_reducible refine we_meth0 ?_
  | with_reducible refine we_meth ?_
  | with_reducible refine we_bm ?_)
local macro_rules | `(tactic| walk_at "gt") => `(tactic| first
  | with_reducible refine wt_B ?_
  | with_reducible refine wt_test ?_
  | with_reducible refine wt_not ?_
  | with_reducible refine wt_and ?_
  | with_reducible refine wt_or ?_
  | with_reducible refine wt_yes ?_)
local macro_rules | `(tactic| walk_at "gst") => `(tactic| first
  | with_reducible refine ws_ret ?_
  | with_reducible refine ws_retN ?_
  | with_reducible refine ws_seq ?_
  | with_reducible refine ws_set ?_
  | with_reducible refine ws_drop ?_
  | with_reducible refine ws_if ?_
  | with_reducible refine ws_next ?_
  | with_reducible refine ws_raise ?_
  | with_reducible refine ws_asgS ?_
  | with_reducible refine ws_setL ?_
  | with_reducible refine ws_setN ?_
  | with_reducible refine ws_asg ?_
  | with_reducible refine ws_fld ?_
  | with_reducible refine ws_fldaddI ?_
  | with_reducible refine ws_dput ?_)
local macro_rules | `(tactic| walk_at "gr") => `(tactic| first
  | with_reducible refine wr_ixT rfl ?_
  | with_reducible refine wr_ixL rfl ?_
  | with_reducible refine ix_t0 ?_
  | with_reducible refine ix_t1 ?_
  | with_reducible refine ix_t2 ?_
  | with_reducible refine ix_t3 ?_
  | with_reducible refine ix_t4 ?_
  | with_reducible refine ix_l0 ?_
  | with_reducible refine ix_l1 ?_
  | with_reducible refine ix_l2 ?_
  | with_reducible refine ix_l3 ?_
  | with_reducible refine ix_l4 ?_
  | with_reducible refine wr_int ?_
  | with_reducible refine wr_bool ?_
  | with_reducible refine wr_eqI ?_
  | with_reducible refine wr_neI ?_
  | with_reducible refine wr_eqS ?_
  | with_reducible refine wr_neS ?_
  | with_reducible refine wr_eqB ?_
  | with_reducible refine wr_neB ?_
  | with_reducible refine wr_isN ?_
  | with_reducible refine wr_notN ?_
  | (with_reducible refine isIxC ?_; with_reducible refine wr_ixC (by walk_at "at") (by with_unfolding_all rfl) ?_))
local macro_rules | `(tactic| walk_at "gc") => `(tactic| first
  | with_reducible refine wc_isi rfl rfl ?_
  | with_reducible refine wc_isi (by decide) (by decide +kernel) ?_
  | (with_reducible refine isLen ?_; with_reducible refine wc_lenC (by walk_at "at") ?_)
  | with_reducible refine wc_lenT ?_
  | with_reducible refine wc_lenL ?_)
local macro_rules | `(tactic| walk_at "ga") => `(tactic| first
  | with_reducible refine wa_cons ?_
  | with_reducible refine wa_nil ?_)
local macro_rules | `(tactic| walk_at "gx") => `(tactic| first
  | (with_reducible refine isLn ?_; with_reducible refine lenAnd (by simp) ?_)
  | with_reducible refine wsl_tup ?_
  | with_reducible refine wo_none ?_
  | with_reducible refine wo_some ?_
  | with_reducible refine ex_bl ?_
  | with_reducible refine ex_int ?_
  | with_reducible refine ex_str ?_
  | with_reducible refine ex_tup ?_
  | with_reducible refine ex_lst ?_
  | with_reducible refine ex_etup ?_
  | with_reducible refine br_true ?_
  | with_reducible refine br_false ?_
  | (with_reducible refine isBr ?_; refine br_t rfl ?_)
  | (with_reducible refine isBr ?_; refine br_f rfl ?_)
  | (with_reducible refine isFld ?_; with_reducible refine ex_fld (by walk_at "at") (by walk_at "fact") (by walk_at "fact") (by with_unfolding_all rfl) ?_)
  | (with_reducible refine isPut ?_; with_reducible refine ex_put (by walk_at "at") (by walk_at "fact") (by walk_at "fact") (by with_unfolding_all exact of_decide_eq_true rfl) ?_)
  | (with_reducible refine isMeth ?_; with_reducible refine ex_meth (by walk_at "at") (by with_unfolding_all rfl) ?_)
  | (with_reducible refine isTy ?_; with_reducible refine And.intro (ty_cell (by walk_at "at")) ?_)
  | with_reducible refine k_whole ?_
  | with_reducible refine k_count ?_
  | with_reducible refine k_amount ?_)
local macro_rules | `(tactic| walk_at "s") => `(tactic| first
  | (with_reducible refine isWE ?_; walk_at "ge")
  | (with_reducible refine isWS ?_; walk_at "gst")
  | (with_reducible refine isWT ?_; walk_at "gt")
  | (with_reducible refine isWR ?_; walk_at "gr")
  | (with_reducible refine isWA ?_; walk_at "ga")
  | (with_reducible refine isWC ?_; walk_at "gc")
  | walk_at "gx")
local macro_rules | `(tactic| walk_at "w") => `(tactic| repeat walk_at "s")

section
variable {P : Program} {w : World} {K : PySem.W.Frag} {mg : Str → Option Value} {base : Heap}
/-! ### kept locks in order -/
def kle (a b : Int × Lck) : Bool := dle (kpD a) (kpD b)
def ksort (l : List (Int × Lck)) : List (Int × Lck) := l.mergeSort kle
theorem ksort_map (l : List (Int × Lck)) : (l.map kpD).mergeSort dle = (ksort l).map kpD := (PySem.W.sort_maps (r := kle) (s := dle) kpD fun _ _ _ _ => rfl).symm
theorem ksort_len (l : List (Int × Lck)) : (ksort l).length = l.length := by unfold ksort; rw [List.length_mergeSort]
theorem kp_pures : ∀ l : List (Int × Lck), D.pures (l.map kpD) = true
  | [] => by simp [D.pures]
  | e :: l => by
    rw [List.map_cons, D.pures, kp_pures l, Bool.and_true]
    simp [kpD, Lck.d, D.pure, D.pures]
theorem kp_alike (l : List (Int × Lck)) : PySem.W.AllAlike ((l.map kpD).map D.py) := by
  rw [List.map_map]
  refine PySem.W.AllAlike.of (enc := D.py ∘ kpD) fun b b' => ?_
  simp [kpD, Lck.d, D.py, D.pys, PySem.W.alike, PySem.W.alikeAll]
theorem kp_sortable (l : List (Int × Lck)) : PySem.W.Sortable ((l.map kpD).map D.py) := by
  rw [List.map_map]
  refine PySem.W.Sortable.tuples (enc := D.py ∘ kpD) fun b => ⟨.int b.1, [b.2.d.py], by simp only [Function.comp, kpD, D.py, D.pys]⟩
theorem kp_depth (l : List (Int × Lck)) : ∀ d ∈ l.map kpD, d.py.depth ≤ 8 := fun d hd => by
  obtain ⟨e, _, rfl⟩ := List.mem_map.mp hd
  simp [kpD, Lck.d, D.py, D.pys, PyData.depth, PyData.depthAll]
/-! ### a turn -/
def due (s : CtS) (r : Rd) : Prop := r.mood = "closing" ∧ r.en = some s.clock
instance (s : CtS) (r : Rd) : Decidable (due s r) := inferInstanceAs (Decidable (_ ∧ _))
def setl (r : Rd) : Rd := { r with mood := "settled" }
def upd1 (s : CtS) (r : Rd) : Rd := if due s r then setl r else r
def paid1 (s : CtS) : List Rd → List (Str × Int)
  | [] => []
  | r :: rs => (if due s r then [(r.l, r.st.l), (r.r, r.st.r)] else []) ++ paid1 s rs
def new1 (i : Nat) (r : Rd) : List (Int × Lck) := r.st.locks.map fun l => ((i : Int), l)
def keep1 (s : CtS) : Nat → List Rd → List (Int × Lck) → List (Int × Lck)
  | _, [], k => k
  | i, r :: rs, k => keep1 s (i + 1) rs (if due s r then ksort (k ++ new1 i r) else k)
theorem paid1_app (s : CtS) : ∀ (a b : List Rd), paid1 s (a ++ b) = paid1 s a ++ paid1 s b
  | [], b => rfl
  | r :: a, b => by rw [List.cons_append, paid1, paid1, paid1_app s a b, List.append_assoc]
theorem keep1_app (s : CtS) : ∀ (a b : List Rd) (i : Nat) (k : List (Int × Lck)), keep1 s i (a ++ b) k = keep1 s (i + a.length) b (keep1 s i a k)
  | [], b, i, k => rfl
  | r :: a, b, i, k => by
    rw [List.cons_append, keep1, keep1_app s a b, keep1, List.length_cons, Nat.add_right_comm, Nat.add_assoc]
theorem keep1_len (s : CtS) : ∀ (rs : List Rd) (i : Nat) (k : List (Int × Lck)), (∀ r ∈ rs, r.st.locks.length ≤ 30) → (keep1 s i rs k).length ≤ k.length + 30 * rs.length
  | [], _, k, _ => by simp [keep1]
  | r :: rs, i, k, h => by
    rw [keep1]
    have ih := keep1_len s rs (i + 1) (if due s r then ksort (k ++ new1 i r) else k) fun r hr => h r (List.mem_cons_of_mem _ hr)
    have h0 := h r List.mem_cons_self
    rw [List.length_cons]
    have : (if due s r then ksort (k ++ new1 i r) else k).length ≤ k.length + 30 := by
      split
      · rw [ksort_len, List.length_append]; unfold new1; rw [List.length_map]; omega
      · omega
    omega
theorem paid1_len (s : CtS) : ∀ (rs : List Rd), (paid1 s rs).length ≤ 2 * rs.length
  | [] => by simp [paid1]
  | r :: rs => by
    rw [paid1, List.length_append, List.length_cons]
    have := paid1_len s rs
    split <;> simp <;> omega
def settleS (s : CtS) : CtS := { s with lanes := s.lanes.map (upd1 s), kept := keep1 s 0 s.lanes s.kept }
def settleI (s : CtS) (i : Nat) : CtS := { s with lanes := (s.lanes.take i).map (upd1 s) ++ s.lanes.drop i, kept := keep1 s 0 (s.lanes.take i) s.kept }
abbrev aSettle (K : PySem.W.Frag) : ASp := aC0 K fun a la s sg f _ Φ _ => Φ (.lst ((paid1 s s.lanes).map prD)) (f (MC K a la (settleS s) sg))
theorem sc_Court_settled_now : FnScope ["self", "paid", "number", "road", "lock"] ["self"] d_Court_settled_now.scope := ⟨rfl, rfl, rfl, by decide +kernel, rfl, by decide +kernel, by decide +kernel⟩
theorem ok_Court_settled_now (T : Tx K mg) : FOk P w K mg base 1 (He.fAd K d_Court_settled_now.at_) ["self"] (aSettle K) := by
  refine fok_of (d := d_Court_settled_now) T 27 (k := 0) rfl rfl rfl sc_Court_settled_now (fun ds L Φ ex h => A1.len h) (fun _ _ _ _ _ _ us hl => match us, hl with | [_], _ => rfl) (fun cdv Ar outer s H E ds L Φ ex hr h => ?_)
  obtain ⟨self_, rfl, h⟩ := h
  refine ⟨_, (pss_cons (ps_set (i := 1) sc_Court_settled_now.nd rfl (Or.inl rfl) (pe_lst pa_nil))
    (pss_cons (ps_for (passes_of rfl) rfl (pi_enum rfl (f_enumerate T) (pa_cons (pe_fld (pv 0) rfl) pa_nil)) (pg_tup (n := 2) rfl (pgs_cons (pg_name (i := 2) sc_Court_settled_now.nd rfl (Or.inr rfl)) (pgs_cons (pg_name (i := 3) sc_Court_settled_now.nd rfl (Or.inl rfl)) pgs_nil))) (pss_one (ps_if (PW.pt (pw_and (pt_cmpR op_eq (pe_fld (pv 3) rfl) pe_str (nomark _)) (pw_and1 (pt_cmpR op_eq (pe_fld (pv 3) rfl) (pe_fld (pv 0) rfl) (nomark _))))) (pss_cons (ps_fld (pv 3) pe_str rfl)
    (pss_cons (ps_expr (pe_bm PySem.F.plainAttrs_list PySem.F.slot_list_extend PySem.F.type_list_extend mt_extend (pv 1) (pa_cons (pe_lz rfl rfl (f_list T) rfl (f_zip T) (pa_cons (pe_fld (pv 3) rfl) (pa_cons (pe_slice sl_tupA (pe_fld (pv 3) rfl) (po_some pe_int) (po_some pe_int)) pa_nil))) pa_nil)))
    (pss_one (ps_fld (pv 0) (pe_callB (cr_sortP hr.units) rfl (f_sorted T) (by decide +kernel) (pa_cons (pe_op op_catX (pe_fld (pv 0) rfl) (pe_lc (own := [("lock", 4)]) rfl sc_Court_settled_now.nd (pi_tup (pe_ix ix_tup (pe_fld (pv 3) rfl) pe_int (fun _ _ => rfl))) (blkOk_by (own := [("lock", 4)]) (N := ["self", "paid", "number", "road", "lock"]) (sc := d_Court_settled_now.scope) (by decide +kernel)) (fun _ _ _ _ _ => by exact (pg_name (i := 4) sc_Court_settled_now.nd rfl (Or.inl rfl))) (fun _ _ _ _ _ => by exact pts_nil) (fun _ _ _ _ _ => by exact (pe_tup (pa_cons (pv 2) (pa_cons (pv 4) pa_nil)))))) pa_nil)) rfl)))) pss_nil)))
    (pss_one (ps_ret (pv 1))))), ?_⟩
  obtain ⟨a, la, s, sg, f, N, rfl, ⟨hf, rfl⟩, ok, h⟩ := h
  dsimp only [cxOf]
  refine ws_seq (ws_set (we_lstC (wa_nil ⟨by decide, fun p => ?_⟩)))
  refine ws_seq (ws_for (wi_enumC ?_))
  walk_at "w"
  refine ⟨_, _, _, rfl, by walk_at "at", ?_⟩
  refine ⟨fun i Γ' L' => i ≤ s.lanes.length ∧ L' = (p, .lst ((paid1 s (s.lanes.take i)).map prD)) :: f (MC K a la (settleI s i) sg) ∧ ∃ x y z, Γ' = [some (.ref a.c), some (.ref p), x, y, z], ⟨Nat.zero_le _, ?_, _, _, _, rfl⟩, fun i Γ' L' hI => ?_, fun i d Γ' L' hd hI => ?_, fun Γ' L' hI => ?_⟩
  · simp [paid1, settleI, keep1]
  · obtain ⟨_, rfl, _⟩ := hI
    exact ⟨_, by walk_at "at"⟩
  · obtain ⟨hi, rfl, x, y, z, rfl⟩ := hI
    obtain ⟨e0, he, rfl⟩ := enumD_at hd
    rw [List.getElem?_map] at he
    obtain ⟨ad, had, rfl⟩ := Option.map_eq_some_iff.mp he
    have hlt : i < s.lanes.length := by rw [← ok.ll]; exact (List.getElem?_eq_some_iff.mp had).1
    obtain ⟨r, hr⟩ : ∃ r, s.lanes[i]? = some r := ⟨_, List.getElem?_eq_getElem hlt⟩
    have ro := ok.rd _ _ hr
    have hdr : s.lanes.drop i = r :: s.lanes.drop (i + 1) := by
      rw [List.drop_eq_getElem_cons hlt]
      rw [List.getElem?_eq_getElem hlt] at hr
      rw [Option.some.inj hr]
    have htk : s.lanes.take (i + 1) = s.lanes.take i ++ [r] := by rw [List.take_add_one, hr]; rfl
    have hgi : (settleI s i).lanes[i]? = some r := by
      unfold settleI
      rw [hdr, List.getElem?_append_right (by rw [List.length_map, List.length_take]; omega)]
      rw [List.length_map, List.length_take, Nat.min_eq_left (by omega), Nat.sub_self]
      rfl
    have hset : ∀ r', (settleI s i).lanes.set i r' = (s.lanes.take i).map (upd1 s) ++ r' :: s.lanes.drop (i + 1) := fun r' => by
      unfold settleI
      rw [hdr, List.set_append_right _ _ (by rw [List.length_map, List.length_take]; omega)]
      rw [List.length_map, List.length_take, Nat.min_eq_left (by omega), Nat.sub_self]
      rfl
    refine ⟨_, wg_tup (us := [(2, .int (i : Int)), (3, .ref ad)]) rfl (wgs_cons wg_name (wgs_cons wg_name wgs_nil)), ?_⟩
    dsimp only [setG]
    obtain ⟨g, hA, hs⟩ := at_road (K := K) (a := a) (s := settleI s i) (sg := sg) hf had hgi
    have hA' := At.tail (x := (p, .lst ((paid1 s (s.lanes.take i)).map prD))) hA
    have off : ¬ due s r → settleI s (i + 1) = settleI s i ∧ paid1 s (s.lanes.take (i + 1)) = paid1 s (s.lanes.take i) := fun nd => by
      refine ⟨?_, ?_⟩
      · unfold settleI
        rw [htk, keep1_app, keep1, keep1, if_neg nd, List.map_append, hdr]
        simp [upd1, if_neg nd]
      · rw [htk, paid1_app, paid1, paid1, if_neg nd]
        simp
    walk_at "w"
    by_cases c1 : r.mood = "closing"
    · refine br_t (decide_eq_true c1) ?_
      obtain ⟨e, he⟩ := ro.cl c1
      walk_at "w"
      rw [he]
      dsimp only [oD]
      walk_at "w"
      by_cases c2 : e = s.clock
      · refine br_t (decide_eq_true c2) ?_
        have hdue : due s r := ⟨c1, by rw [he, c2]⟩
        walk_at "w"
        rw [show putD "mood" (.str "settled") r.fs = Rd.fs (setl r) from rfl, hs, hset]
        have hgi2 : ((s.lanes.take i).map (upd1 s) ++ setl r :: s.lanes.drop (i + 1))[i]? = some (setl r) := by
          rw [List.getElem?_append_right (by rw [List.length_map, List.length_take]; omega)]
          rw [List.length_map, List.length_take, Nat.min_eq_left (by omega), Nat.sub_self]
          rfl
        obtain ⟨g2, hA2, hs2⟩ := at_road (K := K) (a := a) (s := { settleI s i with lanes := (s.lanes.take i).map (upd1 s) ++ setl r :: s.lanes.drop (i + 1) }) (sg := sg) hf had hgi2
        have hA2' := At.tail (x := (p, .lst ((paid1 s (s.lanes.take i)).map prD))) hA2
        walk_at "w"
        refine wsl_tup (ds := [.int r.st.lane, .int r.st.num, .int r.st.l, .int r.st.r, .tup (r.st.locks.map Lck.d)]) ?_
        rw [show cutD [.int r.st.lane, .int r.st.num, .int r.st.l, .int r.st.r, .tup (r.st.locks.map Lck.d)] (some 2) (some 4) = [.int r.st.l, .int r.st.r] from rfl]
        walk_at "w"
        refine ⟨_, _, _, _, rfl, ?_⟩
        walk_at "w"
        have hbig := ok.big
        have hnl := ok.nl
        have hpl := paid1_len s (s.lanes.take i)
        rw [List.length_take] at hpl
        refine wm_extendD At.here (by rw [List.length_map]; simp; omega) ?_
        have hlk : ∀ q ∈ s.lanes.take i, q.st.locks.length ≤ 30 := fun q hq => by
          obtain ⟨j, hj⟩ := List.getElem?_of_mem (List.mem_of_mem_take hq)
          exact (ok.rd _ _ hj).s.few
        have hkl := keep1_len s (s.lanes.take i) 0 s.kept hlk
        rw [List.length_take] at hkl
        have hk0 := ok.nk
        have hcp : s.lanes.countP (fun r => r.mood == ("settled" : Str)) ≤ s.lanes.length := List.countP_le_length
        have hf30 := ro.s.few
        walk_at "w"
        refine we_lcM (wi_tup ?_)
        refine we_op (we_fld (we_var rfl ?_))
        refine ex_fld (At.tail hA2) (by walk_at "fact") (by walk_at "fact") (by with_unfolding_all rfl) ?_
        walk_at "w"
        refine ⟨fun _ _ => trivial, by rw [List.length_map]; show r.st.locks.length ≤ _; omega, fun d => .tup [.int (i : Int), d], fun d hd p2 acc => ⟨_, wg_name, by simp, ?_⟩, ?_⟩
        · walk_at "w"
          exact ⟨rfl, rfl⟩
        · rw [show ((setl r).st.locks.map Lck.d).map (fun d => D.tup [.int (i : Int), d]) = (new1 i r).map kpD from by unfold new1; rw [List.map_map, List.map_map]; rfl]
          have hnw : (new1 i r).length ≤ 30 := by unfold new1; rw [List.length_map]; exact hf30
          have hki : (settleI s i).kept.length ≤ 60000 := by show (keep1 s 0 (s.lanes.take i) s.kept).length ≤ _; omega
          refine wr_cat (.inl rfl) (.inl rfl) (by rw [List.length_map, List.length_map]; show (settleI s i).kept.length + _ ≤ _; omega) ?_
          rw [← List.map_append]
          walk_at "w"
          refine wc_sortP (.inl rfl) (kp_pures _) (kp_alike _) (kp_sortable _) (kp_depth _) ?_
          rw [ksort_map]
          walk_at "w"
          have e3 : settleI s (i + 1) = { settleI s i with lanes := (s.lanes.take i).map (upd1 s) ++ setl r :: s.lanes.drop (i + 1), kept := ksort ((settleI s i).kept ++ new1 i r) } := by
            unfold settleI
            rw [htk, keep1_app, keep1, keep1, if_pos hdue, List.map_append, List.length_take, Nat.zero_add, Nat.min_eq_left (by omega)]
            simp [upd1, if_pos hdue]
          have e4 : (paid1 s (s.lanes.take (i + 1))).map prD = (paid1 s (s.lanes.take i)).map prD ++ [.tup [.str r.l, .int r.st.l], .tup [.str r.r, .int r.st.r]] := by
            rw [htk, paid1_app, paid1, paid1, if_pos hdue, List.map_append]
            rfl
          refine ⟨hlt, ?_, _, _, _, rfl⟩
          rw [e3, e4]
          rfl
      · refine br_f (decide_eq_false c2) ?_
        obtain ⟨e1, e2⟩ := off fun z => c2 (by have := z.2; rw [he] at this; exact Option.some.inj this)
        refine ws_next ⟨hlt, ?_, _, _, _, rfl⟩
        rw [e1, e2]
    · refine br_f (decide_eq_false c1) ?_
      refine br_f rfl ?_
      obtain ⟨e1, e2⟩ := off fun z => c1 z.1
      refine ws_next ⟨hlt, ?_, _, _, _, rfl⟩
      rw [e1, e2]
  · obtain ⟨hi, rfl, x, y, z, rfl⟩ := hI
    refine ws_ret (WE.ice ?_)
    walk_at "w"
    refine ⟨_, _, _, rfl, rfl, ?_⟩
    rw [enumD_len, List.length_map, ok.ll, List.take_length]
    have e1 : settleI s s.lanes.length = settleS s := by
      unfold settleI settleS
      rw [List.take_length, List.drop_length, List.append_nil]
    rw [e1]
    exact h
end
end Cl
set_option Elab.async false
set_option linter.all false
set_option maxRecDepth 100000
set_option maxHeartbeats 4000000
namespace Cl
open PySem PySem.Spec PyProof.Rows L2
local macro_rules | `(tactic| walk_at "at") => `(tactic| first | assumption | repeat first | with_reducible exact At.here | with_reducible exact at_mc | with_reducible exact at_mb | with_reducible exact at_mo | with_reducible exact at_ms | with_reducible exact at_md | with_reducible apply At.tail | (with_reducible apply At.in (by assumption)))
local macro_rules | `(tactic| walk_at "fact") => `(tactic| first | exact c_Court (by assumption) | exact c_Lane (by assumption) | exact c_Signs (by assumption) | exact n_Court_clock (by assumption) | exact n_Court_long (by assumption) | exact n_Court_bags (by assumption) | exact n_Court_book (by assumption) | exact n_Court_opened (by assumption) | exact n_Court_seen (by assumption) | exact n_Court_kept (by assumption) | exact n_Court_deeds (by assumption) | exact n_Lane_both (by assumption) | exact n_Lane_first (by assumption) | exact n_Lane_standing (by assumption) | exact n_Lane_mood (by assumption) | exact n_Lane_ending (by assumption) | exact n_Signs_by_hand (by assumption))
local macro_rules | `(tactic| walk_at "ge") => `(tactic| first
  | with_reducible refine we_var rfl ?_
  | with_reducible refine we_int ?_
  | with_reducible refine we_str ?_
  | with_reducible refine we_ty ?_
  | with_reducible refine we_bl ?_
  | with_reducible refine we_non ?_
  | with_reducible refine we_ref ?_
  | with_reducible refine we_op ?_
  | with_reducible refine we_cb ?_
  | with_reducible refine we_call0 ?_
  | with_reducible refine we_call ?_
  | with_reducible refine we_lst ?_
  | with_reducible refine we_tup ?_
  | with_reducible refine we_andV ?_
  | with_reducible refine we_orV ?_
  | with_reducible refine we_notV ?_
  | with_reducible refine we_if ?_
  | with_reducible refine we_chain ?_
  | with_reducible refine we_sl ?_
  | with_reducible refine we_lz ?_
  | with_reducible refine we_dnewK (fun _ => ?_)
  | with_reducible refine we_dnewN (fun _ => ?_)
  | with_reducible refine we_fld ?_
  | with_reducible refine we_dget ?_
  | with_reducible refine we_din ?_
  | with_reducible refine we_dnotIn ?_
  | with_reducible refine we_dget2 ?_
  | with_reducible refine we_dsetd ?_
  | with_reducible refine we_meth0 ?_
  | with_reducible refine we_meth ?_
  | with_reducible refine we_bm ?_)
local macro_rules | `(tactic| walk_at "gt") => `(tactic| first
  | with_reducible refine wt_B ?_
  | with_reducible refine wt_test ?_
  | with_reducible refine wt_not ?_
  | with_reducible refine wt_and ?_
  | with_reducible refine wt_or ?_
  | with_reducible refine wt_yes ?_)
local macro_rules | `(tactic| walk_at "gst") => `(tactic| first
  | with_reducible refine ws_ret ?_
  | with_reducible refine ws_retN ?_
  | with_reducible refine ws_seq ?_
  | with_reducible refine ws_set ?_
  | with_reducible refine ws_drop ?_
  | with_reducible refine ws_if ?_
  | with_reducible refine ws_next ?_
  | with_reducible refine ws_raise ?_
  | with_reducible refine ws_asgS ?_
  | with_reducible refine ws_setL ?_
  | with_reducible refine ws_setN ?_
  | with_reducible refine ws_asg ?_
  | with_reducible refine ws_fld ?_
  | with_reducible refine ws_fldaddI ?_
  | with_reducible refine ws_dput ?_)
local macro_rules | `(tactic| walk_at "gr") => `(tactic| first
  | with_reducible refine wr_ixT rfl ?_
  | with_reducible refine wr_ixL rfl ?_
  | with_reducible refine ix_t0 ?_
  | with_reducible refine ix_t1 ?_
  | with_reducible refine ix_t2 ?_
  | with_reducible refine ix_t3 ?_
  | with_reducible refine ix_t4 ?_
  | with_reducible refine ix_l0 ?_
  | with_reducible refine ix_l1 ?_
  | with_reducible refine ix_l2 ?_
  | with_reducible refine ix_l3 ?_
  | with_reducible refine ix_l4 ?_
  | with_reducible refine wr_int ?_
  | with_reducible refine wr_bool ?_
  | with_reducible refine wr_eqI ?_
  | with_reducible refine wr_neI ?_
  | with_reducible refine wr_eqS ?_
  | with_reducible refine wr_neS ?_
  | with_reducible refine wr_eqB ?_
  | with_reducible refine wr_neB ?_
  | with_reducible refine wr_isN ?_
  | with_reducible refine wr_notN ?_
  | (with_reducible refine isIxC ?_; with_reducible refine wr_ixC (by walk_at "at") (by with_unfolding_all rfl) ?_))
local macro_rules | `(tactic| walk_at "gc") => `(tactic| first
  | with_reducible refine wc_isi rfl rfl ?_
  | with_reducible refine wc_isi (by decide) (by decide +kernel) ?_
  | (with_reducible refine isLen ?_; with_reducible refine wc_lenC (by walk_at "at") ?_)
  | with_reducible refine wc_lenT ?_
  | with_reducible refine wc_lenL ?_)
local macro_rules | `(tactic| walk_at "ga") => `(tactic| first
  | with_reducible refine wa_cons ?_
  | with_reducible refine wa_nil ?_)
local macro_rules | `(tactic| walk_at "gx") => `(tactic| first
  | (with_reducible refine isLn ?_; with_reducible refine lenAnd (by simp) ?_)
  | with_reducible refine wsl_tup ?_
  | with_reducible refine wo_none ?_
  | with_reducible refine wo_some ?_
  | with_reducible refine ex_bl ?_
  | with_reducible refine ex_int ?_
  | with_reducible refine ex_str ?_
  | with_reducible refine ex_tup ?_
  | with_reducible refine ex_lst ?_
  | with_reducible refine ex_etup ?_
  | with_reducible refine br_true ?_
  | with_reducible refine br_false ?_
  | (with_reducible refine isBr ?_; refine br_t rfl ?_)
  | (with_reducible refine isBr ?_; refine br_f rfl ?_)
  | (with_reducible refine isFld ?_; with_reducible refine ex_fld (by walk_at "at") (by walk_at "fact") (by walk_at "fact") (by with_unfolding_all rfl) ?_)
  | (with_reducible refine isPut ?_; with_reducible refine ex_put (by walk_at "at") (by walk_at "fact") (by walk_at "fact") (by with_unfolding_all exact of_decide_eq_true rfl) ?_)
  | (with_reducible refine isMeth ?_; with_reducible refine ex_meth (by walk_at "at") (by with_unfolding_all rfl) ?_)
  | (with_reducible refine isTy ?_; with_reducible refine And.intro (ty_cell (by walk_at "at")) ?_)
  | with_reducible refine k_whole ?_
  | with_reducible refine k_count ?_
  | with_reducible refine k_amount ?_)
local macro_rules | `(tactic| walk_at "s") => `(tactic| first
  | (with_reducible refine isWE ?_; walk_at "ge")
  | (with_reducible refine isWS ?_; walk_at "gst")
  | (with_reducible refine isWT ?_; walk_at "gt")
  | (with_reducible refine isWR ?_; walk_at "gr")
  | (with_reducible refine isWA ?_; walk_at "ga")
  | (with_reducible refine isWC ?_; walk_at "gc")
  | walk_at "gx")
local macro_rules | `(tactic| walk_at "w") => `(tactic| repeat walk_at "s")

section
variable {P : Program} {w : World} {K : PySem.W.Frag} {mg : Str → Option Value} {base : Heap}
/-! ### what is decided -/
def dec1 (s : CtS) (e : Int × Lck) : Option Str :=
  match s.lanes[e.1.toNat]? with
  | none => none
  | some r => gets r e.2 ((sget s.seen e.2.sl).map (·.1)) s.clock
def paid2 (s : CtS) : List (Int × Lck) → List (Str × Int)
  | [] => []
  | e :: es => (match dec1 s e with | some h => [(h, e.2.am)] | none => []) ++ paid2 s es
def left2 (s : CtS) : List (Int × Lck) → List (Int × Lck)
  | [] => []
  | e :: es => (match dec1 s e with | some _ => [] | none => [e]) ++ left2 s es
theorem paid2_app (s : CtS) : ∀ (a b : List (Int × Lck)), paid2 s (a ++ b) = paid2 s a ++ paid2 s b
  | [], b => rfl
  | r :: a, b => by rw [List.cons_append, paid2, paid2, paid2_app s a b, List.append_assoc]
theorem left2_app (s : CtS) : ∀ (a b : List (Int × Lck)), left2 s (a ++ b) = left2 s a ++ left2 s b
  | [], b => rfl
  | r :: a, b => by rw [List.cons_append, left2, left2, left2_app s a b, List.append_assoc]
theorem paid2_len (s : CtS) : ∀ (rs : List (Int × Lck)), (paid2 s rs).length ≤ rs.length
  | [] => by simp [paid2]
  | r :: rs => by
    rw [paid2, List.length_append, List.length_cons]
    have := paid2_len s rs
    split <;> simp <;> omega
theorem left2_len (s : CtS) : ∀ (rs : List (Int × Lck)), (left2 s rs).length ≤ rs.length
  | [] => by simp [left2]
  | r :: rs => by
    rw [left2, List.length_append, List.length_cons]
    have := left2_len s rs
    split <;> simp <;> omega
def decideS (s : CtS) : CtS := { s with kept := left2 s s.kept }
abbrev aDecide (K : PySem.W.Frag) : ASp := aC0 K fun a la s sg f _ Φ _ => Φ (.lst ((paid2 s s.kept).map prD)) (f (MC K a la (decideS s) sg))
theorem sc_Court_decided_now : FnScope ["self", "paid", "left", "number", "lock", "hand"] ["self"] d_Court_decided_now.scope := ⟨rfl, rfl, rfl, by decide +kernel, rfl, by decide +kernel, by decide +kernel⟩
theorem ok_Court_decided_now (T : Tx K mg) : FOk P w K mg base 4 (He.fAd K d_Court_decided_now.at_) ["self"] (aDecide K) := by
  refine fok_of (d := d_Court_decided_now) T 28 (k := 3) rfl rfl rfl sc_Court_decided_now (fun ds L Φ ex h => A1.len h) (fun _ _ _ _ _ _ us hl => match us, hl with | [_], _ => rfl) (fun cdv Ar outer s H E ds L Φ ex hr h => ?_)
  obtain ⟨self_, rfl, h⟩ := h
  refine ⟨_, (pss_cons (ps_set (i := 1) sc_Court_decided_now.nd rfl (Or.inl rfl) (pe_lst pa_nil))
    (pss_cons (ps_set (i := 2) sc_Court_decided_now.nd rfl (Or.inl rfl) (pe_lst pa_nil))
    (pss_cons (ps_for (passes_of rfl) rfl (pi_list (pe_fld (pv 0) rfl)) (pg_tup (n := 2) rfl (pgs_cons (pg_name (i := 3) sc_Court_decided_now.nd rfl (Or.inl rfl)) (pgs_cons (pg_name (i := 4) sc_Court_decided_now.nd rfl (Or.inl rfl)) pgs_nil))) (pss_cons (ps_set (i := 5) sc_Court_decided_now.nd rfl (Or.inl rfl) (pe_m (pe_ix ix_list (pe_fld (pv 0) rfl) (pv 3) (fun _ _ => rfl)) (c_Lane T) (m_Lane_gets T) (ok_Lane_gets T) hr (pa_cons (pv 4) (pa_cons (pe_m (pv 0) (c_Court T) (m_Court_shown T) (ok_Court_shown T) hr (pa_cons (pe_ix ix_tup (pv 4) pe_int (fun _ _ => rfl)) pa_nil)) (pa_cons (pe_fld (pv 0) rfl) pa_nil)))))
    (pss_one (ps_if (pt_cmpR op_isN (pv 5) pe_non (nomark _)) (pss_one (ps_expr (pe_bm PySem.F.plainAttrs_list PySem.F.slot_list_append PySem.F.type_list_append mt_append (pv 2) (pa_cons (pe_tup (pa_cons (pv 3) (pa_cons (pv 4) pa_nil))) pa_nil)))) (pss_one (ps_expr (pe_bm PySem.F.plainAttrs_list PySem.F.slot_list_append PySem.F.type_list_append mt_append (pv 1) (pa_cons (pe_tup (pa_cons (pv 5) (pa_cons (pe_ix ix_tup (pv 4) pe_int (fun _ _ => rfl)) pa_nil))) pa_nil))))))))
    (pss_cons (ps_fld (pv 0) (pv 2) rfl)
    (pss_one (ps_ret (pv 1))))))), ?_⟩
  obtain ⟨a, la, s, sg, f, N, rfl, ⟨hf, rfl⟩, ok, h⟩ := h
  dsimp only [cxOf]
  refine ws_seq (ws_set (we_lstC (wa_nil ⟨by decide, fun p => ?_⟩)))
  refine ws_seq (ws_set (we_lstC (wa_nil ⟨by decide, fun q => ?_⟩)))
  refine ws_seq (ws_for (wi_listD ?_))
  walk_at "w"
  refine ⟨fun i Γ' L' => i ≤ s.kept.length ∧ L' = (q, .lst ((left2 s (s.kept.take i)).map kpD)) :: (p, .lst ((paid2 s (s.kept.take i)).map prD)) :: f (MC K a la s sg) ∧ ∃ x y z, Γ' = [some (.ref a.c), some (.ref p), some (.ref q), x, y, z], ⟨Nat.zero_le _, ?_, _, _, _, rfl⟩, fun i Γ' L' hI => trivial, fun i d Γ' L' hd hI => ?_, fun Γ' L' hI => ?_⟩
  · simp [paid2, left2]
  · obtain ⟨hi, rfl, x, y, z, rfl⟩ := hI
    rw [List.getElem?_map] at hd
    obtain ⟨e, he, rfl⟩ := Option.map_eq_some_iff.mp hd
    have hlt : i < s.kept.length := (List.getElem?_eq_some_iff.mp he).1
    have htk : s.kept.take (i + 1) = s.kept.take i ++ [e] := by rw [List.take_add_one, he]; rfl
    obtain ⟨ek, e0, el⟩ := ok.kp e (List.mem_of_getElem? he)
    obtain ⟨r, hr⟩ : ∃ r, s.lanes[e.1.toNat]? = some r := ⟨_, List.getElem?_eq_getElem el⟩
    obtain ⟨ad, had⟩ : ∃ ad, la[e.1.toNat]? = some ad := ⟨_, List.getElem?_eq_getElem (by rw [ok.ll]; exact el)⟩
    refine ⟨_, wg_tup (us := [(3, .int e.1), (4, e.2.d)]) rfl (wgs_cons wg_name (wgs_cons wg_name wgs_nil)), ?_⟩
    dsimp only [setG]
    obtain ⟨g, hA, hs⟩ := at_road (K := K) (a := a) (s := s) (sg := sg) hf had hr
    have hA' := At.tail (x := (q, .lst ((left2 s (s.kept.take i)).map kpD))) (At.tail (x := (p, .lst ((paid2 s (s.kept.take i)).map prD))) hA)
    walk_at "w"
    refine wr_ixC (by walk_at "at") (atI_int e0 (by rw [List.getElem?_map, had]; rfl)) ?_
    refine ⟨_, _, _, rfl, hA', by with_unfolding_all rfl, ?_⟩
    walk_at "w"
    refine ⟨_, _, rfl, a, la, s, sg, fun S => (q, .lst ((left2 s (s.kept.take i)).map kpD)) :: (p, .lst ((paid2 s (s.kept.take i)).map prD)) :: f S, N, e.2.sl, rfl, ⟨hf.tail.tail, rfl⟩, ok, rfl, ek.sl, ?_⟩
    walk_at "w"
    refine ⟨_, _, _, _, rfl, ad, r, _, e.2, (sget s.seen e.2.sl).map (·.1), s.clock, rfl, hA', rfl, rfl, rfl, ?_⟩
    have hdec : dec1 s e = gets r e.2 ((sget s.seen e.2.sl).map (·.1)) s.clock := by
      unfold dec1
      rw [hr]
    have hbig := ok.big
    have hnl := ok.nl
    have hk0 := ok.nk
    have hcp : s.lanes.countP (fun r => r.mood == ("settled" : Str)) ≤ s.lanes.length := List.countP_le_length
    have hp2 := paid2_len s (s.kept.take i)
    have hl2 := left2_len s (s.kept.take i)
    rw [List.length_take] at hp2 hl2
    rw [← hdec]
    walk_at "w"
    cases hg : dec1 s e with
    | none =>
      refine br_t rfl ?_
      walk_at "w"
      refine wm_append At.here (by rw [List.length_map]; omega) ?_
      refine ⟨hlt, ?_, _, _, _, rfl⟩
      rw [htk, left2_app, paid2_app, left2, paid2, hg, left2, paid2, List.append_nil, List.append_nil, List.append_nil, List.map_append]
      rfl
    | some hd =>
      refine br_f rfl ?_
      dsimp only [sD]
      walk_at "w"
      refine wm_append (At.tail At.here) (by rw [List.length_map]; omega) ?_
      refine ⟨hlt, ?_, _, _, _, rfl⟩
      rw [htk, left2_app, paid2_app, left2, paid2, hg, left2, paid2, List.append_nil, List.append_nil, List.append_nil, List.map_append]
      rfl
  · obtain ⟨hi, rfl, x, y, z, rfl⟩ := hI
    rw [List.length_map, List.take_length]
    refine WS.ice 2 rfl ?_
    dsimp only [List.set_cons_succ, List.set_cons_zero]
    refine ws_seq (ws_fld (we_var rfl (we_var rfl ?_)))
    refine ex_put (by walk_at "at") (by walk_at "fact") (by walk_at "fact") (by with_unfolding_all exact of_decide_eq_true rfl) ?_
    exact ws_ret (WE.ice (we_var rfl ⟨_, _, _, rfl, rfl, h⟩))
def addB : List (Str × Int) → List (Str × Int) → List (Str × Int)
  | bs, [] => bs
  | bs, e :: es => addB (bput bs e.1 ((bget bs e.1).getD 0 + e.2)) es
def turn1 (s : CtS) : CtS := { s with clock := s.clock + 1 }
def turn2 (s : CtS) : CtS := settleS (turn1 s)
def turnP (s : CtS) : List (Str × Int) := (paid1 (turn1 s) s.lanes ++ paid2 (turn2 s) (turn2 s).kept).filter fun e => decide (e.2 > 0)
def turnS (s : CtS) : CtS := { decideS (turn2 s) with bags := addB s.bags (turnP s), rows := s.rows ++ [rowD (.tup [.str "turn"]) ((turnP s).map prD)] }
/-! what stays true -/
theorem keep1_due (s : CtS) : ∀ (rs : List Rd) (i : Nat) (k : List (Int × Lck)), (∀ r ∈ rs, r.st.locks.length ≤ 30) → (keep1 s i rs k).length ≤ k.length + 30 * (rs.countP fun r => decide (due s r))
  | [], _, k, _ => by simp [keep1]
  | r :: rs, i, k, h => by
    rw [keep1]
    have ih := keep1_due s rs (i + 1) (if due s r then ksort (k ++ new1 i r) else k) fun r hr => h r (List.mem_cons_of_mem _ hr)
    have h0 := h r List.mem_cons_self
    rw [List.countP_cons]
    by_cases c : due s r
    · rw [if_pos c] at ih ⊢
      rw [ksort_len, List.length_append] at ih
      have : (new1 i r).length ≤ 30 := by unfold new1; rw [List.length_map]; exact h0
      rw [if_pos (decide_eq_true c)]
      omega
    · rw [if_neg c] at ih ⊢
      rw [if_neg (by rw [decide_eq_false c]; decide)]
      omega
theorem settled_count (s : CtS) : ∀ rs : List Rd, ((rs.map (upd1 s)).countP fun r => r.mood == ("settled" : Str)) = (rs.countP fun r => r.mood == ("settled" : Str)) + rs.countP fun r => decide (due s r)
  | [] => rfl
  | r :: rs => by
    have ih := settled_count s rs
    rw [List.map_cons, List.countP_cons, List.countP_cons, List.countP_cons, ih]
    by_cases c : due s r
    · have e1 : (upd1 s r).mood = "settled" := by unfold upd1; rw [if_pos c]; rfl
      have e2 : ¬ (r.mood == ("settled" : Str)) = true := by rw [c.1]; decide
      rw [e1, if_pos (by decide), if_neg e2, if_pos (decide_eq_true c)]
      omega
    · have e1 : upd1 s r = r := by unfold upd1; rw [if_neg c]
      rw [e1, decide_eq_false c, if_neg (c := false = true) Bool.false_ne_true]
      omega
theorem keep1_mem (s : CtS) {e : Int × Lck} : ∀ (rs : List Rd) (i : Nat) (k : List (Int × Lck)), e ∈ keep1 s i rs k → e ∈ k ∨ ∃ j r, rs[j]? = some r ∧ e ∈ new1 (i + j) r
  | [], _, k, h => .inl h
  | r :: rs, i, k, h => by
    rw [keep1] at h
    rcases keep1_mem s rs (i + 1) _ h with h | ⟨j, q, h1, h2⟩
    · by_cases c : due s r
      · rw [if_pos c] at h
        have : e ∈ k ++ new1 i r := (List.mergeSort_perm _ _).mem_iff.mp h
        rcases List.mem_append.mp this with z | z
        · exact .inl z
        · exact .inr ⟨0, r, rfl, z⟩
      · rw [if_neg c] at h
        exact .inl h
    · exact .inr ⟨j + 1, q, h1, by rw [show i + (j + 1) = i + 1 + j by omega]; exact h2⟩
theorem RdOk.upd {i : Nat} {bs : List (Str × Int)} {r : Rd} (s : CtS) (h : RdOk i bs r) : RdOk i bs (upd1 s r) := by
  unfold upd1
  split
  · exact ⟨h.l, h.r, h.lb, h.rb, h.f, h.s, h.fl, h.fn, h.fk, h.sl, .inr (.inr rfl), fun z => absurd (show (("settled" : Str)) = "open" from z) (by decide), fun z => absurd (show (("settled" : Str)) = "closing" from z) (by decide)⟩
  · exact h
theorem ok_settle {N : Nat} {la : List Addr} {s : CtS} (ok : CtOk N la s) : CtOk N la (settleS s) := by
  have hlk : ∀ q ∈ s.lanes, q.st.locks.length ≤ 30 := fun q hq => by
    obtain ⟨j, hj⟩ := List.getElem?_of_mem hq
    exact (ok.rd _ _ hj).s.few
  refine ⟨ok.big, ?_, ?_, ok.nr, ok.ns, ?_, ok.bg, fun i r hr => ?_, ok.rw, fun e he => ?_, ok.ck⟩
  · show la.length = (s.lanes.map _).length
    rw [List.length_map]; exact ok.ll
  · show (s.lanes.map _).length ≤ N
    rw [List.length_map]; exact ok.nl
  · show (keep1 s 0 s.lanes s.kept).length ≤ 30 * ((s.lanes.map (upd1 s)).countP _)
    rw [settled_count]
    have h1 := keep1_due s s.lanes 0 s.kept hlk
    have h2 := ok.nk
    omega
  · have hr : (s.lanes.map (upd1 s))[i]? = some r := hr
    rw [List.getElem?_map] at hr
    obtain ⟨q, hq, rfl⟩ := Option.map_eq_some_iff.mp hr
    exact (ok.rd i q hq).upd s
  · show _ ∧ _ ∧ _ < (s.lanes.map _).length
    rw [List.length_map]
    rcases keep1_mem s s.lanes 0 s.kept he with h | ⟨j, r, h1, h2⟩
    · exact ok.kp e h
    · obtain ⟨l, hl, rfl⟩ := List.mem_map.mp h2
      have hj := (List.getElem?_eq_some_iff.mp h1).1
      exact ⟨(ok.rd _ _ h1).s.each l hl, by dsimp only; omega, by dsimp only; omega⟩
theorem ok_clock {N : Nat} {la : List Addr} {s : CtS} (ok : CtOk N la s) : CtOk N la (turn1 s) := ⟨ok.big, ok.ll, ok.nl, ok.nr, ok.ns, ok.nk, ok.bg, ok.rd, ok.rw, ok.kp, by have := ok.ck; show 0 ≤ s.clock + 1; omega⟩
theorem left2_mem (s : CtS) {e : Int × Lck} : ∀ k : List (Int × Lck), e ∈ left2 s k → e ∈ k
  | [], h => h
  | r :: k, h => by
    rw [left2] at h
    rcases List.mem_append.mp h with h | h
    · cases c : dec1 s r with
      | none =>
        rw [c] at h
        exact List.mem_cons.mpr (.inl (by simpa using h))
      | some x =>
        rw [c] at h
        cases h
    · exact List.mem_cons_of_mem _ (left2_mem s k h)
theorem ok_decide {N : Nat} {la : List Addr} {s : CtS} (ok : CtOk N la s) : CtOk N la (decideS s) :=
  ⟨ok.big, ok.ll, ok.nl, ok.nr, ok.ns, Nat.le_trans (left2_len s s.kept) ok.nk, ok.bg, ok.rd, ok.rw, fun e he => ok.kp e (left2_mem s s.kept he), ok.ck⟩
theorem bput_get {bs : List (Str × Int)} {h k : Str} {v : Int} : bget (bput bs h v) k = if k = h then (bget bs h).map (fun _ => v) else bget bs k := by
  induction bs with
  | nil =>
    unfold bput bget
    simp
  | cons e bs ih =>
    unfold bput bget at ih ⊢
    rw [List.map_cons, List.find?_cons, List.find?_cons, List.find?_cons]
    by_cases c : e.1 = h
    · rw [if_pos c]
      by_cases d : k = h
      · subst d
        rw [if_pos rfl, decide_eq_true c]
        rfl
      · rw [if_neg d, decide_eq_false (fun z => d (z.symm.trans c))]
        rw [if_neg d] at ih
        exact ih
    · rw [if_neg c]
      by_cases d : k = h
      · subst d
        rw [if_pos rfl, decide_eq_false c]
        rw [if_pos rfl] at ih
        exact ih
      · rw [if_neg d]
        rw [if_neg d] at ih
        by_cases f : e.1 = k
        · rw [decide_eq_true f]
        · rw [decide_eq_false f]
          exact ih
theorem bput_some {bs : List (Str × Int)} {h k : Str} {v : Int} (x : (bget bs k).isSome = true) : (bget (bput bs h v) k).isSome = true := by
  rw [bput_get]
  by_cases c : k = h
  · rw [if_pos c, ← c]
    cases e : bget bs k with
    | none => rw [e] at x; cases x
    | some z => rfl
  · rw [if_neg c]
    exact x
theorem addB_some {k : Str} : ∀ {es bs : List (Str × Int)}, (bget bs k).isSome = true → (bget (addB bs es) k).isSome = true
  | [], _, h => h
  | e :: es, bs, h => by
    rw [addB]
    exact addB_some (bput_some h)
theorem addB_app : ∀ (a b bs : List (Str × Int)), addB bs (a ++ b) = addB (addB bs a) b
  | [], b, bs => rfl
  | e :: a, b, bs => by rw [List.cons_append, addB, addB, addB_app a b]
theorem paid1_mem {s : CtS} {e : Str × Int} : ∀ {rs : List Rd}, e ∈ paid1 s rs → ∃ r ∈ rs, (e = (r.l, r.st.l) ∨ e = (r.r, r.st.r))
  | [], h => by cases h
  | r :: rs, h => by
    rw [paid1] at h
    rcases List.mem_append.mp h with h | h
    · by_cases c : due s r
      · rw [if_pos c] at h
        simp only [List.mem_cons, List.not_mem_nil, or_false] at h
        exact ⟨r, List.mem_cons_self, h⟩
      · rw [if_neg c] at h
        cases h
    · obtain ⟨q, h1, h2⟩ := paid1_mem h
      exact ⟨q, List.mem_cons_of_mem _ h1, h2⟩
theorem gets_mem {r : Rd} {l : Lck} {o : Option Int} {c : Int} {h : Str} (e : gets r l o c = some h) : h = r.l ∨ h = r.r := by
  unfold gets at e
  have pk : ∀ b, pick r b = r.l ∨ pick r b = r.r := fun b => by cases b <;> simp [pick]
  have key : ∀ A : Bool, (if A = true then some (pick r !l.rt) else if c > l.la then some (pick r l.rt) else none) = some h → h = r.l ∨ h = r.r := fun A e => by
    cases A with
    | true =>
      rw [if_pos rfl] at e
      exact Option.some.inj e ▸ pk _
    | false =>
      rw [if_neg Bool.false_ne_true] at e
      by_cases hB : c > l.la
      · rw [if_pos hB] at e
        exact Option.some.inj e ▸ pk _
      · rw [if_neg hB] at e
        exact nomatch e
  exact key _ e
theorem addB_len : ∀ (es bs : List (Str × Int)), (addB bs es).length = bs.length
  | [], _ => rfl
  | e :: es, bs => by rw [addB, addB_len es]; unfold bput; rw [List.length_map]
theorem paid2_mem {s : CtS} {e : Str × Int} : ∀ {k : List (Int × Lck)}, e ∈ paid2 s k → ∃ x ∈ k, ∃ r, s.lanes[x.1.toNat]? = some r ∧ (e.1 = r.l ∨ e.1 = r.r) ∧ e.2 = x.2.am
  | [], h => by cases h
  | x :: k, h => by
    rw [paid2] at h
    rcases List.mem_append.mp h with h | h
    · cases c : dec1 s x with
      | none => rw [c] at h; cases h
      | some z =>
        rw [c] at h
        have h : e = (z, x.2.am) := by simpa using h
        subst h
        unfold dec1 at c
        cases d : s.lanes[x.1.toNat]? with
        | none => rw [d] at c; cases c
        | some r =>
          rw [d] at c
          exact ⟨x, List.mem_cons_self, r, d, gets_mem c, rfl⟩
    · obtain ⟨y, h1, h2⟩ := paid2_mem h
      exact ⟨y, List.mem_cons_of_mem _ h1, h2⟩
theorem turnP_in {N : Nat} {la : List Addr} {s : CtS} (ok : CtOk N la s) {e : Str × Int} (h : e ∈ turnP s) : (bget s.bags e.1).isSome = true := by
  unfold turnP at h
  rcases List.mem_append.mp (List.mem_filter.mp h).1 with h | h
  · obtain ⟨r, hr, h⟩ := paid1_mem h
    obtain ⟨j, hj⟩ := List.getElem?_of_mem hr
    have ro := ok.rd j r hj
    rcases h with rfl | rfl
    · exact ro.lb
    · exact ro.rb
  · obtain ⟨x, hx, r, hr, h, _⟩ := paid2_mem h
    have ro := (ok_settle (ok_clock ok)).rd _ _ hr
    rcases h with h | h
    · rw [h]; exact ro.lb
    · rw [h]; exact ro.rb
abbrev aTurn (K : PySem.W.Frag) : ASp := aC0 K fun a la s sg f _ Φ _ => Φ (.lst ((turnP s).map prD)) (f (MC K a la (turnS s) sg))
theorem sc_Court_turn : FnScope ["self", "paid", "hand", "many"] ["self"] d_Court_turn.scope := ⟨rfl, rfl, rfl, by decide +kernel, rfl, by decide +kernel, by decide +kernel⟩
theorem ok_Court_turn (T : Tx K mg) : FOk P w K mg base 5 (He.fAd K d_Court_turn.at_) ["self"] (aTurn K) := by
  refine fok_of (d := d_Court_turn) T 29 (k := 4) rfl rfl rfl sc_Court_turn (fun ds L Φ ex h => A1.len h) (fun _ _ _ _ _ _ us hl => match us, hl with | [_], _ => rfl) (fun cdv Ar outer s H E ds L Φ ex hr h => ?_)
  obtain ⟨self_, rfl, h⟩ := h
  refine ⟨_, (pss_cons (ps_fldaug (pv 0) pe_int in_add)
    (pss_cons (ps_setLc (i := 1) (own := [("hand", 2), ("many", 3)]) rfl sc_Court_turn.nd rfl rfl (sw_true rfl rfl rfl (by decide +kernel)) (pi_list (pe_op op_catX (pe_m0 (pv 0) (c_Court T) (m_Court_settled_now T) (ok_Court_settled_now T) hr) (pe_m0 (pv 0) (c_Court T) (m_Court_decided_now T) (ok_Court_decided_now T) hr))) (blkOk_by (own := [("hand", 2), ("many", 3)]) (N := ["self", "paid", "hand", "many"]) (sc := d_Court_turn.scope) (by decide +kernel)) (fun _ _ _ _ _ => by exact (pg_tupK (n := 2) (K := K) rfl rfl (pgs_cons (pg_name (i := 2) sc_Court_turn.nd rfl (Or.inl rfl)) (pgs_cons (pg_name (i := 3) sc_Court_turn.nd rfl (Or.inl rfl)) pgs_nil)))) (fun _ _ _ _ _ => by exact (pts_one (pt_cmpR op_gt (pv 3) pe_int (nomark _)))) (fun _ _ _ _ _ => by exact (pe_tup (pa_cons (pv 2) (pa_cons (pv 3) pa_nil)))))
    (pss_cons (ps_for (passes_of rfl) rfl (pi_list (pv 1)) (pg_tup (n := 2) rfl (pgs_cons (pg_name (i := 2) sc_Court_turn.nd rfl (Or.inl rfl)) (pgs_cons (pg_name (i := 3) sc_Court_turn.nd rfl (Or.inl rfl)) pgs_nil))) (pss_one (ps_daug (hu_of hr) (pe_fld (pv 0) rfl) (pv 2) (pv 3) in_add (fun _ _ _ => rfl))))
    (pss_cons (ps_expr (pe_bm PySem.F.plainAttrs_list PySem.F.slot_list_append PySem.F.type_list_append mt_append (pe_fld (pv 0) rfl) (pa_cons (pe_tup (pa_cons (pe_tup (pa_cons pe_str pa_nil)) (pa_cons (pv 1) pa_nil))) pa_nil)))
    (pss_one (ps_ret (pe_callTy call_list_of rfl (f_list T) (by decide +kernel) (pa_cons (pv 1) pa_nil)))))))), ?_⟩
  obtain ⟨a, la, s, sg, f, N, rfl, ⟨hf, rfl⟩, ok, h⟩ := h
  dsimp only [cxOf]
  refine ws_seq (ws_fldaddI (we_var rfl ?_))
  refine ⟨_, _, _, s.clock, _, rfl, At.in hf at_mc, by walk_at "fact", by walk_at "fact", by with_unfolding_all rfl, ?_⟩
  refine we_int ⟨_, _, _, rfl, At.in hf at_mc, by with_unfolding_all exact of_decide_eq_true rfl, ?_⟩
  refine ws_seq (ws_set (we_lcP (wi_listD (we_op ?_))))
  have ok1 := ok_clock ok
  have ok2 := ok_settle ok1
  refine we_meth0 (we_var rfl ⟨_, _, _, rfl, At.in hf (at_mc (s := turn1 s)), by with_unfolding_all rfl, wa_nil ?_⟩)
  refine ⟨_, rfl, a, la, turn1 s, sg, f, N, rfl, ⟨hf, rfl⟩, ok1, ?_⟩
  refine we_meth0 (we_var rfl ⟨_, _, _, rfl, At.in hf (at_mc (s := turn2 s)), by with_unfolding_all rfl, wa_nil ?_⟩)
  refine ⟨_, rfl, a, la, turn2 s, sg, f, N, rfl, ⟨hf, rfl⟩, ok2, ?_⟩
  dsimp only
  have hbig := ok.big
  have hnl := ok.nl
  have hk2 := ok2.nk
  have hcp : (turn2 s).lanes.countP (fun r => r.mood == ("settled" : Str)) ≤ (turn2 s).lanes.length := List.countP_le_length
  have hn2 := ok2.nl
  have hp1 := paid1_len (turn1 s) s.lanes
  have hp2 := paid2_len (turn2 s) (turn2 s).kept
  have hp3 : (paid1 (turn1 s) (turn1 s).lanes).length ≤ 2000 := by show (paid1 (turn1 s) s.lanes).length ≤ _; omega
  have hp4 : (paid2 (turn2 s) (turn2 s).kept).length ≤ 30000 := by
    have : (turn2 s).kept.length ≤ 30 * (turn2 s).lanes.countP (fun r => r.mood == ("settled" : Str)) := hk2
    have : (turn2 s).lanes.length ≤ N := hn2
    omega
  refine wr_cat (.inl rfl) (.inl rfl) (by rw [List.length_map, List.length_map]; omega) ?_
  rw [← List.map_append]
  walk_at "w"
  refine ⟨fun _ _ => trivial, by rw [List.length_map, List.length_append]; omega, fun d => (match d with | .tup [_, .int m] => decide (m > 0) | _ => false), id, fun d hd p acc => ?_, ?_⟩
  · obtain ⟨e, he, rfl⟩ := List.mem_map.mp hd
    refine ⟨_, wg_tup (us := [(2, .str e.1), (3, .int e.2)]) rfl (wgs_cons wg_name (wgs_cons wg_name wgs_nil)), by simp, ?_⟩
    walk_at "w"
    refine ⟨fun hb => ?_, fun hb => ⟨hb, rfl⟩⟩
    walk_at "w"
    exact ⟨hb, rfl, rfl⟩
  · have e5 : (((paid1 (turn1 s) (turn1 s).lanes ++ paid2 (turn2 s) (turn2 s).kept).map prD).filter fun d => (match d with | .tup [_, .int m] => decide (m > 0) | _ => false)).map id = (turnP s).map prD := by
      rw [List.map_id, List.filter_map]
      rfl
    rw [e5]
    refine ws_seq (ws_for (wi_listD ?_))
    walk_at "w"
    refine ⟨fun i Γ' L' => i ≤ (turnP s).length ∧ L' = f (MC K a la { decideS (turn2 s) with bags := addB s.bags ((turnP s).take i) } sg) ∧ ∃ x y, Γ' = [some (.ref a.c), some (.lst ((turnP s).map prD)), x, y], ⟨Nat.zero_le _, rfl, _, _, rfl⟩, fun i Γ' L' hI => trivial, fun i d Γ' L' hd hI => ?_, fun Γ' L' hI => ?_⟩
    · obtain ⟨hi, rfl, x, y, rfl⟩ := hI
      rw [List.getElem?_map] at hd
      obtain ⟨e, he, rfl⟩ := Option.map_eq_some_iff.mp hd
      have hlt : i < (turnP s).length := (List.getElem?_eq_some_iff.mp he).1
      have htk : (turnP s).take (i + 1) = (turnP s).take i ++ [e] := by rw [List.take_add_one, he]; rfl
      refine ⟨_, wg_tup (us := [(2, .str e.1), (3, .int e.2)]) rfl (wgs_cons wg_name (wgs_cons wg_name wgs_nil)), ?_⟩
      dsimp only [setG]
      have hb : (bget (addB s.bags ((turnP s).take i)) e.1).isSome = true := addB_some (turnP_in ok (List.mem_of_getElem? he))
      obtain ⟨v, hv⟩ := Option.isSome_iff_exists.mp hb
      refine ws_daug (g := fun i j => i + j) (fun i j H Q q => ⟨i, j, rfl, rfl, q⟩) ?_
      walk_at "w"
      refine ⟨_, _, .inr e.1, v, _, rfl, rfl, by walk_at "at", by rw [bagK_get]; dsimp only; rw [hv]; rfl, ?_⟩
      walk_at "w"
      refine ⟨_, _, _, rfl, by walk_at "at", by have := ok.bg.few; unfold bagK; rw [List.length_map]; show (addB _ _).length < _; rw [addB_len]; omega, hlt, ?_, _, _, rfl⟩
      have e6 : addB s.bags ((turnP s).take (i + 1)) = bput (addB s.bags ((turnP s).take i)) e.1 (v + e.2) := by
        rw [htk, addB_app, addB, addB, hv]
        rfl
      rw [e6]
      dsimp only
      rw [bagK_put (v := v + e.2) hb]
      rfl
    · obtain ⟨hi, rfl, x, y, rfl⟩ := hI
      rw [List.length_map, List.take_length]
      walk_at "w"
      refine wm_append (by walk_at "at") (by have := ok.nr; show s.rows.length < _; omega) ?_
      walk_at "w"
      refine wc_list ?_ (.inl rfl)
      exact h
end
end Cl
set_option Elab.async false
set_option linter.all false
set_option maxRecDepth 100000
set_option maxHeartbeats 4000000
/-! dict comprehensions. -/
namespace Cl
open PySem PySem.Spec PyProof.Rows L2
theorem putKD_len (kvs : List (Key × D)) (k : Key) (v : D) : (putKD kvs k v).length ≤ kvs.length + 1 := by
  unfold putKD
  split
  · rw [List.length_map]; omega
  · rw [List.length_append]; simp
theorem mergeKD_len : ∀ (m kvs : List (Key × D)), (mergeKD kvs m).length ≤ kvs.length + m.length
  | [], kvs => by unfold mergeKD; simp
  | e :: m, kvs => by
    have ih := mergeKD_len m (putKD kvs e.1 e.2)
    have := putKD_len kvs e.1 e.2
    unfold mergeKD at ih ⊢
    rw [List.foldl_cons, List.length_cons]
    omega
theorem mergeKD_app (a b kvs : List (Key × D)) : mergeKD kvs (a ++ b) = mergeKD (mergeKD kvs a) b := by
  unfold mergeKD
  rw [List.foldl_append]
section
variable {P : Program} {w : World} {K : PySem.W.Frag} {E : XK} {Γ : Gm} {L : Sto} {ex : Ex} {Φ : D → Sto → Prop} {tk tv : TE}
theorem we_dcM {wi : TI} {g : TG} {vs : List Nat} (h : WI P w K E wi Γ L ex fun ds stay L1 => (∀ p kvs, stay ((p, .dK kvs) :: L1)) ∧ ds.length ≤ 100000 ∧ ∃ (kf : D → Key) (vf : D → D),
    (∀ d ∈ ds, ∀ p kvs, ∃ us, WG P w K g d ((p, .dK kvs) :: L1) us ∧ (∀ u ∈ us, u.1 ∈ vs) ∧ WE P w K E tk (setG (wipeG Γ vs) us) ((p, .dK kvs) :: L1) ex fun y L4 =>
      WE P w K E tv (setG (wipeG Γ vs) us) L4 ex fun z L5 => y = kD (kf d) ∧ z = vf d ∧ L5 = (p, .dK kvs) :: L1) ∧
    ∀ p, Φ (.ref p) ((p, .dK (mergeKD [] (ds.map fun d => (kf d, vf d)))) :: L1)) : WE P w K E (tDc wi g tYes tk tv vs) Γ L ex Φ := fun σ F H Q sl S lk k => by
  refine h σ F H _ sl S lk fun J ds stay F1 H1 L1 e1 S1 it ⟨hst, hl, kf, vf, hs, hf⟩ => ?_
  intro p hp
  refine ⟨fun i m H' => m = ds.length - i ∧ i ≤ ds.length ∧ ∃ F', Same F1 F' ∧ Spl P w K F' ((p, .dK (mergeKD [] ((ds.take i).map fun d => (kf d, vf d)))) :: L1) H', ⟨ds.length, by simp, Nat.zero_le _, F1, Same.refl _, S1.new (c := .dK []) hp ⟨[], rfl, .nil⟩⟩, ?_⟩
  rintro i m H' ⟨rfl, hi, F', e', S'⟩
  by_cases hlt : i < ds.length
  · obtain ⟨go, yl⟩ := it.go i ds[i] F' H' _ e' S' (hst p _) (by simp [hlt])
    have htk : ds.take (i + 1) = ds.take i ++ [ds[i]] := by rw [List.take_add_one]; simp [hlt]
    refine .inr ⟨go, fun H2 => ∃ F', Same F1 F' ∧ Spl P w K F' ((p, .dK (mergeKD [] ((ds.take (i + 1)).map fun d => (kf d, vf d)))) :: L1) H2, fun H2 ⟨F2, e2, S2⟩ => ⟨ds.length - (i + 1), by omega, rfl, hlt, F2, e2, S2⟩, fun x H2 y => ?_⟩
    obtain ⟨F2, e2, S2, rx⟩ := yl x H2 y
    obtain ⟨us, hg, hu, hw⟩ := hs ds[i] (List.getElem_mem hlt) p (mergeKD [] ((ds.take i).map fun d => (kf d, vf d)))
    have e12 := Same.tr e' e2
    have e0 := Same.tr e1 e12
    refine hg F2 H2 x _ _ rx S2 fun ws rw_ => ⟨wipe_all σ vs _ ws _ (fun u hu2 => ?_) (wipe_wipe σ vs), ?_⟩
    · obtain ⟨z, hz, rfl⟩ := List.mem_map.mp hu2
      exact hu z hz
    · have sl2 := sl_all ((sl.mono e0).wipe vs) rw_
      dsimp only [tYes]
      rw [if_pos rfl]
      refine hw _ F2 H2 _ sl2 S2 (lk.mono e0) fun vy y F4 H4 L4 e4 S4 ry q => q _ F4 H4 _ (sl2.mono e4) S4 (lk.mono (Same.tr e0 e4)) fun vz z F5 H5 L5 e5 S5 rz ⟨ey, ez, eL⟩ => ?_
      subst ey ez eL
      obtain ⟨np, o, ho, kw, rfl, rk⟩ := S5.look At.here
      refine ⟨kw, kf ds[i], kD_inv ry, ho, ?_, F5, Same.tr e12 (Same.tr e4 e5), ?_⟩
      · rw [Paired.len rk]
        have h1 := mergeKD_len ((ds.take i).map fun d => (kf d, vf d)) []
        rw [List.length_map, List.length_take, List.length_nil] at h1
        have : (mergeKD [] ((ds.take i).map fun d => (kf d, vf d))).length < 100001 := by omega
        exact Nat.lt_of_lt_of_le this (by decide)
      · rw [htk, List.map_append, mergeKD_app]
        exact S5.put (c' := .dK (putKD (mergeKD [] ((ds.take i).map fun d => (kf d, vf d))) (kf ds[i]) (vf ds[i]))) At.here ⟨_, rfl, rk_put rz rk⟩
  · have e : i = ds.length := by omega
    subst e
    rw [List.take_length] at S'
    exact .inl ⟨it.stop _ F' H' _ e' S' (hst p _) (Nat.le_refl _), k _ _ F' H' _ (Same.tr e1 e') S' (.ref p) (hf p)⟩
end
end Cl
set_option Elab.async false
set_option linter.all false
set_option maxRecDepth 100000
set_option maxHeartbeats 4000000
namespace Cl
open PySem PySem.Spec PyProof.Rows L2
/-- a def with keyword-only parameters keeps its promise when all are given, in turned order -/
def FKOk (P : Program) (w : World) (K : PySem.W.Frag) (mg : Str → Option Value) (base : Heap) (k : Nat) (f : Addr) (ps : List Str) (n : Nat) (ks : List Str) (A : ASp) : Prop :=
  ∃ fd, FnOk P w K mg base (L2.CX P w) k f fd ps (spOf P w K A) ∧ KBn K fd ps n ks (fun us ws => us ++ ws.reverse) (fun vs zs => vs ++ zs.reverse) ∧ PySem.W.keepIn K (.ref f) = true
section
variable {P : Program} {w : World} {K : PySem.W.Frag} {mg : Str → Option Value} {base : Heap}
theorem vals_rev : ∀ {vs : List V} {us : List Value}, Vals vs us → Vals vs.reverse us.reverse
  | _, _, .nil => .nil
  | _, _, .cons h t => by
    rw [List.reverse_cons, List.reverse_cons]
    exact vals_app (vals_rev t) (.cons h .nil)
theorem fokK_of {d : He.DefD} (T : Tx K mg) (i : Nat) {N ps ks : List Str} {n k : Nat} {A : ASp} (hi : fns[i]? = some d) (hd : d.dfl = []) (hkw : d.kws K ≠ []) (S : FnScope N ps d.scope) (len : ∀ ds L Φ ex, A ds L Φ ex → ds.length = ps.length)
    (hb : ∀ (D : Addr) (doc pm : Value) (an : Option Addr) (cdv ct : Value) (us mv ws : List Value), us.length = n → mv.length = 0 → ws.length = ks.length → bindArgs (PySem.W.fnOf d.name d.qual d.params d.body d.scope .none (.ref D) doc pm an cdv ct) ⟨us, ks.zip ws⟩ = pure (ps.zip (us ++ ws.reverse)))
    (body : ∀ (cdv : Value) (Ar : Around) (outer : List Env) (s : Shared) (H : Hp) (E : XK) (ds : List D) (L : Sto) (Φ : D → Sto → Prop) (ex : Ex), Room k (Ar.deeper (envOfC d.qual d.scope s.heap.objs.size (He.fAd K d.at_) cdv)) → A ds L Φ ex →
      ∃ t, PSs (cxOf (L2.CX P w) P w K mg base N d.qual d.scope (He.fAd K d.at_) cdv Ar outer s H E) d.body t ∧ WS P w K E t (startG N ds) L { nx := fun _ L' => Φ .non L', rt := Φ, ex := ex }) :
    FKOk P w K mg base (k + 1) (He.fAd K d.at_) ps n ks A := by
  obtain ⟨fd, F⟩ := T.says.def_ i hi
  have e1 : d.dvs K = [] := by unfold He.DefD.dvs; rw [hd]; rfl
  rw [e1] at F
  obtain ⟨mv, hbn⟩ := F.kbinds0 (ps := ps) n ks [] (fun us _ ws => us ++ ws.reverse) hkw (fun q hq => nomatch hq) (fun r1 _ r3 => vals_app r1 (vals_rev r3)) fun D doc pm an cdv ct us mv ws h1 h2 h3 => by
    have := hb D doc pm an cdv ct us mv ws h1 h2 h3
    cases mv with
    | nil => exact this
    | cons _ _ => exact nomatch h2
  refine ⟨fd, ?_, hbn, F.kp⟩
  refine F.ok S (fun vs H Q E ⟨F0, ds, L, Φ, ex, r, _, a, _⟩ => by rw [r.length]; exact len _ _ _ _ a) fun cdv Ar outer s H vs Q E hr ⟨F0, ds, L, Φ, ex, r, S0, a, k1, lk⟩ => ?_
  obtain ⟨t, h1, h2⟩ := body cdv Ar outer s H E ds L Φ ex hr a
  exact ⟨t, h1, h2 _ F0 H _ (Sl.start r) S0 lk ⟨fun σ Γ F' H' L' e s sp q => k1 _ _ F' H' L' e sp .non q, k1, fun _ _ _ _ _ _ _ _ q => q.elim, fun _ _ _ _ _ _ _ _ q => q.elim⟩⟩
end
section
variable {P : Program} {w : World} {K : PySem.W.Frag} {E : XK} {Γ : Gm} {L : Sto} {ex : Ex} {Φ : D → Sto → Prop} {ta tb tc : TE}
theorem we_chainT {r r' : R2} (h : WE P w K E ta Γ L ex fun x L1 => WE P w K E tb Γ L1 ex fun y L2 => WR P w K r x y L2 fun z L3 => ∃ b, z = .bl b ∧ (b = true → WE P w K E tc Γ L3 ex fun z2 L4 => WR P w K r' y z2 L4 Φ) ∧ (b = false → Φ (.bl false) L3)) : WE P w K E (tChain r r' ta tb tc) Γ L ex Φ := we_chain h
end
section
variable {X : Cx} {C f : Addr} {ps ks : List Str} {B : ASp} {x m : Str} {p pos apos : Pos} {e o : Expr} {es : List Expr} {kws : List Keyword} {ta : TE} {t tk : TA} {j k n : Nat} {E : XK}
/-- C(e, ..) -/
theorem pe_mk (M : Mk X.K C f) (h : FOk X.prog X.w X.K X.mg X.base j f ps B) (hr : Room k X.A) (hg : Gl X x) (hm : X.mg x = some (.ref C)) (ha : PA X (e :: es) t) (hj : j + 1 ≤ k := by decide) (hdb : (x == ("__debug__" : Str)) = false := by decide)
    (he : starEach (e :: es) X.env = (false, eval e X.env) :: starEach es X.env := by rfl) (hpl : (backTo pos (starEach es X.env)).any (·.1) = false := by rfl) : PE X (.Call (.Name x p) (e :: es) [] pos) (tMake C (spOf X.prog X.w X.K B) [] E0 t) := by
  obtain ⟨fd, F, b, kp⟩ := h
  exact pe_make M F (hr.mono hj) hg hm b .nil passL ha hdb he hpl
theorem pe_mk0 (M : Mk X.K C f) (h : FOk X.prog X.w X.K X.mg X.base j f ps B) (hr : Room k X.A) (hg : Gl X x) (hm : X.mg x = some (.ref C)) (hj : j + 1 ≤ k := by decide) (hdb : (x == ("__debug__" : Str)) = false := by decide) : PE X (.Call (.Name x p) [] [] pos) (tMake C (spOf X.prog X.w X.K B) [] E0 tNil) := by
  obtain ⟨fd, F, b, kp⟩ := h
  exact pe_make0 M F (hr.mono hj) hg hm b .nil passL hdb
/-- C(e, .., k = v, ..) -/
theorem pe_mkK (M : Mk X.K C f) (h : FKOk X.prog X.w X.K X.mg X.base j f ps (n + 1) ks B) (hr : Room k X.A) (hg : Gl X x) (hm : X.mg x = some (.ref C)) (ha : PA X (e :: es) t) (hkw : PK X kws tk) (hj : j + 1 ≤ k := by decide)
    (hall : (backToKw pos (keywordEach kws X.env)).all (·.1.isSome) = true := by rfl) (hks : (backToKw pos (keywordEach kws X.env)).filterMap (·.1) = ks := by rfl) (hdb : (x == ("__debug__" : Str)) = false := by decide)
    (he : starEach (e :: es) X.env = (false, eval e X.env) :: starEach es X.env := by rfl) (hpl : ((backTo pos (starEach (e :: es) X.env)).any (·.1) || (backToKw pos (keywordEach kws X.env)).any (·.1.isNone)) = false := by rfl) :
    PE X (.Call (.Name x p) (e :: es) kws pos) (tMakeK C n ks.length (spOf X.prog X.w X.K B) (fun vs zs => vs ++ zs.reverse) E0 t tk) := by
  obtain ⟨fd, F, b, kp⟩ := h
  exact pe_makeK M F (hr.mono hj) hg hm b passL ha hkw hall hks hdb he hpl
end
local macro_rules | `(tactic| walk_at "at") => `(tactic| first | assumption | repeat first | with_reducible exact At.here | with_reducible exact at_mc | with_reducible exact at_mb | with_reducible exact at_mo | with_reducible exact at_ms | with_reducible exact at_md | with_reducible apply At.tail | (with_reducible apply At.in (by assumption)))
local macro_rules | `(tactic| walk_at "fact") => `(tactic| first | exact c_Court (by assumption) | exact c_Lane (by assumption) | exact c_Signs (by assumption) | exact n_Court_clock (by assumption) | exact n_Court_long (by assumption) | exact n_Court_bags (by assumption) | exact n_Court_book (by assumption) | exact n_Court_opened (by assumption) | exact n_Court_seen (by assumption) | exact n_Court_kept (by assumption) | exact n_Court_deeds (by assumption) | exact n_Lane_both (by assumption) | exact n_Lane_first (by assumption) | exact n_Lane_standing (by assumption) | exact n_Lane_mood (by assumption) | exact n_Lane_ending (by assumption) | exact n_Signs_by_hand (by assumption))
local macro_rules | `(tactic| walk_at "ge") => `(tactic| first
  | with_reducible refine we_var rfl ?_
  | with_reducible refine we_int ?_
  | with_reducible refine we_str ?_
  | with_reducible refine we_ty ?_
  | with_reducible refine we_bl ?_
  | with_reducible refine we_non ?_
  | with_reducible refine we_ref ?_
  | with_reducible refine we_op ?_
  | with_reducible refine we_cb ?_
  | with_reducible refine we_call0 ?_
  | with_reducible refine we_call ?_
  | with_reducible refine we_lst ?_
  | with_reducible refine we_tup ?_
  | with_reducible refine we_andV ?_
  | with_reducible refine we_orV ?_
  | with_reducible refine we_notV ?_
  | with_reducible refine we_if ?_
  | with_reducible refine we_chain ?_
  | with_reducible refine we_sl ?_
  | with_reducible refine we_lz ?_
  | with_reducible refine we_dnewK (fun _ => ?_)
  | with_reducible refine we_dnewN (fun _ => ?_)
  | with_reducible refine we_fld ?_
  | with_reducible refine we_dget ?_
  | with_reducible refine we_din ?_
  | with_reducible refine we_dnotIn ?_
  | with_reducible refine we_dget2 ?_
  | with_reducible refine we_dsetd ?_
  | with_reducible refine we_make ?_
  | with_reducible refine we_meth0 ?_
  | with_reducible refine we_meth ?_
  | with_reducible refine we_bm ?_)
local macro_rules | `(tactic| walk_at "gt") => `(tactic| first
  | with_reducible refine wt_B ?_
  | with_reducible refine wt_test ?_
  | with_reducible refine wt_not ?_
  | with_reducible refine wt_and ?_
  | with_reducible refine wt_or ?_
  | with_reducible refine wt_yes ?_)
local macro_rules | `(tactic| walk_at "gst") => `(tactic| first
  | with_reducible refine ws_ret ?_
  | with_reducible refine ws_retN ?_
  | with_reducible refine ws_seq ?_
  | with_reducible refine ws_set ?_
  | with_reducible refine ws_drop ?_
  | with_reducible refine ws_if ?_
  | with_reducible refine ws_next ?_
  | with_reducible refine ws_raise ?_
  | with_reducible refine ws_asgS ?_
  | with_reducible refine ws_setL ?_
  | with_reducible refine ws_setN ?_
  | with_reducible refine ws_asg ?_
  | with_reducible refine ws_fld ?_
  | with_reducible refine ws_fldaddI ?_
  | with_reducible refine ws_dput ?_)
local macro_rules | `(tactic| walk_at "gr") => `(tactic| first
  | with_reducible refine wr_ixT rfl ?_
  | with_reducible refine wr_ixL rfl ?_
  | with_reducible refine ix_t0 ?_
  | with_reducible refine ix_t1 ?_
  | with_reducible refine ix_t2 ?_
  | with_reducible refine ix_t3 ?_
  | with_reducible refine ix_t4 ?_
  | with_reducible refine ix_l0 ?_
  | with_reducible refine ix_l1 ?_
  | with_reducible refine ix_l2 ?_
  | with_reducible refine ix_l3 ?_
  | with_reducible refine ix_l4 ?_
  | with_reducible refine wr_int ?_
  | with_reducible refine wr_bool ?_
  | with_reducible refine wr_eqI ?_
  | with_reducible refine wr_neI ?_
  | with_reducible refine wr_eqS ?_
  | with_reducible refine wr_neS ?_
  | with_reducible refine wr_eqB ?_
  | with_reducible refine wr_neB ?_
  | with_reducible refine wr_isN ?_
  | with_reducible refine wr_notN ?_
  | (with_reducible refine isIxC ?_; with_reducible refine wr_ixC (by walk_at "at") (by with_unfolding_all rfl) ?_))
local macro_rules | `(tactic| walk_at "gc") => `(tactic| first
  | with_reducible refine wc_isi rfl rfl ?_
  | with_reducible refine wc_isi (by decide) (by decide +kernel) ?_
  | (with_reducible refine isLen ?_; with_reducible refine wc_lenC (by walk_at "at") ?_)
  | with_reducible refine wc_lenT ?_
  | with_reducible refine wc_lenL ?_)
local macro_rules | `(tactic| walk_at "ga") => `(tactic| first
  | with_reducible refine wa_cons ?_
  | with_reducible refine wa_nil ?_)
local macro_rules | `(tactic| walk_at "gx") => `(tactic| first
  | (with_reducible refine isLn ?_; with_reducible refine lenAnd (by simp) ?_)
  | with_reducible refine wsl_tup ?_
  | with_reducible refine wo_none ?_
  | with_reducible refine wo_some ?_
  | with_reducible refine ex_bl ?_
  | with_reducible refine ex_int ?_
  | with_reducible refine ex_str ?_
  | with_reducible refine ex_tup ?_
  | with_reducible refine ex_lst ?_
  | with_reducible refine ex_etup ?_
  | with_reducible refine br_true ?_
  | with_reducible refine br_false ?_
  | (with_reducible refine isBr ?_; refine br_t rfl ?_)
  | (with_reducible refine isBr ?_; refine br_f rfl ?_)
  | (with_reducible refine isFld ?_; with_reducible refine ex_fld (by walk_at "at") (by walk_at "fact") (by walk_at "fact") (by with_unfolding_all rfl) ?_)
  | (with_reducible refine isPut ?_; with_reducible refine ex_put (by walk_at "at") (by walk_at "fact") (by walk_at "fact") (by with_unfolding_all exact of_decide_eq_true rfl) ?_)
  | (with_reducible refine isMeth ?_; with_reducible refine ex_meth (by walk_at "at") (by with_unfolding_all rfl) ?_)
  | (with_reducible refine isTy ?_; with_reducible refine And.intro (ty_cell (by walk_at "at")) ?_)
  | with_reducible refine k_whole ?_
  | with_reducible refine k_count ?_
  | with_reducible refine k_amount ?_)
local macro_rules | `(tactic| walk_at "s") => `(tactic| first
  | (with_reducible refine isWE ?_; walk_at "ge")
  | (with_reducible refine isWS ?_; walk_at "gst")
  | (with_reducible refine isWT ?_; walk_at "gt")
  | (with_reducible refine isWR ?_; walk_at "gr")
  | (with_reducible refine isWA ?_; walk_at "ga")
  | (with_reducible refine isWC ?_; walk_at "gc")
  | walk_at "gx")
local macro_rules | `(tactic| walk_at "w") => `(tactic| repeat walk_at "s")

section
variable {P : Program} {w : World} {K : PySem.W.Frag} {mg : Str → Option Value} {base : Heap}
def ctF0 (g : Addr) (long : Int) (b o sn dd : Addr) : List (Str × D) := [("book", .ref g), ("long", .int long), ("clock", .int 0), ("bags", .ref b), ("opened", .ref o), ("seen", .ref sn), ("kept", .lst []), ("deeds", .ref dd)]
theorem mergeKD_nd : ∀ (l acc : List (Key × D)), ((acc ++ l).map (·.1)).Nodup → mergeKD acc l = acc ++ l
  | [], acc, _ => by unfold mergeKD; simp
  | e :: l, acc, nd => by
    have hn : valD acc e.1 = none := by
      unfold valD
      rw [Option.map_eq_none_iff, List.find?_eq_none]
      intro x hx hd
      rw [List.map_append, List.map_cons] at nd
      have := (List.nodup_append.mp nd).2.2 x.1 (List.mem_map_of_mem hx) e.1 List.mem_cons_self
      exact this (of_decide_eq_true hd)
    have ih := mergeKD_nd l (acc ++ [e]) (by rw [List.append_assoc]; exact nd)
    unfold mergeKD at ih ⊢
    rw [List.foldl_cons, putKD_none hn]
    rw [List.append_assoc] at ih
    exact ih
theorem bagK_nd {bs : List (Str × Int)} (h : (bs.map (·.1)).Nodup) : mergeKD [] (bagK bs) = bagK bs := by
  refine mergeKD_nd (bagK bs) [] ?_
  rw [List.nil_append]
  unfold bagK
  rw [List.map_map]
  have : bs.map ((fun x : Key × D => x.1) ∘ fun e => (.inr e.1, .int e.2)) = (bs.map (·.1)).map Sum.inr := by rw [List.map_map]; rfl
  rw [this]
  exact List.Pairwise.map (S := fun a b => a ≠ b) Sum.inr (fun a b hab e => hab (Sum.inr.inj e)) h
abbrev aCInit (K : PySem.W.Frag) : ASp := A4 fun self x y z L Φ _ => ∃ (c g : Addr) (long : Int) (bs : List (Str × Int)) (L0 : Sto), self = .ref c ∧ L = (c, .ins (He.ga K "Court") []) :: L0 ∧ x = .ref g ∧ y = .int long ∧ 1 ≤ long ∧ long ≤ 100 ∧ z = .etup (bs.map prD) ∧ BgOk bs ∧
  ∀ b o sn dd, Φ .non ((dd, .lst []) :: (sn, .dK []) :: (o, .lst []) :: (b, .dK (bagK bs)) :: (c, .ins (He.ga K "Court") (ctF0 g long b o sn dd)) :: L0)
theorem sc_Court_init : FnScope ["self", "signs", "wait", "purses", "hand", "many"] ["self", "signs", "wait", "purses"] d_Court_init.scope := ⟨rfl, rfl, rfl, by decide +kernel, rfl, by decide +kernel, by decide +kernel⟩
theorem ok_Court_init (T : Tx K mg) : FKOk P w K mg base 3 (He.fAd K d_Court_init.at_) ["self", "signs", "wait", "purses"] 2 ["purses", "wait"] (aCInit K) := by
  refine fokK_of (d := d_Court_init) T 21 (k := 2) rfl rfl (fun h => nomatch h) sc_Court_init (fun ds L Φ ex h => A4.len h) (fun _ _ _ _ _ _ us mv ws h1 _ h3 => match us, ws, h1, h3 with | [_, _], [_, _], _, _ => rfl) (fun cdv Ar outer s H E ds L Φ ex hr h => ?_)
  obtain ⟨self_, signs, wait, purses, rfl, h⟩ := h
  refine ⟨_, (pss_cons (ps_if (PW.pt (pw_or (pt_not (pt_val (pe_c (ok_is_count_signs T) hr rfl (g_is_count_signs T) (pa_cons (pv 2) pa_nil)))) (pw_or1 (pt_not (pt_chain op_le op_le pe_int (pv 2) (pe_gint rfl (i_MOST_WAIT T))))))) (pss_one (ps_raise rfl (takes_of rfl rfl rfl rfl) (pmk_own PySem.F.excBase_ValueError (x_NoNumber T).1 (g_NoNumber T) (x_NoNumber T).2.1 (raises_own (x_NoNumber T).2.2.1 (x_NoNumber T).2.2.2) rfl))) pss_nil)
    (pss_cons (ps_expr (pe_c (ok_look_purses T) hr rfl (g_look_purses T) (pa_cons (pv 3) pa_nil)))
    (pss_cons (ps_fld (pv 0) (pv 1) rfl)
    (pss_cons (ps_fld (pv 0) (pv 2) rfl)
    (pss_cons (ps_fld (pv 0) pe_int rfl)
    (pss_cons (ps_fld (pv 0) (pe_dc (own := [("hand", 4), ("many", 5)]) rfl sc_Court_init.nd (pi_tup (pv 3)) (blkOk_by (own := [("hand", 4), ("many", 5)]) (N := ["self", "signs", "wait", "purses", "hand", "many"]) (sc := d_Court_init.scope) (by decide +kernel)) (fun _ _ _ _ _ => by exact (pg_tupK (n := 2) (K := K) rfl rfl (pgs_cons (pg_name (i := 4) sc_Court_init.nd rfl (Or.inl rfl)) (pgs_cons (pg_name (i := 5) sc_Court_init.nd rfl (Or.inl rfl)) pgs_nil)))) (fun _ _ _ _ _ => by exact pts_nil) (fun _ _ _ _ _ => by exact (pv 4)) (fun _ _ _ _ _ => by exact (pv 5))) rfl)
    (pss_cons (ps_fld (pv 0) (pe_lst pa_nil) rfl)
    (pss_cons (ps_fld (pv 0) pe_dnewK rfl)
    (pss_cons (ps_fld (pv 0) (pe_lst pa_nil) rfl)
    (pss_one (ps_fld (pv 0) (pe_lst pa_nil) rfl))))))))))), ?_⟩
  obtain ⟨c, g, long, bs, L0, rfl, rfl, rfl, rfl, hl1, hl2, rfl, hb, h⟩ := h
  dsimp only [cxOf]
  walk_at "w"
  refine br_f (by simp; omega) ?_
  walk_at "w"
  refine we_chainT ?_
  walk_at "w"
  refine br_t (decide_eq_true hl1) ?_
  walk_at "w"
  refine br_f (by rw [decide_eq_true hl2]; rfl) ?_
  walk_at "w"
  refine k_purses hb ?_
  walk_at "w"
  refine we_dcM (wi_etup ?_)
  walk_at "w"
  refine ⟨fun _ _ => trivial, by have := hb.few; rw [List.length_map]; omega, fun d => (match d with | .tup [.str h, _] => .inr h | _ => .inl 0), sndD, fun d hd p kvs => ?_, fun b => ?_⟩
  · obtain ⟨e, he, rfl⟩ := List.mem_map.mp hd
    refine ⟨_, wg_tup (us := [(4, .str e.1), (5, .int e.2)]) rfl (wgs_cons wg_name (wgs_cons wg_name wgs_nil)), by simp, ?_⟩
    walk_at "w"
    exact ⟨rfl, rfl, rfl⟩
  · rw [show (bs.map prD).map (fun d => ((match d with | .tup [.str h, _] => Sum.inr h | _ => .inl 0 : Key), sndD d)) = bagK bs from by rw [List.map_map]; rfl, bagK_nd hb.nd]
    refine we_var rfl ?_
    refine ex_put (by walk_at "at") (by walk_at "fact") (by walk_at "fact") (by with_unfolding_all exact of_decide_eq_true rfl) ?_
    refine ws_seq (ws_fld (we_lstC (wa_nil ⟨by decide, fun o => we_var rfl ?_⟩)))
    refine ex_put (by walk_at "at") (by walk_at "fact") (by walk_at "fact") (by with_unfolding_all exact of_decide_eq_true rfl) ?_
    refine ws_seq (ws_fld (we_dnewK fun sn => we_var rfl ?_))
    refine ex_put (by walk_at "at") (by walk_at "fact") (by walk_at "fact") (by with_unfolding_all exact of_decide_eq_true rfl) ?_
    refine ws_seq (ws_fld (we_lst (wa_nil ⟨by decide, we_var rfl ?_⟩)))
    refine ex_put (by walk_at "at") (by walk_at "fact") (by walk_at "fact") (by with_unfolding_all exact of_decide_eq_true rfl) ?_
    refine ws_fld (we_lstC (wa_nil ⟨by decide, fun dd => we_var rfl ?_⟩))
    refine ex_put (by walk_at "at") (by walk_at "fact") (by walk_at "fact") (by with_unfolding_all exact of_decide_eq_true rfl) ?_
    exact h b o sn dd
def openDue (S : Str → D → Bool) (s : CtS) (l r : Str) (a b : Int) : Str :=
  match bget s.bags l, bget s.bags r with
  | some x, some y =>
    if l = r then "NoHand" else if a > x ∨ b > y ∨ a + b = 0 then "NoCoins"
    else if S l (Opn.d ⟨s.lanes.length, l, r, a, b⟩) = true ∧ S r (Opn.d ⟨s.lanes.length, l, r, a, b⟩) = true then "" else "NotSigned"
  | _, _ => "NoHand"
def openS (s : CtS) (l r : Str) (a b : Int) : CtS :=
  { s with bags := bput (bput s.bags l ((bget s.bags l).getD 0 - a)) r ((bget s.bags r).getD 0 - b), lanes := s.lanes ++ [⟨l, r, ⟨s.lanes.length, 0, a, b, []⟩, ⟨s.lanes.length, 0, a, b, []⟩, "open", none⟩], rows := s.rows ++ [rowD (.tup [.str "open", .str l, .str r, .int a, .int b]) []] }
theorem bool_of {c d : Bool} {p : Prop} (h1 : c = true ↔ p) (h2 : d = true ↔ p) : c = d := by
  cases c <;> cases d
  · rfl
  · exact nomatch h1.mpr (h2.mp rfl)
  · exact nomatch h2.mpr (h1.mp rfl)
  · rfl
theorem hole_mid {f : Sto → Sto} (hf : Hole f) {S T : Sto} {x : Addr × Co} : (f (S ++ x :: T)).Perm (x :: f (S ++ T)) := by
  obtain ⟨A, B, e⟩ := hf
  rw [e, e]
  have := List.perm_middle (a := x) (l₁ := A ++ S) (l₂ := T ++ B)
  simpa using this
theorem laC_snoc {K : PySem.W.Frag} {x : Addr} {r : Rd} : ∀ {la : List Addr} {ls : List Rd}, la.length = ls.length → laC K (la ++ [x]) (ls ++ [r]) = laC K la ls ++ [(x, .ins (He.ga K "Lane") r.fs)] := fun {la ls} h => by
  unfold laC
  rw [List.zip_append h, List.map_append]
  rfl
abbrev aLane (K : PySem.W.Frag) : ASp := A5 fun self x y z t L Φ ex => ∃ a la s sg f N M S l r m n, self = .ref a.c ∧ Part (MC K a la s sg) L f ∧ CtOk N la s ∧ N < 1000 ∧ SgOk M sg ∧ x = .str l ∧ y = .str r ∧ z = .int m ∧ t = .int n ∧ isNm l ∧ isNm r ∧ 0 ≤ m ∧ 0 ≤ n ∧ (∀ h d, S h d = true ↔ sgd sg h d) ∧
  (openDue S s l r m n = "" → ∀ x, Φ (.int s.lanes.length) (f (MC K a (la ++ [x]) (openS s l r m n) sg))) ∧ (openDue S s l r m n ≠ "" → ex (exC K (openDue S s l r m n)) (f (MC K a la s sg)))
theorem sc_Court_lane : FnScope ["self", "left", "right", "left_coins", "right_coins", "hand", "number", "paper"] ["self", "left", "right", "left_coins", "right_coins"] d_Court_lane.scope := ⟨rfl, rfl, rfl, by decide +kernel, rfl, by decide +kernel, by decide +kernel⟩
theorem ok_Court_lane (T : Tx K mg) : FKOk P w K mg base 7 (He.fAd K d_Court_lane.at_) ["self", "left", "right", "left_coins", "right_coins"] 3 ["right_coins", "left_coins"] (aLane K) := by
  refine fokK_of (d := d_Court_lane) T 22 (k := 6) rfl rfl (fun h => nomatch h) sc_Court_lane (fun ds L Φ ex h => A5.len h) (fun _ _ _ _ _ _ us mv ws h1 _ h3 => match us, ws, h1, h3 with | [_, _, _], [_, _], _, _ => rfl) (fun cdv Ar outer s H E ds L Φ ex hr h => ?_)
  obtain ⟨self_, left_, right_, left_coins, right_coins, rfl, h⟩ := h
  refine ⟨_, (pss_cons (ps_for (passes_of rfl) rfl (pi_tup (pe_tup (pa_cons (pv 1) (pa_cons (pv 2) pa_nil)))) (pg_name (i := 5) sc_Court_lane.nd rfl (Or.inl rfl)) (pss_one (ps_if (PW.pt (pw_or (pt_not (pt_val (pe_c (ok_is_name T) hr rfl (g_is_name T) (pa_cons (pv 5) pa_nil)))) (pw_or1 (pt_cmp (pc_dnotin (hu_of hr) (pv 5) (pe_fld (pv 0) rfl)))))) (pss_one (ps_raise rfl (takes_of rfl rfl rfl rfl) (pmk_own PySem.F.excBase_ValueError (x_NoHand T).1 (g_NoHand T) (x_NoHand T).2.1 (raises_own (x_NoHand T).2.2.1 (x_NoHand T).2.2.2) rfl))) pss_nil)))
    (pss_cons (ps_if (pt_cmpR op_eq (pv 1) (pv 2) (nomark _)) (pss_one (ps_raise rfl (takes_of rfl rfl rfl rfl) (pmk_own PySem.F.excBase_ValueError (x_NoHand T).1 (g_NoHand T) (x_NoHand T).2.1 (raises_own (x_NoHand T).2.2.1 (x_NoHand T).2.2.2) rfl))) pss_nil)
    (pss_cons (ps_expr (pe_mx (takes_of rfl rfl rfl rfl) (pv 0) (c_Court T) (m_Court_look_coins T) (ok_Court_look_coins T) hr (pa_cons (pv 1) (pa_cons (pv 3) pa_nil))))
    (pss_cons (ps_expr (pe_mx (takes_of rfl rfl rfl rfl) (pv 0) (c_Court T) (m_Court_look_coins T) (ok_Court_look_coins T) hr (pa_cons (pv 2) (pa_cons (pv 4) pa_nil))))
    (pss_cons (ps_if (pt_cmpR op_eq (pe_op op_add (pv 3) (pv 4)) pe_int (nomark _)) (pss_one (ps_raise rfl (takes_of rfl rfl rfl rfl) (pmk_own PySem.F.excBase_ValueError (x_NoCoins T).1 (g_NoCoins T) (x_NoCoins T).2.1 (raises_own (x_NoCoins T).2.2.1 (x_NoCoins T).2.2.2) rfl))) pss_nil)
    (pss_cons (ps_set (i := 6) sc_Court_lane.nd rfl (Or.inl rfl) (pe_callB call_len rfl (f_len T) (by decide +kernel) (pa_cons (pe_fld (pv 0) rfl) pa_nil)))
    (pss_cons (ps_set (i := 7) sc_Court_lane.nd rfl (Or.inl rfl) (pe_tup (pa_cons pe_str (pa_cons (pv 6) (pa_cons (pv 1) (pa_cons (pv 2) (pa_cons (pv 3) (pa_cons (pv 4) pa_nil))))))))
    (pss_cons (ps_if (PW.pt (pw_or (pt_not (pt_val (pe_m (pe_fld (pv 0) rfl) (c_Signs T) (m_Signs_signed T) (ok_Signs_signed T) hr (pa_cons (pv 1) (pa_cons (pv 7) pa_nil))))) (pw_or1 (pt_not (pt_val (pe_m (pe_fld (pv 0) rfl) (c_Signs T) (m_Signs_signed T) (ok_Signs_signed T) hr (pa_cons (pv 2) (pa_cons (pv 7) pa_nil)))))))) (pss_one (ps_raise rfl (takes_of rfl rfl rfl rfl) (pmk_own PySem.F.excBase_ValueError (x_NotSigned T).1 (g_NotSigned T) (x_NotSigned T).2.1 (raises_own (x_NotSigned T).2.2.1 (x_NotSigned T).2.2.2) rfl))) pss_nil)
    (pss_cons (ps_daug (hu_of hr) (pe_fld (pv 0) rfl) (pv 1) (pv 3) in_sub (fun _ _ _ => rfl))
    (pss_cons (ps_daug (hu_of hr) (pe_fld (pv 0) rfl) (pv 2) (pv 4) in_sub (fun _ _ _ => rfl))
    (pss_cons (ps_expr (pe_bm PySem.F.plainAttrs_list PySem.F.slot_list_append PySem.F.type_list_append mt_append (pe_fld (pv 0) rfl) (pa_cons (pe_mk (k_Lane T) (ok_Lane_init T) hr rfl (g_Lane T) (pa_cons (pv 1) (pa_cons (pv 2) (pa_cons (pe_c (ok_first_state T) hr rfl (g_first_state T) (pa_cons (pv 6) (pa_cons (pv 3) (pa_cons (pv 4) pa_nil)))) pa_nil)))) pa_nil)))
    (pss_cons (ps_expr (pe_bm PySem.F.plainAttrs_list PySem.F.slot_list_append PySem.F.type_list_append mt_append (pe_fld (pv 0) rfl) (pa_cons (pe_tup (pa_cons (pe_tup (pa_cons pe_str (pa_cons (pv 1) (pa_cons (pv 2) (pa_cons (pv 3) (pa_cons (pv 4) pa_nil)))))) (pa_cons (pe_lst pa_nil) pa_nil))) pa_nil)))
    (pss_one (ps_ret (pv 6))))))))))))))), ?_⟩
  obtain ⟨a, la, s, sg, f, N, M, S, l, r, m, n, rfl, ⟨hf, rfl⟩, ok, hN, sok, rfl, rfl, rfl, rfl, nl, nr, hm, hn, hS, h1, h2⟩ := h
  dsimp only [cxOf]
  have odn : bget s.bags l = none → openDue S s l r m n = "NoHand" := fun e => by unfold openDue; rw [e]
  have odn2 : bget s.bags r = none → openDue S s l r m n = "NoHand" := fun e => by
    unfold openDue
    rw [e]
    cases bget s.bags l <;> rfl
  refine ws_cut (fun Γ' L' => L' = f (MC K a la s sg) ∧ (bget s.bags l).isSome = true ∧ (bget s.bags r).isSome = true ∧ ∃ x, Γ' = [some (.ref a.c), some (.str l), some (.str r), some (.int m), some (.int n), x, none, none]) ?_ ?_
  · refine ws_for (wi_tup ?_)
    walk_at "w"
    refine ⟨fun i Γ' L' => L' = f (MC K a la s sg) ∧ (∃ x, Γ' = [some (.ref a.c), some (.str l), some (.str r), some (.int m), some (.int n), x, none, none]) ∧ (0 < i → (bget s.bags l).isSome = true) ∧ (1 < i → (bget s.bags r).isSome = true), ⟨rfl, ⟨_, rfl⟩, fun z => absurd z (by decide), fun z => absurd z (by decide)⟩, fun _ _ _ _ => trivial, fun i d Γ' L' hd hI => ?_, fun Γ' L' hI => ?_⟩
    · obtain ⟨rfl, ⟨x, rfl⟩, hi1, hi2⟩ := hI
      match i, hd with
      | 0, hd =>
        cases hd
        refine ⟨_, wg_name, ?_⟩
        dsimp only [setG]
        walk_at "w"
        refine k_name nl ?_
        walk_at "w"
        refine ⟨_, _, .inr l, _, rfl, rfl, by walk_at "at", ?_⟩
        rw [bagK_get]
        walk_at "w"
        cases hb : bget s.bags l with
        | none =>
          refine br_t rfl ?_
          walk_at "w"
          rw [odn hb] at h2
          exact h2 (by decide)
        | some v =>
          refine br_f rfl ?_
          exact ws_next ⟨rfl, ⟨_, rfl⟩, fun _ => rfl, fun z => absurd z (by decide)⟩
      | 1, hd =>
        cases hd
        refine ⟨_, wg_name, ?_⟩
        dsimp only [setG]
        walk_at "w"
        refine k_name nr ?_
        walk_at "w"
        refine ⟨_, _, .inr r, _, rfl, rfl, by walk_at "at", ?_⟩
        rw [bagK_get]
        walk_at "w"
        cases hb : bget s.bags r with
        | none =>
          refine br_t rfl ?_
          walk_at "w"
          rw [odn2 hb] at h2
          exact h2 (by decide)
        | some v =>
          refine br_f rfl ?_
          exact ws_next ⟨rfl, ⟨_, rfl⟩, fun _ => hi1 (by decide), fun _ => rfl⟩
      | i + 2, hd => simp at hd
    · obtain ⟨rfl, ⟨x, rfl⟩, hi1, hi2⟩ := hI
      exact ⟨rfl, hi1 (by simp), hi2 (by simp), _, rfl⟩
  · rintro Γ' L' ⟨rfl, hbl, hbr, x0, rfl⟩
    obtain ⟨x, hx⟩ := Option.isSome_iff_exists.mp hbl
    obtain ⟨y, hy⟩ := Option.isSome_iff_exists.mp hbr
    have od : openDue S s l r m n = if l = r then ("NoHand" : Str) else if m > x ∨ n > y ∨ m + n = 0 then ("NoCoins" : Str) else if S l (Opn.d ⟨s.lanes.length, l, r, m, n⟩) = true ∧ S r (Opn.d ⟨s.lanes.length, l, r, m, n⟩) = true then ("" : Str) else ("NotSigned" : Str) := by
      unfold openDue
      rw [hx, hy]
    walk_at "w"
    by_cases c1 : l = r
    · refine br_t (decide_eq_true c1) ?_
      walk_at "w"
      rw [if_pos c1] at od
      rw [od] at h2
      exact h2 (by decide)
    refine br_f (decide_eq_false c1) ?_
    rw [if_neg c1] at od
    walk_at "w"
    refine ⟨_, _, _, rfl, a, la, s, sg, f, N, l, m, x, rfl, ⟨hf, rfl⟩, ok, rfl, rfl, hm, hx, fun c2 => ?_, fun c2 => ?_⟩
    · walk_at "w"
      refine ⟨_, _, _, rfl, a, la, s, sg, f, N, r, n, y, rfl, ⟨hf, rfl⟩, ok, rfl, rfl, hn, hy, fun c3 => ?_, fun c3 => ?_⟩
      · walk_at "w"
        by_cases c4 : m + n = 0
        · refine br_t (decide_eq_true c4) ?_
          walk_at "w"
          rw [if_pos (.inr (.inr c4))] at od
          rw [od] at h2
          exact h2 (by decide)
        refine br_f (decide_eq_false c4) ?_
        rw [if_neg (by omega)] at od
        walk_at "w"
        rw [List.length_map, ok.ll]
        have oo : Ppr.ok (.o ⟨s.lanes.length, l, r, m, n⟩) := ⟨by show 0 ≤ (s.lanes.length : Int); omega, nl, nr, c1, hm, hn, by show 0 < m + n; omega⟩
        obtain ⟨pf, pe⟩ := part_sg (K := K) (a := a) (la := la) (s := s) (sg := sg) hf
        walk_at "w"
        refine ⟨_, _, _, rfl, At.in hf (by rw [mc_eq]; exact At.right At.here), by with_unfolding_all rfl, ?_⟩
        walk_at "w"
        refine ⟨_, _, _, rfl, a.g, a.h, sg, M, _, l, .o ⟨s.lanes.length, l, r, m, n⟩, rfl, rfl, nl, rfl, oo, ⟨pf, pe⟩, sok, fun c hc => ?_⟩
        rw [bool_of hc (hS l _)]
        cases d1 : S l (Ppr.d (.o ⟨s.lanes.length, l, r, m, n⟩)) with
        | false =>
          walk_at "w"
          rw [if_neg (fun z => absurd (show S l (Ppr.d (.o ⟨s.lanes.length, l, r, m, n⟩)) = true from z.1) (by rw [d1]; decide))] at od
          rw [od] at h2
          exact h2 (by decide)
        | true =>
        walk_at "w"
        refine ⟨_, _, _, rfl, At.in hf (by rw [mc_eq]; exact At.right At.here), by with_unfolding_all rfl, ?_⟩
        walk_at "w"
        refine ⟨_, _, _, rfl, a.g, a.h, sg, M, _, r, .o ⟨s.lanes.length, l, r, m, n⟩, rfl, rfl, nr, rfl, oo, ⟨pf, pe⟩, sok, fun c hc => ?_⟩
        rw [bool_of hc (hS r _)]
        cases d2 : S r (Ppr.d (.o ⟨s.lanes.length, l, r, m, n⟩)) with
        | false =>
          walk_at "w"
          rw [if_neg (fun z => absurd (show S r (Ppr.d (.o ⟨s.lanes.length, l, r, m, n⟩)) = true from z.2) (by rw [d2]; decide))] at od
          rw [od] at h2
          exact h2 (by decide)
        | true =>
        rw [if_pos ⟨d1, d2⟩] at od
        have h1 := h1 od
        unfold openS at h1
        rw [hx, hy] at h1
        walk_at "w"
        refine ws_daug (g := fun i j => i - j) (fun i j H Q q => ⟨i, j, rfl, rfl, q⟩) ?_
        walk_at "w"
        refine ⟨_, _, .inr l, x, _, rfl, rfl, by walk_at "at", by rw [bagK_get, hx]; rfl, ?_⟩
        walk_at "w"
        refine ⟨_, _, _, rfl, by walk_at "at", by have := ok.bg.few; unfold bagK; rw [List.length_map]; omega, ?_⟩
        rw [bagK_put hbl]
        refine ws_seq ?_
        refine ws_daug (g := fun i j => i - j) (fun i j H Q q => ⟨i, j, rfl, rfl, q⟩) ?_
        have hy2 : bget (bput s.bags l (x - m)) r = some y := by rw [bput_get, if_neg (fun z => c1 z.symm), hy]
        show WE P w K E _ _ (f (MC K a la { s with bags := bput s.bags l (x - m) } sg)) _ _
        walk_at "w"
        refine ⟨_, _, .inr r, y, _, rfl, rfl, by walk_at "at", by rw [bagK_get]; dsimp only; rw [hy2]; rfl, ?_⟩
        walk_at "w"
        refine ⟨_, _, _, rfl, by walk_at "at", by have := ok.bg.few; unfold bagK bput; rw [List.length_map, List.length_map]; omega, ?_⟩
        dsimp only
        rw [bagK_put (by rw [hy2]; rfl)]
        show WS P w K E _ _ (f (MC K a la { s with bags := bput (bput s.bags l (x - m)) r (y - n) } sg)) _
        walk_at "w"
        refine k_first ?_
        walk_at "w"
        intro xa
        refine ⟨_, _, _, _, rfl, xa, _, l, r, ⟨s.lanes.length, 0, m, n, []⟩, rfl, rfl, rfl, rfl, rfl, rfl, ?_⟩
        walk_at "w"
        refine wm_append (At.tail (At.in hf at_mo)) (by rw [List.length_map, ok.ll]; have := ok.nl; omega) ?_
        have hp : (f (MC K a (la ++ [xa]) { s with bags := bput (bput s.bags l (x - m)) r (y - n), lanes := s.lanes ++ [⟨l, r, ⟨s.lanes.length, 0, m, n, []⟩, ⟨s.lanes.length, 0, m, n, []⟩, "open", none⟩] } sg)).Perm
            ((xa, .ins (He.ga K "Lane") (Rd.fs ⟨l, r, ⟨s.lanes.length, 0, m, n, []⟩, ⟨s.lanes.length, 0, m, n, []⟩, "open", none⟩)) :: f ((a.c, .ins (He.ga K "Court") (ctF a s)) :: (a.b, .dK (bagK (bput (bput s.bags l (x - m)) r (y - n)))) :: (a.o, .lst (la.map D.ref ++ [.ref xa])) :: (a.sn, .dK (seenK s.seen)) :: (a.dd, .lst s.rows) :: (laC K la s.lanes ++ SgC K a.g a.h sg))) := by
          unfold MC
          dsimp only
          rw [laC_snoc ok.ll, List.map_append, List.append_assoc]
          exact hole_mid hf (S := (a.c, .ins (He.ga K "Court") (ctF a s)) :: (a.b, .dK (bagK (bput (bput s.bags l (x - m)) r (y - n)))) :: (a.o, .lst (la.map D.ref ++ [.ref xa])) :: (a.sn, .dK (seenK s.seen)) :: (a.dd, .lst s.rows) :: laC K la s.lanes) (T := SgC K a.g a.h sg)
        refine WS.perm hp ?_
        walk_at "w"
        refine wm_append (by walk_at "at") (by have := ok.nr; show s.rows.length < _; omega) ?_
        walk_at "w"
        exact h1 xa
      · rw [if_pos (.inr (.inl c3))] at od
        rw [od] at h2
        exact h2 (by decide)
    · rw [if_pos (.inl c2)] at od
      rw [od] at h2
      exact h2 (by decide)
end
end Cl
set_option Elab.async false
set_option linter.all false
set_option maxRecDepth 100000
set_option maxHeartbeats 4000000
namespace Cl
open PySem PySem.Spec PyProof.Rows L2
section
variable {P : Program} {w : World} {K : PySem.W.Frag} {E : XK} {Γ : Gm} {L : Sto} {ex : Ex} {Φ : D → Sto → Prop} {ta tb tc te : TE} {x y : D}
theorem lst_dp {F H : Hp} {v : V} {ds : List D} (S : Spl P w K F L H) (r : Rs K F v x) (h : x = .lst ds ∨ ∃ p f, x = .ref p ∧ At p (.lst ds) L f) (hp : D.pures ds = true) : Dp K H v (.list (D.pys ds)) := by
  obtain ⟨a, xs, rfl, h1, ra⟩ := lst_val S r h
  exact .lst (SqL.of h1) (ra.dp S.same hp)
theorem wr_neNil {ds : List D} (hx : x = .lst ds ∨ ∃ p f, x = .ref p ∧ At p (.lst ds) L f) (hp : D.pures ds = true) (hs : SeqAt.shaped (.list (D.pys ds)) = true) (q : Φ (.bl (!ds.isEmpty)) L) : WR P w K (rNeD K) x (.lst []) L Φ := fun F H vx vy Q r1 r2 S k => by
  refine ⟨.list (D.pys ds), .list (D.pys []), lst_dp S r1 hx hp, lst_dp S r2 (.inl rfl) (by unfold D.pures; rfl), hs, by decide +kernel, ?_⟩
  have e : PyData.eqv (.list (D.pys ds)) (.list (D.pys [])) = ds.isEmpty := by
    cases ds with
    | nil => simp [D.pys, PyData.eqv, PyData.eqvAll]
    | cons d ds => simp [D.pys, PyData.eqv, PyData.eqvAll]
  rw [e]
  exact k.here S (.bl _) q
theorem ints_pures : ∀ ns : List Int, D.pures (ns.map D.int) = true
  | [] => by simp [D.pures]
  | n :: ns => by rw [List.map_cons, D.pures, ints_pures ns]; simp [D.pure]
theorem ints_lay : ∀ ns : List Int, PyData.canLayAll0 (D.pys (ns.map D.int)) = true ∧ PyData.depthAll (D.pys (ns.map D.int)) = 0
  | [] => by simp [D.pys, PyData.canLayAll0, PyData.depthAll]
  | n :: ns => by
    have := ints_lay ns
    rw [List.map_cons, D.pys, PyData.canLayAll0, PyData.depthAll, this.1, this.2]
    simp [D.py, PyData.canLay0, PyData.depth]
theorem ints_shaped (ns : List Int) : SeqAt.shaped (.list (D.pys (ns.map D.int))) = true := by
  have := ints_lay ns
  unfold SeqAt.shaped
  simp [PyData.canLay0, PyData.depth, this.1, this.2]
theorem ex_setL {A : Pst} {p : Addr} {ds : List D} {n : Nat} {g : Co → Sto} (h1 : At p (.lst ds) L g) (h2 : n < ds.length) (h : A.nx Γ (g (.lst (ds.set n y)))) :
    ∃ (p' : Addr) (ds' : List D) (n' : Nat) (g' : Co → Sto), D.ref p = .ref p' ∧ D.int (n : Nat) = .int ((n' : Nat) : Int) ∧ At p' (.lst ds') L g' ∧ n' < ds'.length ∧ A.nx Γ (g' (.lst (ds'.set n' y))) := ⟨p, ds, n, g, rfl, rfl, h1, h2, h⟩
/-- a comprehension that leaves the cells alone, the answer a cell -/
theorem we_lcPC {wi : TI} {g : TG} {tt : TT} {vs : List Nat} (h : WI P w K E wi Γ L ex fun ds stay L1 => (∀ p acc, stay ((p, .lst acc) :: L1)) ∧ ds.length ≤ 100000 ∧ ∃ (sel : D → Bool) (f : D → D),
    (∀ d ∈ ds, ∀ p acc, ∃ us, WG P w K g d ((p, .lst acc) :: L1) us ∧ (∀ u ∈ us, u.1 ∈ vs) ∧ WT P w K E tt (setG (wipeG Γ vs) us) ((p, .lst acc) :: L1) ex fun b L3 =>
      (b = true → WE P w K E te (setG (wipeG Γ vs) us) L3 ex fun y L4 => sel d = true ∧ y = f d ∧ L4 = (p, .lst acc) :: L1) ∧ (b = false → sel d = false ∧ L3 = (p, .lst acc) :: L1)) ∧
    ∀ p, Φ (.ref p) ((p, .lst ((ds.filter sel).map f)) :: L1)) : WE P w K E (tLc wi g tt te vs) Γ L ex Φ := by
  refine we_lcC ?_
  intro σ F H R sl S lk k
  refine h σ F H R sl S lk fun J ds stay F1 H1 L1 e1 S1 it ⟨hst, hl, sel, f, hs, hf⟩ => k J ds stay F1 H1 L1 e1 S1 it ⟨fun i acc L' => L' = L1 ∧ acc = ((ds.take i).filter sel).map f ∧ i ≤ ds.length, ⟨rfl, by simp, Nat.zero_le _⟩, fun i acc L' p ⟨e, _⟩ => by rw [e]; exact hst p acc, fun i d acc L' p hd ⟨e, ea, hi⟩ => ?_, fun acc L' p ⟨e, ea, _⟩ => ?_⟩
  · subst e
    have hlt : i < ds.length := (List.getElem?_eq_some_iff.mp hd).1
    have tk : ds.take (i + 1) = ds.take i ++ [d] := by rw [List.take_add_one, hd]; rfl
    obtain ⟨us, hg, hu, ht⟩ := hs d (List.mem_of_getElem? hd) p acc
    refine ⟨us, hg, hu, ht.imp fun b L3 ⟨q1, q2⟩ => ⟨fun hb => (q1 hb).imp fun y L4 ⟨a1, a2, a3⟩ => ⟨?_, L', a3, rfl, ?_, hlt⟩, fun hb => ⟨L', (q2 hb).2, rfl, ?_, hlt⟩⟩⟩
    · rw [ea, List.length_map]
      exact Nat.lt_of_le_of_lt (List.length_filter_le _ _) (by rw [List.length_take]; omega)
    · rw [tk, List.filter_append, List.map_append, ea, a2]
      simp [a1]
    · rw [tk, List.filter_append, List.map_append, ea]
      simp [(q2 hb).1]
  · subst e ea
    rw [List.take_length]
    exact hf p
end
local macro_rules | `(tactic| walk_at "at") => `(tactic| first | assumption | repeat first | with_reducible exact At.here | with_reducible exact at_mc | with_reducible exact at_mb | with_reducible exact at_mo | with_reducible exact at_ms | with_reducible exact at_md | with_reducible apply At.tail | (with_reducible apply At.in (by assumption)))
local macro_rules | `(tactic| walk_at "fact") => `(tactic| first | exact c_Court (by assumption) | exact c_Lane (by assumption) | exact c_Signs (by assumption) | exact n_Court_clock (by assumption) | exact n_Court_long (by assumption) | exact n_Court_bags (by assumption) | exact n_Court_book (by assumption) | exact n_Court_opened (by assumption) | exact n_Court_seen (by assumption) | exact n_Court_kept (by assumption) | exact n_Court_deeds (by assumption) | exact n_Lane_both (by assumption) | exact n_Lane_first (by assumption) | exact n_Lane_standing (by assumption) | exact n_Lane_mood (by assumption) | exact n_Lane_ending (by assumption) | exact n_Signs_by_hand (by assumption))
local macro_rules | `(tactic| walk_at "ge") => `(tactic| first
  | with_reducible refine we_var rfl ?_
  | with_reducible refine we_int ?_
  | with_reducible refine we_str ?_
  | with_reducible refine we_ty ?_
  | with_reducible refine we_bl ?_
  | with_reducible refine we_non ?_
  | with_reducible refine we_ref ?_
  | with_reducible refine we_op ?_
  | with_reducible refine we_cb ?_
  | with_reducible refine we_call0 ?_
  | with_reducible refine we_call ?_
  | with_reducible refine we_lst ?_
  | with_reducible refine we_tup ?_
  | with_reducible refine we_andV ?_
  | with_reducible refine we_orV ?_
  | with_reducible refine we_notV ?_
  | with_reducible refine we_if ?_
  | with_reducible refine we_chain ?_
  | with_reducible refine we_sl ?_
  | with_reducible refine we_lz ?_
  | with_reducible refine we_dnewK (fun _ => ?_)
  | with_reducible refine we_dnewN (fun _ => ?_)
  | with_reducible refine we_fld ?_
  | with_reducible refine we_dget ?_
  | with_reducible refine we_din ?_
  | with_reducible refine we_dnotIn ?_
  | with_reducible refine we_dget2 ?_
  | with_reducible refine we_dsetd ?_
  | with_reducible refine we_make ?_
  | with_reducible refine we_meth0 ?_
  | with_reducible refine we_meth ?_
  | with_reducible refine we_bm ?_)
local macro_rules | `(tactic| walk_at "gt") => `(tactic| first
  | with_reducible refine wt_B ?_
  | with_reducible refine wt_test ?_
  | with_reducible refine wt_not ?_
  | with_reducible refine wt_and ?_
  | with_reducible refine wt_or ?_
  | with_reducible refine wt_yes ?_)
local macro_rules | `(tactic| walk_at "gst") => `(tactic| first
  | with_reducible refine ws_ret ?_
  | with_reducible refine ws_retN ?_
  | with_reducible refine ws_seq ?_
  | with_reducible refine ws_set ?_
  | with_reducible refine ws_drop ?_
  | with_reducible refine ws_if ?_
  | with_reducible refine ws_next ?_
  | with_reducible refine ws_raise ?_
  | with_reducible refine ws_asgS ?_
  | with_reducible refine ws_setL ?_
  | with_reducible refine ws_setN ?_
  | with_reducible refine ws_asg ?_
  | with_reducible refine ws_fld ?_
  | with_reducible refine ws_fldaddI ?_
  | with_reducible refine ws_dput ?_)
local macro_rules | `(tactic| walk_at "gr") => `(tactic| first
  | with_reducible refine wr_ixT rfl ?_
  | with_reducible refine wr_ixL rfl ?_
  | with_reducible refine ix_t0 ?_
  | with_reducible refine ix_t1 ?_
  | with_reducible refine ix_t2 ?_
  | with_reducible refine ix_t3 ?_
  | with_reducible refine ix_t4 ?_
  | with_reducible refine ix_l0 ?_
  | with_reducible refine ix_l1 ?_
  | with_reducible refine ix_l2 ?_
  | with_reducible refine ix_l3 ?_
  | with_reducible refine ix_l4 ?_
  | with_reducible refine wr_int ?_
  | with_reducible refine wr_bool ?_
  | with_reducible refine wr_eqI ?_
  | with_reducible refine wr_neI ?_
  | with_reducible refine wr_eqS ?_
  | with_reducible refine wr_neS ?_
  | with_reducible refine wr_eqB ?_
  | with_reducible refine wr_neB ?_
  | with_reducible refine wr_isN ?_
  | with_reducible refine wr_notN ?_
  | (with_reducible refine isIxC ?_; with_reducible refine wr_ixC (by walk_at "at") (by with_unfolding_all rfl) ?_))
local macro_rules | `(tactic| walk_at "gc") => `(tactic| first
  | with_reducible refine wc_isi rfl rfl ?_
  | with_reducible refine wc_isi (by decide) (by decide +kernel) ?_
  | (with_reducible refine isLen ?_; with_reducible refine wc_lenC (by walk_at "at") ?_)
  | with_reducible refine wc_lenT ?_
  | with_reducible refine wc_lenL ?_)
local macro_rules | `(tactic| walk_at "ga") => `(tactic| first
  | with_reducible refine wa_cons ?_
  | with_reducible refine wa_nil ?_)
local macro_rules | `(tactic| walk_at "gx") => `(tactic| first
  | (with_reducible refine isLn ?_; with_reducible refine lenAnd (by simp) ?_)
  | with_reducible refine wsl_tup ?_
  | with_reducible refine wo_none ?_
  | with_reducible refine wo_some ?_
  | with_reducible refine ex_bl ?_
  | with_reducible refine ex_int ?_
  | with_reducible refine ex_str ?_
  | with_reducible refine ex_tup ?_
  | with_reducible refine ex_lst ?_
  | with_reducible refine ex_etup ?_
  | with_reducible refine br_true ?_
  | with_reducible refine br_false ?_
  | (with_reducible refine isBr ?_; refine br_t rfl ?_)
  | (with_reducible refine isBr ?_; refine br_f rfl ?_)
  | (with_reducible refine isFld ?_; with_reducible refine ex_fld (by walk_at "at") (by walk_at "fact") (by walk_at "fact") (by with_unfolding_all rfl) ?_)
  | (with_reducible refine isPut ?_; with_reducible refine ex_put (by walk_at "at") (by walk_at "fact") (by walk_at "fact") (by with_unfolding_all exact of_decide_eq_true rfl) ?_)
  | (with_reducible refine isMeth ?_; with_reducible refine ex_meth (by walk_at "at") (by with_unfolding_all rfl) ?_)
  | (with_reducible refine isTy ?_; with_reducible refine And.intro (ty_cell (by walk_at "at")) ?_)
  | with_reducible refine k_whole ?_
  | with_reducible refine k_count ?_
  | with_reducible refine k_amount ?_)
local macro_rules | `(tactic| walk_at "s") => `(tactic| first
  | (with_reducible refine isWE ?_; walk_at "ge")
  | (with_reducible refine isWS ?_; walk_at "gst")
  | (with_reducible refine isWT ?_; walk_at "gt")
  | (with_reducible refine isWR ?_; walk_at "gr")
  | (with_reducible refine isWA ?_; walk_at "ga")
  | (with_reducible refine isWC ?_; walk_at "gc")
  | walk_at "gx")
local macro_rules | `(tactic| walk_at "w") => `(tactic| repeat walk_at "s")

section
variable {P : Program} {w : World} {K : PySem.W.Frag} {mg : Str → Option Value} {base : Heap}
/-! ### the well -/
structure Wl where
  gr : List Int
  sm : List Int
  st : Int
  c : Int
abbrev big : Int := 2147483563
structure Wl.ok (x : Wl) : Prop where
  gr : ∀ n ∈ x.gr, 0 ≤ n
  gl : x.gr.length ≤ 1000
  sl : x.sm.length ≤ 1000
  sm : ∀ n ∈ x.sm, 0 ≤ n ∧ n < big
  st : 0 ≤ x.st ∧ x.st < big
  c : 0 ≤ x.c
def WlC (a g : Addr) (x : Wl) : Sto := [(a, .lst [.ref g, .lst (x.sm.map D.int), .int x.st, .int x.c]), (g, .lst (x.gr.map D.int))]
abbrev aTake : ASp := A2 fun self y L Φ _ => ∃ a g x f m, self = .ref a ∧ Part (WlC a g x) L f ∧ x.ok ∧ x.c < 1000000 ∧ y = .int m ∧ 0 < m ∧ m.natAbs < 2 ^ 8000 ∧
  ∀ x' : Wl, x'.ok → x'.sm = x.sm → x'.c ≤ x.c + 1 → ∀ n, 0 ≤ n → n < m → Φ (.int n) (f (WlC a g x'))
theorem sc_law_take : FnScope ["_law_well_here", "_law_many", "_law_number", "_law_cell"] ["_law_well_here", "_law_many"] d_law_take.scope := ⟨rfl, rfl, rfl, by decide +kernel, rfl, by decide +kernel, by decide +kernel⟩
theorem ok_law_take (T : Tx K mg) : FOk P w K mg base 1 (He.fAd K d_law_take.at_) ["_law_well_here", "_law_many"] aTake := by
  refine fok_of (d := d_law_take) T 42 (k := 0) rfl rfl rfl sc_law_take (fun ds L Φ ex h => A2.len h) (fun _ _ _ _ _ _ us hl => match us, hl with | [_, _], _ => rfl) (fun cdv Ar outer s H E ds L Φ ex hr h => ?_)
  obtain ⟨well_here, many_, rfl, h⟩ := h
  refine ⟨_, (pss_cons (ps_if (pt_cmpR (op_neD hr.units) (pe_ix ix_list (pv 0) pe_int (fun _ _ => rfl)) (pe_lst pa_nil) (nomark _)) (pss_cons (ps_set (i := 2) sc_law_take.nd rfl (Or.inl rfl) (pe_ix ix_list (pe_ix ix_list (pv 0) pe_int (fun _ _ => rfl)) pe_int (fun _ _ => rfl)))
    (pss_cons (ps_asg (pe_op op_fdivB (pv 2) (pv 1)) (pg_sub (pe_ix ix_list (pv 0) pe_int (fun _ _ => rfl)) pe_int set_list))
    (pss_cons (ps_if (pt_cmpR op_lt (pv 2) (pv 1) (nomark _)) (pss_one (ps_expr (pe_bm PySem.F.plainAttrs_list PySem.F.slot_list_pop PySem.F.type_list_pop mt_popAt (pe_ix ix_list (pv 0) pe_int (fun _ _ => rfl)) (pa_cons pe_int pa_nil)))) pss_nil)
    (pss_one (ps_ret (pe_op op_mod (pv 2) (pv 1))))))) pss_nil)
    (pss_cons (ps_asg (pe_op op_add (pe_ix ix_list (pv 0) pe_int (fun _ _ => rfl)) pe_int) (pg_sub (pv 0) pe_int set_list))
    (pss_cons (ps_set (i := 3) sc_law_take.nd rfl (Or.inl rfl) pe_int)
    (pss_cons (ps_if (pt_cmpR (op_neD hr.units) (pe_ix ix_list (pv 0) pe_int (fun _ _ => rfl)) (pe_lst pa_nil) (nomark _)) (pss_one (ps_set (i := 3) sc_law_take.nd rfl (Or.inl rfl) (pe_op op_add (pe_ix ix_list (pe_ix ix_list (pv 0) pe_int (fun _ _ => rfl)) (pe_op op_mod (pe_ix ix_list (pv 0) pe_int (fun _ _ => rfl)) (pe_callB call_len rfl (f_len T) (by decide +kernel) (pa_cons (pe_ix ix_list (pv 0) pe_int (fun _ _ => rfl)) pa_nil))) (fun _ _ => rfl)) pe_int))) pss_nil)
    (pss_cons (ps_set (i := 2) sc_law_take.nd rfl (Or.inl rfl) (pe_op op_mod (pe_op op_pow (pe_op op_add (pe_ix ix_list (pv 0) pe_int (fun _ _ => rfl)) (pe_op op_mul (pv 3) (pe_op op_add (pe_op op_mul (pe_ix ix_list (pv 0) pe_int (fun _ _ => rfl)) pe_int) pe_int))) pe_int) pe_int))
    (pss_cons (ps_asg (pe_op op_mod (pe_op op_add (pe_op op_add (pe_op op_mul (pe_ix ix_list (pv 0) pe_int (fun _ _ => rfl)) pe_int) (pv 2)) (pe_ix ix_list (pv 0) pe_int (fun _ _ => rfl))) pe_int) (pg_sub (pv 0) pe_int set_list))
    (pss_one (ps_ret (pe_op op_mod (pe_op op_fdivB (pv 2) pe_int) (pv 1)))))))))), ?_⟩
  obtain ⟨a, g, x, f, m, rfl, ⟨hf, rfl⟩, ok, hc, rfl, hm, hm2, h⟩ := h
  dsimp only [cxOf]
  unfold WlC at h ⊢
  walk_at "w"
  refine wr_neNil (ds := x.gr.map D.int) (.inr ⟨g, _, rfl, by walk_at "at"⟩) (ints_pures _) (ints_shaped _) ?_
  walk_at "w"
  obtain ⟨gr, sm, st, c⟩ := x
  cases gr with
  | cons n0 gr =>
    have hn0 : 0 ≤ n0 := ok.gr n0 List.mem_cons_self
    refine br_t rfl ?_
    walk_at "w"
    refine wr_ixC (by walk_at "at") (atI_nat (n := 0) (d := .int n0) rfl) ?_
    walk_at "w"
    refine wr_divW (wide_div hm hm2 (by decide) (by decide)) ?_
    walk_at "w"
    refine ex_setL (n := 0) (by walk_at "at") (by simp) ?_
    dsimp only [List.map_cons, List.set_cons_zero]
    have hq : 0 ≤ n0 / m := Int.ediv_nonneg hn0 (by omega)
    have hr0 : 0 ≤ n0 % m := Int.emod_nonneg _ (by omega)
    have hr1 : n0 % m < m := Int.emod_lt_of_pos _ hm
    walk_at "w"
    by_cases hlt : n0 < m
    · refine br_t (decide_eq_true hlt) ?_
      walk_at "w"
      refine wm_popAt (n := 0) (by walk_at "at") (by decide) rfl ?_
      walk_at "w"
      refine wr_mod hm ?_
      exact h ⟨gr, sm, st, c⟩ ⟨fun n hn => ok.gr n (List.mem_cons_of_mem _ hn), by have := ok.gl; simp at this; dsimp only; omega, ok.sl, ok.sm, ok.st, ok.c⟩ rfl (by dsimp only; omega) _ hr0 hr1
    · refine br_f (decide_eq_false hlt) ?_
      walk_at "w"
      refine wr_mod hm ?_
      exact h ⟨n0 / m :: gr, sm, st, c⟩ ⟨fun n hn => by
        rcases List.mem_cons.mp hn with rfl | hn
        · exact hq
        · exact ok.gr n (List.mem_cons_of_mem _ hn), ok.gl, ok.sl, ok.sm, ok.st, ok.c⟩ rfl (by dsimp only; omega) _ hr0 hr1
  | nil =>
    refine br_f rfl ?_
    dsimp only [List.map_nil] at h ⊢
    walk_at "w"
    refine ex_setL (n := 3) (by walk_at "at") (by simp) ?_
    dsimp only [List.set_cons_succ, List.set_cons_zero]
    refine ws_seq (ws_set (we_int ?_))
    refine ws_cut (fun Γ' L' => L' = f [(a, .lst [.ref g, .lst (sm.map D.int), .int st, .int (c + 1)]), (g, .lst [])] ∧ ∃ cell, 0 ≤ cell ∧ cell ≤ big ∧ Γ' = [some (.ref a), some (.int m), none, some (.int cell)]) ?_ ?_
    · walk_at "w"
      refine wr_neNil (ds := sm.map D.int) (.inl rfl) (ints_pures _) (ints_shaped _) ?_
      walk_at "w"
      cases sm with
      | nil =>
        refine br_f rfl ?_
        exact ws_next ⟨rfl, 1, by decide, by decide, rfl⟩
      | cons s0 sm =>
        refine br_t rfl ?_
        walk_at "w"
        have hl : 0 < ((s0 :: sm).map D.int).length := by simp
        refine wr_mod (by omega) ?_
        have hi0 : 0 ≤ (c + 1) % (((s0 :: sm).map D.int).length : Int) := Int.emod_nonneg _ (by omega)
        have hi1 : (c + 1) % (((s0 :: sm).map D.int).length : Int) < ((s0 :: sm).map D.int).length := Int.emod_lt_of_pos _ (by omega)
        obtain ⟨d, hd⟩ : ∃ d, ((s0 :: sm).map D.int)[((c + 1) % (((s0 :: sm).map D.int).length : Int)).toNat]? = some d := ⟨_, List.getElem?_eq_getElem (by omega)⟩
        obtain ⟨v, hv, rfl⟩ := List.mem_map.mp (List.mem_of_getElem? hd)
        refine wr_ixL (atI_int hi0 hd) ?_
        walk_at "w"
        have := ok.sm v hv
        exact ⟨rfl, v + 1, by omega, by omega, rfl⟩
    · rintro Γ' L' ⟨rfl, cell, c1, c2, rfl⟩
      have hst := ok.st
      have hc0 := ok.c
      dsimp only at hst hc0 hc
      clear hm2
      have hbg : big = 2147483563 := rfl
      walk_at "w"
      refine wr_mul (.inr (by decide)) ?_
      walk_at "w"
      refine wr_mul (.inl ⟨by have : (-(2 ^ 64) : Int) < 0 := by decide
                              omega, by have : (2147483563 : Int) < 2 ^ 64 := by decide
                                        omega⟩) ?_
      walk_at "w"
      have hb0 : 0 ≤ cell * ((c + 1) * 3163 + 1) := Int.mul_nonneg c1 (by omega)
      have hb1 : cell * ((c + 1) * 3163 + 1) ≤ 2147483563 * 3163003163 := Int.mul_le_mul c2 (by omega) (by omega) (by decide)
      refine wr_pow ⟨by decide, by decide, by omega⟩ ?_
      walk_at "w"
      refine wr_mod (by decide) ?_
      have h50 : 0 ≤ (st + cell * ((c + 1) * 3163 + 1)) ^ (5 : Int).toNat % 2147483563 := Int.emod_nonneg _ (by decide)
      generalize (st + cell * ((c + 1) * 3163 + 1)) ^ (5 : Int).toNat % 2147483563 = r5 at h50
      walk_at "w"
      refine wr_mul (.inr (by decide)) ?_
      walk_at "w"
      refine wr_mod (by decide) ?_
      have h60 : 0 ≤ (st * 40692 + r5 + (c + 1)) % 2147483563 := Int.emod_nonneg _ (by decide)
      have h61 : (st * 40692 + r5 + (c + 1)) % 2147483563 < 2147483563 := Int.emod_lt_of_pos _ (by decide)
      walk_at "w"
      refine ex_setL (n := 2) (by walk_at "at") (by simp) ?_
      dsimp only [List.set_cons_succ, List.set_cons_zero]
      walk_at "w"
      refine wr_divW (wide_div (b := 8) (by decide) (by decide) (by decide) (by decide)) ?_
      walk_at "w"
      refine wr_mod hm ?_
      exact h ⟨[], sm, (st * 40692 + r5 + (c + 1)) % 2147483563, c + 1⟩ ⟨ok.gr, ok.gl, ok.sl, ok.sm, ⟨h60, h61⟩, by show 0 ≤ c + 1; omega⟩ rfl (by show c + 1 ≤ c + 1; omega) _ (Int.emod_nonneg _ (by omega)) (Int.emod_lt_of_pos _ hm)
theorem k_take {a g : Addr} {x : Wl} {f : Sto → Sto} {m : Int} {Φ : D → Sto → Prop} {ex : Ex} (hf : Hole f) (ok : x.ok) (hc : x.c < 1000000) (hm : 0 < m) (hm2 : m.natAbs < 2 ^ 8000)
    (h : ∀ x' : Wl, x'.ok → x'.sm = x.sm → x'.c ≤ x.c + 1 → ∀ n, 0 ≤ n → n < m → Φ (.int n) (f (WlC a g x'))) : aTake [.ref a, .int m] (f (WlC a g x)) Φ ex := ⟨_, _, rfl, a, g, x, f, m, rfl, ⟨hf, rfl⟩, ok, hc, rfl, hm, hm2, h⟩
end
end Cl
set_option Elab.async false
set_option linter.all false
set_option maxRecDepth 100000
set_option maxHeartbeats 4000000
namespace Cl
open PySem PySem.Spec PyProof.Rows L2
section
variable {P : Program} {w : World} {K : PySem.W.Frag} {E : XK} {Γ : Gm} {L : Sto} {ex : Ex} {Φ : D → Sto → Prop} {ta tb tc te : TE} {x y : D}
theorem wr_powL {i j : Int} (h0 : 0 ≤ j) (h1 : j ≤ 1000000) (h2 : i.natAbs < 2 ^ 64) (q : Φ (.int (i ^ j.toNat)) L) : WR P w K (rI CPow fun i j => .int (i ^ j.toNat)) (.int i) (.int j) L Φ := wr_pow ⟨h0, h1, h2⟩ q
/-- a comprehension whose items draw from the well -/
theorem we_lcW {wi : TI} {g : TG} {vs : List Nat} (h : WI P w K E wi Γ L ex fun ds stay L1 => ∃ (a b : Addr) (f : Sto → Sto) (x : Wl) (k : Int) (R : Nat → D → Prop), L1 = f (WlC a b x) ∧ (∀ L2, stay L2) ∧ ds.length ≤ 100000 ∧ x.ok ∧
    (∀ (i : Nat) d, ds[i]? = some d → ∀ x' acc p, Wl.ok x' → x'.c ≤ x.c + k * (i : Int) → ∃ us, WG P w K g d ((p, .lst acc) :: f (WlC a b x')) us ∧ (∀ u ∈ us, u.1 ∈ vs) ∧
      WE P w K E te (setG (wipeG Γ vs) us) ((p, .lst acc) :: f (WlC a b x')) ex fun y L4 => ∃ x'', Wl.ok x'' ∧ x''.c ≤ x'.c + k ∧ L4 = (p, .lst acc) :: f (WlC a b x'') ∧ R i y) ∧
    ∀ x' acc, Wl.ok x' → x'.c ≤ x.c + k * (ds.length : Int) → acc.length = ds.length → (∀ (i : Nat) d, acc[i]? = some d → R i d) → Φ (.lst acc) (f (WlC a b x'))) : WE P w K E (tLc wi g tYes te vs) Γ L ex Φ := by
  refine we_lc ?_
  intro σ F H Q sl S lk q
  refine h σ F H Q sl S lk fun J ds stay F1 H1 L1 e1 S1 it ⟨a, b, f, x, k, R, eL, hst, hl, ok, hs, hf⟩ => q J ds stay F1 H1 L1 e1 S1 it ⟨fun i acc L' => ∃ x', Wl.ok x' ∧ x'.c ≤ x.c + k * (i : Int) ∧ L' = f (WlC a b x') ∧ acc.length = i ∧ i ≤ ds.length ∧ ∀ j d, acc[j]? = some d → R j d, ⟨x, ok, by simp, eL, rfl, Nat.zero_le _, fun j d hj => by simp at hj⟩, fun i acc L' p _ => hst _, fun i d acc L' p hd ⟨x', ok', hc, e, ha, hi, hr⟩ => ?_, fun acc L' ⟨x', ok', hc, e, ha, hi, hr⟩ => ?_⟩
  · subst e
    have hlt : i < ds.length := (List.getElem?_eq_some_iff.mp hd).1
    obtain ⟨us, hg, hu, he⟩ := hs i d hd x' acc p ok' hc
    refine ⟨us, hg, hu, wt_yes ⟨fun _ => he.imp fun y L4 ⟨x2, ok2, hc2, e2, hy⟩ => ⟨by omega, f (WlC a b x2), e2, x2, ok2, ?_, rfl, by rw [List.length_append, ha]; rfl, hlt, fun j d hj => ?_⟩, fun z => nomatch z⟩⟩
    · rw [Int.natCast_add, Int.mul_add]
      simp
      omega
    · by_cases hj2 : j < acc.length
      · rw [List.getElem?_append_left hj2] at hj
        exact hr j d hj
      · have hlen := (List.getElem?_eq_some_iff.mp hj).1
        rw [List.length_append] at hlen
        have e : j = acc.length := by simp at hlen; omega
        subst e
        simp at hj
        rw [← hj, ha]
        exact hy
  · subst e
    exact hf x' acc ok' hc ha hr
theorem pick_int {ns : List Int} {n : Int} (h0 : 0 ≤ n) (h1 : n < ns.length) : ∃ v ∈ ns, atI (ns.map D.int) n = some (.int v) := by
  have hl : n.toNat < ns.length := by omega
  exact ⟨ns[n.toNat], List.getElem_mem hl, atI_int h0 (by rw [List.getElem?_map, List.getElem?_eq_getElem hl]; rfl)⟩
end
local macro_rules | `(tactic| walk_at "at") => `(tactic| first | assumption | repeat first | with_reducible exact At.here | with_reducible exact at_mc | with_reducible exact at_mb | with_reducible exact at_mo | with_reducible exact at_ms | with_reducible exact at_md | with_reducible apply At.tail | (with_reducible apply At.in (by assumption)))
local macro_rules | `(tactic| walk_at "fact") => `(tactic| first | exact c_Court (by assumption) | exact c_Lane (by assumption) | exact c_Signs (by assumption) | exact n_Court_clock (by assumption) | exact n_Court_long (by assumption) | exact n_Court_bags (by assumption) | exact n_Court_book (by assumption) | exact n_Court_opened (by assumption) | exact n_Court_seen (by assumption) | exact n_Court_kept (by assumption) | exact n_Court_deeds (by assumption) | exact n_Lane_both (by assumption) | exact n_Lane_first (by assumption) | exact n_Lane_standing (by assumption) | exact n_Lane_mood (by assumption) | exact n_Lane_ending (by assumption) | exact n_Signs_by_hand (by assumption))
local macro_rules | `(tactic| walk_at "ge") => `(tactic| first
  | with_reducible refine we_var rfl ?_
  | with_reducible refine we_int ?_
  | with_reducible refine we_str ?_
  | with_reducible refine we_ty ?_
  | with_reducible refine we_bl ?_
  | with_reducible refine we_non ?_
  | with_reducible refine we_ref ?_
  | with_reducible refine we_op ?_
  | with_reducible refine we_cb ?_
  | with_reducible refine we_call0 ?_
  | with_reducible refine we_call ?_
  | with_reducible refine we_lst ?_
  | with_reducible refine we_tup ?_
  | with_reducible refine we_andV ?_
  | with_reducible refine we_orV ?_
  | with_reducible refine we_notV ?_
  | with_reducible refine we_if ?_
  | with_reducible refine we_chain ?_
  | with_reducible refine we_sl ?_
  | with_reducible refine we_lz ?_
  | with_reducible refine we_dnewK (fun _ => ?_)
  | with_reducible refine we_dnewN (fun _ => ?_)
  | with_reducible refine we_fld ?_
  | with_reducible refine we_dget ?_
  | with_reducible refine we_din ?_
  | with_reducible refine we_dnotIn ?_
  | with_reducible refine we_dget2 ?_
  | with_reducible refine we_dsetd ?_
  | with_reducible refine we_make ?_
  | with_reducible refine we_meth0 ?_
  | with_reducible refine we_meth ?_
  | with_reducible refine we_bm ?_)
local macro_rules | `(tactic| walk_at "gt") => `(tactic| first
  | with_reducible refine wt_B ?_
  | with_reducible refine wt_test ?_
  | with_reducible refine wt_not ?_
  | with_reducible refine wt_and ?_
  | with_reducible refine wt_or ?_
  | with_reducible refine wt_yes ?_)
local macro_rules | `(tactic| walk_at "gst") => `(tactic| first
  | with_reducible refine ws_ret ?_
  | with_reducible refine ws_retN ?_
  | with_reducible refine ws_seq ?_
  | with_reducible refine ws_set ?_
  | with_reducible refine ws_drop ?_
  | with_reducible refine ws_if ?_
  | with_reducible refine ws_next ?_
  | with_reducible refine ws_raise ?_
  | with_reducible refine ws_asgS ?_
  | with_reducible refine ws_setL ?_
  | with_reducible refine ws_setN ?_
  | with_reducible refine ws_asg ?_
  | with_reducible refine ws_fld ?_
  | with_reducible refine ws_fldaddI ?_
  | with_reducible refine ws_dput ?_)
local macro_rules | `(tactic| walk_at "gr") => `(tactic| first
  | with_reducible refine wr_ixT rfl ?_
  | with_reducible refine wr_ixL rfl ?_
  | with_reducible refine ix_t0 ?_
  | with_reducible refine ix_t1 ?_
  | with_reducible refine ix_t2 ?_
  | with_reducible refine ix_t3 ?_
  | with_reducible refine ix_t4 ?_
  | with_reducible refine ix_l0 ?_
  | with_reducible refine ix_l1 ?_
  | with_reducible refine ix_l2 ?_
  | with_reducible refine ix_l3 ?_
  | with_reducible refine ix_l4 ?_
  | with_reducible refine wr_int ?_
  | (with_reducible refine isPow ?_; with_reducible refine wr_powL (by decide) (by decide) (by decide) ?_)
  | with_reducible refine wr_bool ?_
  | with_reducible refine wr_eqI ?_
  | with_reducible refine wr_neI ?_
  | with_reducible refine wr_eqS ?_
  | with_reducible refine wr_neS ?_
  | with_reducible refine wr_eqB ?_
  | with_reducible refine wr_neB ?_
  | with_reducible refine wr_isN ?_
  | with_reducible refine wr_notN ?_
  | (with_reducible refine isIxC ?_; with_reducible refine wr_ixC (by walk_at "at") (by with_unfolding_all rfl) ?_))
local macro_rules | `(tactic| walk_at "gc") => `(tactic| first
  | with_reducible refine wc_isi rfl rfl ?_
  | with_reducible refine wc_isi (by decide) (by decide +kernel) ?_
  | (with_reducible refine isLen ?_; with_reducible refine wc_lenC (by walk_at "at") ?_)
  | with_reducible refine wc_lenT ?_
  | with_reducible refine wc_lenL ?_)
local macro_rules | `(tactic| walk_at "ga") => `(tactic| first
  | with_reducible refine wa_cons ?_
  | with_reducible refine wa_nil ?_)
local macro_rules | `(tactic| walk_at "gx") => `(tactic| first
  | (with_reducible refine isLn ?_; with_reducible refine lenAnd (by simp) ?_)
  | with_reducible refine wsl_tup ?_
  | with_reducible refine wo_none ?_
  | with_reducible refine wo_some ?_
  | with_reducible refine ex_bl ?_
  | with_reducible refine ex_int ?_
  | with_reducible refine ex_str ?_
  | with_reducible refine ex_tup ?_
  | with_reducible refine ex_lst ?_
  | with_reducible refine ex_etup ?_
  | with_reducible refine br_true ?_
  | with_reducible refine br_false ?_
  | (with_reducible refine isBr ?_; refine br_t rfl ?_)
  | (with_reducible refine isBr ?_; refine br_f rfl ?_)
  | (with_reducible refine isFld ?_; with_reducible refine ex_fld (by walk_at "at") (by walk_at "fact") (by walk_at "fact") (by with_unfolding_all rfl) ?_)
  | (with_reducible refine isPut ?_; with_reducible refine ex_put (by walk_at "at") (by walk_at "fact") (by walk_at "fact") (by with_unfolding_all exact of_decide_eq_true rfl) ?_)
  | (with_reducible refine isMeth ?_; with_reducible refine ex_meth (by walk_at "at") (by with_unfolding_all rfl) ?_)
  | (with_reducible refine isTy ?_; with_reducible refine And.intro (ty_cell (by walk_at "at")) ?_)
  | with_reducible refine k_whole ?_
  | with_reducible refine k_count ?_
  | with_reducible refine k_amount ?_)
local macro_rules | `(tactic| walk_at "s") => `(tactic| first
  | (with_reducible refine isWE ?_; walk_at "ge")
  | (with_reducible refine isWS ?_; walk_at "gst")
  | (with_reducible refine isWT ?_; walk_at "gt")
  | (with_reducible refine isWR ?_; walk_at "gr")
  | (with_reducible refine isWA ?_; walk_at "ga")
  | (with_reducible refine isWC ?_; walk_at "gc")
  | walk_at "gx")
local macro_rules | `(tactic| walk_at "w") => `(tactic| repeat walk_at "s")

section
variable {P : Program} {w : World} {K : PySem.W.Frag} {mg : Str → Option Value} {base : Heap}
theorem k_tk {a g : Addr} {x : Wl} {f : Sto → Sto} {m : Int} {Φ : D → Sto → Prop} {ex : Ex} (hf : Hole f) (ok : x.ok) (hc : x.c < 1000000) (hm : 0 < m) (hm2 : m ≤ 1000000000000000000)
    (h : ∀ x' : Wl, x'.ok → x'.c ≤ x.c + 1 → ∀ n, 0 ≤ n → n < m → Φ (.int n) (f (WlC a g x'))) : aTake [.ref a, .int m] (f (WlC a g x)) Φ ex :=
  k_take hf ok hc hm (Nat.lt_of_le_of_lt (show m.natAbs ≤ 1000000000000000000 by omega) (Nat.lt_of_lt_of_le (show 1000000000000000000 < 2 ^ 64 by decide) (Nat.pow_le_pow_right (by decide) (by decide)))) fun x' o1 _ => h x' o1
abbrev aSum : ASp := A1 fun self L Φ _ => ∃ a g x f, self = .ref a ∧ Part (WlC a g x) L f ∧ Wl.ok x ∧ x.c + 2 ≤ 1000000 ∧ ∀ x' : Wl, x'.ok → x'.c ≤ x.c + 2 → ∀ n, 0 ≤ n → n < 1000000000000 → Φ (.int n) (f (WlC a g x'))
theorem sc_law_sum : FnScope ["_law_well_here"] ["_law_well_here"] d_law_sum.scope := ⟨rfl, rfl, rfl, by decide +kernel, rfl, by decide +kernel, by decide +kernel⟩
theorem ok_law_sum (T : Tx K mg) : FOk P w K mg base 2 (He.fAd K d_law_sum.at_) ["_law_well_here"] aSum := by
  refine fok_of (d := d_law_sum) T 45 (k := 1) rfl rfl rfl sc_law_sum (fun ds L Φ ex h => A1.len h) (fun _ _ _ _ _ _ us hl => match us, hl with | [_], _ => rfl) (fun cdv Ar outer s H E ds L Φ ex hr h => ?_)
  obtain ⟨well_here, rfl, h⟩ := h
  refine ⟨_, (pss_one (ps_ret (pe_c (ok_law_take T) hr rfl (g_law_take T) (pa_cons (pv 0) (pa_cons (pe_ix ix_list (pe_lst (pa_cons pe_int (pa_cons pe_int (pa_cons pe_int (pa_cons (pe_op op_pow pe_int pe_int) (pa_cons (pe_op op_pow pe_int pe_int) pa_nil)))))) (pe_c (ok_law_take T) hr rfl (g_law_take T) (pa_cons (pv 0) (pa_cons pe_int pa_nil))) (fun _ _ => rfl)) pa_nil))))), ?_⟩
  obtain ⟨a, g, x, f, rfl, ⟨hf, rfl⟩, ok, hc, h⟩ := h
  dsimp only [cxOf]
  walk_at "w"
  refine k_tk (m := 5) hf ok (by omega) (by decide) (by decide) fun x1 ok1 hc1 n hn0 hn1 => ?_
  obtain ⟨v, hv, e⟩ := pick_int (ns := [4, 10, 100, 10 ^ (6 : Int).toNat, 10 ^ (12 : Int).toNat]) hn0 hn1
  refine wr_ixL e ?_
  walk_at "w"
  have hv2 : 0 < v ∧ v ≤ 1000000000000 := by
    simp only [List.mem_cons, List.not_mem_nil, or_false] at hv
    rcases hv with rfl | rfl | rfl | rfl | rfl <;> decide
  refine k_tk hf ok1 (by omega) hv2.1 (by omega) fun x2 ok2 hc2 n2 h0 h1 => ?_
  exact h x2 ok2 (by omega) n2 h0 (by omega)
theorem atI_gen {α : Type} {xs : List α} {i : Int} {d : α} (h0 : 0 ≤ i) (h : xs[i.toNat]? = some d) : atI xs i = some d := by
  have hl := (List.getElem?_eq_some_iff.mp h).1
  unfold atI ixN
  rw [if_pos h0, if_pos (by omega)]
  exact h
theorem join_cps : ∀ (l : List Str), (PySem.Str.join (PySem.Str.ofString "") l).cps.toList = l.flatMap fun s => s.cps.toList
  | [] => by simp [PySem.Str.join]; rfl
  | [a] => by simp [PySem.Str.join]
  | a :: b :: r => by
    have ih := join_cps (b :: r)
    have app : ∀ x y : Str, (x ++ y).cps.toList = x.cps.toList ++ y.cps.toList := fun x y => by
      show (x.cps ++ y.cps).toList = _
      exact Array.toList_append
    show (a ++ PySem.Str.ofString "" ++ PySem.Str.join (PySem.Str.ofString "") (b :: r)).cps.toList = _
    rw [app, app, ih, List.flatMap_cons (x := a)]
    have : (PySem.Str.ofString "").cps.toList = [] := by decide +kernel
    rw [this, List.append_nil]
theorem join_nm {l : List Str} (h : ∀ s ∈ l, ∃ c ∈ Let.cps.toList, s = ⟨#[c]⟩) (h1 : 1 ≤ l.length) (h8 : l.length ≤ 8) : isNm (Txt.join (PySem.Str.ofString "") l) := by
  have e : Txt.join (PySem.Str.ofString "") l = PySem.Str.join (PySem.Str.ofString "") l := StrLaws.glued_eq_join _ _
  rw [e]
  have hc := join_cps l
  have hl : ∀ l : List Str, (∀ s ∈ l, ∃ c ∈ Let.cps.toList, s = ⟨#[c]⟩) → (l.flatMap fun s => s.cps.toList).length = l.length := by
    intro l h
    induction l with
    | nil => rfl
    | cons a l ih =>
      obtain ⟨c, _, rfl⟩ := h a List.mem_cons_self
      rw [List.flatMap_cons, List.length_append, ih fun s hs => h s (List.mem_cons_of_mem _ hs), List.length_cons]
      simp
      omega
  have hlen : (PySem.Str.join (PySem.Str.ofString "") l).length = l.length := by
    have := congrArg List.length hc
    rw [hl l h] at this
    rw [← this]
    exact (Array.length_toList).symm
  refine ⟨fun z => ?_, by rw [hlen]; exact h8, fun c hm => ?_⟩
  · rw [z] at hlen
    have : (("" : Str)).length = 0 := by decide
    omega
  · rw [hc] at hm
    obtain ⟨s, hs, hm⟩ := List.mem_flatMap.mp hm
    obtain ⟨c2, h2, rfl⟩ := h s hs
    have : c = c2 := by simpa using hm
    rw [this]
    exact h2
theorem strs_of {acc : List D} (h : ∀ (i : Nat) d, acc[i]? = some d → ∃ c ∈ Let.cps.toList, d = .str ⟨#[c]⟩) : ∃ ys : List Str, acc = ys.map D.str ∧ ∀ s ∈ ys, ∃ c ∈ Let.cps.toList, s = ⟨#[c]⟩ := by
  induction acc with
  | nil => exact ⟨[], rfl, fun s hs => nomatch hs⟩
  | cons a acc ih =>
    obtain ⟨c, hc, rfl⟩ := h 0 a rfl
    obtain ⟨ys, rfl, hy⟩ := ih fun i d hd => h (i + 1) d hd
    exact ⟨⟨#[c]⟩ :: ys, rfl, fun s hs => by
      rcases List.mem_cons.mp hs with rfl | hs
      · exact ⟨c, hc, rfl⟩
      · exact hy s hs⟩
abbrev aNameL : ASp := A2 fun self y L Φ _ => ∃ a g x f, self = .ref a ∧ Part (WlC a g x) L f ∧ Wl.ok x ∧ x.c + 8 ≤ 1000000 ∧ y = .int 7 ∧ ∀ x' : Wl, x'.ok → x'.c ≤ x.c + 8 → ∀ s, isNm s → Φ (.str s) (f (WlC a g x'))
theorem sc_law_name : FnScope ["_law_well_here", "_law_most", "_law_letters", "_law_k"] ["_law_well_here", "_law_most"] d_law_name.scope := ⟨rfl, rfl, rfl, by decide +kernel, rfl, by decide +kernel, by decide +kernel⟩
theorem ok_law_name (T : Tx K mg) : FOk P w K mg base 2 (He.fAd K d_law_name.at_) ["_law_well_here", "_law_most"] aNameL := by
  refine fok_of (d := d_law_name) T 43 (k := 1) rfl rfl rfl sc_law_name (fun ds L Φ ex h => A2.len h) (fun _ _ _ _ _ _ us hl => match us, hl with | [_, _], _ => rfl) (fun cdv Ar outer s H E ds L Φ ex hr h => ?_)
  obtain ⟨well_here, most, rfl, h⟩ := h
  refine ⟨_, (pss_cons (ps_set (i := 2) sc_law_name.nd rfl (Or.inr rfl) pe_str)
    (pss_one (ps_ret (pe_join pe_str (pe_lc (own := [("_law_k", 3)]) rfl sc_law_name.nd (pi_range1 rfl (f_range T) (pa_cons (pe_op op_add pe_int (pe_c (ok_law_take T) hr rfl (g_law_take T) (pa_cons (pv 0) (pa_cons (pv 1) pa_nil)))) pa_nil)) (blkOk_by (own := [("_law_k", 3)]) (N := ["_law_well_here", "_law_most", "_law_letters", "_law_k"]) (sc := d_law_name.scope) (by decide +kernel)) (fun _ _ _ _ _ => by exact (pg_name (i := 3) sc_law_name.nd rfl (Or.inl rfl))) (fun _ _ _ _ _ => by exact pts_nil) (fun _ _ _ _ _ => by exact (pe_ix ix_str (pv 2) (pe_cK (P := P) (w := w) (K := K) (mg := mg) (base := base) rfl rfl rfl rfl rfl (ok_law_take T) hr rfl (g_law_take T) (pa_cons (pv 0) (pa_cons pe_int pa_nil))) (fun _ _ => rfl)))))))), ?_⟩
  obtain ⟨a, g, x, f, rfl, ⟨hf, rfl⟩, ok, hc, rfl, h⟩ := h
  dsimp only [cxOf]
  walk_at "w"
  refine we_join (we_str ⟨_, rfl, ?_⟩)
  refine we_lcW (wi_rng (n := 0) ?_)
  walk_at "w"
  refine k_tk (m := 7) hf ok (by omega) (by decide) (by decide) fun x1 ok1 hc1 n hn0 hn1 => ?_
  walk_at "w"
  refine ⟨1 + n, rfl, by omega, by omega, a, g, f, x1, 1, fun _ d => ∃ c ∈ Let.cps.toList, d = .str ⟨#[c]⟩, rfl, fun _ => trivial, by rw [rangeD_len]; omega, ok1, fun i d hd x' acc p ok' hc' => ?_, fun x' acc ok' hc' hl hr => ?_⟩
  · have hi := (List.getElem?_eq_some_iff.mp hd).1
    rw [rangeD_len] at hi
    refine ⟨_, wg_name, by simp, ?_⟩
    walk_at "w"
    refine k_tk (m := 26) (f := fun S => (p, .lst acc) :: f S) hf.tail ok' (by omega) (by decide) (by decide) fun x2 ok2 hc2 j hj0 hj1 => ?_
    obtain ⟨c, hc3⟩ : ∃ c, Let.cps.toList[j.toNat]? = some c := ⟨_, List.getElem?_eq_getElem (show j.toNat < 26 by omega)⟩
    refine wr_ixS (by decide +kernel) (c := c) ?_ ⟨x2, ok2, hc2, rfl, c, List.mem_of_getElem? hc3, rfl⟩
    exact atI_gen hj0 hc3
  · rw [rangeD_len] at hc' hl
    obtain ⟨ys, rfl, hy⟩ := strs_of hr
    rw [List.length_map] at hl
    refine ⟨ys, rfl, ?_, h x' ok' (by omega) _ (join_nm hy (by omega) (by omega))⟩
    have h0 : ys.map (fun s => s.length) = List.replicate ys.length 1 := by
      refine List.eq_replicate_iff.mpr ⟨List.length_map _, fun n hn => ?_⟩
      obtain ⟨s, hs, rfl⟩ := List.mem_map.mp hn
      obtain ⟨c, _, rfl⟩ := hy s hs
      rfl
    rw [h0, List.sum_replicate_nat]
    have : (Str.ofString "").length = 0 := by decide
    rw [this]
    omega
theorem tele (c : Nat → Int) : ∀ m, ((List.range m).map fun k => c (k + 1) - c k).sum = c m - c 0
  | 0 => by simp
  | m + 1 => by
    rw [List.range_succ, List.map_append, List.sum_append, tele c m]
    simp
    omega
theorem ints_of {lo hi : Int} : ∀ {acc : List D}, (∀ (i : Nat) d, acc[i]? = some d → ∃ n, d = D.int n ∧ lo ≤ n ∧ n ≤ hi) → ∃ ns : List Int, acc = ns.map D.int ∧ ∀ n ∈ ns, lo ≤ n ∧ n ≤ hi
  | [], _ => ⟨[], rfl, fun n hn => nomatch hn⟩
  | d :: acc, h => by
    obtain ⟨n, rfl, h1⟩ := h 0 d rfl
    obtain ⟨ns, rfl, h2⟩ := ints_of (acc := acc) fun i d hd => h (i + 1) d hd
    exact ⟨n :: ns, rfl, fun k hk => by
      rcases List.mem_cons.mp hk with rfl | hk
      · exact h1
      · exact h2 k hk⟩
theorem cuts_of {cs rs : List Int} {wh : Int} (hp : cs.Perm ([0, wh] ++ rs)) (hs : cs.Pairwise (· ≤ ·)) (hr : ∀ n ∈ rs, 0 ≤ n ∧ n ≤ wh) (hw : 0 ≤ wh) {m : Nat} (hl : cs.length = m + 1) :
    (∀ k, k < m → cs.getD k 0 ≤ cs.getD (k + 1) 0) ∧ cs.getD 0 0 = 0 ∧ cs.getD m 0 = wh := by
  have all : ∀ n ∈ cs, 0 ≤ n ∧ n ≤ wh := fun n hn => by
    have := hp.mem_iff.mp hn
    simp only [List.cons_append, List.nil_append, List.mem_cons] at this
    rcases this with rfl | rfl | h
    · omega
    · omega
    · exact hr n h
  have g : ∀ k, (h : k < cs.length) → cs.getD k 0 = cs[k] := fun k h => by rw [List.getD_eq_getElem?_getD, List.getElem?_eq_getElem h]; rfl
  have mono : ∀ i j, (hi : i < cs.length) → (hj : j < cs.length) → i ≤ j → cs[i] ≤ cs[j] := fun i j hi hj hij => by
    rcases Nat.lt_or_ge i j with h | h
    · exact List.pairwise_iff_getElem.mp hs i j hi hj h
    · have : i = j := by omega
      subst this
      exact Int.le_refl _
  refine ⟨fun k hk => ?_, ?_, ?_⟩
  · rw [g k (by omega), g (k + 1) (by omega)]
    exact mono k (k + 1) _ _ (by omega)
  · rw [g 0 (by omega)]
    obtain ⟨i, hi, e⟩ := List.getElem_of_mem (hp.mem_iff.mpr (show (0 : Int) ∈ [0, wh] ++ rs by simp))
    have h1 := mono 0 i (by omega) hi (by omega)
    have h2 := all cs[0] (List.getElem_mem _)
    omega
  · rw [g m (by omega)]
    obtain ⟨i, hi, e⟩ := List.getElem_of_mem (hp.mem_iff.mpr (show wh ∈ [0, wh] ++ rs by simp))
    have h1 := mono i m hi (by omega) (by omega)
    have h2 := all cs[m] (List.getElem_mem _)
    omega
abbrev aParts : ASp := A3 fun self y z L Φ _ => ∃ a g x f wh m, self = .ref a ∧ Part (WlC a g x) L f ∧ Wl.ok x ∧ y = .int wh ∧ 0 ≤ wh ∧ wh.natAbs < 2 ^ 7000 ∧ z = .int m ∧ 2 ≤ m ∧ m ≤ 40 ∧ x.c + m ≤ 1000000 ∧
  ∀ x' : Wl, x'.ok → x'.c ≤ x.c + m → ∀ ns : List Int, (ns.length : Int) = m → (∀ n ∈ ns, 0 ≤ n) → ns.sum = wh → Φ (.lst (ns.map D.int)) (f (WlC a g x'))
theorem sc_law_parts : FnScope ["_law_well_here", "_law_whole_here", "_law_many", "_law_cuts", "_law_k"] ["_law_well_here", "_law_whole_here", "_law_many"] d_law_parts.scope := ⟨rfl, rfl, rfl, by decide +kernel, rfl, by decide +kernel, by decide +kernel⟩
theorem ok_law_parts (T : Tx K mg) : FOk P w K mg base 2 (He.fAd K d_law_parts.at_) ["_law_well_here", "_law_whole_here", "_law_many"] aParts := by
  refine fok_of (d := d_law_parts) T 46 (k := 1) rfl rfl rfl sc_law_parts (fun ds L Φ ex h => A3.len h) (fun _ _ _ _ _ _ us hl => match us, hl with | [_, _, _], _ => rfl) (fun cdv Ar outer s H E ds L Φ ex hr h => ?_)
  obtain ⟨well_here, whole_here, many_, rfl, h⟩ := h
  refine ⟨_, (pss_cons (ps_set (i := 3) sc_law_parts.nd rfl (Or.inr rfl) (pe_callB cr_sortedI rfl (f_sorted T) (by decide +kernel) (pa_cons (pe_op op_catX (pe_lst (pa_cons pe_int (pa_cons (pv 1) pa_nil))) (pe_lc (own := [("_law_k", 4)]) rfl sc_law_parts.nd (pi_range1 rfl (f_range T) (pa_cons (pe_op op_sub (pv 2) pe_int) pa_nil)) (blkOk_by (own := [("_law_k", 4)]) (N := ["_law_well_here", "_law_whole_here", "_law_many", "_law_cuts", "_law_k"]) (sc := d_law_parts.scope) (by decide +kernel)) (fun _ _ _ _ _ => by exact (pg_name (i := 4) sc_law_parts.nd rfl (Or.inl rfl))) (fun _ _ _ _ _ => by exact pts_nil) (fun _ _ _ _ _ => by exact (pe_cK (P := P) (w := w) (K := K) (mg := mg) (base := base) rfl rfl rfl rfl rfl (ok_law_take T) hr rfl (g_law_take T) (pa_cons (pv 0) (pa_cons (pe_op op_add (pv 1) pe_int) pa_nil)))))) pa_nil)))
    (pss_one (ps_ret (pe_lc (own := [("_law_k", 4)]) rfl sc_law_parts.nd (pi_range1 rfl (f_range T) (pa_cons (pv 2) pa_nil)) (blkOk_by (own := [("_law_k", 4)]) (N := ["_law_well_here", "_law_whole_here", "_law_many", "_law_cuts", "_law_k"]) (sc := d_law_parts.scope) (by decide +kernel)) (fun _ _ _ _ _ => by exact (pg_name (i := 4) sc_law_parts.nd rfl (Or.inl rfl))) (fun _ _ _ _ _ => by exact pts_nil) (fun _ _ _ _ _ => by exact (pe_op op_sub (pe_ix (ix_listK (K := K) rfl) (pv 3) (pe_op op_add (pv 4) pe_int) (fun _ _ => rfl)) (pe_ix (ix_listK (K := K) rfl) (pv 3) (pv 4) (fun _ _ => rfl)))))))), ?_⟩
  obtain ⟨a, g, x, f, wh, m, rfl, ⟨hf, rfl⟩, ok, rfl, hw, hw2, rfl, hm, hm2, hc, h⟩ := h
  dsimp only [cxOf]
  walk_at "w"
  refine we_lcW (wi_rng (n := 0) ?_)
  walk_at "w"
  refine ⟨m - 1, rfl, by omega, by omega, a, g, f, x, 1, fun _ d => ∃ n, d = D.int n ∧ 0 ≤ n ∧ n ≤ wh, rfl, fun _ => trivial, by rw [rangeD_len]; omega, ok, fun i d hd x' acc p ok' hc' => ?_, fun x' acc ok' hc' hl hr => ?_⟩
  · have hi := (List.getElem?_eq_some_iff.mp hd).1
    rw [rangeD_len] at hi
    refine ⟨_, wg_name, by simp, ?_⟩
    walk_at "w"
    refine k_take (m := wh + 1) (f := fun S => (p, .lst acc) :: f S) hf.tail ok' (by omega) (by omega) ?_ fun x2 ok2 _ hc2 j hj0 hj1 => ⟨x2, ok2, hc2, rfl, j, rfl, hj0, by omega⟩
    have : (2 : Nat) ^ 7000 + 1 ≤ 2 ^ 8000 := by
      have : (2 : Nat) ^ 7000 + 2 ^ 7000 ≤ 2 ^ 8000 := by
        rw [← Nat.two_mul, ← Nat.pow_succ']
        exact Nat.pow_le_pow_right (by decide) (by decide)
      have h1 : 1 ≤ (2 : Nat) ^ 7000 := Nat.one_le_two_pow
      omega
    generalize (2 : Nat) ^ 7000 = A at *
    generalize (2 : Nat) ^ 8000 = B at *
    omega
  · clear hw2
    rw [rangeD_len] at hc' hl
    obtain ⟨rs, rfl, hrs⟩ := ints_of hr
    rw [List.length_map] at hl
    refine wr_cat (.inl rfl) (.inl rfl) (by rw [List.length_map]; simp; omega) ?_
    rw [show [D.int 0, D.int wh] ++ rs.map D.int = ([0, wh] ++ rs).map D.int from by simp]
    walk_at "w"
    refine wc_sortI fun cs hp hs => ?_
    have hcl : cs.length = m.toNat + 1 := by rw [hp.length_eq]; simp; omega
    obtain ⟨k1, k2, k3⟩ := cuts_of hp hs hrs hw hcl
    walk_at "w"
    refine we_lcM (wi_rng (n := 0) ?_)
    walk_at "w"
    refine ⟨m, rfl, by omega, by omega, fun _ _ => trivial, by rw [rangeD_len]; omega, fun d => (match d with | .int k => .int (cs.getD (k.toNat + 1) 0 - cs.getD k.toNat 0) | d => d), fun d hd p acc => ?_, ?_⟩
    · obtain ⟨i, hi⟩ := List.getElem?_of_mem hd
      obtain ⟨hi2, rfl⟩ := rangeD_get hi
      refine ⟨_, wg_name, by simp, ?_⟩
      walk_at "w"
      have ga : ∀ k, k < cs.length → (cs.map D.int)[k]? = some (.int (cs.getD k 0)) := fun k hk => by
        rw [List.getElem?_map, List.getD_eq_getElem?_getD, List.getElem?_eq_getElem hk]
        rfl
      refine wr_ixL (atI_nat (n := i + 1) (ga _ (by omega))) ?_
      walk_at "w"
      refine wr_ixL (atI_nat (n := i) (ga _ (by omega))) ?_
      walk_at "w"
      exact ⟨rfl, rfl⟩
    · have e : (rangeD m.toNat).map (fun d => (match d with | .int k => .int (cs.getD (k.toNat + 1) 0 - cs.getD k.toNat 0) | d => d)) = ((List.range m.toNat).map fun k => cs.getD (k + 1) 0 - cs.getD k 0).map D.int := by
        unfold rangeD
        rw [List.map_map, List.map_map]
        refine List.map_congr_left fun k _ => ?_
        simp
      rw [e]
      refine h x' ok' (by omega) _ (by rw [List.length_map, List.length_range]; omega) (fun n hn => ?_) ?_
      · obtain ⟨k, hk, rfl⟩ := List.mem_map.mp hn
        have := k1 k (List.mem_range.mp hk)
        omega
      · rw [tele (fun k => cs.getD k 0), k2, k3]
        omega
end
end Cl
set_option Elab.async false
set_option linter.all false
set_option maxRecDepth 100000
set_option maxHeartbeats 4000000
namespace Cl
open PySem PySem.Spec PyProof.Rows L2
section
variable {P : Program} {w : World} {K : PySem.W.Frag} {E : XK} {Γ : Gm} {L : Sto} {ex : Ex} {Φ : D → Sto → Prop} {t : TA}
/-- sorted(set(xs)), ints -/
theorem we_sortSet (h : WA P w K E t Γ L ex fun ds L1 => ∃ ns : List Int, ds = [.lst (ns.map D.int)] ∧ ns.length + 1 < 64 ∧ ∀ ns' : List Int, ns'.Pairwise (· < ·) → (∀ k, k ∈ ns' ↔ k ∈ ns) → ns'.length ≤ ns.length → Φ (.lst (ns'.map D.int)) L1) :
    WE P w K E (tCB (rSortedSet w) (tCons (tCB (rSetL K w) t) tNil)) Γ L ex Φ := fun σ F H Q sl S lk k =>
  h σ F H _ sl S lk fun vs ds F1 H1 L1 e1 S1 r1 ⟨ns, ed, hl, q⟩ => by
    subst ed
    obtain ⟨v, rfl, rv⟩ := rsa1 r1
    obtain ⟨a, xs, rfl, hs, ra⟩ := rv.lst_inv
    rw [ra.ints_inv] at hs
    refine ⟨a, ns, rfl, S1.same.seq hs, hl, fun s c hc hn => ?_⟩
    refine ⟨s, _, c, rfl, upd_same, by omega, fun ns' p hp hm hlen hpn => ?_⟩
    have S2 := S1.keep (same_new (o := SetO w s (fun j => decide (j ∈ ns)) c) hn)
    obtain ⟨S3, e3⟩ := S2.ice (o := .lst (ns'.map V.int)) hpn
    exact k _ _ _ _ L1 (Same.tr e1 e3) S3 (.lst upd_same (RsA.ints ns')) (q ns' hp (fun j => by rw [hm j]; simp) (by omega))
end
local macro_rules | `(tactic| walk_at "at") => `(tactic| first | assumption | repeat first | with_reducible exact At.here | with_reducible exact at_mc | with_reducible exact at_mb | with_reducible exact at_mo | with_reducible exact at_ms | with_reducible exact at_md | with_reducible apply At.tail | (with_reducible apply At.in (by assumption)))
local macro_rules | `(tactic| walk_at "fact") => `(tactic| first | exact c_Court (by assumption) | exact c_Lane (by assumption) | exact c_Signs (by assumption) | exact n_Court_clock (by assumption) | exact n_Court_long (by assumption) | exact n_Court_bags (by assumption) | exact n_Court_book (by assumption) | exact n_Court_opened (by assumption) | exact n_Court_seen (by assumption) | exact n_Court_kept (by assumption) | exact n_Court_deeds (by assumption) | exact n_Lane_both (by assumption) | exact n_Lane_first (by assumption) | exact n_Lane_standing (by assumption) | exact n_Lane_mood (by assumption) | exact n_Lane_ending (by assumption) | exact n_Signs_by_hand (by assumption))
local macro_rules | `(tactic| walk_at "ge") => `(tactic| first
  | with_reducible refine we_var rfl ?_
  | with_reducible refine we_int ?_
  | with_reducible refine we_str ?_
  | with_reducible refine we_ty ?_
  | with_reducible refine we_bl ?_
  | with_reducible refine we_non ?_
  | with_reducible refine we_ref ?_
  | with_reducible refine we_op ?_
  | with_reducible refine we_cb ?_
  | with_reducible refine we_call0 ?_
  | with_reducible refine we_call ?_
  | with_reducible refine we_lst ?_
  | with_reducible refine we_tup ?_
  | with_reducible refine we_andV ?_
  | with_reducible refine we_orV ?_
  | with_reducible refine we_notV ?_
  | with_reducible refine we_if ?_
  | with_reducible refine we_chain ?_
  | with_reducible refine we_sl ?_
  | with_reducible refine we_lz ?_
  | with_reducible refine we_dnewK (fun _ => ?_)
  | with_reducible refine we_dnewN (fun _ => ?_)
  | with_reducible refine we_fld ?_
  | with_reducible refine we_dget ?_
  | with_reducible refine we_din ?_
  | with_reducible refine we_dnotIn ?_
  | with_reducible refine we_dget2 ?_
  | with_reducible refine we_dsetd ?_
  | with_reducible refine we_make ?_
  | with_reducible refine we_meth0 ?_
  | with_reducible refine we_meth ?_
  | with_reducible refine we_bm ?_)
local macro_rules | `(tactic| walk_at "gt") => `(tactic| first
  | with_reducible refine wt_B ?_
  | with_reducible refine wt_test ?_
  | with_reducible refine wt_not ?_
  | with_reducible refine wt_and ?_
  | with_reducible refine wt_or ?_
  | with_reducible refine wt_yes ?_)
local macro_rules | `(tactic| walk_at "gst") => `(tactic| first
  | with_reducible refine ws_ret ?_
  | with_reducible refine ws_retN ?_
  | with_reducible refine ws_seq ?_
  | with_reducible refine ws_set ?_
  | with_reducible refine ws_drop ?_
  | with_reducible refine ws_if ?_
  | with_reducible refine ws_next ?_
  | with_reducible refine ws_raise ?_
  | with_reducible refine ws_asgS ?_
  | with_reducible refine ws_setL ?_
  | with_reducible refine ws_setN ?_
  | with_reducible refine ws_asg ?_
  | with_reducible refine ws_fld ?_
  | with_reducible refine ws_fldaddI ?_
  | with_reducible refine ws_dput ?_)
local macro_rules | `(tactic| walk_at "gr") => `(tactic| first
  | with_reducible refine wr_ixT rfl ?_
  | with_reducible refine wr_ixL rfl ?_
  | with_reducible refine ix_t0 ?_
  | with_reducible refine ix_t1 ?_
  | with_reducible refine ix_t2 ?_
  | with_reducible refine ix_t3 ?_
  | with_reducible refine ix_t4 ?_
  | with_reducible refine ix_l0 ?_
  | with_reducible refine ix_l1 ?_
  | with_reducible refine ix_l2 ?_
  | with_reducible refine ix_l3 ?_
  | with_reducible refine ix_l4 ?_
  | with_reducible refine wr_int ?_
  | (with_reducible refine isPow ?_; with_reducible refine wr_powL (by decide) (by decide) (by decide) ?_)
  | with_reducible refine wr_bool ?_
  | with_reducible refine wr_eqI ?_
  | with_reducible refine wr_neI ?_
  | with_reducible refine wr_eqS ?_
  | with_reducible refine wr_neS ?_
  | with_reducible refine wr_eqB ?_
  | with_reducible refine wr_neB ?_
  | with_reducible refine wr_isN ?_
  | with_reducible refine wr_notN ?_
  | (with_reducible refine isIxC ?_; with_reducible refine wr_ixC (by walk_at "at") (by with_unfolding_all rfl) ?_))
local macro_rules | `(tactic| walk_at "gc") => `(tactic| first
  | with_reducible refine wc_isi rfl rfl ?_
  | with_reducible refine wc_isi (by decide) (by decide +kernel) ?_
  | (with_reducible refine isLen ?_; with_reducible refine wc_lenC (by walk_at "at") ?_)
  | with_reducible refine wc_lenT ?_
  | with_reducible refine wc_lenL ?_)
local macro_rules | `(tactic| walk_at "ga") => `(tactic| first
  | with_reducible refine wa_cons ?_
  | with_reducible refine wa_nil ?_)
local macro_rules | `(tactic| walk_at "gx") => `(tactic| first
  | (with_reducible refine isLn ?_; with_reducible refine lenAnd (by simp) ?_)
  | with_reducible refine wsl_tup ?_
  | with_reducible refine wo_none ?_
  | with_reducible refine wo_some ?_
  | with_reducible refine ex_bl ?_
  | with_reducible refine ex_int ?_
  | with_reducible refine ex_str ?_
  | with_reducible refine ex_tup ?_
  | with_reducible refine ex_lst ?_
  | with_reducible refine ex_etup ?_
  | with_reducible refine br_true ?_
  | with_reducible refine br_false ?_
  | (with_reducible refine isBr ?_; refine br_t rfl ?_)
  | (with_reducible refine isBr ?_; refine br_f rfl ?_)
  | (with_reducible refine isFld ?_; with_reducible refine ex_fld (by walk_at "at") (by walk_at "fact") (by walk_at "fact") (by with_unfolding_all rfl) ?_)
  | (with_reducible refine isPut ?_; with_reducible refine ex_put (by walk_at "at") (by walk_at "fact") (by walk_at "fact") (by with_unfolding_all exact of_decide_eq_true rfl) ?_)
  | (with_reducible refine isMeth ?_; with_reducible refine ex_meth (by walk_at "at") (by with_unfolding_all rfl) ?_)
  | (with_reducible refine isTy ?_; with_reducible refine And.intro (ty_cell (by walk_at "at")) ?_)
  | with_reducible refine k_whole ?_
  | with_reducible refine k_count ?_
  | with_reducible refine k_amount ?_)
local macro_rules | `(tactic| walk_at "s") => `(tactic| first
  | (with_reducible refine isWE ?_; walk_at "ge")
  | (with_reducible refine isWS ?_; walk_at "gst")
  | (with_reducible refine isWT ?_; walk_at "gt")
  | (with_reducible refine isWR ?_; walk_at "gr")
  | (with_reducible refine isWA ?_; walk_at "ga")
  | (with_reducible refine isWC ?_; walk_at "gc")
  | walk_at "gx")
local macro_rules | `(tactic| walk_at "w") => `(tactic| repeat walk_at "s")

section
variable {P : Program} {w : World} {K : PySem.W.Frag} {mg : Str → Option Value} {base : Heap}
def lkL (l : Lck) : D := .lst [.int l.id, .str (side l.rt), .int l.am, .int l.sl, .int l.la]
abbrev aLocks : ASp := A5 fun self y z u v L Φ _ => ∃ (a g : Addr) (x : Wl) (f : Sto → Sto) (nu ma ck : Int) (ks : List Int), self = .ref a ∧ Part (WlC a g x) L f ∧ Wl.ok x ∧ y = .int nu ∧ 1 ≤ nu ∧ nu ≤ 100000000000000 ∧ z = .int ma ∧ 0 ≤ ma ∧ ma ≤ 30 ∧ u = .lst (ks.map D.int) ∧ ks ≠ [] ∧ ks.length ≤ 100 ∧ (∀ n ∈ ks, 0 ≤ n) ∧ v = .int ck ∧ 0 ≤ ck ∧ x.c + 200 ≤ 1000000 ∧
  ∀ x' : Wl, x'.ok → x'.c ≤ x.c + 200 → ∀ ls : List Lck, (ls.length : Int) ≤ ma → (∀ l ∈ ls, l.ok ∧ l.am = 1 ∧ l.id ≤ nu) → ls.Pairwise (fun p q => p.id < q.id) → Φ (.lst (ls.map lkL)) (f (WlC a g x'))
theorem sc_law_locks : FnScope ["_law_well_here", "_law_number", "_law_many", "_law_keys", "_law_clock", "_law_ids", "_law_found", "_law_one", "_law_giver", "_law_last", "_law_k"] ["_law_well_here", "_law_number", "_law_many", "_law_keys", "_law_clock"] d_law_locks.scope := ⟨rfl, rfl, rfl, by decide +kernel, rfl, by decide +kernel, by decide +kernel⟩
theorem ok_law_locks (T : Tx K mg) : FOk P w K mg base 2 (He.fAd K d_law_locks.at_) ["_law_well_here", "_law_number", "_law_many", "_law_keys", "_law_clock"] aLocks := by
  refine fok_of (d := d_law_locks) T 47 (k := 1) rfl rfl rfl sc_law_locks (fun ds L Φ ex h => A5.len h) (fun _ _ _ _ _ _ us hl => match us, hl with | [_, _, _, _, _], _ => rfl) (fun cdv Ar outer s H E ds L Φ ex hr h => ?_)
  obtain ⟨well_here, number, many_, keys, clock, rfl, h⟩ := h
  refine ⟨_, (pss_cons (ps_set (i := 5) sc_law_locks.nd rfl (Or.inl rfl) (pe_callB (cr_sortedSet rfl) rfl (f_sorted T) (by decide +kernel) (pa_cons (pe_callTy (cr_setL rfl) rfl (f_set T) (by decide +kernel) (pa_cons (pe_lc (own := [("_law_k", 10)]) rfl sc_law_locks.nd (pi_range1 rfl (f_range T) (pa_cons (pv 2) pa_nil)) (blkOk_by (own := [("_law_k", 10)]) (N := ["_law_well_here", "_law_number", "_law_many", "_law_keys", "_law_clock", "_law_ids", "_law_found", "_law_one", "_law_giver", "_law_last", "_law_k"]) (sc := d_law_locks.scope) (by decide +kernel)) (fun _ _ _ _ _ => by exact (pg_name (i := 10) sc_law_locks.nd rfl (Or.inl rfl))) (fun _ _ _ _ _ => by exact pts_nil) (fun _ _ _ _ _ => by exact (pe_op op_add pe_int (pe_cK (P := P) (w := w) (K := K) (mg := mg) (base := base) rfl rfl rfl rfl rfl (ok_law_take T) hr rfl (g_law_take T) (pa_cons (pv 0) (pa_cons (pv 1) pa_nil)))))) pa_nil)) pa_nil)))
    (pss_cons (ps_set (i := 6) sc_law_locks.nd rfl (Or.inl rfl) (pe_lst pa_nil))
    (pss_cons (ps_for (passes_of rfl) rfl (pi_list (pv 5)) (pg_name (i := 7) sc_law_locks.nd rfl (Or.inl rfl)) (pss_cons (ps_set (i := 8) sc_law_locks.nd rfl (Or.inl rfl) (pe_ix ix_list (pe_lst (pa_cons pe_str (pa_cons pe_str pa_nil))) (pe_c (ok_law_take T) hr rfl (g_law_take T) (pa_cons (pv 0) (pa_cons pe_int pa_nil))) (fun _ _ => rfl)))
    (pss_cons (ps_set (i := 9) sc_law_locks.nd rfl (Or.inl rfl) (pe_op op_add (pe_callB (call_max2 rfl) rfl (f_max T) (by decide +kernel) (pa_cons pe_int (pa_cons (pe_op op_sub (pv 4) pe_int) pa_nil))) (pe_c (ok_law_take T) hr rfl (g_law_take T) (pa_cons (pv 0) (pa_cons (pe_ix ix_list (pe_lst (pa_cons pe_int (pa_cons pe_int (pa_cons pe_int pa_nil)))) (pe_c (ok_law_take T) hr rfl (g_law_take T) (pa_cons (pv 0) (pa_cons pe_int pa_nil))) (fun _ _ => rfl)) pa_nil)))))
    (pss_one (ps_expr (pe_bm PySem.F.plainAttrs_list PySem.F.slot_list_append PySem.F.type_list_append mt_append (pv 6) (pa_cons (pe_lst (pa_cons (pv 7) (pa_cons (pv 8) (pa_cons pe_int (pa_cons (pe_ix ix_list (pv 3) (pe_c (ok_law_take T) hr rfl (g_law_take T) (pa_cons (pv 0) (pa_cons (pe_callB call_len rfl (f_len T) (by decide +kernel) (pa_cons (pv 3) pa_nil)) pa_nil))) (fun _ _ => rfl)) (pa_cons (pv 9) pa_nil)))))) pa_nil)))))))
    (pss_one (ps_ret (pv 6)))))), ?_⟩
  obtain ⟨a, g, x, f, nu, ma, ck, ks, rfl, ⟨hf, rfl⟩, ok, rfl, hn1, hn2, rfl, hm1, hm2, rfl, hk0, hk1, hk2, rfl, hck, hc, h⟩ := h
  dsimp only [cxOf]
  refine ws_seq (ws_set (we_sortSet (wa_cons (we_lcW (wi_rng (n := 0) ?_)))))
  walk_at "w"
  refine ⟨ma, rfl, by omega, by omega, a, g, f, x, 1, fun _ d => ∃ n, d = D.int n ∧ 1 ≤ n ∧ n ≤ nu, rfl, fun _ => trivial, by rw [rangeD_len]; omega, ok, fun i d hd x' acc p ok' hc' => ?_, fun x' acc ok' hc' hl hr => ?_⟩
  · have hi := (List.getElem?_eq_some_iff.mp hd).1
    rw [rangeD_len] at hi
    refine ⟨_, wg_name, by simp, ?_⟩
    walk_at "w"
    refine k_tk (m := nu) (f := fun S => (p, .lst acc) :: f S) hf.tail ok' (by omega) (by omega) (by omega) fun x2 ok2 hc2 j hj0 hj1 => ?_
    walk_at "w"
    exact ⟨x2, ok2, hc2, rfl, 1 + j, rfl, by omega, by omega⟩
  · rw [rangeD_len] at hc' hl
    obtain ⟨rs, rfl, hrs⟩ := ints_of hr
    rw [List.length_map] at hl
    refine wa_nil ⟨rs, rfl, by omega, fun ids hp hmem hlen => ?_⟩
    refine ws_seq (ws_set (we_lstC (wa_nil ⟨by decide, fun q => ?_⟩)))
    refine ws_seq (ws_for (wi_listD ?_))
    walk_at "w"
    refine ⟨fun i Γ' L' => i ≤ ids.length ∧ ∃ (x2 : Wl) (ls : List Lck), Wl.ok x2 ∧ x2.c ≤ x'.c + 4 * (i : Int) ∧ L' = (q, .lst (ls.map lkL)) :: f (WlC a g x2) ∧ ls.map (·.id) = ids.take i ∧ (∀ l ∈ ls, l.ok ∧ l.am = 1 ∧ l.id ≤ nu) ∧ ∃ y1 y2 y3 y4, Γ' = [some (.ref a), some (.int nu), some (.int ma), some (.lst (ks.map D.int)), some (.int ck), some (.lst (ids.map D.int)), some (.ref q), y1, y2, y3, y4], ⟨Nat.zero_le _, x', [], ok', by simp, rfl, rfl, fun l hl => (nomatch hl), _, _, _, _, rfl⟩, fun i Γ' L' hI => trivial, fun i d Γ' L' hd hI => ?_, fun Γ' L' hI => ?_⟩
    · obtain ⟨hi, x2, ls, ok2, hc2, rfl, hids, hls, y1, y2, y3, y4, rfl⟩ := hI
      rw [List.getElem?_map] at hd
      obtain ⟨one, ho, rfl⟩ := Option.map_eq_some_iff.mp hd
      have hlt : i < ids.length := (List.getElem?_eq_some_iff.mp ho).1
      have hone := hrs one ((hmem one).mp (List.mem_of_getElem? ho))
      have htk : ids.take (i + 1) = ids.take i ++ [one] := by rw [List.take_add_one, ho]; rfl
      refine ⟨_, wg_name, ?_⟩
      dsimp only [setG]
      walk_at "w"
      refine k_tk (m := 2) (f := fun S => (q, .lst (ls.map lkL)) :: f S) hf.tail ok2 (by omega) (by decide) (by decide) fun x3 ok3 hc3 j hj0 hj1 => ?_
      obtain ⟨b, hb⟩ : ∃ b, atI [D.str "left", D.str "right"] j = some (.str (side b)) := by
        rcases (show j = 0 ∨ j = 1 by omega) with rfl | rfl
        · exact ⟨false, rfl⟩
        · exact ⟨true, rfl⟩
      refine wr_ixL hb ?_
      walk_at "w"
      refine wc_max2 ?_
      walk_at "w"
      refine k_tk (m := 3) (f := fun S => (q, .lst (ls.map lkL)) :: f S) hf.tail ok3 (by omega) (by decide) (by decide) fun x4 ok4 hc4 j2 hj20 hj21 => ?_
      obtain ⟨v, hv, e⟩ := pick_int (ns := [9, 9, 40]) hj20 hj21
      have hv2 : 0 < v ∧ v ≤ 40 := by
        simp only [List.mem_cons, List.not_mem_nil, or_false] at hv
        omega
      refine wr_ixL e ?_
      walk_at "w"
      refine k_tk (m := v) (f := fun S => (q, .lst (ls.map lkL)) :: f S) hf.tail ok4 (by omega) hv2.1 (by omega) fun x5 ok5 hc5 j3 hj30 hj31 => ?_
      walk_at "w"
      have hkl : 0 < ks.length := List.length_pos_iff.mpr hk0
      refine k_tk (m := ((ks.map D.int).length : Int)) (f := fun S => (q, .lst (ls.map lkL)) :: f S) hf.tail ok5 (by omega) (by rw [List.length_map]; omega) (by rw [List.length_map]; omega) fun x6 ok6 hc6 j4 hj40 hj41 => ?_
      obtain ⟨sl, hsl, e2⟩ := pick_int (ns := ks) hj40 (by rw [List.length_map] at hj41; exact hj41)
      refine wr_ixL e2 ?_
      walk_at "w"
      have hll : ls.length = i := by
        have := congrArg List.length hids
        rw [List.length_map, List.length_take] at this
        omega
      refine wm_append At.here (by rw [List.length_map]; omega) ?_
      refine ⟨hlt, x6, ls ++ [⟨one, b, 1, sl, (if ck - 3 > 0 then ck - 3 else 0) + j3⟩], ok6, ?_, ?_, ?_, fun l hl => ?_, _, _, _, _, rfl⟩
      · rw [Int.natCast_add]
        omega
      · rw [List.map_append]
        rfl
      · rw [List.map_append, hids, htk]
        rfl
      · rcases List.mem_append.mp hl with z | z
        · exact hls l z
        · have : l = ⟨one, b, 1, sl, (if ck - 3 > 0 then ck - 3 else 0) + j3⟩ := by simpa using z
          subst this
          exact ⟨⟨hone.1, by dsimp only; omega, hk2 sl hsl, by dsimp only; split <;> omega⟩, rfl, hone.2⟩
    · obtain ⟨hi, x2, ls, ok2, hc2, rfl, hids, hls, y1, y2, y3, y4, rfl⟩ := hI
      rw [List.length_map] at hc2 hids
      rw [List.take_length] at hids
      have hll : ls.length = ids.length := by
        have := congrArg List.length hids
        rw [List.length_map] at this
        exact this
      refine ws_ret (WE.ice (we_var rfl ⟨_, _, _, rfl, rfl, h x2 ok2 (by omega) ls (by omega) hls ?_⟩))
      rw [← hids] at hp
      exact List.pairwise_map.mp hp
end
end Cl
set_option Elab.async false
set_option linter.all false
set_option maxRecDepth 100000
set_option maxHeartbeats 4000000
namespace Cl
open PySem PySem.Spec PyProof.Rows L2
local macro_rules | `(tactic| walk_at "at") => `(tactic| first | assumption | repeat first | with_reducible exact At.here | with_reducible exact at_mc | with_reducible exact at_mb | with_reducible exact at_mo | with_reducible exact at_ms | with_reducible exact at_md | with_reducible apply At.tail | (with_reducible apply At.in (by assumption)))
local macro_rules | `(tactic| walk_at "fact") => `(tactic| first | exact c_Court (by assumption) | exact c_Lane (by assumption) | exact c_Signs (by assumption) | exact n_Court_clock (by assumption) | exact n_Court_long (by assumption) | exact n_Court_bags (by assumption) | exact n_Court_book (by assumption) | exact n_Court_opened (by assumption) | exact n_Court_seen (by assumption) | exact n_Court_kept (by assumption) | exact n_Court_deeds (by assumption) | exact n_Lane_both (by assumption) | exact n_Lane_first (by assumption) | exact n_Lane_standing (by assumption) | exact n_Lane_mood (by assumption) | exact n_Lane_ending (by assumption) | exact n_Signs_by_hand (by assumption))
local macro_rules | `(tactic| walk_at "ge") => `(tactic| first
  | with_reducible refine we_var rfl ?_
  | with_reducible refine we_int ?_
  | with_reducible refine we_str ?_
  | with_reducible refine we_ty ?_
  | with_reducible refine we_bl ?_
  | with_reducible refine we_non ?_
  | with_reducible refine we_ref ?_
  | with_reducible refine we_op ?_
  | with_reducible refine we_cb ?_
  | with_reducible refine we_call0 ?_
  | with_reducible refine we_call ?_
  | with_reducible refine we_lst ?_
  | with_reducible refine we_tup ?_
  | with_reducible refine we_andV ?_
  | with_reducible refine we_orV ?_
  | with_reducible refine we_notV ?_
  | with_reducible refine we_if ?_
  | with_reducible refine we_chain ?_
  | with_reducible refine we_sl ?_
  | with_reducible refine we_lz ?_
  | with_reducible refine we_dnewK (fun _ => ?_)
  | with_reducible refine we_dnewN (fun _ => ?_)
  | with_reducible refine we_fld ?_
  | with_reducible refine we_dget ?_
  | with_reducible refine we_din ?_
  | with_reducible refine we_dnotIn ?_
  | with_reducible refine we_dget2 ?_
  | with_reducible refine we_dsetd ?_
  | with_reducible refine we_make ?_
  | with_reducible refine we_meth0 ?_
  | with_reducible refine we_meth ?_
  | with_reducible refine we_bm ?_)
local macro_rules | `(tactic| walk_at "gt") => `(tactic| first
  | with_reducible refine wt_B ?_
  | with_reducible refine wt_test ?_
  | with_reducible refine wt_not ?_
  | with_reducible refine wt_and ?_
  | with_reducible refine wt_or ?_
  | with_reducible refine wt_yes ?_)
local macro_rules | `(tactic| walk_at "gst") => `(tactic| first
  | with_reducible refine ws_ret ?_
  | with_reducible refine ws_retN ?_
  | with_reducible refine ws_seq ?_
  | with_reducible refine ws_set ?_
  | with_reducible refine ws_drop ?_
  | with_reducible refine ws_if ?_
  | with_reducible refine ws_next ?_
  | with_reducible refine ws_raise ?_
  | with_reducible refine ws_asgS ?_
  | with_reducible refine ws_setL ?_
  | with_reducible refine ws_setN ?_
  | with_reducible refine ws_asg ?_
  | with_reducible refine ws_fld ?_
  | with_reducible refine ws_fldaddI ?_
  | with_reducible refine ws_dput ?_)
local macro_rules | `(tactic| walk_at "gr") => `(tactic| first
  | with_reducible refine wr_ixT rfl ?_
  | with_reducible refine wr_ixL rfl ?_
  | with_reducible refine ix_t0 ?_
  | with_reducible refine ix_t1 ?_
  | with_reducible refine ix_t2 ?_
  | with_reducible refine ix_t3 ?_
  | with_reducible refine ix_t4 ?_
  | with_reducible refine ix_l0 ?_
  | with_reducible refine ix_l1 ?_
  | with_reducible refine ix_l2 ?_
  | with_reducible refine ix_l3 ?_
  | with_reducible refine ix_l4 ?_
  | with_reducible refine wr_int ?_
  | (with_reducible refine isPow ?_; with_reducible refine wr_powL (by decide) (by decide) (by decide) ?_)
  | with_reducible refine wr_bool ?_
  | with_reducible refine wr_eqI ?_
  | with_reducible refine wr_neI ?_
  | with_reducible refine wr_eqS ?_
  | with_reducible refine wr_neS ?_
  | with_reducible refine wr_eqB ?_
  | with_reducible refine wr_neB ?_
  | with_reducible refine wr_isN ?_
  | with_reducible refine wr_notN ?_
  | (with_reducible refine isIxC ?_; with_reducible refine wr_ixC (by walk_at "at") (by with_unfolding_all rfl) ?_))
local macro_rules | `(tactic| walk_at "gc") => `(tactic| first
  | with_reducible refine wc_isi rfl rfl ?_
  | with_reducible refine wc_isi (by decide) (by decide +kernel) ?_
  | (with_reducible refine isLen ?_; with_reducible refine wc_lenC (by walk_at "at") ?_)
  | with_reducible refine wc_lenT ?_
  | with_reducible refine wc_lenL ?_)
local macro_rules | `(tactic| walk_at "ga") => `(tactic| first
  | with_reducible refine wa_cons ?_
  | with_reducible refine wa_nil ?_)
local macro_rules | `(tactic| walk_at "gx") => `(tactic| first
  | (with_reducible refine isLn ?_; with_reducible refine lenAnd (by simp) ?_)
  | with_reducible refine wsl_tup ?_
  | with_reducible refine wo_none ?_
  | with_reducible refine wo_some ?_
  | with_reducible refine ex_bl ?_
  | with_reducible refine ex_int ?_
  | with_reducible refine ex_str ?_
  | with_reducible refine ex_tup ?_
  | with_reducible refine ex_lst ?_
  | with_reducible refine ex_etup ?_
  | with_reducible refine br_true ?_
  | with_reducible refine br_false ?_
  | (with_reducible refine isBr ?_; refine br_t rfl ?_)
  | (with_reducible refine isBr ?_; refine br_f rfl ?_)
  | (with_reducible refine isFld ?_; with_reducible refine ex_fld (by walk_at "at") (by walk_at "fact") (by walk_at "fact") (by with_unfolding_all rfl) ?_)
  | (with_reducible refine isPut ?_; with_reducible refine ex_put (by walk_at "at") (by walk_at "fact") (by walk_at "fact") (by with_unfolding_all exact of_decide_eq_true rfl) ?_)
  | (with_reducible refine isMeth ?_; with_reducible refine ex_meth (by walk_at "at") (by with_unfolding_all rfl) ?_)
  | (with_reducible refine isTy ?_; with_reducible refine And.intro (ty_cell (by walk_at "at")) ?_)
  | with_reducible refine k_whole ?_
  | with_reducible refine k_count ?_
  | with_reducible refine k_amount ?_)
local macro_rules | `(tactic| walk_at "s") => `(tactic| first
  | (with_reducible refine isWE ?_; walk_at "ge")
  | (with_reducible refine isWS ?_; walk_at "gst")
  | (with_reducible refine isWT ?_; walk_at "gt")
  | (with_reducible refine isWR ?_; walk_at "gr")
  | (with_reducible refine isWA ?_; walk_at "ga")
  | (with_reducible refine isWC ?_; walk_at "gc")
  | walk_at "gx")
local macro_rules | `(tactic| walk_at "w") => `(tactic| repeat walk_at "s")

section
variable {P : Program} {w : World} {K : PySem.W.Frag} {mg : Str → Option Value} {base : Heap}
abbrev aWhole2 : ASp := A1 fun a L Φ _ => ∃ t : Stt, a = t.d ∧ t.ok ∧ Φ (.int t.worth) L
theorem sc_law_whole : FnScope ["_law_state_here", "_law_lock"] ["_law_state_here"] d_law_whole.scope := ⟨rfl, rfl, rfl, by decide +kernel, rfl, by decide +kernel, by decide +kernel⟩
theorem ok_law_whole (T : Tx K mg) : FOk P w K mg base 1 (He.fAd K d_law_whole.at_) ["_law_state_here"] aWhole2 := by
  refine fok_of (d := d_law_whole) T 49 (k := 0) rfl rfl rfl sc_law_whole (fun ds L Φ ex h => A1.len h) (fun _ _ _ _ _ _ us hl => match us, hl with | [_], _ => rfl) (fun cdv Ar outer s H E ds L Φ ex hr h => ?_)
  obtain ⟨state_here, rfl, h⟩ := h
  refine ⟨_, (pss_one (ps_ret (pe_op op_add (pe_op op_add (pe_ix ix_tup (pv 0) pe_int (fun _ _ => rfl)) (pe_ix ix_tup (pv 0) pe_int (fun _ _ => rfl))) (pe_callB (cr_sum rfl) rfl (f_sum T) (by decide +kernel) (pa_cons (pe_lc (own := [("_law_lock", 1)]) rfl sc_law_whole.nd (pi_tup (pe_ix ix_tup (pv 0) pe_int (fun _ _ => rfl))) (blkOk_by (own := [("_law_lock", 1)]) (N := ["_law_state_here", "_law_lock"]) (sc := d_law_whole.scope) (by decide +kernel)) (fun _ _ _ _ _ => by exact (pg_name (i := 1) sc_law_whole.nd rfl (Or.inl rfl))) (fun _ _ _ _ _ => by exact pts_nil) (fun _ _ _ _ _ => by exact (pe_ix (ix_tupK (K := K) rfl) (pv 1) pe_int (fun _ _ => rfl)))) pa_nil))))), ?_⟩
  obtain ⟨t, rfl, ht, h⟩ := h
  dsimp only [cxOf]
  walk_at "w"
  refine we_lcM (wi_tup ?_)
  walk_at "w"
  refine ⟨fun _ _ => trivial, by have := ht.few; rw [List.length_map]; omega, fun d => (match d with | .tup [_, _, .int a, _, _] => .int a | _ => .non), fun d hd p acc => ?_, ?_⟩
  · obtain ⟨k, hk, rfl⟩ := List.mem_map.mp hd
    refine ⟨_, wg_name, by simp, ?_⟩
    walk_at "w"
    exact ⟨rfl, rfl⟩
  · walk_at "w"
    refine wc_sumE (ns := t.locks.map (·.am)) (by rw [List.map_map, List.map_map]; rfl) ?_
    walk_at "w"
    exact h
abbrev aIsCoins : ASp := A1 fun a L Φ _ => ∃ i, a = .int i ∧ Φ (.bl (decide (i ≥ 0))) L
theorem k_isCoins {i : Int} {L Φ ex} (h : Φ (.bl (decide (i ≥ 0))) L) : aIsCoins [.int i] L Φ ex := ⟨_, rfl, i, rfl, h⟩
theorem sc_law_is_coins : FnScope ["_law_thing"] ["_law_thing"] d_law_is_coins.scope := ⟨rfl, rfl, rfl, by decide +kernel, rfl, by decide +kernel, by decide +kernel⟩
theorem ok_law_is_coins (T : Tx K mg) : FOk P w K mg base 1 (He.fAd K d_law_is_coins.at_) ["_law_thing"] aIsCoins := by
  refine fok_of (d := d_law_is_coins) T 52 (k := 0) rfl rfl rfl sc_law_is_coins (fun ds L Φ ex h => A1.len h) (fun _ _ _ _ _ _ us hl => match us, hl with | [_], _ => rfl) (fun cdv Ar outer s H E ds L Φ ex hr h => ?_)
  obtain ⟨thing, rfl, h⟩ := h
  refine ⟨_, (pss_one (ps_ret (pe_and (pe_callB call_isi rfl (f_isinstance T) (by decide +kernel) (pa_cons (pv 0) (pa_cons (pe_gty (n := "int") rfl (f_int T) (by decide +kernel)) pa_nil))) (pe_and (pe_not (pe_callB call_isi rfl (f_isinstance T) (by decide +kernel) (pa_cons (pv 0) (pa_cons (pe_gty (n := "bool") rfl (f_bool T) (by decide +kernel)) pa_nil)))) (pe_one (pe_cmpR op_ge (pv 0) pe_int (nomark _))))))), ?_⟩
  obtain ⟨i, rfl, h⟩ := h
  dsimp only [cxOf]
  walk_at "w"
  exact h
def made (ns : List Int) : Nat → List Lck → List Lck
  | _, [] => []
  | i, l :: r => { l with am := 1 + ns.getD (2 + i) 0 } :: made ns (i + 1) r
def madeF (ns : List Int) : D → D
  | .tup [.int k, .lst [a, b, _, c, e]] => .tup [a, b, .int (1 + ns.getD (2 + k.toNat) 0), c, e]
  | d => d
theorem made_map (ns : List Int) : ∀ (ls : List Lck) (i : Nat), (enumD i (ls.map lkL)).map (madeF ns) = (made ns i ls).map Lck.d
  | [], _ => rfl
  | l :: ls, i => by
    rw [List.map_cons, enumD, List.map_cons, made_map ns ls (i + 1), made, List.map_cons]
    simp [lkL, madeF, Lck.d]
theorem made_len (ns : List Int) : ∀ (ls : List Lck) (i : Nat), (made ns i ls).length = ls.length
  | [], _ => rfl
  | l :: ls, i => by rw [made, List.length_cons, made_len ns ls, List.length_cons]
theorem made_mem (ns : List Int) {q : Lck} : ∀ (ls : List Lck) (i : Nat), q ∈ made ns i ls → ∃ l ∈ ls, ∃ k, q = { l with am := 1 + ns.getD k 0 }
  | [], _, h => nomatch h
  | l :: ls, i, h => by
    rw [made] at h
    rcases List.mem_cons.mp h with h | h
    · exact ⟨l, List.mem_cons_self, _, h⟩
    · obtain ⟨x, h1, h2⟩ := made_mem ns ls (i + 1) h
      exact ⟨x, List.mem_cons_of_mem _ h1, h2⟩
theorem made_asc (ns : List Int) : ∀ (ls : List Lck) (i : Nat), ls.Pairwise (fun p q => p.id < q.id) → (made ns i ls).Pairwise (fun p q => p.id < q.id)
  | [], _, _ => .nil
  | l :: ls, i, h => by
    rw [made]
    rw [List.pairwise_cons] at h ⊢
    refine ⟨fun q hq => ?_, made_asc ns ls (i + 1) h.2⟩
    obtain ⟨x, hx, k, rfl⟩ := made_mem ns ls (i + 1) hq
    exact h.1 x hx
theorem made_sum (ns : List Int) : ∀ (ls : List Lck) (i : Nat), 2 + i + ls.length = ns.length → ((made ns i ls).map (·.am)).sum = ls.length + (ns.drop (2 + i)).sum
  | [], i, h => by
    rw [List.drop_of_length_le (by simp at h; omega)]
    rfl
  | l :: ls, i, h => by
    rw [List.length_cons] at h
    have ih := made_sum ns ls (i + 1) (by omega)
    rw [made, List.map_cons, List.sum_cons, ih, List.drop_eq_getElem_cons (show 2 + i < ns.length by omega), List.sum_cons, List.length_cons, List.getD_eq_getElem?_getD, List.getElem?_eq_getElem (show 2 + i < ns.length by omega)]
    simp only [Option.getD_some, Nat.add_assoc]
    omega
abbrev aStateL : ASp := A5 fun self y z u v L Φ _ => ∃ (a g : Addr) (x : Wl) (f : Sto → Sto) (ro wh ck : Int) (ks : List Int), self = .ref a ∧ Part (WlC a g x) L f ∧ Wl.ok x ∧ y = .int ro ∧ 0 ≤ ro ∧ z = .int wh ∧ 0 ≤ wh ∧ wh.natAbs < 2 ^ 7000 ∧ u = .lst (ks.map D.int) ∧ ks ≠ [] ∧ ks.length ≤ 100 ∧ (∀ n ∈ ks, 0 ≤ n) ∧ v = .int ck ∧ 0 ≤ ck ∧ x.c + 300 ≤ 1000000 ∧
  ∀ x' : Wl, x'.ok → x'.c ≤ x.c + 300 → ∀ t : Stt, t.ok → t.lane = ro → t.worth = wh → Φ t.d (f (WlC a g x'))
theorem sc_law_state : FnScope ["_law_well_here", "_law_road", "_law_whole_here", "_law_keys", "_law_clock", "_law_number", "_law_many", "_law_locks_here", "_law_parts_here", "_law_made", "_law_k", "_law_one"] ["_law_well_here", "_law_road", "_law_whole_here", "_law_keys", "_law_clock"] d_law_state.scope := ⟨rfl, rfl, rfl, by decide +kernel, rfl, by decide +kernel, by decide +kernel⟩
theorem ok_law_state (T : Tx K mg) : FOk P w K mg base 3 (He.fAd K d_law_state.at_) ["_law_well_here", "_law_road", "_law_whole_here", "_law_keys", "_law_clock"] aStateL := by
  refine fok_of (d := d_law_state) T 48 (k := 2) rfl rfl rfl sc_law_state (fun ds L Φ ex h => A5.len h) (fun _ _ _ _ _ _ us hl => match us, hl with | [_, _, _, _, _], _ => rfl) (fun cdv Ar outer s H E ds L Φ ex hr h => ?_)
  obtain ⟨well_here, road, whole_here, keys, clock, rfl, h⟩ := h
  refine ⟨_, (pss_cons (ps_set (i := 5) sc_law_state.nd rfl (Or.inl rfl) (pe_c (ok_law_take T) hr rfl (g_law_take T) (pa_cons (pv 0) (pa_cons (pe_ix ix_list (pe_lst (pa_cons pe_int (pa_cons pe_int (pa_cons pe_int (pa_cons (pe_op op_pow pe_int pe_int) pa_nil))))) (pe_c (ok_law_take T) hr rfl (g_law_take T) (pa_cons (pv 0) (pa_cons pe_int pa_nil))) (fun _ _ => rfl)) pa_nil))))
    (pss_cons (ps_set (i := 6) sc_law_state.nd rfl (Or.inl rfl) pe_int)
    (pss_cons (ps_if (pt_cmpR op_gt (pv 5) pe_int (nomark _)) (pss_one (ps_set (i := 6) sc_law_state.nd rfl (Or.inl rfl) (pe_c (ok_law_take T) hr rfl (g_law_take T) (pa_cons (pv 0) (pa_cons (pe_ix ix_list (pe_lst (pa_cons pe_int (pa_cons pe_int (pa_cons pe_int (pa_cons pe_int pa_nil))))) (pe_c (ok_law_take T) hr rfl (g_law_take T) (pa_cons (pv 0) (pa_cons pe_int pa_nil))) (fun _ _ => rfl)) pa_nil))))) pss_nil)
    (pss_cons (ps_set (i := 7) sc_law_state.nd rfl (Or.inl rfl) (pe_c (ok_law_locks T) hr rfl (g_law_locks T) (pa_cons (pv 0) (pa_cons (pe_callB (call_max2 rfl) rfl (f_max T) (by decide +kernel) (pa_cons pe_int (pa_cons (pv 5) pa_nil))) (pa_cons (pe_callB (call_min2 rfl) rfl (f_min T) (by decide +kernel) (pa_cons (pv 6) (pa_cons (pv 2) pa_nil))) (pa_cons (pv 3) (pa_cons (pv 4) pa_nil)))))))
    (pss_cons (ps_set (i := 8) sc_law_state.nd rfl (Or.inr rfl) (pe_c (ok_law_parts T) hr rfl (g_law_parts T) (pa_cons (pv 0) (pa_cons (pe_op op_sub (pv 2) (pe_callB call_len rfl (f_len T) (by decide +kernel) (pa_cons (pv 7) pa_nil))) (pa_cons (pe_op op_add pe_int (pe_callB call_len rfl (f_len T) (by decide +kernel) (pa_cons (pv 7) pa_nil))) pa_nil)))))
    (pss_cons (ps_set (i := 9) sc_law_state.nd rfl (Or.inl rfl) (pe_callTy call_tuple_of rfl (f_tuple T) (by decide +kernel) (pa_cons (pe_lc (own := [("_law_k", 10), ("_law_one", 11)]) rfl sc_law_state.nd (pi_enum rfl (f_enumerate T) (pa_cons (pv 7) pa_nil)) (blkOk_by (own := [("_law_k", 10), ("_law_one", 11)]) (N := ["_law_well_here", "_law_road", "_law_whole_here", "_law_keys", "_law_clock", "_law_number", "_law_many", "_law_locks_here", "_law_parts_here", "_law_made", "_law_k", "_law_one"]) (sc := d_law_state.scope) (by decide +kernel)) (fun _ _ _ _ _ => by exact (pg_tupK (n := 2) (K := K) rfl rfl (pgs_cons (pg_name (i := 10) sc_law_state.nd rfl (Or.inl rfl)) (pgs_cons (pg_name (i := 11) sc_law_state.nd rfl (Or.inl rfl)) pgs_nil)))) (fun _ _ _ _ _ => by exact pts_nil) (fun _ _ _ _ _ => by exact (pe_tup (pa_cons (pe_ix (ix_listK (K := K) rfl) (pv 11) pe_int (fun _ _ => rfl)) (pa_cons (pe_ix (ix_listK (K := K) rfl) (pv 11) pe_int (fun _ _ => rfl)) (pa_cons (pe_op op_add pe_int (pe_ix (ix_listK (K := K) rfl) (pv 8) (pe_op op_add pe_int (pv 10)) (fun _ _ => rfl))) (pa_cons (pe_ix (ix_listK (K := K) rfl) (pv 11) pe_int (fun _ _ => rfl)) (pa_cons (pe_ix (ix_listK (K := K) rfl) (pv 11) pe_int (fun _ _ => rfl)) pa_nil)))))))) pa_nil)))
    (pss_one (ps_ret (pe_tup (pa_cons (pv 1) (pa_cons (pv 5) (pa_cons (pe_ix ix_list (pv 8) pe_int (fun _ _ => rfl)) (pa_cons (pe_ix ix_list (pv 8) pe_int (fun _ _ => rfl)) (pa_cons (pv 9) pa_nil)))))))))))))), ?_⟩
  obtain ⟨a, g, x, f, ro, wh, ck, ks, rfl, ⟨hf, rfl⟩, ok, rfl, hr, rfl, hw, hw2, rfl, hk0, hk1, hk2, rfl, hck, hc, h⟩ := h
  dsimp only [cxOf]
  walk_at "w"
  refine k_tk (m := 4) hf ok (by omega) (by decide) (by decide) fun x1 ok1 hc1 j hj0 hj1 => ?_
  obtain ⟨v, hv, e⟩ := pick_int (ns := [4, 12, 12, 10 ^ (14 : Int).toNat]) hj0 hj1
  have hv2 : 0 < v ∧ v ≤ 100000000000000 := by
    simp only [List.mem_cons, List.not_mem_nil, or_false] at hv
    rcases hv with rfl | rfl | rfl | rfl <;> decide
  refine wr_ixL e ?_
  walk_at "w"
  refine k_tk (m := v) hf ok1 (by omega) hv2.1 (by omega) fun x2 ok2 hc2 nu hn0 hn1 => ?_
  refine ws_seq (ws_set (we_int ?_))
  refine ws_cut (fun Γ' L' => ∃ (x3 : Wl) (ma : Int), Wl.ok x3 ∧ x3.c ≤ x2.c + 2 ∧ L' = f (WlC a g x3) ∧ 0 ≤ ma ∧ ma ≤ 30 ∧ (nu = 0 → ma = 0) ∧ Γ' = [some (.ref a), some (.int ro), some (.int wh), some (.lst (ks.map D.int)), some (.int ck), some (.int nu), some (.int ma), none, none, none, none, none]) ?_ ?_
  · walk_at "w"
    by_cases hp : nu > 0
    · refine br_t (decide_eq_true hp) ?_
      walk_at "w"
      refine k_tk (m := 4) hf ok2 (by omega) (by decide) (by decide) fun x3 ok3 hc3 j2 hj20 hj21 => ?_
      obtain ⟨v2, hv2', e2⟩ := pick_int (ns := [1, 3, 6, 31]) hj20 hj21
      have hv3 : 0 < v2 ∧ v2 ≤ 31 := by
        simp only [List.mem_cons, List.not_mem_nil, or_false] at hv2'
        omega
      refine wr_ixL e2 ?_
      walk_at "w"
      refine k_tk (m := v2) hf ok3 (by omega) hv3.1 (by omega) fun x4 ok4 hc4 ma hm0 hm1 => ?_
      exact ⟨x4, ma, ok4, by omega, rfl, hm0, by omega, fun z => by omega, rfl⟩
    · refine br_f (decide_eq_false hp) ?_
      exact ws_next ⟨x2, 0, ok2, by omega, rfl, by decide, by decide, fun _ => rfl, rfl⟩
  · rintro Γ' L' ⟨x3, ma, ok3, hc3, rfl, hm0, hm1, hm2, rfl⟩
    walk_at "w"
    refine wc_max2 ?_
    walk_at "w"
    refine wc_min2 ?_
    walk_at "w"
    refine ⟨_, _, _, _, _, rfl, a, g, x3, f, (if nu > 1 then nu else 1), (if wh < ma then wh else ma), ck, ks, rfl, ⟨hf, rfl⟩, ok3, rfl, by split <;> omega, by split <;> omega, rfl, by split <;> omega, by split <;> omega, rfl, hk0, hk1, hk2, rfl, hck, by omega, fun x4 ok4 hc4 ls hl1 hl2 hl3 => ?_⟩
    have hl4 : (ls.length : Int) ≤ wh := by split at hl1 <;> omega
    have hl5 : (ls.length : Int) ≤ 30 := by split at hl1 <;> omega
    walk_at "w"
    rw [List.length_map]
    refine ⟨_, _, _, rfl, a, g, x4, f, wh - ls.length, 2 + ls.length, rfl, ⟨hf, rfl⟩, ok4, rfl, by omega, Nat.lt_of_le_of_lt (by omega) hw2, rfl, by omega, by omega, by omega, fun x5 ok5 hc5 ns hns hns0 hsum => ?_⟩
    walk_at "w"
    have hnl : ns.length = 2 + ls.length := by omega
    have ga : ∀ k, k < ns.length → (ns.map D.int)[k]? = some (.int (ns.getD k 0)) := fun k hk => by
      rw [List.getElem?_map, List.getD_eq_getElem?_getD, List.getElem?_eq_getElem hk]
      rfl
    refine we_lcM (wi_enumD ?_)
    walk_at "w"
    refine ⟨_, rfl, fun _ _ => trivial, by rw [enumD_len, List.length_map]; omega, madeF ns, fun d hd p acc => ?_, ?_⟩
    · obtain ⟨i, hi⟩ := List.getElem?_of_mem hd
      obtain ⟨e0, he0, rfl⟩ := enumD_at hi
      rw [List.getElem?_map] at he0
      obtain ⟨l, hl, rfl⟩ := Option.map_eq_some_iff.mp he0
      have hil := (List.getElem?_eq_some_iff.mp hl).1
      refine ⟨_, wg_tup (us := [(10, .int (i : Int)), (11, lkL l)]) rfl (wgs_cons wg_name (wgs_cons wg_name wgs_nil)), by simp, ?_⟩
      dsimp only [lkL]
      walk_at "w"
      refine wr_ixL (atI_nat (n := 2 + i) (ga _ (by omega))) ?_
      walk_at "w"
      exact ⟨by simp [madeF], rfl⟩
    · rw [made_map]
      walk_at "w"
      refine wc_tupL ?_
      walk_at "w"
      refine wr_ixL (atI_nat (n := 0) (ga _ (by omega))) ?_
      walk_at "w"
      refine wr_ixL (atI_nat (n := 1) (ga _ (by omega))) ?_
      walk_at "w"
      have hg0 : ∀ k, 0 ≤ ns.getD k 0 := fun k => by
        rw [List.getD_eq_getElem?_getD]
        cases e : ns[k]? with
        | none => exact Int.le_refl _
        | some z => exact hns0 z (List.mem_of_getElem? e)
      refine h x5 ok5 (by omega) ⟨ro, nu, ns.getD 0 0, ns.getD 1 0, made ns 0 ls⟩ ⟨hr, hn0, hg0 0, hg0 1, by rw [made_len]; omega, fun q hq => ?_, made_asc ns ls 0 hl3, fun q hq => ?_⟩ rfl ?_
      · obtain ⟨l, hl, k, rfl⟩ := made_mem ns ls 0 hq
        have := (hl2 l hl).1
        have := hg0 k
        exact ⟨(hl2 l hl).1.id, by dsimp only; omega, (hl2 l hl).1.sl, (hl2 l hl).1.la⟩
      · obtain ⟨l, hl, k, rfl⟩ := made_mem ns ls 0 hq
        have h7 := (hl2 l hl).2.2
        have h8 := (hl2 l hl).1.id
        have h9 : 0 < ls.length := List.length_pos_of_mem hl
        dsimp only
        by_cases hz : nu = 0
        · have := hm2 hz
          split at hl1 <;> omega
        · split at h7 <;> omega
      · unfold Stt.worth
        dsimp only
        rw [made_sum ns ls 0 (by omega)]
        obtain ⟨p0, p1, r, rfl⟩ : ∃ p0 p1 r, ns = p0 :: p1 :: r := by
          cases ns with
          | nil => simp at hnl; omega
          | cons p0 r =>
            cases r with
            | nil => simp at hnl; omega
            | cons p1 r => exact ⟨p0, p1, r, rfl⟩
        rw [List.sum_cons, List.sum_cons] at hsum
        show p0 + p1 + ((ls.length : Int) + r.sum) = wh
        omega
end
end Cl
set_option Elab.async false
set_option linter.all false
set_option maxRecDepth 100000
set_option maxHeartbeats 4000000
namespace Cl
open PySem PySem.Spec PyProof.Rows L2
local macro_rules | `(tactic| walk_at "at") => `(tactic| first | assumption | repeat first | with_reducible exact At.here | with_reducible exact at_mc | with_reducible exact at_mb | with_reducible exact at_mo | with_reducible exact at_ms | with_reducible exact at_md | with_reducible apply At.tail | (with_reducible apply At.in (by assumption)))
local macro_rules | `(tactic| walk_at "fact") => `(tactic| first | exact c_Court (by assumption) | exact c_Lane (by assumption) | exact c_Signs (by assumption) | exact n_Court_clock (by assumption) | exact n_Court_long (by assumption) | exact n_Court_bags (by assumption) | exact n_Court_book (by assumption) | exact n_Court_opened (by assumption) | exact n_Court_seen (by assumption) | exact n_Court_kept (by assumption) | exact n_Court_deeds (by assumption) | exact n_Lane_both (by assumption) | exact n_Lane_first (by assumption) | exact n_Lane_standing (by assumption) | exact n_Lane_mood (by assumption) | exact n_Lane_ending (by assumption) | exact n_Signs_by_hand (by assumption))
local macro_rules | `(tactic| walk_at "ge") => `(tactic| first
  | with_reducible refine we_var rfl ?_
  | with_reducible refine we_int ?_
  | with_reducible refine we_str ?_
  | with_reducible refine we_ty ?_
  | with_reducible refine we_bl ?_
  | with_reducible refine we_non ?_
  | with_reducible refine we_ref ?_
  | with_reducible refine we_op ?_
  | with_reducible refine we_cb ?_
  | with_reducible refine we_call0 ?_
  | with_reducible refine we_call ?_
  | with_reducible refine we_lst ?_
  | with_reducible refine we_tup ?_
  | with_reducible refine we_andV ?_
  | with_reducible refine we_orV ?_
  | with_reducible refine we_notV ?_
  | with_reducible refine we_if ?_
  | with_reducible refine we_chain ?_
  | with_reducible refine we_sl ?_
  | with_reducible refine we_lz ?_
  | with_reducible refine we_dnewK (fun _ => ?_)
  | with_reducible refine we_dnewN (fun _ => ?_)
  | with_reducible refine we_fld ?_
  | with_reducible refine we_dget ?_
  | with_reducible refine we_din ?_
  | with_reducible refine we_dnotIn ?_
  | with_reducible refine we_dget2 ?_
  | with_reducible refine we_dsetd ?_
  | with_reducible refine we_make ?_
  | with_reducible refine we_meth0 ?_
  | with_reducible refine we_meth ?_
  | with_reducible refine we_bm ?_)
local macro_rules | `(tactic| walk_at "gt") => `(tactic| first
  | with_reducible refine wt_B ?_
  | with_reducible refine wt_test ?_
  | with_reducible refine wt_not ?_
  | with_reducible refine wt_and ?_
  | with_reducible refine wt_or ?_
  | with_reducible refine wt_yes ?_)
local macro_rules | `(tactic| walk_at "gst") => `(tactic| first
  | with_reducible refine ws_ret ?_
  | with_reducible refine ws_retN ?_
  | with_reducible refine ws_seq ?_
  | with_reducible refine ws_set ?_
  | with_reducible refine ws_drop ?_
  | with_reducible refine ws_if ?_
  | with_reducible refine ws_next ?_
  | with_reducible refine ws_raise ?_
  | with_reducible refine ws_asgS ?_
  | with_reducible refine ws_setL ?_
  | with_reducible refine ws_setN ?_
  | with_reducible refine ws_asg ?_
  | with_reducible refine ws_fld ?_
  | with_reducible refine ws_fldaddI ?_
  | with_reducible refine ws_dput ?_)
local macro_rules | `(tactic| walk_at "gr") => `(tactic| first
  | with_reducible refine wr_ixT rfl ?_
  | with_reducible refine wr_ixL rfl ?_
  | with_reducible refine ix_t0 ?_
  | with_reducible refine ix_t1 ?_
  | with_reducible refine ix_t2 ?_
  | with_reducible refine ix_t3 ?_
  | with_reducible refine ix_t4 ?_
  | with_reducible refine ix_l0 ?_
  | with_reducible refine ix_l1 ?_
  | with_reducible refine ix_l2 ?_
  | with_reducible refine ix_l3 ?_
  | with_reducible refine ix_l4 ?_
  | with_reducible refine wr_int ?_
  | (with_reducible refine isPow ?_; with_reducible refine wr_powL (by decide) (by decide) (by decide) ?_)
  | with_reducible refine wr_bool ?_
  | with_reducible refine wr_eqI ?_
  | with_reducible refine wr_neI ?_
  | with_reducible refine wr_eqS ?_
  | with_reducible refine wr_neS ?_
  | with_reducible refine wr_eqB ?_
  | with_reducible refine wr_neB ?_
  | with_reducible refine wr_isN ?_
  | with_reducible refine wr_notN ?_
  | (with_reducible refine isIxC ?_; with_reducible refine wr_ixC (by walk_at "at") (by with_unfolding_all rfl) ?_))
local macro_rules | `(tactic| walk_at "gc") => `(tactic| first
  | with_reducible refine wc_isi rfl rfl ?_
  | with_reducible refine wc_isi (by decide) (by decide +kernel) ?_
  | (with_reducible refine isLen ?_; with_reducible refine wc_lenC (by walk_at "at") ?_)
  | with_reducible refine wc_lenT ?_
  | with_reducible refine wc_lenL ?_)
local macro_rules | `(tactic| walk_at "ga") => `(tactic| first
  | with_reducible refine wa_cons ?_
  | with_reducible refine wa_nil ?_)
local macro_rules | `(tactic| walk_at "gx") => `(tactic| first
  | (with_reducible refine isLn ?_; with_reducible refine lenAnd (by simp) ?_)
  | with_reducible refine wsl_tup ?_
  | with_reducible refine wo_none ?_
  | with_reducible refine wo_some ?_
  | with_reducible refine ex_bl ?_
  | with_reducible refine ex_int ?_
  | with_reducible refine ex_str ?_
  | with_reducible refine ex_tup ?_
  | with_reducible refine ex_lst ?_
  | with_reducible refine ex_etup ?_
  | with_reducible refine br_true ?_
  | with_reducible refine br_false ?_
  | (with_reducible refine isBr ?_; refine br_t rfl ?_)
  | (with_reducible refine isBr ?_; refine br_f rfl ?_)
  | (with_reducible refine isFld ?_; with_reducible refine ex_fld (by walk_at "at") (by walk_at "fact") (by walk_at "fact") (by with_unfolding_all rfl) ?_)
  | (with_reducible refine isPut ?_; with_reducible refine ex_put (by walk_at "at") (by walk_at "fact") (by walk_at "fact") (by with_unfolding_all exact of_decide_eq_true rfl) ?_)
  | (with_reducible refine isMeth ?_; with_reducible refine ex_meth (by walk_at "at") (by with_unfolding_all rfl) ?_)
  | (with_reducible refine isTy ?_; with_reducible refine And.intro (ty_cell (by walk_at "at")) ?_)
  | with_reducible refine k_whole ?_
  | with_reducible refine k_count ?_
  | with_reducible refine k_amount ?_)
local macro_rules | `(tactic| walk_at "s") => `(tactic| first
  | (with_reducible refine isWE ?_; walk_at "ge")
  | (with_reducible refine isWS ?_; walk_at "gst")
  | (with_reducible refine isWT ?_; walk_at "gt")
  | (with_reducible refine isWR ?_; walk_at "gr")
  | (with_reducible refine isWA ?_; walk_at "ga")
  | (with_reducible refine isWC ?_; walk_at "gc")
  | walk_at "gx")
local macro_rules | `(tactic| walk_at "w") => `(tactic| repeat walk_at "s")

section
variable {P : Program} {w : World} {K : PySem.W.Frag} {mg : Str → Option Value} {base : Heap}
abbrev aSecrets : ASp := A1 fun self L Φ _ => ∃ (a g : Addr) (x : Wl) (f : Sto → Sto), self = .ref a ∧ Part (WlC a g x) L f ∧ Wl.ok x ∧ x.c + 20 ≤ 1000000 ∧
  ∀ x' : Wl, x'.ok → x'.c ≤ x.c + 20 → ∀ ns : List Int, ns ≠ [] → ns.length ≤ 10 → (∀ n ∈ ns, 0 ≤ n) → Φ (.lst (ns.map D.int)) (f (WlC a g x'))
theorem sc_law_secrets : FnScope ["_law_well_here", "_law_found", "_law_k", "_law_one"] ["_law_well_here"] d_law_secrets.scope := ⟨rfl, rfl, rfl, by decide +kernel, rfl, by decide +kernel, by decide +kernel⟩
theorem ok_law_secrets (T : Tx K mg) : FOk P w K mg base 2 (He.fAd K d_law_secrets.at_) ["_law_well_here"] aSecrets := by
  refine fok_of (d := d_law_secrets) T 60 (k := 1) rfl rfl rfl sc_law_secrets (fun ds L Φ ex h => A1.len h) (fun _ _ _ _ _ _ us hl => match us, hl with | [_], _ => rfl) (fun cdv Ar outer s H E ds L Φ ex hr h => ?_)
  obtain ⟨well_here, rfl, h⟩ := h
  refine ⟨_, (pss_cons (ps_set (i := 1) sc_law_secrets.nd rfl (Or.inl rfl) (pe_lst pa_nil))
    (pss_cons (ps_for (passes_of rfl) rfl (pi_range1 rfl (f_range T) (pa_cons (pe_op op_add pe_int (pe_c (ok_law_take T) hr rfl (g_law_take T) (pa_cons (pv 0) (pa_cons pe_int pa_nil)))) pa_nil)) (pg_name (i := 2) sc_law_secrets.nd rfl (Or.inl rfl)) (pss_cons (ps_set (i := 3) sc_law_secrets.nd rfl (Or.inl rfl) (pe_c (ok_law_take T) hr rfl (g_law_take T) (pa_cons (pv 0) (pa_cons (pe_ix ix_list (pe_lst (pa_cons pe_int (pa_cons (pe_op op_pow pe_int pe_int) pa_nil))) (pe_c (ok_law_take T) hr rfl (g_law_take T) (pa_cons (pv 0) (pa_cons pe_int pa_nil))) (fun _ _ => rfl)) pa_nil))))
    (pss_one (ps_if (pt_cmpR op_notIn_seq (pv 3) (pv 1) rfl) (pss_one (ps_expr (pe_bm PySem.F.plainAttrs_list PySem.F.slot_list_append PySem.F.type_list_append mt_append (pv 1) (pa_cons (pv 3) pa_nil)))) pss_nil))))
    (pss_one (ps_ret (pv 1))))), ?_⟩
  obtain ⟨a, g, x, f, rfl, ⟨hf, rfl⟩, ok, hc, h⟩ := h
  dsimp only [cxOf]
  refine ws_seq (ws_set (we_lstC (wa_nil ⟨by decide, fun q => ?_⟩)))
  refine ws_seq (ws_for (wi_rng (n := 0) ?_))
  walk_at "w"
  refine k_tk (m := 4) (f := fun S => (q, .lst []) :: f S) hf.tail ok (by omega) (by decide) (by decide) fun x1 ok1 hc1 j hj0 hj1 => ?_
  walk_at "w"
  refine ⟨2 + j, rfl, by omega, by omega, fun i Γ' L' => i ≤ (2 + j).toNat ∧ ∃ (x2 : Wl) (ns : List Int), Wl.ok x2 ∧ x2.c ≤ x1.c + 2 * (i : Int) ∧ L' = (q, .lst (ns.map D.int)) :: f (WlC a g x2) ∧ (0 < i → ns ≠ []) ∧ ns.length ≤ i ∧ (∀ n ∈ ns, 0 ≤ n) ∧ ∃ y1 y2, Γ' = [some (.ref a), some (.ref q), y1, y2], ⟨Nat.zero_le _, x1, [], ok1, by simp, rfl, fun z => absurd z (by decide), Nat.le_refl _, fun n hn => (nomatch hn), _, _, rfl⟩, fun i Γ' L' hI => trivial, fun i d Γ' L' hd hI => ?_, fun Γ' L' hI => ?_⟩
  · obtain ⟨hi, x2, ns, ok2, hc2, rfl, hne, hlen, hnn, y1, y2, rfl⟩ := hI
    have hlt := (List.getElem?_eq_some_iff.mp hd).1
    rw [rangeD_len] at hlt
    refine ⟨_, wg_name, ?_⟩
    dsimp only [setG]
    walk_at "w"
    refine k_tk (m := 2) (f := fun S => (q, .lst (ns.map D.int)) :: f S) hf.tail ok2 (by omega) (by decide) (by decide) fun x3 ok3 hc3 j2 hj20 hj21 => ?_
    obtain ⟨v, hv, e⟩ := pick_int (ns := [3, 10 ^ (15 : Int).toNat]) hj20 hj21
    have hv2 : 0 < v ∧ v ≤ 1000000000000000 := by
      simp only [List.mem_cons, List.not_mem_nil, or_false] at hv
      rcases hv with rfl | rfl <;> decide
    refine wr_ixL e ?_
    walk_at "w"
    refine k_tk (m := v) (f := fun S => (q, .lst (ns.map D.int)) :: f S) hf.tail ok3 (by omega) hv2.1 (by omega) fun x4 ok4 hc4 one h0 h1 => ?_
    walk_at "w"
    refine wr_inQ (ds := ns.map D.int) (u := .int one) rfl (flats_int ns) (.inr (.inr ⟨q, _, rfl, At.here⟩)) ?_
    rw [if_pos rfl, inV_int]
    walk_at "w"
    by_cases hm : one ∈ ns
    · refine br_f (by rw [decide_eq_true hm]; rfl) ?_
      exact ws_next ⟨hlt, x4, ns, ok4, by rw [Int.natCast_add]; omega, rfl, fun _ z => (by rw [z] at hm; cases hm), by omega, hnn, _, _, rfl⟩
    · refine br_t (by rw [decide_eq_false hm]; rfl) ?_
      walk_at "w"
      refine wm_append At.here (by rw [List.length_map]; omega) ?_
      refine ⟨hlt, x4, ns ++ [one], ok4, by rw [Int.natCast_add]; omega, by rw [List.map_append]; rfl, fun _ z => by simp at z, by rw [List.length_append]; simp; omega, fun n hn => ?_, _, _, rfl⟩
      rcases List.mem_append.mp hn with z | z
      · exact hnn n z
      · have : n = one := by simpa using z
        omega
  · obtain ⟨hi, x2, ns, ok2, hc2, rfl, hne, hlen, hnn, y1, y2, rfl⟩ := hI
    rw [rangeD_len] at hc2 hne hlen
    exact ws_ret (WE.ice (we_var rfl ⟨_, _, _, rfl, rfl, h x2 ok2 (by omega) ns (hne (by omega)) (by omega) hnn⟩))
end
end Cl
set_option Elab.async false
set_option linter.all false
set_option maxRecDepth 100000
set_option maxHeartbeats 4000000
namespace Cl
open PySem PySem.Spec PyProof.Rows L2
local macro_rules | `(tactic| walk_at "at") => `(tactic| first | assumption | repeat first | with_reducible exact At.here | with_reducible exact at_mc | with_reducible exact at_mb | with_reducible exact at_mo | with_reducible exact at_ms | with_reducible exact at_md | with_reducible apply At.tail | (with_reducible apply At.in (by assumption)))
local macro_rules | `(tactic| walk_at "fact") => `(tactic| first | exact c_Court (by assumption) | exact c_Lane (by assumption) | exact c_Signs (by assumption) | exact n_Court_clock (by assumption) | exact n_Court_long (by assumption) | exact n_Court_bags (by assumption) | exact n_Court_book (by assumption) | exact n_Court_opened (by assumption) | exact n_Court_seen (by assumption) | exact n_Court_kept (by assumption) | exact n_Court_deeds (by assumption) | exact n_Lane_both (by assumption) | exact n_Lane_first (by assumption) | exact n_Lane_standing (by assumption) | exact n_Lane_mood (by assumption) | exact n_Lane_ending (by assumption) | exact n_Signs_by_hand (by assumption))
local macro_rules | `(tactic| walk_at "ge") => `(tactic| first
  | with_reducible refine we_var rfl ?_
  | with_reducible refine we_int ?_
  | with_reducible refine we_str ?_
  | with_reducible refine we_ty ?_
  | with_reducible refine we_bl ?_
  | with_reducible refine we_non ?_
  | with_reducible refine we_ref ?_
  | with_reducible refine we_op ?_
  | with_reducible refine we_cb ?_
  | with_reducible refine we_call0 ?_
  | with_reducible refine we_call ?_
  | with_reducible refine we_lst ?_
  | with_reducible refine we_tup ?_
  | with_reducible refine we_andV ?_
  | with_reducible refine we_orV ?_
  | with_reducible refine we_notV ?_
  | with_reducible refine we_if ?_
  | with_reducible refine we_chain ?_
  | with_reducible refine we_sl ?_
  | with_reducible refine we_lz ?_
  | with_reducible refine we_dnewK (fun _ => ?_)
  | with_reducible refine we_dnewN (fun _ => ?_)
  | with_reducible refine we_fld ?_
  | with_reducible refine we_dget ?_
  | with_reducible refine we_din ?_
  | with_reducible refine we_dnotIn ?_
  | with_reducible refine we_dget2 ?_
  | with_reducible refine we_dsetd ?_
  | with_reducible refine we_make ?_
  | with_reducible refine we_meth0 ?_
  | with_reducible refine we_meth ?_
  | with_reducible refine we_bm ?_)
local macro_rules | `(tactic| walk_at "gt") => `(tactic| first
  | with_reducible refine wt_B ?_
  | with_reducible refine wt_test ?_
  | with_reducible refine wt_not ?_
  | with_reducible refine wt_and ?_
  | with_reducible refine wt_or ?_
  | with_reducible refine wt_yes ?_)
local macro_rules | `(tactic| walk_at "gst") => `(tactic| first
  | with_reducible refine ws_ret ?_
  | with_reducible refine ws_retN ?_
  | with_reducible refine ws_seq ?_
  | with_reducible refine ws_set ?_
  | with_reducible refine ws_drop ?_
  | with_reducible refine ws_if ?_
  | with_reducible refine ws_next ?_
  | with_reducible refine ws_raise ?_
  | with_reducible refine ws_asgS ?_
  | with_reducible refine ws_setL ?_
  | with_reducible refine ws_setN ?_
  | with_reducible refine ws_asg ?_
  | with_reducible refine ws_fld ?_
  | with_reducible refine ws_fldaddI ?_
  | with_reducible refine ws_dput ?_)
local macro_rules | `(tactic| walk_at "gr") => `(tactic| first
  | with_reducible refine wr_ixT rfl ?_
  | with_reducible refine wr_ixL rfl ?_
  | with_reducible refine ix_t0 ?_
  | with_reducible refine ix_t1 ?_
  | with_reducible refine ix_t2 ?_
  | with_reducible refine ix_t3 ?_
  | with_reducible refine ix_t4 ?_
  | with_reducible refine ix_l0 ?_
  | with_reducible refine ix_l1 ?_
  | with_reducible refine ix_l2 ?_
  | with_reducible refine ix_l3 ?_
  | with_reducible refine ix_l4 ?_
  | with_reducible refine wr_int ?_
  | (with_reducible refine isPow ?_; with_reducible refine wr_powL (by decide) (by decide) (by decide) ?_)
  | with_reducible refine wr_bool ?_
  | with_reducible refine wr_eqI ?_
  | with_reducible refine wr_neI ?_
  | with_reducible refine wr_eqS ?_
  | with_reducible refine wr_neS ?_
  | with_reducible refine wr_eqB ?_
  | with_reducible refine wr_neB ?_
  | with_reducible refine wr_isN ?_
  | with_reducible refine wr_notN ?_
  | (with_reducible refine isIxC ?_; with_reducible refine wr_ixC (by walk_at "at") (by with_unfolding_all rfl) ?_))
local macro_rules | `(tactic| walk_at "gc") => `(tactic| first
  | with_reducible refine wc_isi rfl rfl ?_
  | with_reducible refine wc_isi (by decide) (by decide +kernel) ?_
  | (with_reducible refine isLen ?_; with_reducible refine wc_lenC (by walk_at "at") ?_)
  | with_reducible refine wc_lenT ?_
  | with_reducible refine wc_lenL ?_)
local macro_rules | `(tactic| walk_at "ga") => `(tactic| first
  | with_reducible refine wa_cons ?_
  | with_reducible refine wa_nil ?_)
local macro_rules | `(tactic| walk_at "gx") => `(tactic| first
  | (with_reducible refine isLn ?_; with_reducible refine lenAnd (by simp) ?_)
  | with_reducible refine wsl_tup ?_
  | with_reducible refine wo_none ?_
  | with_reducible refine wo_some ?_
  | with_reducible refine ex_bl ?_
  | with_reducible refine ex_int ?_
  | with_reducible refine ex_str ?_
  | with_reducible refine ex_tup ?_
  | with_reducible refine ex_lst ?_
  | with_reducible refine ex_etup ?_
  | with_reducible refine br_true ?_
  | with_reducible refine br_false ?_
  | (with_reducible refine isBr ?_; refine br_t rfl ?_)
  | (with_reducible refine isBr ?_; refine br_f rfl ?_)
  | (with_reducible refine isFld ?_; with_reducible refine ex_fld (by walk_at "at") (by walk_at "fact") (by walk_at "fact") (by with_unfolding_all rfl) ?_)
  | (with_reducible refine isPut ?_; with_reducible refine ex_put (by walk_at "at") (by walk_at "fact") (by walk_at "fact") (by with_unfolding_all exact of_decide_eq_true rfl) ?_)
  | (with_reducible refine isMeth ?_; with_reducible refine ex_meth (by walk_at "at") (by with_unfolding_all rfl) ?_)
  | (with_reducible refine isTy ?_; with_reducible refine And.intro (ty_cell (by walk_at "at")) ?_)
  | with_reducible refine k_whole ?_
  | with_reducible refine k_count ?_
  | with_reducible refine k_amount ?_)
local macro_rules | `(tactic| walk_at "s") => `(tactic| first
  | (with_reducible refine isWE ?_; walk_at "ge")
  | (with_reducible refine isWS ?_; walk_at "gst")
  | (with_reducible refine isWT ?_; walk_at "gt")
  | (with_reducible refine isWR ?_; walk_at "gr")
  | (with_reducible refine isWA ?_; walk_at "ga")
  | (with_reducible refine isWC ?_; walk_at "gc")
  | walk_at "gx")
local macro_rules | `(tactic| walk_at "w") => `(tactic| repeat walk_at "s")

section
variable {P : Program} {w : World} {K : PySem.W.Frag} {mg : Str → Option Value} {base : Heap}
/-! ### the law's book -/
structure Bk where
  b : Addr
  d2 : Addr
  r3 : Addr
  s4 : Addr
  o6 : Addr
  n7 : Addr
abbrev aBook : ASp := A2 fun x y L Φ _ => ∃ (bs : List (Str × Int)) (long : Int), x = .etup (bs.map prD) ∧ BgOk bs ∧ y = .int long ∧
  ∀ k : Bk, Φ (.ref k.b) ((k.b, .lst [.int 0, .int long, .ref k.d2, .ref k.r3, .ref k.s4, .lst [], .ref k.o6, .ref k.n7]) :: (k.n7, .dN []) :: (k.o6, .lst []) :: (k.s4, .dK []) :: (k.r3, .lst []) :: (k.d2, .dK (bagK bs)) :: L)
theorem sc_law_book : FnScope ["_law_bags_here", "_law_long"] ["_law_bags_here", "_law_long"] d_law_book.scope := ⟨rfl, rfl, rfl, by decide +kernel, rfl, by decide +kernel, by decide +kernel⟩
theorem ok_law_book (T : Tx K mg) : FOk P w K mg base 1 (He.fAd K d_law_book.at_) ["_law_bags_here", "_law_long"] aBook := by
  refine fok_of (d := d_law_book) T 51 (k := 0) rfl rfl rfl sc_law_book (fun ds L Φ ex h => A2.len h) (fun _ _ _ _ _ _ us hl => match us, hl with | [_, _], _ => rfl) (fun cdv Ar outer s H E ds L Φ ex hr h => ?_)
  obtain ⟨bags_here, long, rfl, h⟩ := h
  refine ⟨_, (pss_one (ps_ret (pe_lst (pa_cons pe_int (pa_cons (pv 1) (pa_cons (pe_callTy (cr_dictT rfl) rfl (f_dict T) (by decide +kernel) (pa_cons (pv 0) pa_nil)) (pa_cons (pe_lst pa_nil) (pa_cons pe_dnewK (pa_cons (pe_lst pa_nil) (pa_cons (pe_lst pa_nil) (pa_cons pe_dnewN pa_nil))))))))))), ?_⟩
  obtain ⟨bs, long, rfl, hb, rfl, h⟩ := h
  dsimp only [cxOf]
  rw [show bs.map prD = (bagK bs).map pairD from by unfold bagK; rw [List.map_map]; rfl]
  refine ws_ret (we_lstC (wa_cons (we_int (wa_cons (we_var rfl (wa_cons (we_cb (wa_cons (we_var rfl (wa_nil (wc_dictT fun d2 => ?_)))))))))))
  rw [bagK_nd hb.nd]
  refine wa_cons (we_lstC (wa_nil ⟨by decide, fun r3 => ?_⟩))
  refine wa_cons (we_dnewK fun s4 => ?_)
  refine wa_cons (we_lst (wa_nil ⟨by decide, ?_⟩))
  refine wa_cons (we_lstC (wa_nil ⟨by decide, fun o6 => ?_⟩))
  refine wa_cons (we_dnewN fun n7 => wa_nil ⟨by simp, fun b => ?_⟩)
  exact h ⟨b, d2, r3, s4, o6, n7⟩
end
end Cl
set_option Elab.async false
set_option linter.all false
set_option maxRecDepth 100000
set_option maxHeartbeats 4000000
namespace Cl
open PySem PySem.Spec PyProof.Rows L2
local macro_rules | `(tactic| walk_at "at") => `(tactic| first | assumption | repeat first | with_reducible exact At.here | with_reducible exact at_mc | with_reducible exact at_mb | with_reducible exact at_mo | with_reducible exact at_ms | with_reducible exact at_md | with_reducible apply At.tail | (with_reducible apply At.in (by assumption)))
local macro_rules | `(tactic| walk_at "fact") => `(tactic| first | exact c_Court (by assumption) | exact c_Lane (by assumption) | exact c_Signs (by assumption) | exact n_Court_clock (by assumption) | exact n_Court_long (by assumption) | exact n_Court_bags (by assumption) | exact n_Court_book (by assumption) | exact n_Court_opened (by assumption) | exact n_Court_seen (by assumption) | exact n_Court_kept (by assumption) | exact n_Court_deeds (by assumption) | exact n_Lane_both (by assumption) | exact n_Lane_first (by assumption) | exact n_Lane_standing (by assumption) | exact n_Lane_mood (by assumption) | exact n_Lane_ending (by assumption) | exact n_Signs_by_hand (by assumption))
local macro_rules | `(tactic| walk_at "ge") => `(tactic| first
  | with_reducible refine we_var rfl ?_
  | with_reducible refine we_int ?_
  | with_reducible refine we_str ?_
  | with_reducible refine we_ty ?_
  | with_reducible refine we_bl ?_
  | with_reducible refine we_non ?_
  | with_reducible refine we_ref ?_
  | with_reducible refine we_op ?_
  | with_reducible refine we_cb ?_
  | with_reducible refine we_call0 ?_
  | with_reducible refine we_call ?_
  | with_reducible refine we_lst ?_
  | with_reducible refine we_tup ?_
  | with_reducible refine we_andV ?_
  | with_reducible refine we_orV ?_
  | with_reducible refine we_notV ?_
  | with_reducible refine we_if ?_
  | with_reducible refine we_chain ?_
  | with_reducible refine we_sl ?_
  | with_reducible refine we_lz ?_
  | with_reducible refine we_dnewK (fun _ => ?_)
  | with_reducible refine we_dnewN (fun _ => ?_)
  | with_reducible refine we_fld ?_
  | with_reducible refine we_dget ?_
  | with_reducible refine we_din ?_
  | with_reducible refine we_dnotIn ?_
  | with_reducible refine we_dget2 ?_
  | with_reducible refine we_dsetd ?_
  | with_reducible refine we_make ?_
  | with_reducible refine we_meth0 ?_
  | with_reducible refine we_meth ?_
  | with_reducible refine we_bm ?_)
local macro_rules | `(tactic| walk_at "gt") => `(tactic| first
  | with_reducible refine wt_B ?_
  | with_reducible refine wt_test ?_
  | with_reducible refine wt_not ?_
  | with_reducible refine wt_and ?_
  | with_reducible refine wt_or ?_
  | with_reducible refine wt_yes ?_)
local macro_rules | `(tactic| walk_at "gst") => `(tactic| first
  | with_reducible refine ws_ret ?_
  | with_reducible refine ws_retN ?_
  | with_reducible refine ws_seq ?_
  | with_reducible refine ws_set ?_
  | with_reducible refine ws_drop ?_
  | with_reducible refine ws_if ?_
  | with_reducible refine ws_next ?_
  | with_reducible refine ws_raise ?_
  | with_reducible refine ws_asgS ?_
  | with_reducible refine ws_setL ?_
  | with_reducible refine ws_setN ?_
  | with_reducible refine ws_asg ?_
  | with_reducible refine ws_fld ?_
  | with_reducible refine ws_fldaddI ?_
  | with_reducible refine ws_dput ?_)
local macro_rules | `(tactic| walk_at "gr") => `(tactic| first
  | with_reducible refine wr_ixT rfl ?_
  | with_reducible refine wr_ixL rfl ?_
  | with_reducible refine ix_t0 ?_
  | with_reducible refine ix_t1 ?_
  | with_reducible refine ix_t2 ?_
  | with_reducible refine ix_t3 ?_
  | with_reducible refine ix_t4 ?_
  | with_reducible refine ix_l0 ?_
  | with_reducible refine ix_l1 ?_
  | with_reducible refine ix_l2 ?_
  | with_reducible refine ix_l3 ?_
  | with_reducible refine ix_l4 ?_
  | with_reducible refine wr_int ?_
  | (with_reducible refine isPow ?_; with_reducible refine wr_powL (by decide) (by decide) (by decide) ?_)
  | with_reducible refine wr_bool ?_
  | with_reducible refine wr_eqI ?_
  | with_reducible refine wr_neI ?_
  | with_reducible refine wr_eqS ?_
  | with_reducible refine wr_neS ?_
  | with_reducible refine wr_eqB ?_
  | with_reducible refine wr_neB ?_
  | with_reducible refine wr_isN ?_
  | with_reducible refine wr_notN ?_
  | (with_reducible refine isIxC ?_; with_reducible refine wr_ixC (by walk_at "at") (by with_unfolding_all rfl) ?_))
local macro_rules | `(tactic| walk_at "gc") => `(tactic| first
  | with_reducible refine wc_isi rfl rfl ?_
  | with_reducible refine wc_isi (by decide) (by decide +kernel) ?_
  | (with_reducible refine isLen ?_; with_reducible refine wc_lenC (by walk_at "at") ?_)
  | with_reducible refine wc_lenT ?_
  | with_reducible refine wc_lenL ?_)
local macro_rules | `(tactic| walk_at "ga") => `(tactic| first
  | with_reducible refine wa_cons ?_
  | with_reducible refine wa_nil ?_)
local macro_rules | `(tactic| walk_at "gx") => `(tactic| first
  | (with_reducible refine isLn ?_; with_reducible refine lenAnd (by simp) ?_)
  | with_reducible refine wsl_tup ?_
  | with_reducible refine wo_none ?_
  | with_reducible refine wo_some ?_
  | with_reducible refine ex_bl ?_
  | with_reducible refine ex_int ?_
  | with_reducible refine ex_str ?_
  | with_reducible refine ex_tup ?_
  | with_reducible refine ex_lst ?_
  | with_reducible refine ex_etup ?_
  | with_reducible refine br_true ?_
  | with_reducible refine br_false ?_
  | (with_reducible refine isBr ?_; refine br_t rfl ?_)
  | (with_reducible refine isBr ?_; refine br_f rfl ?_)
  | (with_reducible refine isFld ?_; with_reducible refine ex_fld (by walk_at "at") (by walk_at "fact") (by walk_at "fact") (by with_unfolding_all rfl) ?_)
  | (with_reducible refine isPut ?_; with_reducible refine ex_put (by walk_at "at") (by walk_at "fact") (by walk_at "fact") (by with_unfolding_all exact of_decide_eq_true rfl) ?_)
  | (with_reducible refine isMeth ?_; with_reducible refine ex_meth (by walk_at "at") (by with_unfolding_all rfl) ?_)
  | (with_reducible refine isTy ?_; with_reducible refine And.intro (ty_cell (by walk_at "at")) ?_)
  | with_reducible refine k_whole ?_
  | with_reducible refine k_count ?_
  | with_reducible refine k_amount ?_)
local macro_rules | `(tactic| walk_at "s") => `(tactic| first
  | (with_reducible refine isWE ?_; walk_at "ge")
  | (with_reducible refine isWS ?_; walk_at "gst")
  | (with_reducible refine isWT ?_; walk_at "gt")
  | (with_reducible refine isWR ?_; walk_at "gr")
  | (with_reducible refine isWA ?_; walk_at "ga")
  | (with_reducible refine isWC ?_; walk_at "gc")
  | walk_at "gx")
local macro_rules | `(tactic| walk_at "w") => `(tactic| repeat walk_at "s")

section
variable {P : Program} {w : World} {K : PySem.W.Frag} {mg : Str → Option Value} {base : Heap}
abbrev aWell : ASp := A1 fun self L Φ _ => ∃ ns : List Int, self = .scr ns ∧ ∀ (a g : Addr) (x : Wl), x.ok → x.c = 0 → Φ (.ref a) (WlC a g x ++ L)
theorem sc_law_well : FnScope ["_law_script", "_law_great", "_law_small", "_law_stir", "_law_number", "_law_cell"] ["_law_script"] d_law_well.scope := ⟨rfl, rfl, rfl, by decide +kernel, rfl, by decide +kernel, by decide +kernel⟩
theorem ok_law_well (T : Tx K mg) : FOk P w K mg base 1 (He.fAd K d_law_well.at_) ["_law_script"] aWell := by
  refine fok_of (d := d_law_well) T 41 (k := 0) rfl rfl rfl sc_law_well (fun ds L Φ ex h => A1.len h) (fun _ _ _ _ _ _ us hl => match us, hl with | [_], _ => rfl) (fun cdv Ar outer s H E ds L Φ ex hr h => ?_)
  obtain ⟨script, rfl, h⟩ := h
  refine ⟨_, (pss_cons (ps_setLc (i := 1) (own := [("_law_cell", 5)]) rfl sc_law_well.nd rfl rfl (sw_true rfl rfl rfl (by decide +kernel)) (pi_list (pe_slice sl_list (pv 0) po_none (po_some pe_int))) (blkOk_by (own := [("_law_cell", 5)]) (N := ["_law_script", "_law_great", "_law_small", "_law_stir", "_law_number", "_law_cell"]) (sc := d_law_well.scope) (by decide +kernel)) (fun _ _ _ _ _ => by exact (pg_name (i := 5) sc_law_well.nd rfl (Or.inl rfl))) (fun _ _ _ _ _ => by exact (pts_one (pt_cmpR op_ge (pe_callB call_abs rfl (f_abs T) (by decide +kernel) (pa_cons (pv 5) pa_nil)) (pe_op op_pow pe_int pe_int) (nomark _)))) (fun _ _ _ _ _ => by exact (pe_op op_mod (pe_callB call_abs rfl (f_abs T) (by decide +kernel) (pa_cons (pv 5) pa_nil)) (pe_op op_mulB (pe_op op_pow pe_int pe_int) (pe_op op_pow pe_int pe_int)))))
    (pss_cons (ps_setLc (i := 2) (own := [("_law_cell", 5)]) rfl sc_law_well.nd rfl rfl (sw_true rfl rfl rfl (by decide +kernel)) (pi_list (pe_slice sl_list (pv 0) po_none (po_some pe_int))) (blkOk_by (own := [("_law_cell", 5)]) (N := ["_law_script", "_law_great", "_law_small", "_law_stir", "_law_number", "_law_cell"]) (sc := d_law_well.scope) (by decide +kernel)) (fun _ _ _ _ _ => by exact (pg_name (i := 5) sc_law_well.nd rfl (Or.inl rfl))) (fun _ _ _ _ _ => by exact (pts_one (pt_cmpR op_lt (pe_callB call_abs rfl (f_abs T) (by decide +kernel) (pa_cons (pv 5) pa_nil)) (pe_op op_pow pe_int pe_int) (nomark _)))) (fun _ _ _ _ _ => by exact (pe_op op_mod (pv 5) pe_int)))
    (pss_cons (ps_set (i := 3) sc_law_well.nd rfl (Or.inl rfl) (pe_op op_add pe_int (pe_callB call_len rfl (f_len T) (by decide +kernel) (pa_cons (pv 2) pa_nil))))
    (pss_cons (ps_for (passes_of rfl) rfl (pi_list (pv 2)) (pg_name (i := 4) sc_law_well.nd rfl (Or.inl rfl)) (pss_one (ps_set (i := 3) sc_law_well.nd rfl (Or.inl rfl) (pe_op op_mod (pe_op op_add (pe_op op_add (pe_op op_mul (pv 3) pe_int) (pe_op op_mul (pv 4) pe_int)) pe_int) pe_int))))
    (pss_one (ps_ret (pe_lst (pa_cons (pv 1) (pa_cons (pv 2) (pa_cons (pv 3) (pa_cons pe_int pa_nil))))))))))), ?_⟩
  obtain ⟨ns, rfl, h⟩ := h
  dsimp only [cxOf]
  have hsl : ∀ sl : List Int, sl = (ns.drop (HT.sIx ns.length 0 none)).take (HT.sIx ns.length ns.length (some 63) - HT.sIx ns.length 0 none) → sl.length ≤ 63 := fun sl e => by
    rw [e, HT.sIx_none, show (some (63 : Int)) = some ((63 : Nat) : Int) from rfl, HT.sIx_nat, List.length_take]
    omega
  refine ws_seq (ws_set (we_lcPC (wi_listD ?_)))
  walk_at "w"
  refine wsl_scr ?_
  generalize hg : (ns.drop (HT.sIx ns.length 0 none)).take (HT.sIx ns.length ns.length (some 63) - HT.sIx ns.length 0 none) = sl
  have hl := hsl sl hg.symm
  walk_at "w"
  refine ⟨fun _ _ => trivial, by rw [List.length_map]; omega, fun d => (match d with | .int n => decide ((if n < 0 then -n else n) ≥ 10 ^ (18 : Int).toNat) | _ => false), fun d => (match d with | .int n => .int ((if n < 0 then -n else n) % (10 ^ (60 : Int).toNat * 10 ^ (60 : Int).toNat)) | d => d), fun d hd p acc => ?_, fun g => ?_⟩
  · obtain ⟨n, hn, rfl⟩ := List.mem_map.mp hd
    refine ⟨_, wg_name, by simp, ?_⟩
    walk_at "w"
    refine wc_abs ?_
    walk_at "w"
    refine ⟨fun hb => ?_, fun hb => ⟨hb, rfl⟩⟩
    walk_at "w"
    refine wc_abs ?_
    walk_at "w"
    refine wr_mulW (by unfold CMulW; decide +kernel) ?_
    refine wr_mod (by decide +kernel) ?_
    exact ⟨hb, rfl, rfl⟩
  · have hgr : ∀ ds : List D, ds = ((sl.map D.int).filter (fun d => (match d with | .int n => decide ((if n < 0 then -n else n) ≥ 10 ^ (18 : Int).toNat) | _ => false))).map (fun d => (match d with | .int n => .int ((if n < 0 then -n else n) % (10 ^ (60 : Int).toNat * 10 ^ (60 : Int).toNat)) | d => d)) → ∃ gr : List Int, ds = gr.map D.int ∧ gr.length ≤ 63 ∧ ∀ n ∈ gr, 0 ≤ n := fun ds e => by
      have hlen : ds.length ≤ 63 := by
        rw [e, List.length_map]
        exact Nat.le_trans (List.length_filter_le _ _) (by rw [List.length_map]; exact hl)
      obtain ⟨gr, h1, h2⟩ := ints_of (lo := 0) (hi := 10 ^ (60 : Int).toNat * 10 ^ (60 : Int).toNat) (acc := ds) fun i d hd => by
        rw [e] at hd
        have hm := List.mem_of_getElem? hd
        obtain ⟨d0, hd0, rfl⟩ := List.mem_map.mp hm
        obtain ⟨n, _, rfl⟩ := List.mem_map.mp (List.mem_filter.mp hd0).1
        exact ⟨_, rfl, Int.emod_nonneg _ (by decide +kernel), Int.le_of_lt (Int.emod_lt_of_pos _ (by decide +kernel))⟩
      exact ⟨gr, h1, by rw [h1, List.length_map] at hlen; exact hlen, fun n hn => (h2 n hn).1⟩
    obtain ⟨gr, egr, lgr, ngr⟩ := hgr _ rfl
    rw [egr]
    clear egr hgr
    refine ws_seq (ws_set (we_lcP (wi_listD ?_)))
    walk_at "w"
    refine wsl_scr ?_
    rw [hg]
    walk_at "w"
    refine ⟨fun _ _ => trivial, by rw [List.length_map]; omega, fun d => (match d with | .int n => decide ((if n < 0 then -n else n) < 10 ^ (18 : Int).toNat) | _ => false), fun d => (match d with | .int n => .int (n % 2147483563) | d => d), fun d hd p acc => ?_, ?_⟩
    · obtain ⟨n, hn, rfl⟩ := List.mem_map.mp hd
      refine ⟨_, wg_name, by simp, ?_⟩
      walk_at "w"
      refine wc_abs ?_
      walk_at "w"
      refine ⟨fun hb => ?_, fun hb => ⟨hb, rfl⟩⟩
      walk_at "w"
      refine wr_mod (by decide +kernel) ?_
      exact ⟨hb, rfl, rfl⟩
    · have hsm : ∀ ds : List D, ds = ((sl.map D.int).filter (fun d => (match d with | .int n => decide ((if n < 0 then -n else n) < 10 ^ (18 : Int).toNat) | _ => false))).map (fun d => (match d with | .int n => .int (n % 2147483563) | d => d)) → ∃ sm : List Int, ds = sm.map D.int ∧ sm.length ≤ 63 ∧ ∀ n ∈ sm, 0 ≤ n ∧ n < big := fun ds e => by
        have hlen : ds.length ≤ 63 := by
          rw [e, List.length_map]
          exact Nat.le_trans (List.length_filter_le _ _) (by rw [List.length_map]; exact hl)
        obtain ⟨sm, h1, h2⟩ := ints_of (lo := 0) (hi := 2147483562) (acc := ds) fun i d hd => by
          rw [e] at hd
          have hm := List.mem_of_getElem? hd
          obtain ⟨d0, hd0, rfl⟩ := List.mem_map.mp hm
          obtain ⟨n, _, rfl⟩ := List.mem_map.mp (List.mem_filter.mp hd0).1
          exact ⟨_, rfl, Int.emod_nonneg _ (by decide), by omega⟩
        exact ⟨sm, h1, by rw [h1, List.length_map] at hlen; exact hlen, fun n hn => ⟨(h2 n hn).1, by have := (h2 n hn).2; show n < 2147483563; omega⟩⟩
      obtain ⟨sm, esm, lsm, nsm⟩ := hsm _ rfl
      rw [esm]
      clear esm hsm
      walk_at "w"
      rw [List.length_map]
      refine ws_for (wi_listD ?_)
      walk_at "w"
      refine ⟨fun i Γ' L' => L' = (g, .lst (gr.map D.int)) :: L ∧ ∃ st y1 y2, 0 ≤ st ∧ st < big ∧ Γ' = [some (.scr ns), some (.ref g), some (.lst (sm.map D.int)), some (.int st), y1, y2], ⟨rfl, _, _, _, by omega, by show _ < 2147483563; omega, rfl⟩, fun _ _ _ _ => trivial, fun i d Γ' L' hd hI => ?_, fun Γ' L' hI => ?_⟩
      · obtain ⟨rfl, st, y1, y2, s1, s2, rfl⟩ := hI
        rw [List.getElem?_map] at hd
        obtain ⟨n, hn, rfl⟩ := Option.map_eq_some_iff.mp hd
        refine ⟨_, wg_name, ?_⟩
        dsimp only [setG]
        walk_at "w"
        refine wr_mul (.inr (by decide)) ?_
        walk_at "w"
        refine wr_mul (.inr (by decide)) ?_
        walk_at "w"
        refine wr_mod (by decide) ?_
        exact ⟨rfl, _, _, _, Int.emod_nonneg _ (by decide), Int.emod_lt_of_pos _ (by decide), rfl⟩
      · obtain ⟨rfl, st, y1, y2, s1, s2, rfl⟩ := hI
        refine ws_ret (we_lstC ?_)
        walk_at "w"
        intro a
        exact h a g ⟨gr, sm, st, 0⟩ ⟨ngr, by dsimp only; omega, by dsimp only; omega, nsm, ⟨s1, s2⟩, Int.le_refl _⟩ rfl
end
end Cl
set_option Elab.async false
set_option linter.all false
set_option maxRecDepth 100000
set_option maxHeartbeats 4000000
namespace Cl
open PySem PySem.Spec PyProof.Rows L2
local macro_rules | `(tactic| walk_at "at") => `(tactic| first | assumption | repeat first | with_reducible exact At.here | with_reducible exact at_mc | with_reducible exact at_mb | with_reducible exact at_mo | with_reducible exact at_ms | with_reducible exact at_md | with_reducible apply At.tail | (with_reducible apply At.in (by assumption)))
local macro_rules | `(tactic| walk_at "fact") => `(tactic| first | exact c_Court (by assumption) | exact c_Lane (by assumption) | exact c_Signs (by assumption) | exact n_Court_clock (by assumption) | exact n_Court_long (by assumption) | exact n_Court_bags (by assumption) | exact n_Court_book (by assumption) | exact n_Court_opened (by assumption) | exact n_Court_seen (by assumption) | exact n_Court_kept (by assumption) | exact n_Court_deeds (by assumption) | exact n_Lane_both (by assumption) | exact n_Lane_first (by assumption) | exact n_Lane_standing (by assumption) | exact n_Lane_mood (by assumption) | exact n_Lane_ending (by assumption) | exact n_Signs_by_hand (by assumption))
local macro_rules | `(tactic| walk_at "ge") => `(tactic| first
  | with_reducible refine we_var rfl ?_
  | with_reducible refine we_int ?_
  | with_reducible refine we_str ?_
  | with_reducible refine we_ty ?_
  | with_reducible refine we_bl ?_
  | with_reducible refine we_non ?_
  | with_reducible refine we_ref ?_
  | with_reducible refine we_op ?_
  | with_reducible refine we_cb ?_
  | with_reducible refine we_call0 ?_
  | with_reducible refine we_call ?_
  | with_reducible refine we_lst ?_
  | with_reducible refine we_tup ?_
  | with_reducible refine we_andV ?_
  | with_reducible refine we_orV ?_
  | with_reducible refine we_notV ?_
  | with_reducible refine we_if ?_
  | with_reducible refine we_chain ?_
  | with_reducible refine we_sl ?_
  | with_reducible refine we_lz ?_
  | with_reducible refine we_dnewK (fun _ => ?_)
  | with_reducible refine we_dnewN (fun _ => ?_)
  | with_reducible refine we_fld ?_
  | with_reducible refine we_dget ?_
  | with_reducible refine we_din ?_
  | with_reducible refine we_dnotIn ?_
  | with_reducible refine we_dget2 ?_
  | with_reducible refine we_dsetd ?_
  | with_reducible refine we_make ?_
  | with_reducible refine we_meth0 ?_
  | with_reducible refine we_meth ?_
  | with_reducible refine we_bm ?_)
local macro_rules | `(tactic| walk_at "gt") => `(tactic| first
  | with_reducible refine wt_B ?_
  | with_reducible refine wt_test ?_
  | with_reducible refine wt_not ?_
  | with_reducible refine wt_and ?_
  | with_reducible refine wt_or ?_
  | with_reducible refine wt_yes ?_)
local macro_rules | `(tactic| walk_at "gst") => `(tactic| first
  | with_reducible refine ws_ret ?_
  | with_reducible refine ws_retN ?_
  | with_reducible refine ws_seq ?_
  | with_reducible refine ws_set ?_
  | with_reducible refine ws_drop ?_
  | with_reducible refine ws_if ?_
  | with_reducible refine ws_next ?_
  | with_reducible refine ws_raise ?_
  | with_reducible refine ws_asgS ?_
  | with_reducible refine ws_setL ?_
  | with_reducible refine ws_setN ?_
  | with_reducible refine ws_asg ?_
  | with_reducible refine ws_fld ?_
  | with_reducible refine ws_fldaddI ?_
  | with_reducible refine ws_dput ?_)
local macro_rules | `(tactic| walk_at "gr") => `(tactic| first
  | with_reducible refine wr_ixT rfl ?_
  | with_reducible refine wr_ixL rfl ?_
  | with_reducible refine ix_t0 ?_
  | with_reducible refine ix_t1 ?_
  | with_reducible refine ix_t2 ?_
  | with_reducible refine ix_t3 ?_
  | with_reducible refine ix_t4 ?_
  | with_reducible refine ix_l0 ?_
  | with_reducible refine ix_l1 ?_
  | with_reducible refine ix_l2 ?_
  | with_reducible refine ix_l3 ?_
  | with_reducible refine ix_l4 ?_
  | with_reducible refine wr_int ?_
  | (with_reducible refine isPow ?_; with_reducible refine wr_powL (by decide) (by decide) (by decide) ?_)
  | with_reducible refine wr_bool ?_
  | with_reducible refine wr_eqI ?_
  | with_reducible refine wr_neI ?_
  | with_reducible refine wr_eqS ?_
  | with_reducible refine wr_neS ?_
  | with_reducible refine wr_eqB ?_
  | with_reducible refine wr_neB ?_
  | with_reducible refine wr_isN ?_
  | with_reducible refine wr_notN ?_
  | (with_reducible refine isIxC ?_; with_reducible refine wr_ixC (by walk_at "at") (by with_unfolding_all rfl) ?_))
local macro_rules | `(tactic| walk_at "gc") => `(tactic| first
  | with_reducible refine wc_isi rfl rfl ?_
  | with_reducible refine wc_isi (by decide) (by decide +kernel) ?_
  | (with_reducible refine isLen ?_; with_reducible refine wc_lenC (by walk_at "at") ?_)
  | with_reducible refine wc_lenT ?_
  | with_reducible refine wc_lenL ?_)
local macro_rules | `(tactic| walk_at "ga") => `(tactic| first
  | with_reducible refine wa_cons ?_
  | with_reducible refine wa_nil ?_)
local macro_rules | `(tactic| walk_at "gx") => `(tactic| first
  | (with_reducible refine isLn ?_; with_reducible refine lenAnd (by simp) ?_)
  | with_reducible refine wsl_tup ?_
  | with_reducible refine wo_none ?_
  | with_reducible refine wo_some ?_
  | with_reducible refine ex_bl ?_
  | with_reducible refine ex_int ?_
  | with_reducible refine ex_str ?_
  | with_reducible refine ex_tup ?_
  | with_reducible refine ex_lst ?_
  | with_reducible refine ex_etup ?_
  | with_reducible refine br_true ?_
  | with_reducible refine br_false ?_
  | (with_reducible refine isBr ?_; refine br_t rfl ?_)
  | (with_reducible refine isBr ?_; refine br_f rfl ?_)
  | (with_reducible refine isFld ?_; with_reducible refine ex_fld (by walk_at "at") (by walk_at "fact") (by walk_at "fact") (by with_unfolding_all rfl) ?_)
  | (with_reducible refine isPut ?_; with_reducible refine ex_put (by walk_at "at") (by walk_at "fact") (by walk_at "fact") (by with_unfolding_all exact of_decide_eq_true rfl) ?_)
  | (with_reducible refine isMeth ?_; with_reducible refine ex_meth (by walk_at "at") (by with_unfolding_all rfl) ?_)
  | (with_reducible refine isTy ?_; with_reducible refine And.intro (ty_cell (by walk_at "at")) ?_)
  | with_reducible refine k_whole ?_
  | with_reducible refine k_count ?_
  | with_reducible refine k_amount ?_)
local macro_rules | `(tactic| walk_at "s") => `(tactic| first
  | (with_reducible refine isWE ?_; walk_at "ge")
  | (with_reducible refine isWS ?_; walk_at "gst")
  | (with_reducible refine isWT ?_; walk_at "gt")
  | (with_reducible refine isWR ?_; walk_at "gr")
  | (with_reducible refine isWA ?_; walk_at "ga")
  | (with_reducible refine isWC ?_; walk_at "gc")
  | walk_at "gx")
local macro_rules | `(tactic| walk_at "w") => `(tactic| repeat walk_at "s")

section
variable {P : Program} {w : World} {K : PySem.W.Frag} {mg : Str → Option Value} {base : Heap}
/-! ### names made of names -/
def LtS (s : Str) : Prop := ∀ c ∈ s.cps.toList, c ∈ Let.cps.toList
theorem str_app (x y : Str) : (x ++ y).cps.toList = x.cps.toList ++ y.cps.toList := by
  show (x.cps ++ y.cps).toList = _
  exact Array.toList_append
theorem str_app_len (x y : Str) : (x ++ y).length = x.length + y.length := by
  have h := congrArg List.length (str_app x y)
  rw [List.length_append] at h
  exact h
theorem LtS.app {x y : Str} (hx : LtS x) (hy : LtS y) : LtS (x ++ y) := fun c hc => by
  rw [str_app] at hc
  rcases List.mem_append.mp hc with h | h
  · exact hx c h
  · exact hy c h
theorem cut_cps (z : Str) (lo hi : Option Int) : (cutS z lo hi).cps.toList = (z.cps.toList.drop (HT.sIx z.length 0 lo)).take (HT.sIx z.length z.length hi - HT.sIx z.length 0 lo) := by
  unfold cutS
  exact List.toList_toArray
theorem LtS.cut {z : Str} (h : LtS z) (lo hi : Option Int) : LtS (cutS z lo hi) := fun c hc => by
  rw [cut_cps] at hc
  exact h c (List.mem_of_mem_drop (List.mem_of_mem_take hc))
theorem cut_len (z : Str) (lo hi : Option Int) : (cutS z lo hi).length ≤ z.length := by
  have h := congrArg List.length (cut_cps z lo hi)
  rw [List.length_take, List.length_drop] at h
  have e : (cutS z lo hi).cps.toList.length = (cutS z lo hi).length := rfl
  have e2 : z.cps.toList.length = z.length := rfl
  omega
theorem nm_cut8 {z : Str} (h : LtS z) (hn : 0 < z.length) : isNm (cutS z none (some 8)) := by
  have hc := congrArg List.length (cut_cps z none (some 8))
  rw [List.length_take, List.length_drop, HT.sIx_none, show (some (8 : Int)) = some ((8 : Nat) : Int) from rfl, HT.sIx_nat] at hc
  have e : (cutS z none (some ((8 : Nat) : Int))).cps.toList.length = (cutS z none (some 8)).length := rfl
  have e2 : z.cps.toList.length = z.length := rfl
  refine ⟨fun q => ?_, by omega, h.cut _ _⟩
  have : (cutS z none (some 8)).length = 0 := by rw [q]; rfl
  omega
theorem nm_pos {s : Str} (h : isNm s) : 0 < s.length := by
  rcases Nat.eq_zero_or_pos s.length with e | e
  · exfalso
    refine h.ne ?_
    obtain ⟨cps⟩ := s
    have : cps = #[] := Array.eq_empty_of_size_eq_zero e
    rw [this]
    rfl
  · exact e
theorem lt_one {c : Nat} (h : c ∈ Let.cps.toList) : LtS ⟨#[c]⟩ := fun d hd => by
  have : d = c := by simpa using hd
  rw [this]; exact h
theorem nm_lt {s : Str} (h : isNm s) : LtS s := h.let_
theorem pick_str {ss : List Str} {n : Int} (h0 : 0 ≤ n) (h1 : n < ss.length) : ∃ v ∈ ss, atI (ss.map D.str) n = some (.str v) := by
  have hl : n.toNat < ss.length := by omega
  exact ⟨ss[n.toNat], List.getElem_mem hl, atI_int h0 (by rw [List.getElem?_map, List.getElem?_eq_getElem hl]; rfl)⟩
theorem me_nm : isNm "me" := ⟨by decide, by decide, by decide +kernel⟩
theorem us_nm : isNm "us" := ⟨by decide, by decide, by decide +kernel⟩
abbrev aFolk : ASp := A2 fun self y L Φ _ => ∃ a g x f, self = .ref a ∧ Part (WlC a g x) L f ∧ Wl.ok x ∧ x.c + 60 ≤ 1000000 ∧ y = .int 8 ∧
  ∀ x' : Wl, x'.ok → x'.c ≤ x.c + 60 → ∀ ss : List Str, ss ≠ [] → ss.length ≤ 20 → ss.Nodup → (∀ s ∈ ss, isNm s) → Φ (.lst (ss.map D.str)) (f (WlC a g x'))
theorem sc_law_folk : FnScope ["_law_well_here", "_law_many", "_law_letters", "_law_found", "_law_k", "_law_pick", "_law_first", "_law_letter", "_law_at", "_law_other", "_law_left", "_law_one"] ["_law_well_here", "_law_many"] d_law_folk.scope := ⟨rfl, rfl, rfl, by decide +kernel, rfl, by decide +kernel, by decide +kernel⟩
theorem ok_law_folk (T : Tx K mg) : FOk P w K mg base 3 (He.fAd K d_law_folk.at_) ["_law_well_here", "_law_many"] aFolk := by
  refine fok_of (d := d_law_folk) T 44 (k := 2) rfl rfl rfl sc_law_folk (fun ds L Φ ex h => A2.len h) (fun _ _ _ _ _ _ us hl => match us, hl with | [_, _], _ => rfl) (fun cdv Ar outer s H E ds L Φ ex hr h => ?_)
  obtain ⟨well_here, many_, rfl, h⟩ := h
  refine ⟨_, (pss_cons (ps_set (i := 2) sc_law_folk.nd rfl (Or.inl rfl) pe_str)
    (pss_cons (ps_set (i := 3) sc_law_folk.nd rfl (Or.inr rfl) (pe_lst (pa_cons (pe_c (ok_law_name T) hr rfl (g_law_name T) (pa_cons (pv 0) (pa_cons pe_int pa_nil))) (pa_cons pe_str pa_nil))))
    (pss_cons (ps_for (passes_of rfl) rfl (pi_range1 rfl (f_range T) (pa_cons (pe_c (ok_law_take T) hr rfl (g_law_take T) (pa_cons (pv 0) (pa_cons (pe_op op_sub (pv 1) pe_int) pa_nil))) pa_nil)) (pg_name (i := 4) sc_law_folk.nd rfl (Or.inl rfl)) (pss_cons (ps_set (i := 5) sc_law_folk.nd rfl (Or.inl rfl) (pe_c (ok_law_take T) hr rfl (g_law_take T) (pa_cons (pv 0) (pa_cons pe_int pa_nil))))
    (pss_cons (ps_set (i := 6) sc_law_folk.nd rfl (Or.inl rfl) (pe_ix ix_list (pv 3) (pe_c (ok_law_take T) hr rfl (g_law_take T) (pa_cons (pv 0) (pa_cons (pe_callB call_len rfl (f_len T) (by decide +kernel) (pa_cons (pv 3) pa_nil)) pa_nil))) (fun _ _ => rfl)))
    (pss_cons (ps_set (i := 7) sc_law_folk.nd rfl (Or.inl rfl) (pe_ix ix_str (pv 2) (pe_c (ok_law_take T) hr rfl (g_law_take T) (pa_cons (pv 0) (pa_cons pe_int pa_nil))) (fun _ _ => rfl)))
    (pss_cons (ps_set (i := 8) sc_law_folk.nd rfl (Or.inl rfl) (pe_c (ok_law_take T) hr rfl (g_law_take T) (pa_cons (pv 0) (pa_cons (pe_callB call_len rfl (f_len T) (by decide +kernel) (pa_cons (pv 6) pa_nil)) pa_nil))))
    (pss_cons (ps_set (i := 9) sc_law_folk.nd rfl (Or.inl rfl) (pe_slice sl_str (pe_ix ix_list (pe_lst (pa_cons (pe_op op_add_str (pv 7) (pv 6)) (pa_cons (pe_op op_add_str (pv 6) (pv 7)) (pa_cons (pe_op op_add_str (pe_op op_add_str (pe_slice sl_str (pv 6) po_none (po_some (pv 8))) (pv 7)) (pe_slice sl_str (pv 6) (po_some (pe_op op_add (pv 8) pe_int)) po_none)) (pa_cons (pv 7) pa_nil))))) (pv 5) (fun _ _ => rfl)) po_none (po_some pe_int)))
    (pss_one (ps_if (pt_cmpR op_notIn_seq (pv 9) (pv 3) rfl) (pss_one (ps_expr (pe_bm PySem.F.plainAttrs_list PySem.F.slot_list_append PySem.F.type_list_append mt_append (pv 3) (pa_cons (pv 9) pa_nil)))) pss_nil))))))))
    (pss_cons (ps_if (pt_cmpR op_eq (pe_ix ix_list (pv 3) pe_int (fun _ _ => rfl)) pe_str (nomark _)) (pss_one (ps_asg pe_str (pg_sub (pv 3) pe_int set_list))) pss_nil)
    (pss_cons (ps_setLc (i := 10) (own := [("_law_one", 11)]) rfl sc_law_folk.nd rfl rfl (sw_true rfl rfl rfl (by decide +kernel)) (pi_list (pe_slice sl_list (pv 3) (po_some pe_int) po_none)) (blkOk_by (own := [("_law_one", 11)]) (N := ["_law_well_here", "_law_many", "_law_letters", "_law_found", "_law_k", "_law_pick", "_law_first", "_law_letter", "_law_at", "_law_other", "_law_left", "_law_one"]) (sc := d_law_folk.scope) (by decide +kernel)) (fun _ _ _ _ _ => by exact (pg_name (i := 11) sc_law_folk.nd rfl (Or.inl rfl))) (fun _ _ _ _ _ => by exact (pts_one (pt_cmpR op_ne (pv 11) (pe_ix (ix_listK (K := K) rfl) (pv 3) pe_int (fun _ _ => rfl)) (nomark _)))) (fun _ _ _ _ _ => by exact (pv 11)))
    (pss_cons (ps_expr (pe_bm PySem.F.plainAttrs_list PySem.F.slot_list_insert PySem.F.type_list_insert mt_insert (pv 10) (pa_cons (pe_c (ok_law_take T) hr rfl (g_law_take T) (pa_cons (pv 0) (pa_cons (pe_op op_add (pe_callB call_len rfl (f_len T) (by decide +kernel) (pa_cons (pv 10) pa_nil)) pe_int) pa_nil))) (pa_cons (pe_ix ix_list (pv 3) pe_int (fun _ _ => rfl)) pa_nil))))
    (pss_one (ps_ret (pv 10))))))))), ?_⟩
  obtain ⟨a, g, x, f, rfl, ⟨hf, rfl⟩, ok, hc, rfl, h⟩ := h
  dsimp only [cxOf]
  refine ws_seq (ws_set (we_str ?_))
  refine ws_seq (ws_set (we_lstC (wa_cons ?_)))
  walk_at "w"
  refine ⟨_, _, rfl, a, g, x, f, rfl, ⟨hf, rfl⟩, ok, by omega, rfl, fun x1 ok1 hc1 n0 hn0 => ?_⟩
  walk_at "w"
  intro q
  refine ws_seq (ws_for (wi_rng (n := 0) ?_))
  walk_at "w"
  refine k_tk (m := 7) (f := fun S => (q, .lst [.str n0, .str "me"]) :: f S) hf.tail ok1 (by omega) (by decide) (by decide) fun x2 ok2 hc2 j hj0 hj1 => ?_
  refine wa_nil ⟨j, rfl, by omega, by omega, fun i Γ' L' => i ≤ j.toNat ∧ ∃ (x3 : Wl) (ss : List Str), Wl.ok x3 ∧ x3.c ≤ x2.c + 4 * (i : Int) ∧ L' = (q, .lst ((n0 :: ss).map D.str)) :: f (WlC a g x3) ∧ ss.Nodup ∧ ss ≠ [] ∧ ss.length ≤ 1 + i ∧ (∀ s ∈ ss, isNm s) ∧ ∃ y1 y2 y3 y4 y5 y6, Γ' = [some (.ref a), some (.int 8), some (.str Let), some (.ref q), y1, y2, y3, y4, y5, y6, none, none], ⟨Nat.zero_le _, x2, ["me"], ok2, by simp, rfl, by simp, by simp, by simp, fun s hs => ?_, _, _, _, _, _, _, rfl⟩, fun i Γ' L' hI => trivial, fun i d Γ' L' hd hI => ?_, fun Γ' L' hI => ?_⟩
  · have : s = "me" := by simpa using hs
    rw [this]; exact me_nm
  · obtain ⟨hi, x3, ss, ok3, hc3, rfl, hnd, hne, hlen, hnm, y1, y2, y3, y4, y5, y6, rfl⟩ := hI
    have hlt := (List.getElem?_eq_some_iff.mp hd).1
    rw [rangeD_len] at hlt
    refine ⟨_, wg_name, ?_⟩
    dsimp only [setG]
    walk_at "w"
    refine k_tk (m := 4) (f := fun S => (q, .lst ((n0 :: ss).map D.str)) :: f S) hf.tail ok3 (by omega) (by decide) (by decide) fun x4 ok4 hc4 pk hp0 hp1 => ?_
    walk_at "w"
    refine k_tk (m := (((n0 :: ss).map D.str).length : Int)) (f := fun S => (q, .lst ((n0 :: ss).map D.str)) :: f S) hf.tail ok4 (by omega) (by rw [List.length_map, List.length_cons]; omega) (by rw [List.length_map, List.length_cons]; omega) fun x5 ok5 hc5 fi hf0 hf1 => ?_
    obtain ⟨fst, hfst, efst⟩ := pick_str (ss := n0 :: ss) hf0 (by rw [List.length_map] at hf1; exact hf1)
    have nfst : isNm fst := by
      rcases List.mem_cons.mp hfst with e | e
      · rw [e]; exact hn0
      · exact hnm fst e
    refine wr_ixC At.here efst ?_
    walk_at "w"
    refine k_tk (m := 26) (f := fun S => (q, .lst ((n0 :: ss).map D.str)) :: f S) hf.tail ok5 (by omega) (by decide) (by decide) fun x6 ok6 hc6 lj hl0 hl1 => ?_
    obtain ⟨c, hc7⟩ : ∃ c, Let.cps.toList[lj.toNat]? = some c := ⟨_, List.getElem?_eq_getElem (show lj.toNat < 26 by omega)⟩
    have hcm := List.mem_of_getElem? hc7
    refine wr_ixS (by decide +kernel) (c := c) (atI_gen hl0 hc7) ?_
    walk_at "w"
    have hfl := nfst.len
    have hfp := nm_pos nfst
    refine wc_lenS (Nat.le_trans hfl (by decide)) ?_
    walk_at "w"
    refine k_tk (m := (fst.length : Int)) (f := fun S => (q, .lst ((n0 :: ss).map D.str)) :: f S) hf.tail ok6 (by omega) (by omega) (by omega) fun x7 ok7 hc8 at_ ha0 ha1 => ?_
    have l1 : (⟨#[c]⟩ : Str).length = 1 := rfl
    walk_at "w"
    refine wr_addS (by omega) ?_
    walk_at "w"
    refine wr_addS (by omega) ?_
    walk_at "w"
    refine wsl_str (by omega) ?_
    have hk1 := cut_len fst none (some at_)
    walk_at "w"
    refine wr_addS (by omega) ?_
    walk_at "w"
    refine wsl_str (by omega) ?_
    have hk2 := cut_len fst (some (at_ + 1)) none
    refine wr_addS (by rw [str_app_len]; omega) ?_
    walk_at "w"
    have big3 : ∀ o : Str, o ∈ [(⟨#[c]⟩ : Str) ++ fst, fst ++ ⟨#[c]⟩, cutS fst none (some at_) ++ ⟨#[c]⟩ ++ cutS fst (some (at_ + 1)) none, ⟨#[c]⟩] → LtS o ∧ 0 < o.length ∧ o.length ≤ 100 := fun o ho => by
      have e1 := lt_one hcm
      have e2 := nm_lt nfst
      simp only [List.mem_cons, List.not_mem_nil, or_false] at ho
      rcases ho with rfl | rfl | rfl | rfl
      · exact ⟨e1.app e2, by rw [str_app_len]; omega, by rw [str_app_len]; omega⟩
      · exact ⟨e2.app e1, by rw [str_app_len]; omega, by rw [str_app_len]; omega⟩
      · exact ⟨((e2.cut _ _).app e1).app (e2.cut _ _), by rw [str_app_len, str_app_len]; omega, by rw [str_app_len, str_app_len]; omega⟩
      · exact ⟨e1, by omega, by omega⟩
    obtain ⟨o, ho, eo⟩ := pick_str (ss := [(⟨#[c]⟩ : Str) ++ fst, fst ++ ⟨#[c]⟩, cutS fst none (some at_) ++ ⟨#[c]⟩ ++ cutS fst (some (at_ + 1)) none, ⟨#[c]⟩]) hp0 hp1
    obtain ⟨b1, b2, b3⟩ := big3 o ho
    refine wr_ixL eo ?_
    walk_at "w"
    refine wsl_str (by omega) ?_
    have hnew := nm_cut8 b1 b2
    generalize cutS o none (some 8) = oth at hnew ⊢
    walk_at "w"
    refine wr_inQ (ds := (n0 :: ss).map D.str) (u := .str oth) rfl (flats_str _) (.inr (.inr ⟨q, _, rfl, At.here⟩)) ?_
    rw [if_pos rfl, inV_str]
    walk_at "w"
    by_cases hm : oth ∈ n0 :: ss
    · refine br_f (by rw [decide_eq_true hm]; rfl) ?_
      exact ws_next ⟨hlt, x7, ss, ok7, by rw [Int.natCast_add]; omega, rfl, hnd, hne, by omega, hnm, _, _, _, _, _, _, rfl⟩
    · refine br_t (by rw [decide_eq_false hm]; rfl) ?_
      walk_at "w"
      refine wm_append At.here (by rw [List.length_map, List.length_cons]; omega) ?_
      have hm2 : oth ∉ ss := fun z => hm (List.mem_cons_of_mem _ z)
      refine ⟨hlt, x7, ss ++ [oth], ok7, by rw [Int.natCast_add]; omega, by rw [← List.cons_append, List.map_append]; rfl, ?_, by simp, by rw [List.length_append]; simp; omega, fun s hs => ?_, _, _, _, _, _, _, rfl⟩
      · rw [List.nodup_append]
        refine ⟨hnd, by simp, fun u hu v hv e => ?_⟩
        have : v = oth := by simpa using hv
        rw [e, this] at hu
        exact hm2 hu
      · rcases List.mem_append.mp hs with z | z
        · exact hnm s z
        · have : s = oth := by simpa using z
          rw [this]; exact hnew
  · obtain ⟨hi, x3, ss, ok3, hc3, rfl, hnd, hne, hlen, hnm, y1, y2, y3, y4, y5, y6, rfl⟩ := hI
    rw [rangeD_len] at hc3 hlen
    refine ws_cut (fun Γ' L' => ∃ n1, isNm n1 ∧ L' = (q, .lst ((n1 :: ss).map D.str)) :: f (WlC a g x3) ∧ Γ' = [some (.ref a), some (.int 8), some (.str Let), some (.ref q), y1, y2, y3, y4, y5, y6, none, none]) ?_ ?_
    · walk_at "w"
      refine wr_ixC At.here (atI_nat (n := 0) rfl) ?_
      walk_at "w"
      by_cases c1 : n0 = "me"
      · refine br_t (decide_eq_true c1) ?_
        walk_at "w"
        refine ex_setL (n := 0) At.here (by simp) ?_
        exact ⟨"us", us_nm, rfl, rfl⟩
      · refine br_f (decide_eq_false c1) ?_
        exact ws_next ⟨n0, hn0, rfl, rfl⟩
    · rintro Γ' L' ⟨n1, hn1, rfl, rfl⟩
      refine ws_seq (ws_set (we_lcPC (wi_listD ?_)))
      walk_at "w"
      refine wsl_lst (.inr ⟨q, _, rfl, At.here⟩) ?_
      rw [show cutD ((n1 :: ss).map D.str) (some 1) none = ss.map D.str from by
        rw [show (some (1 : Int)) = some ((1 : Nat) : Int) from rfl, cutD_from (by simp)]
        rfl]
      walk_at "w"
      refine ⟨fun _ _ => trivial, by rw [List.length_map]; omega, fun d => (match d with | .str s => !decide (s = n1) | _ => false), id, fun d hd p acc => ?_, fun r => ?_⟩
      · obtain ⟨s, hs, rfl⟩ := List.mem_map.mp hd
        refine ⟨_, wg_name, by simp, ?_⟩
        walk_at "w"
        refine wr_ixC (At.tail At.here) (atI_nat (n := 0) rfl) ?_
        walk_at "w"
        refine ⟨fun hb => ?_, fun hb => ⟨hb, rfl⟩⟩
        walk_at "w"
        exact ⟨hb, rfl, rfl⟩
      · have hfl : ((ss.map D.str).filter (fun d => (match d with | .str s => !decide (s = n1) | _ => false))).map id = (ss.filter fun s => !decide (s = n1)).map D.str := by
          rw [List.map_id, List.filter_map]
          rfl
        rw [hfl]
        have hfn : (ss.filter fun s => !decide (s = n1)).length ≤ ss.length := List.length_filter_le _ _
        have hfd : (ss.filter fun s => !decide (s = n1)).Nodup := List.Nodup.sublist List.filter_sublist hnd
        have hfm : ∀ s ∈ ss.filter (fun s => !decide (s = n1)), isNm s ∧ s ≠ n1 := fun s hs => by
          obtain ⟨h1, h2⟩ := List.mem_filter.mp hs
          exact ⟨hnm s h1, fun z => by rw [decide_eq_true z] at h2; cases h2⟩
        generalize ss.filter (fun s => !decide (s = n1)) = left at hfn hfd hfm ⊢
        walk_at "w"
        refine k_tk (m := ((left.map D.str).length : Int) + 1) (f := fun S => (r, .lst (left.map D.str)) :: (q, .lst ((n1 :: ss).map D.str)) :: f S) hf.tail.tail ok3 (by omega) (by omega) (by rw [List.length_map]; omega) fun x4 ok4 hc4 pk hp0 hp1 => ?_
        rw [List.length_map] at hp1
        walk_at "w"
        refine wr_ixC (At.tail At.here) (atI_nat (n := 0) rfl) ?_
        walk_at "w"
        refine wm_insert At.here (by rw [List.length_map]; omega) hp0 (by have : (2 : Int) ^ 63 = 9223372036854775808 := by decide
                                                                          omega) ?_
        rw [← List.map_take, ← List.map_drop, show (left.take pk.toNat).map D.str ++ [D.str n1] ++ (left.drop pk.toNat).map D.str = (left.take pk.toNat ++ [n1] ++ left.drop pk.toNat).map D.str from by rw [List.map_append, List.map_append]; rfl]
        have hperm : (left.take pk.toNat ++ [n1] ++ left.drop pk.toNat).Perm (n1 :: left) := by
          have := List.perm_middle (a := n1) (l₁ := left.take pk.toNat) (l₂ := left.drop pk.toNat)
          rw [List.take_append_drop] at this
          rw [List.append_assoc]
          exact this
        refine ws_ret (WE.forget (WE.ice (we_var rfl ⟨_, _, _, rfl, rfl, _, List.sublist_cons_self _ _, h x4 ok4 (by omega) _ (fun z => ?_) ?_ ?_ fun s hs => ?_⟩)))
        · rw [z] at hperm
          exact absurd hperm.length_eq (by simp)
        · rw [hperm.length_eq, List.length_cons]
          omega
        · refine hperm.nodup_iff.mpr (List.nodup_cons.mpr ⟨fun z => (hfm n1 z).2 rfl, hfd⟩)
        · rcases List.mem_cons.mp (hperm.mem_iff.mp hs) with rfl | z
          · exact hn1
          · exact (hfm s z).1
end
end Cl
set_option Elab.async false
set_option linter.all false
set_option maxRecDepth 100000
set_option maxHeartbeats 4000000
namespace Cl
open PySem PySem.Spec PyProof.Rows L2
local macro_rules | `(tactic| walk_at "at") => `(tactic| first | assumption | repeat first | with_reducible exact At.here | with_reducible exact at_mc | with_reducible exact at_mb | with_reducible exact at_mo | with_reducible exact at_ms | with_reducible exact at_md | with_reducible apply At.tail | (with_reducible apply At.in (by assumption)))
local macro_rules | `(tactic| walk_at "fact") => `(tactic| first | exact c_Court (by assumption) | exact c_Lane (by assumption) | exact c_Signs (by assumption) | exact n_Court_clock (by assumption) | exact n_Court_long (by assumption) | exact n_Court_bags (by assumption) | exact n_Court_book (by assumption) | exact n_Court_opened (by assumption) | exact n_Court_seen (by assumption) | exact n_Court_kept (by assumption) | exact n_Court_deeds (by assumption) | exact n_Lane_both (by assumption) | exact n_Lane_first (by assumption) | exact n_Lane_standing (by assumption) | exact n_Lane_mood (by assumption) | exact n_Lane_ending (by assumption) | exact n_Signs_by_hand (by assumption))
local macro_rules | `(tactic| walk_at "ge") => `(tactic| first
  | with_reducible refine we_var rfl ?_
  | with_reducible refine we_int ?_
  | with_reducible refine we_str ?_
  | with_reducible refine we_ty ?_
  | with_reducible refine we_bl ?_
  | with_reducible refine we_non ?_
  | with_reducible refine we_ref ?_
  | with_reducible refine we_op ?_
  | with_reducible refine we_cb ?_
  | with_reducible refine we_call0 ?_
  | with_reducible refine we_call ?_
  | with_reducible refine we_lst ?_
  | with_reducible refine we_tup ?_
  | with_reducible refine we_andV ?_
  | with_reducible refine we_orV ?_
  | with_reducible refine we_notV ?_
  | with_reducible refine we_if ?_
  | with_reducible refine we_chain ?_
  | with_reducible refine we_sl ?_
  | with_reducible refine we_lz ?_
  | with_reducible refine we_dnewK (fun _ => ?_)
  | with_reducible refine we_dnewN (fun _ => ?_)
  | with_reducible refine we_fld ?_
  | with_reducible refine we_dget ?_
  | with_reducible refine we_din ?_
  | with_reducible refine we_dnotIn ?_
  | with_reducible refine we_dget2 ?_
  | with_reducible refine we_dsetd ?_
  | with_reducible refine we_make ?_
  | with_reducible refine we_meth0 ?_
  | with_reducible refine we_meth ?_
  | with_reducible refine we_bm ?_)
local macro_rules | `(tactic| walk_at "gt") => `(tactic| first
  | with_reducible refine wt_B ?_
  | with_reducible refine wt_test ?_
  | with_reducible refine wt_not ?_
  | with_reducible refine wt_and ?_
  | with_reducible refine wt_or ?_
  | with_reducible refine wt_yes ?_)
local macro_rules | `(tactic| walk_at "gst") => `(tactic| first
  | with_reducible refine ws_ret ?_
  | with_reducible refine ws_retN ?_
  | with_reducible refine ws_seq ?_
  | with_reducible refine ws_set ?_
  | with_reducible refine ws_drop ?_
  | with_reducible refine ws_if ?_
  | with_reducible refine ws_next ?_
  | with_reducible refine ws_raise ?_
  | with_reducible refine ws_asgS ?_
  | with_reducible refine ws_setL ?_
  | with_reducible refine ws_setN ?_
  | with_reducible refine ws_asg ?_
  | with_reducible refine ws_fld ?_
  | with_reducible refine ws_fldaddI ?_
  | with_reducible refine ws_dput ?_)
local macro_rules | `(tactic| walk_at "gr") => `(tactic| first
  | with_reducible refine wr_ixT rfl ?_
  | with_reducible refine wr_ixL rfl ?_
  | with_reducible refine ix_t0 ?_
  | with_reducible refine ix_t1 ?_
  | with_reducible refine ix_t2 ?_
  | with_reducible refine ix_t3 ?_
  | with_reducible refine ix_t4 ?_
  | with_reducible refine ix_l0 ?_
  | with_reducible refine ix_l1 ?_
  | with_reducible refine ix_l2 ?_
  | with_reducible refine ix_l3 ?_
  | with_reducible refine ix_l4 ?_
  | with_reducible refine wr_int ?_
  | (with_reducible refine isPow ?_; with_reducible refine wr_powL (by decide) (by decide) (by decide) ?_)
  | with_reducible refine wr_bool ?_
  | with_reducible refine wr_eqI ?_
  | with_reducible refine wr_neI ?_
  | with_reducible refine wr_eqS ?_
  | with_reducible refine wr_neS ?_
  | with_reducible refine wr_eqB ?_
  | with_reducible refine wr_neB ?_
  | with_reducible refine wr_isN ?_
  | with_reducible refine wr_notN ?_
  | (with_reducible refine isIxC ?_; with_reducible refine wr_ixC (by walk_at "at") (by with_unfolding_all rfl) ?_))
local macro_rules | `(tactic| walk_at "gc") => `(tactic| first
  | with_reducible refine wc_isi rfl rfl ?_
  | with_reducible refine wc_isi (by decide) (by decide +kernel) ?_
  | (with_reducible refine isLen ?_; with_reducible refine wc_lenC (by walk_at "at") ?_)
  | with_reducible refine wc_lenT ?_
  | with_reducible refine wc_lenL ?_)
local macro_rules | `(tactic| walk_at "ga") => `(tactic| first
  | with_reducible refine wa_cons ?_
  | with_reducible refine wa_nil ?_)
local macro_rules | `(tactic| walk_at "gx") => `(tactic| first
  | (with_reducible refine isLn ?_; with_reducible refine lenAnd (by simp) ?_)
  | with_reducible refine wsl_tup ?_
  | with_reducible refine wo_none ?_
  | with_reducible refine wo_some ?_
  | with_reducible refine ex_bl ?_
  | with_reducible refine ex_int ?_
  | with_reducible refine ex_str ?_
  | with_reducible refine ex_tup ?_
  | with_reducible refine ex_lst ?_
  | with_reducible refine ex_etup ?_
  | with_reducible refine br_true ?_
  | with_reducible refine br_false ?_
  | (with_reducible refine isBr ?_; refine br_t rfl ?_)
  | (with_reducible refine isBr ?_; refine br_f rfl ?_)
  | (with_reducible refine isFld ?_; with_reducible refine ex_fld (by walk_at "at") (by walk_at "fact") (by walk_at "fact") (by with_unfolding_all rfl) ?_)
  | (with_reducible refine isPut ?_; with_reducible refine ex_put (by walk_at "at") (by walk_at "fact") (by walk_at "fact") (by with_unfolding_all exact of_decide_eq_true rfl) ?_)
  | (with_reducible refine isMeth ?_; with_reducible refine ex_meth (by walk_at "at") (by with_unfolding_all rfl) ?_)
  | (with_reducible refine isTy ?_; with_reducible refine And.intro (ty_cell (by walk_at "at")) ?_)
  | with_reducible refine k_whole ?_
  | with_reducible refine k_count ?_
  | with_reducible refine k_amount ?_)
local macro_rules | `(tactic| walk_at "s") => `(tactic| first
  | (with_reducible refine isWE ?_; walk_at "ge")
  | (with_reducible refine isWS ?_; walk_at "gst")
  | (with_reducible refine isWT ?_; walk_at "gt")
  | (with_reducible refine isWR ?_; walk_at "gr")
  | (with_reducible refine isWA ?_; walk_at "ga")
  | (with_reducible refine isWC ?_; walk_at "gc")
  | walk_at "gx")
local macro_rules | `(tactic| walk_at "w") => `(tactic| repeat walk_at "s")

section
variable {P : Program} {w : World} {K : PySem.W.Frag} {mg : Str → Option Value} {base : Heap}
theorem erase_map {α β : Type} (f : α → β) : ∀ (l : List α) (n : Nat), (l.map f).eraseIdx n = (l.eraseIdx n).map f
  | [], _ => by simp
  | a :: l, 0 => rfl
  | a :: l, n + 1 => by
    rw [List.map_cons, List.eraseIdx_cons_succ, List.eraseIdx_cons_succ, erase_map f l n, List.map_cons]
theorem erase_perm {α : Type} : ∀ (l : List α) (n : Nat) (h : n < l.length), (l[n] :: l.eraseIdx n).Perm l
  | a :: l, 0, _ => .refl _
  | a :: l, n + 1, h => (List.Perm.swap a (l[n]'(by simpa using h)) (l.eraseIdx n)).trans ((erase_perm l n (by simpa using h)).cons a)
abbrev aBags : ASp := A2 fun self y L Φ _ => ∃ a g x f ss, self = .ref a ∧ Part (WlC a g x) L f ∧ Wl.ok x ∧ x.c + 200 ≤ 1000000 ∧ y = .lst (List.map D.str ss) ∧ ss.length ≤ 20 ∧ ss.Nodup ∧ (∀ s ∈ ss, isNm s) ∧
  ∀ x' : Wl, x'.ok → x'.c ≤ x.c + 200 → ∀ bs : List (Str × Int), BgOk bs → (∀ e ∈ bs, e.2 ≤ 4000000000000) → Φ (.etup (bs.map prD)) (f (WlC a g x'))
theorem sc_law_bags : FnScope ["_law_well_here", "_law_folk_here", "_law_found", "_law_left", "_law_k"] ["_law_well_here", "_law_folk_here"] d_law_bags.scope := ⟨rfl, rfl, rfl, by decide +kernel, rfl, by decide +kernel, by decide +kernel⟩
theorem ok_law_bags (T : Tx K mg) : FOk P w K mg base 3 (He.fAd K d_law_bags.at_) ["_law_well_here", "_law_folk_here"] aBags := by
  refine fok_of (d := d_law_bags) T 50 (k := 2) rfl rfl rfl sc_law_bags (fun ds L Φ ex h => A2.len h) (fun _ _ _ _ _ _ us hl => match us, hl with | [_, _], _ => rfl) (fun cdv Ar outer s H E ds L Φ ex hr h => ?_)
  obtain ⟨well_here, folk_here, rfl, h⟩ := h
  refine ⟨_, (pss_cons (ps_set (i := 2) sc_law_bags.nd rfl (Or.inl rfl) (pe_lst pa_nil))
    (pss_cons (ps_set (i := 3) sc_law_bags.nd rfl (Or.inl rfl) (pe_callTy call_list_of rfl (f_list T) (by decide +kernel) (pa_cons (pv 1) pa_nil)))
    (pss_cons (ps_for (passes_of rfl) rfl (pi_range1 rfl (f_range T) (pa_cons (pe_callB call_len rfl (f_len T) (by decide +kernel) (pa_cons (pv 1) pa_nil)) pa_nil)) (pg_name (i := 4) sc_law_bags.nd rfl (Or.inl rfl)) (pss_one (ps_expr (pe_bm PySem.F.plainAttrs_list PySem.F.slot_list_append PySem.F.type_list_append mt_append (pv 2) (pa_cons (pe_tup (pa_cons (pe_bm PySem.F.plainAttrs_list PySem.F.slot_list_pop PySem.F.type_list_pop mt_popAt (pv 3) (pa_cons (pe_c (ok_law_take T) hr rfl (g_law_take T) (pa_cons (pv 0) (pa_cons (pe_callB call_len rfl (f_len T) (by decide +kernel) (pa_cons (pv 3) pa_nil)) pa_nil))) pa_nil)) (pa_cons (pe_op op_add (pe_op op_mul (pe_c (ok_law_sum T) hr rfl (g_law_sum T) (pa_cons (pv 0) pa_nil)) (pe_c (ok_law_take T) hr rfl (g_law_take T) (pa_cons (pv 0) (pa_cons pe_int pa_nil)))) (pe_c (ok_law_sum T) hr rfl (g_law_sum T) (pa_cons (pv 0) pa_nil))) pa_nil))) pa_nil)))))
    (pss_one (ps_ret (pe_callTy cr_tupE rfl (f_tuple T) (by decide +kernel) (pa_cons (pv 2) pa_nil))))))), ?_⟩
  obtain ⟨a, g, x, f, ss, rfl, ⟨hf, rfl⟩, ok, hc, rfl, hl, hnd, hnm, h⟩ := h
  dsimp only [cxOf]
  refine ws_seq (ws_set (we_lstC (wa_nil ⟨by decide, fun q => ?_⟩)))
  walk_at "w"
  refine wc_listC (fun r => ?_) (.inl rfl)
  walk_at "w"
  refine ws_for (wi_rng (n := 0) ?_)
  walk_at "w"
  rw [List.length_map]
  refine ⟨_, rfl, by omega, by omega, fun i Γ' L' => i ≤ ss.length ∧ ∃ (x3 : Wl) (bs : List (Str × Int)) (rest : List Str), Wl.ok x3 ∧ x3.c ≤ x.c + 6 * (i : Int) ∧ L' = (r, .lst (rest.map D.str)) :: (q, .lst (bs.map prD)) :: f (WlC a g x3) ∧ (bs.map (·.1) ++ rest).Perm ss ∧ bs.length = i ∧ (∀ e ∈ bs, 0 ≤ e.2 ∧ e.2 ≤ 4000000000000) ∧ ∃ y, Γ' = [some (.ref a), some (.lst (ss.map D.str)), some (.ref q), some (.ref r), y], ⟨Nat.zero_le _, x, [], ss, ok, by simp, rfl, by simp, rfl, fun e he => (nomatch he), _, rfl⟩, fun i Γ' L' hI => trivial, fun i d Γ' L' hd hI => ?_, fun Γ' L' hI => ?_⟩
  · obtain ⟨hi, x3, bs, rest, ok3, hc3, rfl, hp, hbl, hbn, y, rfl⟩ := hI
    have hlt := (List.getElem?_eq_some_iff.mp hd).1
    rw [rangeD_len] at hlt
    have hlt : i < ss.length := by omega
    have hlen := hp.length_eq
    rw [List.length_append, List.length_map] at hlen
    refine ⟨_, wg_name, ?_⟩
    dsimp only [setG]
    refine ws_drop (we_bm (we_var rfl ⟨ty_cell (At.tail At.here), ?_⟩))
    refine wa_cons (we_tup (wa_cons (we_bm (we_var rfl ⟨ty_cell At.here, ?_⟩))))
    walk_at "w"
    refine k_tk (m := ((rest.map D.str).length : Int)) (f := fun S => (r, .lst (rest.map D.str)) :: (q, .lst (bs.map prD)) :: f S) hf.tail.tail ok3 (by omega) (by rw [List.length_map]; omega) (by rw [List.length_map]; omega) fun x4 ok4 hc4 pk hp0 hp1 => ?_
    rw [List.length_map] at hp1
    obtain ⟨n, rfl⟩ : ∃ n : Nat, pk = (n : Int) := ⟨pk.toNat, by omega⟩
    have hnl : n < rest.length := by omega
    refine wa_nil ?_
    refine wm_popAt (n := n) (d := .str rest[n]) At.here (by omega) (by rw [List.getElem?_map, List.getElem?_eq_getElem hnl]; rfl) ?_
    have hpr : (rest[n] :: rest.eraseIdx n).Perm rest := erase_perm rest n hnl
    rw [show (rest.map D.str).eraseIdx n = (rest.eraseIdx n).map D.str from erase_map _ _ _]
    generalize rest[n] = nm at hpr ⊢
    generalize rest.eraseIdx n = rest2 at hpr ⊢
    refine wa_cons (we_op (we_op ?_))
    refine we_call0 (wa_cons (we_var rfl (wa_nil ?_)))
    refine ⟨_, rfl, a, g, x4, fun S => (r, .lst (rest2.map D.str)) :: (q, .lst (bs.map prD)) :: f S, rfl, ⟨hf.tail.tail, rfl⟩, ok4, by omega, fun x5 ok5 hc5 v1 hv0 hv1 => ?_⟩
    walk_at "w"
    refine k_tk (m := 3) (f := fun S => (r, .lst (rest2.map D.str)) :: (q, .lst (bs.map prD)) :: f S) hf.tail.tail ok5 (by omega) (by decide) (by decide) fun x6 ok6 hc6 v2 hw0 hw1 => ?_
    refine wr_mul (.inr ⟨by omega, by omega⟩) ?_
    refine we_call0 (wa_cons (we_var rfl (wa_nil ?_)))
    refine ⟨_, rfl, a, g, x6, fun S => (r, .lst (rest2.map D.str)) :: (q, .lst (bs.map prD)) :: f S, rfl, ⟨hf.tail.tail, rfl⟩, ok6, by omega, fun x7 ok7 hc7 v3 hz0 hz1 => ?_⟩
    have hm0 : 0 ≤ v1 * v2 := Int.mul_nonneg hv0 hw0
    have hm1 : v1 * v2 ≤ 1000000000000 * 2 := Int.mul_le_mul (by omega) (by omega) hw0 (by decide)
    refine wr_int ?_
    refine wa_nil ⟨by simp, wa_nil ?_⟩
    refine wm_append (At.tail At.here) (by rw [List.length_map]; omega) ?_
    refine ⟨hlt, x7, bs ++ [(nm, v1 * v2 + v3)], rest2, ok7, by rw [Int.natCast_add]; omega, by rw [List.map_append]; rfl, ?_, by rw [List.length_append, hbl]; rfl, fun e he => ?_, _, rfl⟩
    · rw [List.map_append, List.append_assoc]
      exact (List.Perm.append_left _ hpr).trans hp
    · rcases List.mem_append.mp he with z | z
      · exact hbn e z
      · have : e = (nm, v1 * v2 + v3) := by simpa using z
        rw [this]
        dsimp only
        omega
  · obtain ⟨hi, x3, bs, rest, ok3, hc3, rfl, hp, hbl, hbn, y, rfl⟩ := hI
    rw [rangeD_len] at hc3 hbl
    have hbl2 : bs.length = ss.length := by omega
    have hlen := hp.length_eq
    rw [List.length_append, List.length_map] at hlen
    have hr0 : rest = [] := List.eq_nil_of_length_eq_zero (by omega)
    subst hr0
    rw [List.append_nil] at hp
    refine ws_ret (WE.forget (we_cb (wa_cons (we_var rfl (wa_nil ?_)))))
    refine wc_tupE (.inr ⟨q, _, rfl, At.tail At.here⟩) ⟨_, (List.sublist_cons_self _ _).trans (List.sublist_cons_self _ _), ?_⟩
    refine h x3 ok3 (by omega) bs ⟨hp.nodup_iff.mpr hnd, fun e he => hnm _ (hp.mem_iff.mp (List.mem_map_of_mem he)), fun e he => (hbn e he).1, by omega⟩ fun e he => (hbn e he).2
end
end Cl
set_option Elab.async false
set_option linter.all false
set_option maxRecDepth 100000
set_option maxHeartbeats 4000000
/-! Plain: sorting once. -/
namespace Cl
open PySem PySem.Spec PyProof.Rows L2
theorem kle_tot : PySem.W.TotalLe kle := by
  have h := PySem.W.sortLe_total (PyProof.Rows.listOrd PyProof.Rows.itemOrd) false fun b : Int × Lck => PySem.W.keyToks (kpD b).py
  exact h
theorem side_inj {a b : Bool} (h : (side a).cps.toList = (side b).cps.toList) : a = b := by
  have := PySem.W.str_of_cps h
  cases a <;> cases b <;> first | rfl | exact absurd this (by decide)
theorem kp_toks {a b : Int × Lck} (h : PySem.W.keyToks (kpD a).py = PySem.W.keyToks (kpD b).py) : a = b := by
  obtain ⟨i, id, rt, am, sl, la⟩ := a
  obtain ⟨i2, id2, rt2, am2, sl2, la2⟩ := b
  simp [kpD, Lck.d, D.py, D.pys, PySem.W.keyToks, PySem.W.keyToksAll] at h
  obtain ⟨h1, h2, h3, h4, h5, h6⟩ := h
  have := side_inj (a := rt) (b := rt2) (by rw [h3])
  simp [*]
theorem kle_anti {a b : Int × Lck} (h1 : kle a b = true) (h2 : kle b a = true) : a = b := by
  have e1 : (!(PyProof.Rows.listOrd PyProof.Rows.itemOrd).blt (PySem.W.keyToks (kpD b).py) (PySem.W.keyToks (kpD a).py)) = true := h1
  have e2 : (!(PyProof.Rows.listOrd PyProof.Rows.itemOrd).blt (PySem.W.keyToks (kpD a).py) (PySem.W.keyToks (kpD b).py)) = true := h2
  rw [Bool.not_eq_true'] at e1 e2
  exact kp_toks ((PyProof.Rows.listOrd PyProof.Rows.itemOrd).total _ _ e2 e1)
theorem perm_eq {α : Type} {le : α → α → Prop} (anti : ∀ a b, le a b → le b a → a = b) : ∀ {l m : List α}, l.Pairwise le → m.Pairwise le → l.Perm m → l = m
  | [], m, _, _, p => (List.nil_perm.mp p).symm
  | a :: l, [], _, _, p => absurd p.length_eq (by simp)
  | a :: l, b :: m, hl, hm, p => by
    rw [List.pairwise_cons] at hl hm
    have e : a = b := by
      rcases List.mem_cons.mp (p.mem_iff.mp List.mem_cons_self) with e | h1
      · exact e
      · rcases List.mem_cons.mp (p.mem_iff.mpr (List.mem_cons_self (a := b) (l := m))) with e | h2
        · exact e.symm
        · exact anti a b (hl.1 b h2) (hm.1 a h1)
    subst e
    rw [perm_eq anti hl.2 hm.2 ((List.perm_cons a).mp p)]
theorem ksort_pw (l : List (Int × Lck)) : (ksort l).Pairwise fun a b => kle a b = true := PySem.W.sort_pairwise kle_tot l
theorem ksort_perm (l : List (Int × Lck)) : (ksort l).Perm l := List.mergeSort_perm _ _
theorem ksort_of {l m : List (Int × Lck)} (hp : m.Perm l) (hs : m.Pairwise fun a b => kle a b = true) : m = ksort l :=
  perm_eq (le := fun a b => kle a b = true) (fun _ _ => kle_anti) hs (ksort_pw l) (hp.trans (ksort_perm l).symm)
/-- all that comes at a turn, lane by lane -/
def newAll (s : CtS) : Nat → List Rd → List (Int × Lck)
  | _, [] => []
  | i, r :: rs => (if due s r then new1 i r else []) ++ newAll s (i + 1) rs
theorem newAll_app (s : CtS) : ∀ (a b : List Rd) (i : Nat), newAll s i (a ++ b) = newAll s i a ++ newAll s (i + a.length) b
  | [], b, i => rfl
  | r :: a, b, i => by
    rw [List.cons_append, newAll, newAll, newAll_app s a b (i + 1), List.append_assoc, List.length_cons, show i + (a.length + 1) = i + 1 + a.length by omega]
theorem keep_perm (s : CtS) : ∀ (rs : List Rd) (i : Nat) (k : List (Int × Lck)), (keep1 s i rs k).Perm (k ++ newAll s i rs)
  | [], _, k => by rw [newAll, List.append_nil]; exact .refl _
  | r :: rs, i, k => by
    rw [keep1, newAll]
    refine (keep_perm s rs (i + 1) _).trans ?_
    by_cases c : due s r
    · rw [if_pos c, if_pos c, ← List.append_assoc]
      exact (ksort_perm _).append_right _
    · rw [if_neg c, if_neg c, List.nil_append]
theorem keep_pw (s : CtS) : ∀ (rs : List Rd) (i : Nat) (k : List (Int × Lck)), (k.Pairwise fun a b => kle a b = true) → (keep1 s i rs k).Pairwise fun a b => kle a b = true
  | [], _, k, h => h
  | r :: rs, i, k, h => by
    rw [keep1]
    refine keep_pw s rs (i + 1) _ ?_
    by_cases c : due s r
    · rw [if_pos c]; exact ksort_pw _
    · rw [if_neg c]; exact h
theorem keep_once (s : CtS) {rs : List Rd} {i : Nat} {k : List (Int × Lck)} (h : k.Pairwise fun a b => kle a b = true) : keep1 s i rs k = ksort (k ++ newAll s i rs) := ksort_of (keep_perm s rs i k) (keep_pw s rs i k h)
theorem left2_sub (s : CtS) : ∀ k : List (Int × Lck), (left2 s k).Sublist k
  | [] => .slnil
  | e :: k => by
    rw [left2]
    cases dec1 s e with
    | none => exact (left2_sub s k).cons_cons e
    | some h => exact (left2_sub s k).cons e
/-! texts in order -/
theorem rising_pw : ∀ (r : List Str) (p : Str), risingS p r = true → (p :: r).Pairwise fun a b => ltCps b.cps.toList a.cps.toList = false
  | [], p, _ => List.pairwise_singleton _ _
  | x :: r, p, h => by
    unfold risingS at h
    rw [Bool.and_eq_true, Bool.not_eq_true'] at h
    have ih := rising_pw r x h.2
    refine List.pairwise_cons.mpr ⟨fun y hy => ?_, ih⟩
    rcases List.mem_cons.mp hy with rfl | hy
    · exact h.1
    · have h3 := List.rel_of_pairwise_cons ih hy
      have h0 := h.1
      rw [ltCps_eq] at h0 h3 ⊢
      exact KeyOrd.kle_trans (O := strKind.toKeyOrd) (a := p.cps.toList) (b := x.cps.toList) (c := y.cps.toList) h0 h3
theorem sortedS_pw : ∀ {l : List Str}, sortedS l = true → l.Pairwise fun a b => ltCps b.cps.toList a.cps.toList = false
  | [], _ => .nil
  | x :: r, h => rising_pw r x h
theorem sortedS_eq {l m : List Str} (hl : sortedS l = true) (hm : sortedS m = true) (p : l.Perm m) : l = m :=
  perm_eq (le := fun a b => ltCps b.cps.toList a.cps.toList = false) (fun a b h1 h2 => by
    rw [ltCps_eq] at h1 h2
    exact PySem.W.str_of_cps (KeyOrd.kle_antisymm (O := strKind.toKeyOrd) (a := a.cps.toList) (b := b.cps.toList) h1 h2)) (sortedS_pw hl) (sortedS_pw hm) p
end Cl
set_option Elab.async false
set_option linter.all false
set_option maxRecDepth 100000
set_option maxHeartbeats 4000000
namespace Cl
open PySem PySem.Spec PyProof.Rows L2
/-! ### the book's cells -/
abbrev Kk := List (Str × Ppr)
def keyD (e : Str × Ppr) : D := .tup [.str e.1, e.2.d]
def rdL (r : Rd) : List D := [.str r.l, .str r.r, .int r.first.l, .int r.first.r, .str r.mood, r.st.d, oD r.en]
def rdC (ra : List Addr) (ls : List Rd) : Sto := (ra.zip ls).map fun e => (e.1, .lst (rdL e.2))
def bkL (k : Bk) (s : CtS) : List D := [.int s.clock, .int s.long, .ref k.d2, .ref k.r3, .ref k.s4, .lst (s.kept.map kpD), .ref k.o6, .ref k.n7]
def BkC (k : Bk) (ra : List Addr) (s : CtS) (kk : Kk) : Sto :=
  (k.b, .lst (bkL k s)) :: (k.n7, .dN (kk.map keyD)) :: (k.o6, .lst s.rows) :: (k.s4, .dK (seenK s.seen)) :: (k.r3, .lst (ra.map D.ref)) :: (k.d2, .dK (bagK s.bags)) :: rdC ra s.lanes
section
variable {k : Bk} {ra : List Addr} {s : CtS} {kk : Kk}
theorem at_kb : At k.b (.lst (bkL k s)) (BkC k ra s kk) (fun c' => (k.b, c') :: (BkC k ra s kk).tail) := At.here
theorem at_kn : At k.n7 (.dN (kk.map keyD)) (BkC k ra s kk) (fun c' => (k.b, .lst (bkL k s)) :: (k.n7, c') :: (BkC k ra s kk).tail.tail) := At.tail At.here
theorem at_ko : At k.o6 (.lst s.rows) (BkC k ra s kk) (fun c' => (k.b, .lst (bkL k s)) :: (k.n7, .dN (kk.map keyD)) :: (k.o6, c') :: (BkC k ra s kk).tail.tail.tail) := At.tail (At.tail At.here)
theorem at_ks : At k.s4 (.dK (seenK s.seen)) (BkC k ra s kk) (fun c' => (k.b, .lst (bkL k s)) :: (k.n7, .dN (kk.map keyD)) :: (k.o6, .lst s.rows) :: (k.s4, c') :: (BkC k ra s kk).tail.tail.tail.tail) := At.tail (At.tail (At.tail At.here))
theorem at_kr : At k.r3 (.lst (ra.map D.ref)) (BkC k ra s kk) (fun c' => (k.b, .lst (bkL k s)) :: (k.n7, .dN (kk.map keyD)) :: (k.o6, .lst s.rows) :: (k.s4, .dK (seenK s.seen)) :: (k.r3, c') :: (BkC k ra s kk).tail.tail.tail.tail.tail) := At.tail (At.tail (At.tail (At.tail At.here)))
theorem at_kd : At k.d2 (.dK (bagK s.bags)) (BkC k ra s kk) (fun c' => (k.b, .lst (bkL k s)) :: (k.n7, .dN (kk.map keyD)) :: (k.o6, .lst s.rows) :: (k.s4, .dK (seenK s.seen)) :: (k.r3, .lst (ra.map D.ref)) :: (k.d2, c') :: (BkC k ra s kk).tail.tail.tail.tail.tail.tail) := At.tail (At.tail (At.tail (At.tail (At.tail At.here))))
end
theorem at_rd : ∀ {ra : List Addr} {ls : List Rd} {i : Nat} {a : Addr} {r : Rd}, ra[i]? = some a → ls[i]? = some r → ∃ g, At a (.lst (rdL r)) (rdC ra ls) g ∧ ∀ r', g (.lst (rdL r')) = rdC ra (ls.set i r')
  | x :: la, y :: ls, 0, a, r, h1, h2 => by
    have e1 := Option.some.inj h1
    have e2 := Option.some.inj h2
    subst e1 e2
    exact ⟨fun c => (x, c) :: rdC la ls, At.here, fun r' => rfl⟩
  | x :: la, y :: ls, i + 1, a, r, h1, h2 => by
    obtain ⟨g, h3, h4⟩ := at_rd (ra := la) (ls := ls) (i := i) (by simpa using h1) (by simpa using h2)
    exact ⟨fun c => (x, .lst (rdL y)) :: g c, h3.tail, fun r' => by dsimp only; rw [h4]; rfl⟩
  | [], _, _, _, _, h1, _ => by simp at h1
  | _ :: _, [], _, _, _, _, h2 => by simp at h2
theorem at_krd {k : Bk} {ra : List Addr} {s : CtS} {kk : Kk} {f : Sto → Sto} {i : Nat} {ad : Addr} {r : Rd} (hf : Hole f) (h1 : ra[i]? = some ad) (h2 : s.lanes[i]? = some r) :
    ∃ g, At ad (.lst (rdL r)) (f (BkC k ra s kk)) g ∧ ∀ r', g (.lst (rdL r')) = f (BkC k ra { s with lanes := s.lanes.set i r' } kk) := by
  obtain ⟨g, hg, hs⟩ := at_rd h1 h2
  refine ⟨_, At.in hf (At.tail (x := (k.b, .lst (bkL k s))) (At.tail (x := (k.n7, .dN (kk.map keyD))) (At.tail (x := (k.o6, .lst s.rows)) (At.tail (x := (k.s4, .dK (seenK s.seen))) (At.tail (x := (k.r3, .lst (ra.map D.ref))) (At.tail (x := (k.d2, .dK (bagK s.bags))) hg)))))), fun r' => ?_⟩
  show f (_ :: _ :: _ :: _ :: _ :: _ :: g _) = _
  rw [hs]
  rfl
theorem keyD_nk (e : Str × Ppr) : ∃ ds k, keyD e = .tup ds ∧ (D.tup ds).nk = some k ∧ k.depth ≤ 8 := by
  obtain ⟨ds, k, e1, e2, e3⟩ := ppr_nk e.2
  refine ⟨[.str e.1, e.2.d], .tup [.text e.1, k], rfl, ?_, ?_⟩
  · rw [e1]
    simp [D.nk, D.nks] at e2 ⊢
    cases h : D.nks ds with
    | none => rw [h] at e2; simp at e2
    | some ks =>
      rw [h] at e2
      simp at e2
      simp [e2]
  · simp [NestedKey.depth, NestedKey.depthAll]
    omega
local macro_rules | `(tactic| walk_at "at") => `(tactic| first | assumption | repeat first | with_reducible exact At.here | with_reducible exact at_mc | with_reducible exact at_mb | with_reducible exact at_mo | with_reducible exact at_ms | with_reducible exact at_md | with_reducible exact at_kb | with_reducible exact at_kn | with_reducible exact at_ko | with_reducible exact at_ks | with_reducible exact at_kr | with_reducible exact at_kd | with_reducible apply At.tail | (with_reducible apply At.in (by assumption)))
local macro_rules | `(tactic| walk_at "fact") => `(tactic| first | exact c_Court (by assumption) | exact c_Lane (by assumption) | exact c_Signs (by assumption) | exact n_Court_clock (by assumption) | exact n_Court_long (by assumption) | exact n_Court_bags (by assumption) | exact n_Court_book (by assumption) | exact n_Court_opened (by assumption) | exact n_Court_seen (by assumption) | exact n_Court_kept (by assumption) | exact n_Court_deeds (by assumption) | exact n_Lane_both (by assumption) | exact n_Lane_first (by assumption) | exact n_Lane_standing (by assumption) | exact n_Lane_mood (by assumption) | exact n_Lane_ending (by assumption) | exact n_Signs_by_hand (by assumption))
local macro_rules | `(tactic| walk_at "ge") => `(tactic| first
  | with_reducible refine we_var rfl ?_
  | with_reducible refine we_int ?_
  | with_reducible refine we_str ?_
  | with_reducible refine we_ty ?_
  | with_reducible refine we_bl ?_
  | with_reducible refine we_non ?_
  | with_reducible refine we_ref ?_
  | with_reducible refine we_op ?_
  | with_reducible refine we_cb ?_
  | with_reducible refine we_call0 ?_
  | with_reducible refine we_call ?_
  | with_reducible refine we_lst ?_
  | with_reducible refine we_tup ?_
  | with_reducible refine we_andV ?_
  | with_reducible refine we_orV ?_
  | with_reducible refine we_notV ?_
  | with_reducible refine we_if ?_
  | with_reducible refine we_chain ?_
  | with_reducible refine we_sl ?_
  | with_reducible refine we_lz ?_
  | with_reducible refine we_dnewK (fun _ => ?_)
  | with_reducible refine we_dnewN (fun _ => ?_)
  | with_reducible refine we_fld ?_
  | with_reducible refine we_dget ?_
  | with_reducible refine we_din ?_
  | with_reducible refine we_dnotIn ?_
  | with_reducible refine we_dget2 ?_
  | with_reducible refine we_dsetd ?_
  | with_reducible refine we_make ?_
  | with_reducible refine we_meth0 ?_
  | with_reducible refine we_meth ?_
  | with_reducible refine we_bm ?_)
local macro_rules | `(tactic| walk_at "gt") => `(tactic| first
  | with_reducible refine wt_B ?_
  | with_reducible refine wt_test ?_
  | with_reducible refine wt_not ?_
  | with_reducible refine wt_and ?_
  | with_reducible refine wt_or ?_
  | with_reducible refine wt_yes ?_)
local macro_rules | `(tactic| walk_at "gst") => `(tactic| first
  | with_reducible refine ws_ret ?_
  | with_reducible refine ws_retN ?_
  | with_reducible refine ws_seq ?_
  | with_reducible refine ws_set ?_
  | with_reducible refine ws_drop ?_
  | with_reducible refine ws_if ?_
  | with_reducible refine ws_next ?_
  | with_reducible refine ws_raise ?_
  | with_reducible refine ws_asgS ?_
  | with_reducible refine ws_setL ?_
  | with_reducible refine ws_setN ?_
  | with_reducible refine ws_asg ?_
  | with_reducible refine ws_fld ?_
  | with_reducible refine ws_fldaddI ?_
  | with_reducible refine ws_dput ?_)
local macro_rules | `(tactic| walk_at "gr") => `(tactic| first
  | with_reducible refine wr_ixT rfl ?_
  | with_reducible refine wr_ixL rfl ?_
  | with_reducible refine ix_t0 ?_
  | with_reducible refine ix_t1 ?_
  | with_reducible refine ix_t2 ?_
  | with_reducible refine ix_t3 ?_
  | with_reducible refine ix_t4 ?_
  | with_reducible refine ix_l0 ?_
  | with_reducible refine ix_l1 ?_
  | with_reducible refine ix_l2 ?_
  | with_reducible refine ix_l3 ?_
  | with_reducible refine ix_l4 ?_
  | with_reducible refine wr_int ?_
  | (with_reducible refine isPow ?_; with_reducible refine wr_powL (by decide) (by decide) (by decide) ?_)
  | with_reducible refine wr_bool ?_
  | with_reducible refine wr_eqI ?_
  | with_reducible refine wr_neI ?_
  | with_reducible refine wr_eqS ?_
  | with_reducible refine wr_neS ?_
  | with_reducible refine wr_eqB ?_
  | with_reducible refine wr_neB ?_
  | with_reducible refine wr_isN ?_
  | with_reducible refine wr_notN ?_
  | (with_reducible refine isIxC ?_; with_reducible refine wr_ixC (by walk_at "at") (by with_unfolding_all rfl) ?_))
local macro_rules | `(tactic| walk_at "gc") => `(tactic| first
  | with_reducible refine wc_isi rfl rfl ?_
  | with_reducible refine wc_isi (by decide) (by decide +kernel) ?_
  | (with_reducible refine isLen ?_; with_reducible refine wc_lenC (by walk_at "at") ?_)
  | with_reducible refine wc_lenT ?_
  | with_reducible refine wc_lenL ?_)
local macro_rules | `(tactic| walk_at "ga") => `(tactic| first
  | with_reducible refine wa_cons ?_
  | with_reducible refine wa_nil ?_)
local macro_rules | `(tactic| walk_at "gx") => `(tactic| first
  | (with_reducible refine isLn ?_; with_reducible refine lenAnd (by simp) ?_)
  | with_reducible refine wsl_tup ?_
  | with_reducible refine wo_none ?_
  | with_reducible refine wo_some ?_
  | with_reducible refine ex_bl ?_
  | with_reducible refine ex_int ?_
  | with_reducible refine ex_str ?_
  | with_reducible refine ex_tup ?_
  | with_reducible refine ex_lst ?_
  | with_reducible refine ex_etup ?_
  | with_reducible refine br_true ?_
  | with_reducible refine br_false ?_
  | (with_reducible refine isBr ?_; refine br_t rfl ?_)
  | (with_reducible refine isBr ?_; refine br_f rfl ?_)
  | (with_reducible refine isFld ?_; with_reducible refine ex_fld (by walk_at "at") (by walk_at "fact") (by walk_at "fact") (by with_unfolding_all rfl) ?_)
  | (with_reducible refine isPut ?_; with_reducible refine ex_put (by walk_at "at") (by walk_at "fact") (by walk_at "fact") (by with_unfolding_all exact of_decide_eq_true rfl) ?_)
  | (with_reducible refine isMeth ?_; with_reducible refine ex_meth (by walk_at "at") (by with_unfolding_all rfl) ?_)
  | (with_reducible refine isTy ?_; with_reducible refine And.intro (ty_cell (by walk_at "at")) ?_)
  | with_reducible refine k_whole ?_
  | with_reducible refine k_count ?_
  | with_reducible refine k_amount ?_)
local macro_rules | `(tactic| walk_at "s") => `(tactic| first
  | (with_reducible refine isWE ?_; walk_at "ge")
  | (with_reducible refine isWS ?_; walk_at "gst")
  | (with_reducible refine isWT ?_; walk_at "gt")
  | (with_reducible refine isWR ?_; walk_at "gr")
  | (with_reducible refine isWA ?_; walk_at "ga")
  | (with_reducible refine isWC ?_; walk_at "gc")
  | walk_at "gx")
local macro_rules | `(tactic| walk_at "w") => `(tactic| repeat walk_at "s")

section
variable {P : Program} {w : World} {K : PySem.W.Frag} {mg : Str → Option Value} {base : Heap}
/-- who signed what, as the book has it -/
def SK (S : Str → D → Bool) (kk : Kk) : Prop := ∀ h p, S h (Ppr.d p) = true ↔ keyD (h, p) ∈ kk.map keyD
structure BkOk (N : Nat) (ra : List Addr) (s : CtS) : Prop where
  rl : ra.length = s.lanes.length
  ct : ∃ la, CtOk N la s
abbrev aOpenDue : ASp := A2 fun bk dd L Φ _ => ∃ k ra s kk S f N l r m n, bk = .ref k.b ∧ Part (BkC k ra s kk) L f ∧ BkOk N ra s ∧ SK S kk ∧ dd = .tup [.str "open", .str l, .str r, .int m, .int n] ∧ 0 ≤ m ∧ 0 ≤ n ∧ isNm l ∧ isNm r ∧ Φ (.str (openDue S s l r m n)) (f (BkC k ra s kk))
theorem sc_law_open_due : FnScope ["_law_book_here", "_law_deed_here", "_law_word", "_law_left", "_law_right", "_law_one", "_law_other", "_law_hand", "_law_paper"] ["_law_book_here", "_law_deed_here"] d_law_open_due.scope := ⟨rfl, rfl, rfl, by decide +kernel, rfl, by decide +kernel, by decide +kernel⟩
theorem ok_law_open_due (T : Tx K mg) : FOk P w K mg base 2 (He.fAd K d_law_open_due.at_) ["_law_book_here", "_law_deed_here"] aOpenDue := by
  refine fok_of (d := d_law_open_due) T 53 (k := 1) rfl rfl rfl sc_law_open_due (fun ds L Φ ex h => A2.len h) (fun _ _ _ _ _ _ us hl => match us, hl with | [_, _], _ => rfl) (fun cdv Ar outer s H E ds L Φ ex hr h => ?_)
  obtain ⟨book_here, deed_here, rfl, h⟩ := h
  refine ⟨_, (pss_cons (ps_asg (pv 1) (pg_tup (n := 5) rfl (pgs_cons (pg_name (i := 2) sc_law_open_due.nd rfl (Or.inl rfl)) (pgs_cons (pg_name (i := 3) sc_law_open_due.nd rfl (Or.inl rfl)) (pgs_cons (pg_name (i := 4) sc_law_open_due.nd rfl (Or.inl rfl)) (pgs_cons (pg_name (i := 5) sc_law_open_due.nd rfl (Or.inl rfl)) (pgs_cons (pg_name (i := 6) sc_law_open_due.nd rfl (Or.inl rfl)) pgs_nil)))))))
    (pss_cons (ps_for (passes_of rfl) rfl (pi_list (pe_lst (pa_cons (pv 3) (pa_cons (pv 4) pa_nil)))) (pg_name (i := 7) sc_law_open_due.nd rfl (Or.inl rfl)) (pss_one (ps_if (PW.pt (pw_or (pt_not (pt_val (pe_callB call_isi rfl (f_isinstance T) (by decide +kernel) (pa_cons (pv 7) (pa_cons (pe_gty (n := "str") rfl (f_str T) (by decide +kernel)) pa_nil))))) (pw_or1 (pt_cmp (pc_dnotin (hu_of hr) (pv 7) (pe_ix ix_list (pv 0) pe_int (fun _ _ => rfl))))))) (pss_one (ps_ret pe_str)) pss_nil)))
    (pss_cons (ps_if (pt_cmpR op_eq (pv 3) (pv 4) (nomark _)) (pss_one (ps_ret pe_str)) pss_nil)
    (pss_cons (ps_if (PW.pt (pw_or (pt_not (pt_val (pe_c (ok_law_is_coins T) hr rfl (g_law_is_coins T) (pa_cons (pv 5) pa_nil)))) (pw_or1 (pt_not (pt_val (pe_c (ok_law_is_coins T) hr rfl (g_law_is_coins T) (pa_cons (pv 6) pa_nil))))))) (pss_one (ps_ret pe_str)) pss_nil)
    (pss_cons (ps_if (PW.pt (pw_or (pt_cmpR op_gt (pv 5) (pe_dget (hu_of hr) (pe_ix ix_list (pv 0) pe_int (fun _ _ => rfl)) (pv 3) (fun _ _ => rfl)) (nomark _)) (pw_or (pt_cmpR op_gt (pv 6) (pe_dget (hu_of hr) (pe_ix ix_list (pv 0) pe_int (fun _ _ => rfl)) (pv 4) (fun _ _ => rfl)) (nomark _)) (pw_or1 (pt_cmpR op_eq (pe_op op_add (pv 5) (pv 6)) pe_int (nomark _)))))) (pss_one (ps_ret pe_str)) pss_nil)
    (pss_cons (ps_set (i := 8) sc_law_open_due.nd rfl (Or.inl rfl) (pe_tup (pa_cons pe_str (pa_cons (pe_callB call_len rfl (f_len T) (by decide +kernel) (pa_cons (pe_ix ix_list (pv 0) pe_int (fun _ _ => rfl)) pa_nil)) (pa_cons (pv 3) (pa_cons (pv 4) (pa_cons (pv 5) (pa_cons (pv 6) pa_nil))))))))
    (pss_cons (ps_if (PW.pt (pw_or (pt_cmpR (op_notInN hr.units) (pe_tup (pa_cons (pv 3) (pa_cons (pv 8) pa_nil))) (pe_ix ix_list (pv 0) pe_int (fun _ _ => rfl)) rfl) (pw_or1 (pt_cmpR (op_notInN hr.units) (pe_tup (pa_cons (pv 4) (pa_cons (pv 8) pa_nil))) (pe_ix ix_list (pv 0) pe_int (fun _ _ => rfl)) rfl)))) (pss_one (ps_ret pe_str)) pss_nil)
    (pss_one (ps_ret pe_str))))))))), ?_⟩
  obtain ⟨k, ra, s, kk, S, f, N, l, r, m, n, rfl, ⟨hf, rfl⟩, ok, hS, rfl, hm, hn, nl, nr, h⟩ := h
  dsimp only [cxOf]
  obtain ⟨la, ct⟩ := ok.ct
  walk_at "w"
  refine ⟨_, wg_tup (us := [(2, .str "open"), (3, .str l), (4, .str r), (5, .int m), (6, .int n)]) rfl (wgs_cons wg_name (wgs_cons wg_name (wgs_cons wg_name (wgs_cons wg_name (wgs_cons wg_name wgs_nil))))), ?_⟩
  dsimp only [setG, startG]
  walk_at "w"
  have odn : bget s.bags l = none → openDue S s l r m n = "NoHand" := fun e => by unfold openDue; rw [e]
  have odn2 : bget s.bags r = none → openDue S s l r m n = "NoHand" := fun e => by
    unfold openDue
    rw [e]
    cases bget s.bags l <;> rfl
  refine ws_for (wi_listD ?_)
  walk_at "w"
  refine ⟨fun i Γ' L' => L' = f (BkC k ra s kk) ∧ (∃ x, Γ' = [some (.ref k.b), some (.tup [.str "open", .str l, .str r, .int m, .int n]), some (.str "open"), some (.str l), some (.str r), some (.int m), some (.int n), x, none]) ∧ (0 < i → (bget s.bags l).isSome = true) ∧ (1 < i → (bget s.bags r).isSome = true), ⟨rfl, ⟨_, rfl⟩, fun z => absurd z (by decide), fun z => absurd z (by decide)⟩, fun _ _ _ _ => trivial, fun i d Γ' L' hd hI => ?_, fun Γ' L' hI => ?_⟩
  · obtain ⟨rfl, ⟨x, rfl⟩, hi1, hi2⟩ := hI
    match i, hd with
    | 0, hd =>
      cases hd
      refine ⟨_, wg_name, ?_⟩
      dsimp only [setG]
      walk_at "w"
      refine ⟨_, _, .inr l, _, rfl, rfl, by walk_at "at", ?_⟩
      rw [bagK_get]
      walk_at "w"
      cases hb : bget s.bags l with
      | none =>
        refine br_t rfl ?_
        walk_at "w"
        rw [odn hb] at h
        exact h
      | some v =>
        refine br_f rfl ?_
        exact ws_next ⟨rfl, ⟨_, rfl⟩, fun _ => rfl, fun z => absurd z (by decide)⟩
    | 1, hd =>
      cases hd
      refine ⟨_, wg_name, ?_⟩
      dsimp only [setG]
      walk_at "w"
      refine ⟨_, _, .inr r, _, rfl, rfl, by walk_at "at", ?_⟩
      rw [bagK_get]
      walk_at "w"
      cases hb : bget s.bags r with
      | none =>
        refine br_t rfl ?_
        walk_at "w"
        rw [odn2 hb] at h
        exact h
      | some v =>
        refine br_f rfl ?_
        exact ws_next ⟨rfl, ⟨_, rfl⟩, fun _ => hi1 (by decide), fun _ => rfl⟩
    | i + 2, hd => simp at hd
  · obtain ⟨rfl, ⟨x0, rfl⟩, hi1, hi2⟩ := hI
    obtain ⟨x, hx⟩ := Option.isSome_iff_exists.mp (hi1 (by simp))
    obtain ⟨y, hy⟩ := Option.isSome_iff_exists.mp (hi2 (by simp))
    clear hi1 hi2 odn odn2
    have od : openDue S s l r m n = if l = r then ("NoHand" : Str) else if m > x ∨ n > y ∨ m + n = 0 then ("NoCoins" : Str) else if S l (Opn.d ⟨s.lanes.length, l, r, m, n⟩) = true ∧ S r (Opn.d ⟨s.lanes.length, l, r, m, n⟩) = true then ("" : Str) else ("NotSigned" : Str) := by
      unfold openDue
      rw [hx, hy]
    walk_at "w"
    by_cases c1 : l = r
    · refine br_t (decide_eq_true c1) ?_
      walk_at "w"
      rw [if_pos c1] at od
      rw [od] at h
      exact h
    refine br_f (decide_eq_false c1) ?_
    rw [if_neg c1] at od
    walk_at "w"
    refine br_f (by rw [decide_eq_true (show m ≥ 0 from hm)]; rfl) ?_
    walk_at "w"
    refine br_f (by rw [decide_eq_true (show n ≥ 0 from hn)]; rfl) ?_
    walk_at "w"
    refine ⟨_, _, .inr l, _, _, rfl, rfl, by walk_at "at", by rw [bagK_get, hx]; rfl, ?_⟩
    walk_at "w"
    by_cases c2 : m > x
    · refine br_t (decide_eq_true c2) ?_
      walk_at "w"
      rw [if_pos (.inl c2)] at od
      rw [od] at h
      exact h
    refine br_f (decide_eq_false c2) ?_
    walk_at "w"
    refine ⟨_, _, .inr r, _, _, rfl, rfl, by walk_at "at", by rw [bagK_get, hy]; rfl, ?_⟩
    walk_at "w"
    by_cases c3 : n > y
    · refine br_t (decide_eq_true c3) ?_
      walk_at "w"
      rw [if_pos (.inr (.inl c3))] at od
      rw [od] at h
      exact h
    refine br_f (decide_eq_false c3) ?_
    walk_at "w"
    by_cases c4 : m + n = 0
    · refine br_t (decide_eq_true c4) ?_
      walk_at "w"
      rw [if_pos (.inr (.inr c4))] at od
      rw [od] at h
      exact h
    refine br_f (decide_eq_false c4) ?_
    rw [if_neg (by omega)] at od
    walk_at "w"
    rw [List.length_map, ok.rl]
    walk_at "w"
    obtain ⟨ds1, k1, e1, e2, e3⟩ := keyD_nk (l, .o ⟨s.lanes.length, l, r, m, n⟩)
    have e1 : D.tup [.str l, Opn.d ⟨s.lanes.length, l, r, m, n⟩] = .tup ds1 := e1
    injection e1 with e1
    rw [← e1] at e2
    refine wr_inN e2 e3 (by walk_at "at") fun b hb => ?_
    have hb : b = true ↔ S l (Opn.d ⟨s.lanes.length, l, r, m, n⟩) = true := hb.trans (hS l (.o ⟨s.lanes.length, l, r, m, n⟩)).symm
    rw [bool_of hb Iff.rfl]
    clear hb e1 e2 e3
    cases d1 : S l (Opn.d ⟨s.lanes.length, l, r, m, n⟩) with
    | false =>
      walk_at "w"
      rw [if_neg (fun z => absurd z.1 (by rw [d1]; decide))] at od
      rw [od] at h
      exact h
    | true =>
    walk_at "w"
    obtain ⟨ds1, k1, e1, e2, e3⟩ := keyD_nk (r, .o ⟨s.lanes.length, l, r, m, n⟩)
    have e1 : D.tup [.str r, Opn.d ⟨s.lanes.length, l, r, m, n⟩] = .tup ds1 := e1
    injection e1 with e1
    rw [← e1] at e2
    refine wr_inN e2 e3 (by walk_at "at") fun b hb => ?_
    have hb : b = true ↔ S r (Opn.d ⟨s.lanes.length, l, r, m, n⟩) = true := hb.trans (hS r (.o ⟨s.lanes.length, l, r, m, n⟩)).symm
    rw [bool_of hb Iff.rfl]
    clear hb e1 e2 e3
    cases d2 : S r (Opn.d ⟨s.lanes.length, l, r, m, n⟩) with
    | false =>
      walk_at "w"
      rw [if_neg (fun z => absurd z.2 (by rw [d2]; decide))] at od
      rw [od] at h
      exact h
    | true =>
    walk_at "w"
    rw [if_pos ⟨d1, d2⟩] at od
    rw [od] at h
    exact h
end
end Cl
set_option Elab.async false
set_option linter.all false
set_option maxRecDepth 100000
set_option maxHeartbeats 4000000
namespace Cl
open PySem PySem.Spec PyProof.Rows L2
local macro_rules | `(tactic| walk_at "at") => `(tactic| first | assumption | repeat first | with_reducible exact At.here | with_reducible exact at_mc | with_reducible exact at_mb | with_reducible exact at_mo | with_reducible exact at_ms | with_reducible exact at_md | with_reducible exact at_kb | with_reducible exact at_kn | with_reducible exact at_ko | with_reducible exact at_ks | with_reducible exact at_kr | with_reducible exact at_kd | with_reducible apply At.tail | (with_reducible apply At.in (by assumption)))
local macro_rules | `(tactic| walk_at "fact") => `(tactic| first | exact c_Court (by assumption) | exact c_Lane (by assumption) | exact c_Signs (by assumption) | exact n_Court_clock (by assumption) | exact n_Court_long (by assumption) | exact n_Court_bags (by assumption) | exact n_Court_book (by assumption) | exact n_Court_opened (by assumption) | exact n_Court_seen (by assumption) | exact n_Court_kept (by assumption) | exact n_Court_deeds (by assumption) | exact n_Lane_both (by assumption) | exact n_Lane_first (by assumption) | exact n_Lane_standing (by assumption) | exact n_Lane_mood (by assumption) | exact n_Lane_ending (by assumption) | exact n_Signs_by_hand (by assumption))
local macro_rules | `(tactic| walk_at "ge") => `(tactic| first
  | with_reducible refine we_var rfl ?_
  | with_reducible refine we_int ?_
  | with_reducible refine we_str ?_
  | with_reducible refine we_ty ?_
  | with_reducible refine we_bl ?_
  | with_reducible refine we_non ?_
  | with_reducible refine we_ref ?_
  | with_reducible refine we_op ?_
  | with_reducible refine we_cb ?_
  | with_reducible refine we_call0 ?_
  | with_reducible refine we_call ?_
  | with_reducible refine we_lst ?_
  | with_reducible refine we_tup ?_
  | with_reducible refine we_andV ?_
  | with_reducible refine we_orV ?_
  | with_reducible refine we_notV ?_
  | with_reducible refine we_if ?_
  | with_reducible refine we_chain ?_
  | with_reducible refine we_sl ?_
  | with_reducible refine we_lz ?_
  | with_reducible refine we_dnewK (fun _ => ?_)
  | with_reducible refine we_dnewN (fun _ => ?_)
  | with_reducible refine we_fld ?_
  | with_reducible refine we_dget ?_
  | with_reducible refine we_din ?_
  | with_reducible refine we_dnotIn ?_
  | with_reducible refine we_dget2 ?_
  | with_reducible refine we_dsetd ?_
  | with_reducible refine we_make ?_
  | with_reducible refine we_meth0 ?_
  | with_reducible refine we_meth ?_
  | with_reducible refine we_bm ?_)
local macro_rules | `(tactic| walk_at "gt") => `(tactic| first
  | with_reducible refine wt_B ?_
  | with_reducible refine wt_test ?_
  | with_reducible refine wt_not ?_
  | with_reducible refine wt_and ?_
  | with_reducible refine wt_or ?_
  | with_reducible refine wt_yes ?_)
local macro_rules | `(tactic| walk_at "gst") => `(tactic| first
  | with_reducible refine ws_ret ?_
  | with_reducible refine ws_retN ?_
  | with_reducible refine ws_seq ?_
  | with_reducible refine ws_set ?_
  | with_reducible refine ws_drop ?_
  | with_reducible refine ws_if ?_
  | with_reducible refine ws_next ?_
  | with_reducible refine ws_raise ?_
  | with_reducible refine ws_asgS ?_
  | with_reducible refine ws_setL ?_
  | with_reducible refine ws_setN ?_
  | with_reducible refine ws_asg ?_
  | with_reducible refine ws_fld ?_
  | with_reducible refine ws_fldaddI ?_
  | with_reducible refine ws_dput ?_)
local macro_rules | `(tactic| walk_at "gr") => `(tactic| first
  | with_reducible refine wr_ixT rfl ?_
  | with_reducible refine wr_ixL rfl ?_
  | with_reducible refine ix_t0 ?_
  | with_reducible refine ix_t1 ?_
  | with_reducible refine ix_t2 ?_
  | with_reducible refine ix_t3 ?_
  | with_reducible refine ix_t4 ?_
  | with_reducible refine ix_l0 ?_
  | with_reducible refine ix_l1 ?_
  | with_reducible refine ix_l2 ?_
  | with_reducible refine ix_l3 ?_
  | with_reducible refine ix_l4 ?_
  | with_reducible refine wr_int ?_
  | (with_reducible refine isPow ?_; with_reducible refine wr_powL (by decide) (by decide) (by decide) ?_)
  | with_reducible refine wr_bool ?_
  | with_reducible refine wr_eqI ?_
  | with_reducible refine wr_neI ?_
  | with_reducible refine wr_eqS ?_
  | with_reducible refine wr_neS ?_
  | with_reducible refine wr_eqB ?_
  | with_reducible refine wr_neB ?_
  | with_reducible refine wr_isN ?_
  | with_reducible refine wr_notN ?_
  | (with_reducible refine isIxC ?_; with_reducible refine wr_ixC (by walk_at "at") (by with_unfolding_all rfl) ?_))
local macro_rules | `(tactic| walk_at "gc") => `(tactic| first
  | with_reducible refine wc_isi rfl rfl ?_
  | with_reducible refine wc_isi (by decide) (by decide +kernel) ?_
  | (with_reducible refine isLen ?_; with_reducible refine wc_lenC (by walk_at "at") ?_)
  | with_reducible refine wc_lenT ?_
  | with_reducible refine wc_lenL ?_)
local macro_rules | `(tactic| walk_at "ga") => `(tactic| first
  | with_reducible refine wa_cons ?_
  | with_reducible refine wa_nil ?_)
local macro_rules | `(tactic| walk_at "gx") => `(tactic| first
  | (with_reducible refine isLn ?_; with_reducible refine lenAnd (by simp) ?_)
  | with_reducible refine wsl_tup ?_
  | with_reducible refine wo_none ?_
  | with_reducible refine wo_some ?_
  | with_reducible refine ex_bl ?_
  | with_reducible refine ex_int ?_
  | with_reducible refine ex_str ?_
  | with_reducible refine ex_tup ?_
  | with_reducible refine ex_lst ?_
  | with_reducible refine ex_etup ?_
  | with_reducible refine br_true ?_
  | with_reducible refine br_false ?_
  | (with_reducible refine isBr ?_; refine br_t rfl ?_)
  | (with_reducible refine isBr ?_; refine br_f rfl ?_)
  | (with_reducible refine isFld ?_; with_reducible refine ex_fld (by walk_at "at") (by walk_at "fact") (by walk_at "fact") (by with_unfolding_all rfl) ?_)
  | (with_reducible refine isPut ?_; with_reducible refine ex_put (by walk_at "at") (by walk_at "fact") (by walk_at "fact") (by with_unfolding_all exact of_decide_eq_true rfl) ?_)
  | (with_reducible refine isMeth ?_; with_reducible refine ex_meth (by walk_at "at") (by with_unfolding_all rfl) ?_)
  | (with_reducible refine isTy ?_; with_reducible refine And.intro (ty_cell (by walk_at "at")) ?_)
  | with_reducible refine k_whole ?_
  | with_reducible refine k_count ?_
  | with_reducible refine k_amount ?_)
local macro_rules | `(tactic| walk_at "s") => `(tactic| first
  | (with_reducible refine isWE ?_; walk_at "ge")
  | (with_reducible refine isWS ?_; walk_at "gst")
  | (with_reducible refine isWT ?_; walk_at "gt")
  | (with_reducible refine isWR ?_; walk_at "gr")
  | (with_reducible refine isWA ?_; walk_at "ga")
  | (with_reducible refine isWC ?_; walk_at "gc")
  | walk_at "gx")
local macro_rules | `(tactic| walk_at "w") => `(tactic| repeat walk_at "s")

section
variable {P : Program} {w : World} {K : PySem.W.Frag} {mg : Str → Option Value} {base : Heap}
theorem stt_nk (l : Str) (t : Stt) : ∃ k, (D.tup [.str l, t.d]).nk = some k ∧ k.depth ≤ 8 := by
  obtain ⟨ds1, k1, e1, e2, e3⟩ := keyD_nk (l, .t t)
  have e1 : D.tup [.str l, t.d] = .tup ds1 := e1
  injection e1 with e1
  rw [← e1] at e2
  exact ⟨k1, e2, e3⟩
abbrev aTellDue : ASp := A2 fun bk dd L Φ _ => ∃ k ra s kk S f N t, bk = .ref k.b ∧ Part (BkC k ra s kk) L f ∧ BkOk N ra s ∧ SK S kk ∧ dd = Stt.d t ∧ t.ok ∧ Φ (.str (tellDue S s t)) (f (BkC k ra s kk))
theorem sc_law_tell_due : FnScope ["_law_book_here", "_law_state_here", "_law_road"] ["_law_book_here", "_law_state_here"] d_law_tell_due.scope := ⟨rfl, rfl, rfl, by decide +kernel, rfl, by decide +kernel, by decide +kernel⟩
theorem ok_law_tell_due (T : Tx K mg) : FOk P w K mg base 2 (He.fAd K d_law_tell_due.at_) ["_law_book_here", "_law_state_here"] aTellDue := by
  refine fok_of (d := d_law_tell_due) T 54 (k := 1) rfl rfl rfl sc_law_tell_due (fun ds L Φ ex h => A2.len h) (fun _ _ _ _ _ _ us hl => match us, hl with | [_, _], _ => rfl) (fun cdv Ar outer s H E ds L Φ ex hr h => ?_)
  obtain ⟨book_here, state_here, rfl, h⟩ := h
  refine ⟨_, (pss_cons (ps_if (pt_cmpR op_ge (pe_ix ix_tup (pv 1) pe_int (fun _ _ => rfl)) (pe_callB call_len rfl (f_len T) (by decide +kernel) (pa_cons (pe_ix ix_list (pv 0) pe_int (fun _ _ => rfl)) pa_nil)) (nomark _)) (pss_one (ps_ret pe_str)) pss_nil)
    (pss_cons (ps_set (i := 2) sc_law_tell_due.nd rfl (Or.inl rfl) (pe_ix ix_list (pe_ix ix_list (pv 0) pe_int (fun _ _ => rfl)) (pe_ix ix_tup (pv 1) pe_int (fun _ _ => rfl)) (fun _ _ => rfl)))
    (pss_cons (ps_if (pt_cmpR op_eq (pe_ix ix_list (pv 2) pe_int (fun _ _ => rfl)) pe_str (nomark _)) (pss_one (ps_ret pe_str)) pss_nil)
    (pss_cons (ps_if (pt_cmpR (op_neD hr.units) (pv 1) (pe_tup (pa_cons (pe_ix ix_tup (pv 1) pe_int (fun _ _ => rfl)) (pa_cons pe_int (pa_cons (pe_ix ix_list (pv 2) pe_int (fun _ _ => rfl)) (pa_cons (pe_ix ix_list (pv 2) pe_int (fun _ _ => rfl)) (pa_cons (pe_tup pa_nil) pa_nil)))))) (nomark _)) (pss_cons (ps_if (pt_cmpR op_ne (pe_c (ok_law_whole T) hr rfl (g_law_whole T) (pa_cons (pv 1) pa_nil)) (pe_op op_add (pe_ix ix_list (pv 2) pe_int (fun _ _ => rfl)) (pe_ix ix_list (pv 2) pe_int (fun _ _ => rfl))) (nomark _)) (pss_one (ps_ret pe_str)) pss_nil)
    (pss_one (ps_if (PW.pt (pw_or (pt_cmpR (op_notInN hr.units) (pe_tup (pa_cons (pe_ix ix_list (pv 2) pe_int (fun _ _ => rfl)) (pa_cons (pv 1) pa_nil))) (pe_ix ix_list (pv 0) pe_int (fun _ _ => rfl)) rfl) (pw_or1 (pt_cmpR (op_notInN hr.units) (pe_tup (pa_cons (pe_ix ix_list (pv 2) pe_int (fun _ _ => rfl)) (pa_cons (pv 1) pa_nil))) (pe_ix ix_list (pv 0) pe_int (fun _ _ => rfl)) rfl)))) (pss_one (ps_ret pe_str)) pss_nil))) pss_nil)
    (pss_cons (ps_if (PW.pt (pw_and (pt_cmpR op_eq (pe_ix ix_list (pv 2) pe_int (fun _ _ => rfl)) pe_str (nomark _)) (pw_and1 (pt_cmpR op_le (pe_ix ix_tup (pv 1) pe_int (fun _ _ => rfl)) (pe_ix ix_tup (pe_ix ix_list (pv 2) pe_int (fun _ _ => rfl)) pe_int (fun _ _ => rfl)) (nomark _))))) (pss_one (ps_ret pe_str)) pss_nil)
    (pss_one (ps_ret pe_str))))))), ?_⟩
  obtain ⟨k, ra, s, kk, S, f, N, t, rfl, ⟨hf, rfl⟩, ok, hS, rfl, tok, h⟩ := h
  dsimp only [cxOf]
  obtain ⟨la, ct⟩ := ok.ct
  walk_at "w"
  rw [List.length_map, ok.rl]
  by_cases q : t.lane ≥ (s.lanes.length : Int)
  · refine br_t (decide_eq_true q) ?_
    walk_at "w"
    have e : tellDue S s t = "NoLane" := by
      have := tok.lane
      unfold tellDue
      rw [List.getElem?_eq_none (by omega)]
    rw [e] at h
    exact h
  refine br_f (decide_eq_false q) ?_
  have tl := tok.lane
  have hlt : t.lane.toNat < s.lanes.length := by omega
  obtain ⟨r, hr⟩ : ∃ r, s.lanes[t.lane.toNat]? = some r := ⟨_, List.getElem?_eq_getElem hlt⟩
  obtain ⟨ad, had⟩ : ∃ ad, ra[t.lane.toNat]? = some ad := ⟨_, List.getElem?_eq_getElem (by rw [ok.rl]; exact hlt)⟩
  obtain ⟨g, hA, hs⟩ := at_krd (k := k) (kk := kk) hf had hr
  have ro := ct.rd _ _ hr
  have td : tellDue S s t = if r.mood = "settled" then ("Settled" : Str) else if PyData.eqv t.d.py r.first.d.py = false ∧ (t.worth ≠ r.first.worth ∨ ¬ (S r.l t.d = true ∧ S r.r t.d = true)) then ("NotSigned" : Str) else if r.mood = "closing" ∧ t.num ≤ r.st.num then ("Old" : Str) else ("" : Str) := by
    unfold tellDue
    rw [hr]
  walk_at "w"
  refine wr_ixC (by walk_at "at") (atI_int tl (by rw [List.getElem?_map, had]; rfl)) ?_
  walk_at "w"
  by_cases c1 : r.mood = "settled"
  · refine br_t (decide_eq_true c1) ?_
    walk_at "w"
    rw [if_pos c1] at td
    rw [td] at h
    exact h
  refine br_f (decide_eq_false c1) ?_
  rw [if_neg c1] at td
  refine ws_next ?_
  refine ws_cut (fun Γ' L' => L' = f (BkC k ra s kk) ∧ ¬ (PyData.eqv t.d.py r.first.d.py = false ∧ (t.worth ≠ r.first.worth ∨ ¬ (S r.l t.d = true ∧ S r.r t.d = true))) ∧ Γ' = [some (.ref k.b), some t.d, some (.ref ad)]) ?_ ?_
  · walk_at "w"
    have ef : D.tup [.int t.lane, .int 0, .int r.first.l, .int r.first.r, .tup []] = r.first.d := by
      unfold Stt.d
      rw [ro.fl, ro.fn, ro.fk, show ((t.lane.toNat : Nat) : Int) = t.lane by omega]
      rfl
    have wf : r.first.worth = r.first.l + r.first.r := by
      unfold Stt.worth
      rw [ro.fk]
      simp
    rw [ef]
    refine wr_neQ (stt_pure t) (stt_pure r.first) (stt_shaped t) (stt_shaped r.first) ?_
    walk_at "w"
    cases c2 : PyData.eqv t.d.py r.first.d.py with
    | true =>
      refine br_f rfl ?_
      exact ws_next ⟨rfl, fun z => (nomatch z.1), rfl⟩
    | false =>
      refine br_t rfl ?_
      walk_at "w"
      refine ⟨_, rfl, t, rfl, tok, ?_⟩
      walk_at "w"
      by_cases c3 : t.worth = r.first.l + r.first.r
      · refine br_f (by rw [decide_eq_true c3]; rfl) ?_
        walk_at "w"
        obtain ⟨k1, e2, e3⟩ := stt_nk r.l t
        refine wr_inN e2 e3 (by walk_at "at") fun b hb => ?_
        have hb : b = true ↔ S r.l t.d = true := hb.trans (hS r.l (.t t)).symm
        rw [bool_of hb Iff.rfl]
        cases d1 : S r.l t.d with
        | false =>
          walk_at "w"
          rw [if_pos ⟨c2, .inr fun z => absurd z.1 (by rw [d1]; decide)⟩] at td
          rw [td] at h
          exact h
        | true =>
        walk_at "w"
        obtain ⟨k2, e4, e5⟩ := stt_nk r.r t
        refine wr_inN e4 e5 (by walk_at "at") fun b hb => ?_
        have hb : b = true ↔ S r.r t.d = true := hb.trans (hS r.r (.t t)).symm
        rw [bool_of hb Iff.rfl]
        cases d2 : S r.r t.d with
        | false =>
          walk_at "w"
          rw [if_pos ⟨c2, .inr fun z => absurd z.2 (by rw [d2]; decide)⟩] at td
          rw [td] at h
          exact h
        | true =>
        walk_at "w"
        exact ⟨rfl, fun z => z.2.elim (fun y => y (by rw [wf]; exact c3)) fun y => y ⟨rfl, rfl⟩, rfl⟩
      · refine br_t (by rw [decide_eq_false c3]; rfl) ?_
        walk_at "w"
        rw [if_pos ⟨c2, .inl (by rw [wf]; exact c3)⟩] at td
        rw [td] at h
        exact h
  · rintro Γ' L' ⟨rfl, c2, rfl⟩
    rw [if_neg c2] at td
    walk_at "w"
    by_cases c3 : r.mood = "closing"
    · refine br_t (decide_eq_true c3) ?_
      walk_at "w"
      by_cases c4 : t.num ≤ r.st.num
      · refine br_t (decide_eq_true c4) ?_
        walk_at "w"
        rw [if_pos ⟨c3, c4⟩] at td
        rw [td] at h
        exact h
      · refine br_f (decide_eq_false c4) ?_
        walk_at "w"
        rw [if_neg (fun z => c4 z.2)] at td
        rw [td] at h
        exact h
    · refine br_f (decide_eq_false c3) ?_
      walk_at "w"
      rw [if_neg (fun z => c3 z.1)] at td
      rw [td] at h
      exact h
end
end Cl
set_option Elab.async false
set_option linter.all false
set_option maxRecDepth 100000
set_option maxHeartbeats 4000000
namespace Cl
open PySem PySem.Spec PyProof.Rows L2
local macro_rules | `(tactic| walk_at "at") => `(tactic| first | assumption | repeat first | with_reducible exact At.here | with_reducible exact at_mc | with_reducible exact at_mb | with_reducible exact at_mo | with_reducible exact at_ms | with_reducible exact at_md | with_reducible exact at_kb | with_reducible exact at_kn | with_reducible exact at_ko | with_reducible exact at_ks | with_reducible exact at_kr | with_reducible exact at_kd | with_reducible apply At.tail | (with_reducible apply At.in (by assumption)))
local macro_rules | `(tactic| walk_at "fact") => `(tactic| first | exact c_Court (by assumption) | exact c_Lane (by assumption) | exact c_Signs (by assumption) | exact n_Court_clock (by assumption) | exact n_Court_long (by assumption) | exact n_Court_bags (by assumption) | exact n_Court_book (by assumption) | exact n_Court_opened (by assumption) | exact n_Court_seen (by assumption) | exact n_Court_kept (by assumption) | exact n_Court_deeds (by assumption) | exact n_Lane_both (by assumption) | exact n_Lane_first (by assumption) | exact n_Lane_standing (by assumption) | exact n_Lane_mood (by assumption) | exact n_Lane_ending (by assumption) | exact n_Signs_by_hand (by assumption))
local macro_rules | `(tactic| walk_at "ge") => `(tactic| first
  | with_reducible refine we_var rfl ?_
  | with_reducible refine we_int ?_
  | with_reducible refine we_str ?_
  | with_reducible refine we_ty ?_
  | with_reducible refine we_bl ?_
  | with_reducible refine we_non ?_
  | with_reducible refine we_ref ?_
  | with_reducible refine we_op ?_
  | with_reducible refine we_cb ?_
  | with_reducible refine we_call0 ?_
  | with_reducible refine we_call ?_
  | with_reducible refine we_lst ?_
  | with_reducible refine we_tup ?_
  | with_reducible refine we_andV ?_
  | with_reducible refine we_orV ?_
  | with_reducible refine we_notV ?_
  | with_reducible refine we_if ?_
  | with_reducible refine we_chain ?_
  | with_reducible refine we_sl ?_
  | with_reducible refine we_lz ?_
  | with_reducible refine we_dnewK (fun _ => ?_)
  | with_reducible refine we_dnewN (fun _ => ?_)
  | with_reducible refine we_fld ?_
  | with_reducible refine we_dget ?_
  | with_reducible refine we_din ?_
  | with_reducible refine we_dnotIn ?_
  | with_reducible refine we_dget2 ?_
  | with_reducible refine we_dsetd ?_
  | with_reducible refine we_make ?_
  | with_reducible refine we_meth0 ?_
  | with_reducible refine we_meth ?_
  | with_reducible refine we_bm ?_)
local macro_rules | `(tactic| walk_at "gt") => `(tactic| first
  | with_reducible refine wt_B ?_
  | with_reducible refine wt_test ?_
  | with_reducible refine wt_not ?_
  | with_reducible refine wt_and ?_
  | with_reducible refine wt_or ?_
  | with_reducible refine wt_yes ?_)
local macro_rules | `(tactic| walk_at "gst") => `(tactic| first
  | with_reducible refine ws_ret ?_
  | with_reducible refine ws_retN ?_
  | with_reducible refine ws_seq ?_
  | with_reducible refine ws_set ?_
  | with_reducible refine ws_drop ?_
  | with_reducible refine ws_if ?_
  | with_reducible refine ws_next ?_
  | with_reducible refine ws_raise ?_
  | with_reducible refine ws_asgS ?_
  | with_reducible refine ws_setL ?_
  | with_reducible refine ws_setN ?_
  | with_reducible refine ws_asg ?_
  | with_reducible refine ws_fld ?_
  | with_reducible refine ws_fldaddI ?_
  | with_reducible refine ws_dput ?_)
local macro_rules | `(tactic| walk_at "gr") => `(tactic| first
  | with_reducible refine wr_ixT rfl ?_
  | with_reducible refine wr_ixL rfl ?_
  | with_reducible refine ix_t0 ?_
  | with_reducible refine ix_t1 ?_
  | with_reducible refine ix_t2 ?_
  | with_reducible refine ix_t3 ?_
  | with_reducible refine ix_t4 ?_
  | with_reducible refine ix_l0 ?_
  | with_reducible refine ix_l1 ?_
  | with_reducible refine ix_l2 ?_
  | with_reducible refine ix_l3 ?_
  | with_reducible refine ix_l4 ?_
  | with_reducible refine wr_int ?_
  | (with_reducible refine isPow ?_; with_reducible refine wr_powL (by decide) (by decide) (by decide) ?_)
  | with_reducible refine wr_bool ?_
  | with_reducible refine wr_eqI ?_
  | with_reducible refine wr_neI ?_
  | with_reducible refine wr_eqS ?_
  | with_reducible refine wr_neS ?_
  | with_reducible refine wr_eqB ?_
  | with_reducible refine wr_neB ?_
  | with_reducible refine wr_isN ?_
  | with_reducible refine wr_notN ?_
  | (with_reducible refine isIxC ?_; with_reducible refine wr_ixC (by walk_at "at") (by with_unfolding_all rfl) ?_))
local macro_rules | `(tactic| walk_at "gc") => `(tactic| first
  | with_reducible refine wc_isi rfl rfl ?_
  | with_reducible refine wc_isi (by decide) (by decide +kernel) ?_
  | (with_reducible refine isLen ?_; with_reducible refine wc_lenC (by walk_at "at") ?_)
  | with_reducible refine wc_lenT ?_
  | with_reducible refine wc_lenL ?_)
local macro_rules | `(tactic| walk_at "ga") => `(tactic| first
  | with_reducible refine wa_cons ?_
  | with_reducible refine wa_nil ?_)
local macro_rules | `(tactic| walk_at "gx") => `(tactic| first
  | (with_reducible refine isLn ?_; with_reducible refine lenAnd (by simp) ?_)
  | with_reducible refine wsl_tup ?_
  | with_reducible refine wo_none ?_
  | with_reducible refine wo_some ?_
  | with_reducible refine ex_bl ?_
  | with_reducible refine ex_int ?_
  | with_reducible refine ex_str ?_
  | with_reducible refine ex_tup ?_
  | with_reducible refine ex_lst ?_
  | with_reducible refine ex_etup ?_
  | with_reducible refine br_true ?_
  | with_reducible refine br_false ?_
  | (with_reducible refine isBr ?_; refine br_t rfl ?_)
  | (with_reducible refine isBr ?_; refine br_f rfl ?_)
  | (with_reducible refine isFld ?_; with_reducible refine ex_fld (by walk_at "at") (by walk_at "fact") (by walk_at "fact") (by with_unfolding_all rfl) ?_)
  | (with_reducible refine isPut ?_; with_reducible refine ex_put (by walk_at "at") (by walk_at "fact") (by walk_at "fact") (by with_unfolding_all exact of_decide_eq_true rfl) ?_)
  | (with_reducible refine isMeth ?_; with_reducible refine ex_meth (by walk_at "at") (by with_unfolding_all rfl) ?_)
  | (with_reducible refine isTy ?_; with_reducible refine And.intro (ty_cell (by walk_at "at")) ?_)
  | with_reducible refine k_whole ?_
  | with_reducible refine k_count ?_
  | with_reducible refine k_amount ?_)
local macro_rules | `(tactic| walk_at "s") => `(tactic| first
  | (with_reducible refine isWE ?_; walk_at "ge")
  | (with_reducible refine isWS ?_; walk_at "gst")
  | (with_reducible refine isWT ?_; walk_at "gt")
  | (with_reducible refine isWR ?_; walk_at "gr")
  | (with_reducible refine isWA ?_; walk_at "ga")
  | (with_reducible refine isWC ?_; walk_at "gc")
  | walk_at "gx")
local macro_rules | `(tactic| walk_at "w") => `(tactic| repeat walk_at "s")

section
variable {P : Program} {w : World} {K : PySem.W.Frag} {mg : Str → Option Value} {base : Heap}
/-- the book at the i-th lane of a turn -/
def bookI (s : CtS) (i : Nat) : CtS := { s with lanes := (s.lanes.take i).map (upd1 s) ++ s.lanes.drop i, kept := s.kept ++ newAll s 0 (s.lanes.take i) }
def bookE (s : CtS) : CtS := { s with lanes := s.lanes.map (upd1 s), kept := s.kept ++ newAll s 0 s.lanes }
theorem hand1 (r : Rd) (b : Bool) : atI [D.str r.l, D.str r.r] (if b = true then 1 else 0) = some (.str (pick r b)) := by cases b <;> rfl
theorem hand2 (r : Rd) (b : Bool) : atI [D.str r.l, D.str r.r] (1 - if b = true then 1 else 0) = some (.str (pick r !b)) := by cases b <;> rfl
def bookJ (s : CtS) (i : Nat) (r : Rd) : CtS := ⟨s.long, s.clock, s.bags, (s.lanes.take i).map (upd1 s) ++ r :: s.lanes.drop (i + 1), s.seen, s.kept ++ newAll s 0 (s.lanes.take i), s.rows⟩
theorem bookI_end (s : CtS) : bookI s s.lanes.length = bookE s := by
  unfold bookI bookE
  rw [List.take_length, List.drop_length, List.append_nil]
theorem newAll_len (s : CtS) : ∀ (rs : List Rd) (i : Nat), (∀ r ∈ rs, r.st.locks.length ≤ 30) → (newAll s i rs).length ≤ 30 * rs.length
  | [], _, _ => by simp [newAll]
  | r :: rs, i, h => by
    rw [newAll, List.length_append, List.length_cons]
    have ih := newAll_len s rs (i + 1) fun r hr => h r (List.mem_cons_of_mem _ hr)
    have h0 := h r List.mem_cons_self
    have : (if due s r then new1 i r else []).length ≤ 30 := by
      split
      · unfold new1; rw [List.length_map]; exact h0
      · simp
    omega
abbrev aTurned : ASp := A1 fun bk L Φ _ => ∃ k ra s kk f N, bk = .ref k.b ∧ Part (BkC k ra s kk) L f ∧ BkOk N ra s ∧ (s.kept.Pairwise fun a b => kle a b = true) ∧ Φ (.lst ((turnP s).map prD)) (f (BkC k ra { turnS s with rows := s.rows } kk))
theorem sc_law_turned : FnScope ["_law_book_here", "_law_found", "_law_number", "_law_road", "_law_still", "_law_lock", "_law_hands", "_law_giver", "_law_hand", "_law_many"] ["_law_book_here"] d_law_turned.scope := ⟨rfl, rfl, rfl, by decide +kernel, rfl, by decide +kernel, by decide +kernel⟩
theorem ok_law_turned (T : Tx K mg) : FOk P w K mg base 1 (He.fAd K d_law_turned.at_) ["_law_book_here"] aTurned := by
  refine fok_of (d := d_law_turned) T 55 (k := 0) rfl rfl rfl sc_law_turned (fun ds L Φ ex h => A1.len h) (fun _ _ _ _ _ _ us hl => match us, hl with | [_], _ => rfl) (fun cdv Ar outer s H E ds L Φ ex hr h => ?_)
  obtain ⟨book_here, rfl, h⟩ := h
  refine ⟨_, (pss_cons (ps_asg (pe_op op_add (pe_ix ix_list (pv 0) pe_int (fun _ _ => rfl)) pe_int) (pg_sub (pv 0) pe_int set_list))
    (pss_cons (ps_set (i := 1) sc_law_turned.nd rfl (Or.inl rfl) (pe_lst pa_nil))
    (pss_cons (ps_for (passes_of rfl) rfl (pi_range1 rfl (f_range T) (pa_cons (pe_callB call_len rfl (f_len T) (by decide +kernel) (pa_cons (pe_ix ix_list (pv 0) pe_int (fun _ _ => rfl)) pa_nil)) pa_nil)) (pg_name (i := 2) sc_law_turned.nd rfl (Or.inr rfl)) (pss_cons (ps_set (i := 3) sc_law_turned.nd rfl (Or.inl rfl) (pe_ix ix_list (pe_ix ix_list (pv 0) pe_int (fun _ _ => rfl)) (pv 2) (fun _ _ => rfl)))
    (pss_one (ps_if (PW.pt (pw_and (pt_cmpR op_eq (pe_ix ix_list (pv 3) pe_int (fun _ _ => rfl)) pe_str (nomark _)) (pw_and1 (pt_cmpR op_eq (pe_ix ix_list (pv 3) pe_int (fun _ _ => rfl)) (pe_ix ix_list (pv 0) pe_int (fun _ _ => rfl)) (nomark _))))) (pss_cons (ps_asg pe_str (pg_sub (pv 3) pe_int set_list))
    (pss_cons (ps_set (i := 1) sc_law_turned.nd rfl (Or.inl rfl) (pe_op op_catX (pv 1) (pe_lst (pa_cons (pe_tup (pa_cons (pe_ix ix_list (pv 3) pe_int (fun _ _ => rfl)) (pa_cons (pe_ix ix_tup (pe_ix ix_list (pv 3) pe_int (fun _ _ => rfl)) pe_int (fun _ _ => rfl)) pa_nil))) (pa_cons (pe_tup (pa_cons (pe_ix ix_list (pv 3) pe_int (fun _ _ => rfl)) (pa_cons (pe_ix ix_tup (pe_ix ix_list (pv 3) pe_int (fun _ _ => rfl)) pe_int (fun _ _ => rfl)) pa_nil))) pa_nil)))))
    (pss_one (ps_asg (pe_op op_catX (pe_ix ix_list (pv 0) pe_int (fun _ _ => rfl)) (pe_lc (own := [("_law_lock", 5)]) rfl sc_law_turned.nd (pi_tup (pe_ix ix_tup (pe_ix ix_list (pv 3) pe_int (fun _ _ => rfl)) pe_int (fun _ _ => rfl))) (blkOk_by (own := [("_law_lock", 5)]) (N := ["_law_book_here", "_law_found", "_law_number", "_law_road", "_law_still", "_law_lock", "_law_hands", "_law_giver", "_law_hand", "_law_many"]) (sc := d_law_turned.scope) (by decide +kernel)) (fun _ _ _ _ _ => by exact (pg_name (i := 5) sc_law_turned.nd rfl (Or.inl rfl))) (fun _ _ _ _ _ => by exact pts_nil) (fun _ _ _ _ _ => by exact (pe_tup (pa_cons (pv 2) (pa_cons (pv 5) pa_nil)))))) (pg_sub (pv 0) pe_int set_list))))) pss_nil))))
    (pss_cons (ps_set (i := 4) sc_law_turned.nd rfl (Or.inl rfl) (pe_lst pa_nil))
    (pss_cons (ps_for (passes_of rfl) rfl (pi_list (pe_callB (cr_sortP hr.units) rfl (f_sorted T) (by decide +kernel) (pa_cons (pe_ix ix_list (pv 0) pe_int (fun _ _ => rfl)) pa_nil))) (pg_tup (n := 2) rfl (pgs_cons (pg_name (i := 2) sc_law_turned.nd rfl (Or.inr rfl)) (pgs_cons (pg_name (i := 5) sc_law_turned.nd rfl (Or.inl rfl)) pgs_nil))) (pss_cons (ps_set (i := 6) sc_law_turned.nd rfl (Or.inl rfl) (pe_lst (pa_cons (pe_ix ix_list (pe_ix ix_list (pe_ix ix_list (pv 0) pe_int (fun _ _ => rfl)) (pv 2) (fun _ _ => rfl)) pe_int (fun _ _ => rfl)) (pa_cons (pe_ix ix_list (pe_ix ix_list (pe_ix ix_list (pv 0) pe_int (fun _ _ => rfl)) (pv 2) (fun _ _ => rfl)) pe_int (fun _ _ => rfl)) pa_nil))))
    (pss_cons (ps_set (i := 7) sc_law_turned.nd rfl (Or.inl rfl) (pe_callTy call_int1 rfl (f_int T) (by decide +kernel) (pa_cons (pe_cmpR op_eq (pe_ix ix_tup (pv 5) pe_int (fun _ _ => rfl)) pe_str (nomark _)) pa_nil)))
    (pss_one (ps_if (PW.pt (pw_and (pt_cmp (pc_din (hu_of hr) (pe_ix ix_tup (pv 5) pe_int (fun _ _ => rfl)) (pe_ix ix_list (pv 0) pe_int (fun _ _ => rfl)))) (pw_and1 (pt_cmpR op_le (pe_ix ix_tup (pe_dget (hu_of hr) (pe_ix ix_list (pv 0) pe_int (fun _ _ => rfl)) (pe_ix ix_tup (pv 5) pe_int (fun _ _ => rfl)) (fun _ _ => rfl)) pe_int (fun _ _ => rfl)) (pe_ix ix_tup (pv 5) pe_int (fun _ _ => rfl)) (nomark _))))) (pss_one (ps_expr (pe_bm PySem.F.plainAttrs_list PySem.F.slot_list_append PySem.F.type_list_append mt_append (pv 1) (pa_cons (pe_tup (pa_cons (pe_ix ix_list (pv 6) (pe_op op_sub pe_int (pv 7)) (fun _ _ => rfl)) (pa_cons (pe_ix ix_tup (pv 5) pe_int (fun _ _ => rfl)) pa_nil))) pa_nil)))) (pss_one (ps_if (pt_cmpR op_gt (pe_ix ix_list (pv 0) pe_int (fun _ _ => rfl)) (pe_ix ix_tup (pv 5) pe_int (fun _ _ => rfl)) (nomark _)) (pss_one (ps_expr (pe_bm PySem.F.plainAttrs_list PySem.F.slot_list_append PySem.F.type_list_append mt_append (pv 1) (pa_cons (pe_tup (pa_cons (pe_ix ix_list (pv 6) (pv 7) (fun _ _ => rfl)) (pa_cons (pe_ix ix_tup (pv 5) pe_int (fun _ _ => rfl)) pa_nil))) pa_nil)))) (pss_one (ps_expr (pe_bm PySem.F.plainAttrs_list PySem.F.slot_list_append PySem.F.type_list_append mt_append (pv 4) (pa_cons (pe_tup (pa_cons (pv 2) (pa_cons (pv 5) pa_nil))) pa_nil)))))))))))
    (pss_cons (ps_asg (pv 4) (pg_sub (pv 0) pe_int set_list))
    (pss_cons (ps_setLc (i := 1) (own := [("_law_hand", 8), ("_law_many", 9)]) rfl sc_law_turned.nd rfl rfl (sw_true rfl rfl rfl (by decide +kernel)) (pi_list (pv 1)) (blkOk_by (own := [("_law_hand", 8), ("_law_many", 9)]) (N := ["_law_book_here", "_law_found", "_law_number", "_law_road", "_law_still", "_law_lock", "_law_hands", "_law_giver", "_law_hand", "_law_many"]) (sc := d_law_turned.scope) (by decide +kernel)) (fun _ _ _ _ _ => by exact (pg_tupK (n := 2) (K := K) rfl rfl (pgs_cons (pg_name (i := 8) sc_law_turned.nd rfl (Or.inl rfl)) (pgs_cons (pg_name (i := 9) sc_law_turned.nd rfl (Or.inl rfl)) pgs_nil)))) (fun _ _ _ _ _ => by exact (pts_one (pt_cmpR op_gt (pv 9) pe_int (nomark _)))) (fun _ _ _ _ _ => by exact (pe_tup (pa_cons (pv 8) (pa_cons (pv 9) pa_nil)))))
    (pss_cons (ps_for (passes_of rfl) rfl (pi_list (pv 1)) (pg_tup (n := 2) rfl (pgs_cons (pg_name (i := 8) sc_law_turned.nd rfl (Or.inl rfl)) (pgs_cons (pg_name (i := 9) sc_law_turned.nd rfl (Or.inl rfl)) pgs_nil))) (pss_one (ps_dput (hu_of hr) (pe_ix ix_list (pv 0) pe_int (fun _ _ => rfl)) (pv 8) (pe_op op_add (pe_dget (hu_of hr) (pe_ix ix_list (pv 0) pe_int (fun _ _ => rfl)) (pv 8) (fun _ _ => rfl)) (pv 9)) rfl)))
    (pss_one (ps_ret (pv 1))))))))))), ?_⟩
  obtain ⟨k, ra, s, kk, f, N, rfl, ⟨hf, rfl⟩, ok, hks, h⟩ := h
  dsimp only [cxOf]
  obtain ⟨la, ct⟩ := ok.ct
  walk_at "w"
  refine ex_setL (n := 0) (At.in hf at_kb) (by unfold bkL; simp) ?_
  show WS P w K E _ _ (f (BkC k ra (turn1 s) kk)) _
  have ct1 := ok_clock ct
  have hl1 : (turn1 s).lanes = s.lanes := rfl
  generalize hs1 : turn1 s = s1 at ct1 hl1 ⊢
  have hk1 : s1.kept = s.kept := by rw [← hs1]; rfl
  have hbg1 : s1.bags = s.bags := by rw [← hs1]; rfl
  refine ws_seq (ws_set (we_lstC (wa_nil ⟨by decide, fun q0 => ?_⟩)))
  refine ws_seq (ws_for (wi_rng (n := 0) ?_))
  walk_at "w"
  rw [List.length_map, ok.rl, ← hl1]
  have hbig := ct.big
  have hnl := ct1.nl
  refine ⟨_, rfl, by omega, by omega, fun i Γ' L' => i ≤ s1.lanes.length ∧ ∃ q L0, L' = (q, .lst ((paid1 s1 (s1.lanes.take i)).map prD)) :: f (BkC k ra (bookI s1 i) kk) ∧ L0 = L' ∧ ∃ y1 y2 y3 y4 y5 y6 y7 y8, Γ' = [some (.ref k.b), some (.ref q), y1, y2, y3, y4, y5, y6, y7, y8], ⟨Nat.zero_le _, q0, _, ?_, rfl, _, _, _, _, _, _, _, _, rfl⟩, fun i Γ' L' hI => trivial, fun i d Γ' L' hd hI => ?_, fun Γ' L' hI => ?_⟩
  · simp [paid1, bookI, newAll]
  · obtain ⟨hi, q, L0, rfl, _, y1, y2, y3, y4, y5, y6, y7, y8, rfl⟩ := hI
    obtain ⟨hlt, rfl⟩ := rangeD_get hd
    have hlt : i < s1.lanes.length := by omega
    obtain ⟨r, hr⟩ : ∃ r, s1.lanes[i]? = some r := ⟨_, List.getElem?_eq_getElem hlt⟩
    obtain ⟨ad, had⟩ : ∃ ad, ra[i]? = some ad := ⟨_, List.getElem?_eq_getElem (by rw [ok.rl, ← hl1]; exact hlt)⟩
    have ro := ct1.rd _ _ hr
    have hdr : s1.lanes.drop i = r :: s1.lanes.drop (i + 1) := by
      rw [List.drop_eq_getElem_cons hlt]
      rw [List.getElem?_eq_getElem hlt] at hr
      rw [Option.some.inj hr]
    have htk : s1.lanes.take (i + 1) = s1.lanes.take i ++ [r] := by rw [List.take_add_one, hr]; rfl
    have hgi : (bookI s1 i).lanes[i]? = some r := by
      unfold bookI
      rw [hdr, List.getElem?_append_right (by rw [List.length_map, List.length_take]; omega)]
      rw [List.length_map, List.length_take, Nat.min_eq_left (by omega), Nat.sub_self]
      rfl
    have hset : ∀ r', (bookI s1 i).lanes.set i r' = (s1.lanes.take i).map (upd1 s1) ++ r' :: s1.lanes.drop (i + 1) := fun r' => by
      unfold bookI
      rw [hdr, List.set_append_right _ _ (by rw [List.length_map, List.length_take]; omega)]
      rw [List.length_map, List.length_take, Nat.min_eq_left (by omega), Nat.sub_self]
      rfl
    have off : ¬ due s1 r → bookI s1 (i + 1) = bookI s1 i ∧ paid1 s1 (s1.lanes.take (i + 1)) = paid1 s1 (s1.lanes.take i) := fun nd => by
      refine ⟨?_, ?_⟩
      · unfold bookI
        rw [htk, newAll_app, newAll, newAll, if_neg nd, List.map_append, hdr]
        simp [upd1, if_neg nd]
      · rw [htk, paid1_app, paid1, paid1, if_neg nd]
        simp
    refine ⟨_, wg_name, ?_⟩
    dsimp only [setG]
    obtain ⟨g, hA, hs⟩ := at_krd (k := k) (s := bookI s1 i) (kk := kk) hf had hgi
    have hA' := At.tail (x := (q, .lst ((paid1 s1 (s1.lanes.take i)).map prD))) hA
    walk_at "w"
    refine wr_ixC (by walk_at "at") (atI_nat (n := i) (by rw [List.getElem?_map, had]; rfl)) ?_
    walk_at "w"
    by_cases c1 : r.mood = "closing"
    · refine br_t (decide_eq_true c1) ?_
      obtain ⟨e, he⟩ := ro.cl c1
      walk_at "w"
      rw [he]
      dsimp only [oD]
      walk_at "w"
      have hck : (bookI s1 i).clock = s1.clock := rfl
      rw [hck]
      by_cases c2 : e = s1.clock
      · refine br_t (decide_eq_true c2) ?_
        have hdue : due s1 r := ⟨c1, by rw [he, c2]⟩
        walk_at "w"
        refine ex_setL (n := 4) hA' (by unfold rdL; simp) ?_
        dsimp only
        have hsJ : g (.lst (rdL (setl r))) = f (BkC k ra (bookJ s1 i (setl r)) kk) := by
          rw [hs, hset]
          rfl
        rw [show (rdL r).set 4 (.str "settled") = rdL (setl r) from rfl, hsJ]
        have hgi2 : (bookJ s1 i (setl r)).lanes[i]? = some (setl r) := by
          unfold bookJ
          dsimp only
          rw [List.getElem?_append_right (by rw [List.length_map, List.length_take]; omega)]
          rw [List.length_map, List.length_take, Nat.min_eq_left (by omega), Nat.sub_self]
          rfl
        obtain ⟨g2, hA2, hs2⟩ := at_krd (k := k) (s := bookJ s1 i (setl r)) (kk := kk) hf had hgi2
        have hA2' := At.tail (x := (q, .lst ((paid1 s1 (s1.lanes.take i)).map prD))) hA2
        have hpl := paid1_len s1 (s1.lanes.take i)
        rw [List.length_take] at hpl
        have hlk : ∀ q ∈ s1.lanes.take i, q.st.locks.length ≤ 30 := fun q hq => by
          obtain ⟨j, hj⟩ := List.getElem?_of_mem (List.mem_of_mem_take hq)
          exact (ct1.rd _ _ hj).s.few
        have hkl := newAll_len s1 (s1.lanes.take i) 0 hlk
        rw [List.length_take] at hkl
        have hk0 := ct1.nk
        have hcp : s1.lanes.countP (fun r => r.mood == ("settled" : Str)) ≤ s1.lanes.length := List.countP_le_length
        have hf30 := ro.s.few
        walk_at "w"
        refine wr_catC (.inr ⟨q, _, rfl, At.here⟩) (.inl rfl) (by rw [List.length_map]; simp; omega) fun q2 => ?_
        have e4 : (paid1 s1 (s1.lanes.take (i + 1))).map prD = (paid1 s1 (s1.lanes.take i)).map prD ++ [.tup [.str r.l, .int r.st.l], .tup [.str r.r, .int r.st.r]] := by
          rw [htk, paid1_app, paid1, paid1, if_pos hdue, List.map_append]
          rfl
        refine WS.drop (L' := (q2, .lst ((paid1 s1 (s1.lanes.take (i + 1))).map prD)) :: f (BkC k ra (bookJ s1 i (setl r)) kk)) (by rw [e4]; exact (List.sublist_cons_self _ _).cons_cons _) ?_
        have hA3' := At.tail (x := (q2, .lst ((paid1 s1 (s1.lanes.take (i + 1))).map prD))) hA2
        walk_at "w"
        refine we_lcM (wi_tup ?_)
        walk_at "w"
        refine ⟨fun _ _ => trivial, by rw [List.length_map]; show r.st.locks.length ≤ _; omega, fun d => .tup [.int (i : Int), d], fun d hd p2 acc => ⟨_, wg_name, by simp, ?_⟩, ?_⟩
        · walk_at "w"
          exact ⟨rfl, rfl⟩
        · rw [show ((setl r).st.locks.map Lck.d).map (fun d => D.tup [.int (i : Int), d]) = (new1 i r).map kpD from by unfold new1; rw [List.map_map, List.map_map]; rfl]
          have hnw : (new1 i r).length ≤ 30 := by unfold new1; rw [List.length_map]; exact hf30
          refine wr_cat (.inl rfl) (.inl rfl) (by rw [List.length_map, List.length_map]; show (s1.kept ++ newAll s1 0 (s1.lanes.take i)).length + _ ≤ _; rw [List.length_append]; omega) ?_
          rw [← List.map_append]
          walk_at "w"
          refine ex_setL (n := 5) (At.tail (At.in hf at_kb)) (by unfold bkL; simp) ?_
          have e3 : bookI s1 (i + 1) = { bookJ s1 i (setl r) with kept := (bookJ s1 i (setl r)).kept ++ new1 i r } := by
            unfold bookI bookJ
            rw [htk, newAll_app, newAll, newAll, if_pos hdue, List.map_append, List.length_take, Nat.zero_add, Nat.min_eq_left (by omega)]
            simp [upd1, if_pos hdue]
          refine ⟨hlt, q2, _, ?_, rfl, _, _, _, _, _, _, _, _, rfl⟩
          rw [e3]
          rfl
      · refine br_f (decide_eq_false c2) ?_
        obtain ⟨e1, e2⟩ := off fun z => c2 (by have := z.2; rw [he] at this; exact Option.some.inj this)
        walk_at "w"
        refine ⟨hlt, q, _, ?_, rfl, _, _, _, _, _, _, _, _, rfl⟩
        rw [e1, e2]
    · refine br_f (decide_eq_false c1) ?_
      obtain ⟨e1, e2⟩ := off fun z => c1 z.1
      walk_at "w"
      refine ⟨hlt, q, _, ?_, rfl, _, _, _, _, _, _, _, _, rfl⟩
      rw [e1, e2]
  · obtain ⟨hi, q, L0, rfl, _, y1, y2, y3, y4, y5, y6, y7, y8, rfl⟩ := hI
    rw [rangeD_len, Int.toNat_natCast, List.take_length, bookI_end]
    clear hi
    refine ws_seq (ws_set (we_lstC (wa_nil ⟨by decide, fun q1 => ?_⟩)))
    have hks1 : s1.kept.Pairwise fun a b => kle a b = true := by rw [hk1]; exact hks
    have hsort : ksort (s1.kept ++ newAll s1 0 s1.lanes) = (settleS s1).kept := (keep_once s1 hks1).symm
    have ct2 := ok_settle ct1
    refine ws_seq (ws_for (wi_listD ?_))
    walk_at "w"
    refine wc_sortP (.inl rfl) (kp_pures _) (kp_alike _) (kp_sortable _) (kp_depth _) ?_
    rw [ksort_map, show ksort (bookE s1).kept = (settleS s1).kept from hsort]
    walk_at "w"
    have hcl2 : (settleS s1).clock = s1.clock := rfl
    have hse2 : (settleS s1).seen = s1.seen := rfl
    have hlE : (bookE s1).lanes = (settleS s1).lanes := rfl
    have hcE : (bookE s1).clock = s1.clock := rfl
    have hsE : (bookE s1).seen = s1.seen := rfl
    generalize hs2 : settleS s1 = s2 at hsort ct2 hcl2 hse2 hlE ⊢
    generalize hse : bookE s1 = sE at hlE hcE hsE ⊢
    have hp1 := paid1_len s1 s1.lanes
    have hk2 := ct2.nk
    have hn2 := ct2.nl
    have hcp : s2.lanes.countP (fun r => r.mood == ("settled" : Str)) ≤ s2.lanes.length := List.countP_le_length
    refine ⟨fun i Γ' L' => i ≤ s2.kept.length ∧ L' = (q1, .lst ((left2 s2 (s2.kept.take i)).map kpD)) :: (q, .lst ((paid1 s1 s1.lanes ++ paid2 s2 (s2.kept.take i)).map prD)) :: f (BkC k ra sE kk) ∧ ∃ y2 y3 y5 y6 y7 y8 y9, Γ' = [some (.ref k.b), some (.ref q), y2, y3, some (.ref q1), y5, y6, y7, y8, y9], ⟨Nat.zero_le _, ?_, _, _, _, _, _, _, _, rfl⟩, fun i Γ' L' hI => trivial, fun i d Γ' L' hd hI => ?_, fun Γ' L' hI => ?_⟩
    · simp [paid2, left2]
    · obtain ⟨hi, rfl, y2, y3, y5, y6, y7, y8, y9, rfl⟩ := hI
      rw [List.getElem?_map] at hd
      obtain ⟨e, he, rfl⟩ := Option.map_eq_some_iff.mp hd
      have hlt : i < s2.kept.length := (List.getElem?_eq_some_iff.mp he).1
      have htk : s2.kept.take (i + 1) = s2.kept.take i ++ [e] := by rw [List.take_add_one, he]; rfl
      obtain ⟨ek, e0, el⟩ := ct2.kp e (List.mem_of_getElem? he)
      obtain ⟨r, hr⟩ : ∃ r, s2.lanes[e.1.toNat]? = some r := ⟨_, List.getElem?_eq_getElem el⟩
      have hll : ra.length = s2.lanes.length := by
        rw [ok.rl, ← hl1, ← hs2]
        show _ = (s1.lanes.map _).length
        rw [List.length_map]
      obtain ⟨ad, had⟩ : ∃ ad, ra[e.1.toNat]? = some ad := ⟨_, List.getElem?_eq_getElem (by rw [hll]; exact el)⟩
      refine ⟨_, wg_tup (us := [(2, .int e.1), (5, e.2.d)]) rfl (wgs_cons wg_name (wgs_cons wg_name wgs_nil)), ?_⟩
      dsimp only [setG]
      obtain ⟨g, hA, _⟩ := at_krd (k := k) (s := sE) (kk := kk) hf had (by rw [hlE]; exact hr)
      have hA' := At.tail (x := (q1, .lst ((left2 s2 (s2.kept.take i)).map kpD))) (At.tail (x := (q, .lst ((paid1 s1 s1.lanes ++ paid2 s2 (s2.kept.take i)).map prD))) hA)
      have hdec : dec1 s2 e = gets r e.2 ((sget s1.seen e.2.sl).map (·.1)) s1.clock := by
        unfold dec1
        rw [hr, hse2, hcl2]
      have hp2 := paid2_len s2 (s2.kept.take i)
      have hl2 := left2_len s2 (s2.kept.take i)
      rw [List.length_take] at hp2 hl2
      walk_at "w"
      refine wr_ixC (by walk_at "at") (atI_int e0 (by rw [List.getElem?_map, had]; rfl)) ?_
      walk_at "w"
      refine wr_ixC (by walk_at "at") (atI_int e0 (by rw [List.getElem?_map, had]; rfl)) ?_
      walk_at "w"
      refine wc_intB ?_
      rw [show (if decide (side e.2.rt = ("right" : Str)) = true then (1 : Int) else 0) = if e.2.rt = true then 1 else 0 from by cases e.2.rt <;> decide]
      walk_at "w"
      refine ⟨_, _, .inl e.2.sl, _, rfl, rfl, by walk_at "at", ?_⟩
      rw [seenK_get, hsE]
      have push : ∀ h0, dec1 s2 e = some h0 → paid2 s2 (s2.kept.take (i + 1)) = paid2 s2 (s2.kept.take i) ++ [(h0, e.2.am)] ∧ left2 s2 (s2.kept.take (i + 1)) = left2 s2 (s2.kept.take i) := fun h0 hd => by
        rw [htk, left2_app, paid2_app, left2, paid2, hd, left2, paid2, List.append_nil, List.append_nil, List.append_nil]
        exact ⟨rfl, rfl⟩
      have keep : dec1 s2 e = none → paid2 s2 (s2.kept.take (i + 1)) = paid2 s2 (s2.kept.take i) ∧ left2 s2 (s2.kept.take (i + 1)) = left2 s2 (s2.kept.take i) ++ [e] := fun hd => by
        rw [htk, left2_app, paid2_app, left2, paid2, hd, left2, paid2, List.append_nil, List.append_nil, List.append_nil]
        exact ⟨rfl, rfl⟩
      walk_at "w"
      cases hsg : sget s1.seen e.2.sl with
      | none =>
        rw [hsg] at hdec
        refine br_f rfl ?_
        walk_at "w"
        by_cases hc : s1.clock > e.2.la
        · refine br_t (by rw [hcE]; exact decide_eq_true hc) ?_
          walk_at "w"
          refine wr_ixL (hand1 r e.2.rt) ?_
          walk_at "w"
          refine wm_append (At.tail At.here) (by rw [List.length_map, List.length_append]; omega) ?_
          obtain ⟨p1, p2⟩ := push (pick r e.2.rt) (by rw [hdec]; simp only [gets, Option.map_none, if_neg Bool.false_ne_true, if_pos hc])
          refine ⟨hlt, ?_, _, _, _, _, _, _, _, rfl⟩
          rw [p1, p2, ← List.append_assoc, List.map_append (l₁ := paid1 s1 s1.lanes ++ paid2 s2 (s2.kept.take i))]
          rfl
        · refine br_f (by rw [hcE]; exact decide_eq_false hc) ?_
          walk_at "w"
          refine wm_append At.here (by rw [List.length_map]; omega) ?_
          obtain ⟨p1, p2⟩ := keep (by rw [hdec]; simp only [gets, Option.map_none, if_neg Bool.false_ne_true, if_neg hc])
          refine ⟨hlt, ?_, _, _, _, _, _, _, _, rfl⟩
          rw [p1, p2, List.map_append (l₁ := left2 s2 (s2.kept.take i))]
          rfl
      | some z =>
        rw [hsg] at hdec
        refine br_t rfl ?_
        walk_at "w"
        refine ⟨_, _, .inl e.2.sl, _, _, rfl, rfl, by walk_at "at", by rw [seenK_get, hsE, hsg]; rfl, ?_⟩
        walk_at "w"
        by_cases hz : z.1 ≤ e.2.la
        · refine br_t (decide_eq_true hz) ?_
          walk_at "w"
          refine wr_ixL (hand2 r e.2.rt) ?_
          walk_at "w"
          refine wm_append (At.tail At.here) (by rw [List.length_map, List.length_append]; omega) ?_
          obtain ⟨p1, p2⟩ := push (pick r !e.2.rt) (by rw [hdec]; simp only [gets, Option.map_some, decide_eq_true hz, if_true])
          refine ⟨hlt, ?_, _, _, _, _, _, _, _, rfl⟩
          rw [p1, p2, ← List.append_assoc, List.map_append (l₁ := paid1 s1 s1.lanes ++ paid2 s2 (s2.kept.take i))]
          rfl
        refine br_f (decide_eq_false hz) ?_
        walk_at "w"
        by_cases hc : s1.clock > e.2.la
        · refine br_t (by rw [hcE]; exact decide_eq_true hc) ?_
          walk_at "w"
          refine wr_ixL (hand1 r e.2.rt) ?_
          walk_at "w"
          refine wm_append (At.tail At.here) (by rw [List.length_map, List.length_append]; omega) ?_
          obtain ⟨p1, p2⟩ := push (pick r e.2.rt) (by rw [hdec]; simp only [gets, Option.map_some, decide_eq_false hz, if_neg Bool.false_ne_true, if_pos hc])
          refine ⟨hlt, ?_, _, _, _, _, _, _, _, rfl⟩
          rw [p1, p2, ← List.append_assoc, List.map_append (l₁ := paid1 s1 s1.lanes ++ paid2 s2 (s2.kept.take i))]
          rfl
        · refine br_f (by rw [hcE]; exact decide_eq_false hc) ?_
          walk_at "w"
          refine wm_append At.here (by rw [List.length_map]; omega) ?_
          obtain ⟨p1, p2⟩ := keep (by rw [hdec]; simp only [gets, Option.map_some, decide_eq_false hz, if_neg Bool.false_ne_true, if_neg hc])
          refine ⟨hlt, ?_, _, _, _, _, _, _, _, rfl⟩
          rw [p1, p2, List.map_append (l₁ := left2 s2 (s2.kept.take i))]
          rfl
    · obtain ⟨hi, rfl, y2, y3, y5, y6, y7, y8, y9, rfl⟩ := hI
      rw [List.length_map, List.take_length]
      clear hi
      refine WS.ice 4 rfl ?_
      dsimp only [List.set_cons_succ, List.set_cons_zero]
      walk_at "w"
      refine ex_setL (n := 5) (At.tail (At.in hf at_kb)) (by unfold bkL; simp) ?_
      subst hs2 hse hs1
      show WS P w K E _ _ ((q, Co.lst (List.map prD (paid1 (turn1 s) (turn1 s).lanes ++ paid2 (turn2 s) (turn2 s).kept))) :: f (BkC k ra (decideS (turn2 s)) kk)) _
      have hp2 := paid2_len (turn2 s) (turn2 s).kept
      have hp3 : (paid1 (turn1 s) (turn1 s).lanes).length ≤ 2000 := by omega
      have hp4 : (paid2 (turn2 s) (turn2 s).kept).length ≤ 30000 := by
        have : (turn2 s).kept.length ≤ 30 * (turn2 s).lanes.countP (fun r => r.mood == ("settled" : Str)) := hk2
        have : (turn2 s).lanes.length ≤ N := hn2
        have : (turn2 s).lanes.countP (fun r => r.mood == ("settled" : Str)) ≤ (turn2 s).lanes.length := List.countP_le_length
        omega
      refine ws_seq (ws_set (we_lcP (wi_listC ?_)))
      walk_at "w"
      refine ⟨q, _, _, rfl, At.here, fun p acc => ⟨_, At.tail At.here⟩, by rw [List.length_map, List.length_append]; omega, fun d => (match d with | .tup [_, .int m] => decide (m > 0) | _ => false), id, fun d hd p acc => ?_, ?_⟩
      · obtain ⟨e, he, rfl⟩ := List.mem_map.mp hd
        refine ⟨_, wg_tup (us := [(8, .str e.1), (9, .int e.2)]) rfl (wgs_cons wg_name (wgs_cons wg_name wgs_nil)), by simp, ?_⟩
        walk_at "w"
        refine ⟨fun hb => ?_, fun hb => ⟨hb, rfl⟩⟩
        walk_at "w"
        exact ⟨hb, rfl, rfl⟩
      · have e5 : (((paid1 (turn1 s) (turn1 s).lanes ++ paid2 (turn2 s) (turn2 s).kept).map prD).filter fun d => (match d with | .tup [_, .int m] => decide (m > 0) | _ => false)).map id = (turnP s).map prD := by
          rw [List.map_id, List.filter_map]
          rfl
        rw [e5]
        refine ws_seq (ws_for (wi_listD ?_))
        walk_at "w"
        refine ⟨fun i Γ' L' => i ≤ (turnP s).length ∧ L' = (q, Co.lst (List.map prD (paid1 (turn1 s) (turn1 s).lanes ++ paid2 (turn2 s) (turn2 s).kept))) :: f (BkC k ra { decideS (turn2 s) with bags := addB s.bags ((turnP s).take i) } kk) ∧ ∃ y2 y3 y4 y5 y6 y7 y8 y9, Γ' = [some (.ref k.b), some (.lst ((turnP s).map prD)), y2, y3, y4, y5, y6, y7, y8, y9], ⟨Nat.zero_le _, rfl, _, _, _, _, _, _, _, _, rfl⟩, fun i Γ' L' hI => trivial, fun i d Γ' L' hd hI => ?_, fun Γ' L' hI => ?_⟩
        · obtain ⟨hi, rfl, y2, y3, y4, y5, y6, y7, y8, y9, rfl⟩ := hI
          rw [List.getElem?_map] at hd
          obtain ⟨e, he, rfl⟩ := Option.map_eq_some_iff.mp hd
          have hlt : i < (turnP s).length := (List.getElem?_eq_some_iff.mp he).1
          have htk : (turnP s).take (i + 1) = (turnP s).take i ++ [e] := by rw [List.take_add_one, he]; rfl
          refine ⟨_, wg_tup (us := [(8, .str e.1), (9, .int e.2)]) rfl (wgs_cons wg_name (wgs_cons wg_name wgs_nil)), ?_⟩
          dsimp only [setG]
          have hb : (bget (addB s.bags ((turnP s).take i)) e.1).isSome = true := addB_some (turnP_in ct (List.mem_of_getElem? he))
          obtain ⟨v, hv⟩ := Option.isSome_iff_exists.mp hb
          walk_at "w"
          refine ⟨_, _, .inr e.1, _, _, rfl, rfl, by walk_at "at", by rw [bagK_get]; dsimp only; rw [hv]; rfl, ?_⟩
          walk_at "w"
          refine ⟨_, _, .inr e.1, _, rfl, rfl, by walk_at "at", by have := ct.bg.few; unfold bagK; rw [List.length_map]; show (addB _ _).length < _; rw [addB_len]; omega, hlt, ?_, _, _, _, _, _, _, _, _, rfl⟩
          have e6 : addB s.bags ((turnP s).take (i + 1)) = bput (addB s.bags ((turnP s).take i)) e.1 (v + e.2) := by
            rw [htk, addB_app, addB, addB, hv]
            rfl
          rw [e6]
          dsimp only
          rw [bagK_put (v := v + e.2) hb]
          rfl
        · obtain ⟨hi, rfl, y2, y3, y4, y5, y6, y7, y8, y9, rfl⟩ := hI
          rw [List.length_map, List.take_length]
          refine ws_ret (WE.forget (we_var rfl ⟨_, List.sublist_cons_self _ _, ?_⟩))
          exact h
end
end Cl
set_option Elab.async false
set_option linter.all false
set_option maxRecDepth 100000
set_option maxHeartbeats 4000000
namespace Cl
open PySem PySem.Spec PyProof.Rows L2
/-! ### deeds -/
inductive Dl where
  | op (l r : Str) (m n : Int)
  | tl (t : Stt)
  | sh (x : Int)
  | tn
def Dl.d : Dl → D
  | .op l r m n => .tup [.str "open", .str l, .str r, .int m, .int n]
  | .tl t => .tup [.str "tell", t.d]
  | .sh x => .tup [.str "show", .int x]
  | .tn => .tup [.str "turn"]
def Dl.ok : Dl → Prop
  | .op l r m n => isNm l ∧ isNm r ∧ 0 ≤ m ∧ 0 ≤ n
  | .tl t => t.ok
  | .sh x => 0 ≤ x
  | .tn => True
def Dl.due (S : Str → D → Bool) (s : CtS) : Dl → Str
  | .op l r m n => openDue S s l r m n
  | .tl t => tellDue S s t
  | _ => ""
def Dl.go (S : Str → D → Bool) (s : CtS) : Dl → CtS
  | .op l r m n => if openDue S s l r m n = "" then openS s l r m n else s
  | .tl t => if tellDue S s t = "" then tellS s t else s
  | .sh x => showS s x
  | .tn => turnS s
def Dl.tells (S : Str → D → Bool) (s : CtS) : Dl → D
  | .op l r m n => if openDue S s l r m n = "" then .int s.lanes.length else .non
  | .tn => .lst ((turnP s).map prD)
  | _ => .non
theorem openDue_ok {S : Str → D → Bool} {s : CtS} {l r : Str} {m n : Int} (h : openDue S s l r m n = "") :
    ∃ x y, bget s.bags l = some x ∧ bget s.bags r = some y ∧ l ≠ r ∧ m ≤ x ∧ n ≤ y ∧ m + n ≠ 0 := by
  unfold openDue at h
  split at h
  · rename_i x y hx hy
    by_cases c1 : l = r
    · rw [if_pos c1] at h
      exact absurd h (by decide)
    rw [if_neg c1] at h
    by_cases c2 : m > x ∨ n > y ∨ m + n = 0
    · rw [if_pos c2] at h
      exact absurd h (by decide)
    exact ⟨x, y, hx, hy, c1, by omega, by omega, by omega⟩
  · exact absurd h (by decide)
theorem tellDue_ok {S : Str → D → Bool} {s : CtS} {t : Stt} (h : tellDue S s t = "") :
    ∃ r, s.lanes[t.lane.toNat]? = some r ∧ r.mood ≠ "settled" ∧ (PyData.eqv t.d.py r.first.d.py = true ∨ t.worth = r.first.worth) := by
  unfold tellDue at h
  split at h
  · exact absurd h (by decide)
  · rename_i r hr
    by_cases c1 : r.mood = "settled"
    · rw [if_pos c1] at h
      exact absurd h (by decide)
    rw [if_neg c1] at h
    by_cases c2 : PyData.eqv t.d.py r.first.d.py = false ∧ (t.worth ≠ r.first.worth ∨ ¬ (S r.l t.d = true ∧ S r.r t.d = true))
    · rw [if_pos c2] at h
      exact absurd h (by decide)
    refine ⟨r, hr, c1, ?_⟩
    cases e : PyData.eqv t.d.py r.first.d.py with
    | true => exact .inl rfl
    | false => exact .inr (Decidable.byContradiction fun z => c2 ⟨e, .inl z⟩)
theorem rdC_snoc {x : Addr} {r : Rd} {ra : List Addr} {ls : List Rd} (h : ra.length = ls.length) : rdC (ra ++ [x]) (ls ++ [r]) = rdC ra ls ++ [(x, .lst (rdL r))] := by
  unfold rdC
  rw [List.zip_append h, List.map_append]
  rfl
local macro_rules | `(tactic| walk_at "at") => `(tactic| first | assumption | repeat first | with_reducible exact At.here | with_reducible exact at_mc | with_reducible exact at_mb | with_reducible exact at_mo | with_reducible exact at_ms | with_reducible exact at_md | with_reducible exact at_kb | with_reducible exact at_kn | with_reducible exact at_ko | with_reducible exact at_ks | with_reducible exact at_kr | with_reducible exact at_kd | with_reducible apply At.tail | (with_reducible apply At.in (by assumption)))
local macro_rules | `(tactic| walk_at "fact") => `(tactic| first | exact c_Court (by assumption) | exact c_Lane (by assumption) | exact c_Signs (by assumption) | exact n_Court_clock (by assumption) | exact n_Court_long (by assumption) | exact n_Court_bags (by assumption) | exact n_Court_book (by assumption) | exact n_Court_opened (by assumption) | exact n_Court_seen (by assumption) | exact n_Court_kept (by assumption) | exact n_Court_deeds (by assumption) | exact n_Lane_both (by assumption) | exact n_Lane_first (by assumption) | exact n_Lane_standing (by assumption) | exact n_Lane_mood (by assumption) | exact n_Lane_ending (by assumption) | exact n_Signs_by_hand (by assumption))
local macro_rules | `(tactic| walk_at "ge") => `(tactic| first
  | with_reducible refine we_var rfl ?_
  | with_reducible refine we_int ?_
  | with_reducible refine we_str ?_
  | with_reducible refine we_ty ?_
  | with_reducible refine we_bl ?_
  | with_reducible refine we_non ?_
  | with_reducible refine we_ref ?_
  | with_reducible refine we_op ?_
  | with_reducible refine we_cb ?_
  | with_reducible refine we_call0 ?_
  | with_reducible refine we_call ?_
  | with_reducible refine we_lst ?_
  | with_reducible refine we_tup ?_
  | with_reducible refine we_andV ?_
  | with_reducible refine we_orV ?_
  | with_reducible refine we_notV ?_
  | with_reducible refine we_if ?_
  | with_reducible refine we_chain ?_
  | with_reducible refine we_sl ?_
  | with_reducible refine we_lz ?_
  | with_reducible refine we_dnewK (fun _ => ?_)
  | with_reducible refine we_dnewN (fun _ => ?_)
  | with_reducible refine we_fld ?_
  | with_reducible refine we_dget ?_
  | with_reducible refine we_din ?_
  | with_reducible refine we_dnotIn ?_
  | with_reducible refine we_dget2 ?_
  | with_reducible refine we_dsetd ?_
  | with_reducible refine we_make ?_
  | with_reducible refine we_meth0 ?_
  | with_reducible refine we_meth ?_
  | with_reducible refine we_bm ?_)
local macro_rules | `(tactic| walk_at "gt") => `(tactic| first
  | with_reducible refine wt_B ?_
  | with_reducible refine wt_test ?_
  | with_reducible refine wt_not ?_
  | with_reducible refine wt_and ?_
  | with_reducible refine wt_or ?_
  | with_reducible refine wt_yes ?_)
local macro_rules | `(tactic| walk_at "gst") => `(tactic| first
  | with_reducible refine ws_ret ?_
  | with_reducible refine ws_retN ?_
  | with_reducible refine ws_seq ?_
  | with_reducible refine ws_set ?_
  | with_reducible refine ws_drop ?_
  | with_reducible refine ws_if ?_
  | with_reducible refine ws_next ?_
  | with_reducible refine ws_raise ?_
  | with_reducible refine ws_asgS ?_
  | with_reducible refine ws_setL ?_
  | with_reducible refine ws_setN ?_
  | with_reducible refine ws_asg ?_
  | with_reducible refine ws_fld ?_
  | with_reducible refine ws_fldaddI ?_
  | with_reducible refine ws_dput ?_)
local macro_rules | `(tactic| walk_at "gr") => `(tactic| first
  | with_reducible refine wr_ixT rfl ?_
  | with_reducible refine wr_ixL rfl ?_
  | with_reducible refine ix_t0 ?_
  | with_reducible refine ix_t1 ?_
  | with_reducible refine ix_t2 ?_
  | with_reducible refine ix_t3 ?_
  | with_reducible refine ix_t4 ?_
  | with_reducible refine ix_l0 ?_
  | with_reducible refine ix_l1 ?_
  | with_reducible refine ix_l2 ?_
  | with_reducible refine ix_l3 ?_
  | with_reducible refine ix_l4 ?_
  | with_reducible refine wr_int ?_
  | (with_reducible refine isPow ?_; with_reducible refine wr_powL (by decide) (by decide) (by decide) ?_)
  | with_reducible refine wr_bool ?_
  | with_reducible refine wr_eqI ?_
  | with_reducible refine wr_neI ?_
  | with_reducible refine wr_eqS ?_
  | with_reducible refine wr_neS ?_
  | with_reducible refine wr_eqB ?_
  | with_reducible refine wr_neB ?_
  | with_reducible refine wr_isN ?_
  | with_reducible refine wr_notN ?_
  | (with_reducible refine isIxC ?_; with_reducible refine wr_ixC (by walk_at "at") (by with_unfolding_all rfl) ?_))
local macro_rules | `(tactic| walk_at "gc") => `(tactic| first
  | with_reducible refine wc_isi rfl rfl ?_
  | with_reducible refine wc_isi (by decide) (by decide +kernel) ?_
  | (with_reducible refine isLen ?_; with_reducible refine wc_lenC (by walk_at "at") ?_)
  | with_reducible refine wc_lenT ?_
  | with_reducible refine wc_lenL ?_)
local macro_rules | `(tactic| walk_at "ga") => `(tactic| first
  | with_reducible refine wa_cons ?_
  | with_reducible refine wa_nil ?_)
local macro_rules | `(tactic| walk_at "gx") => `(tactic| first
  | (with_reducible refine isLn ?_; with_reducible refine lenAnd (by simp) ?_)
  | with_reducible refine wsl_tup ?_
  | with_reducible refine wo_none ?_
  | with_reducible refine wo_some ?_
  | with_reducible refine ex_bl ?_
  | with_reducible refine ex_int ?_
  | with_reducible refine ex_str ?_
  | with_reducible refine ex_tup ?_
  | with_reducible refine ex_lst ?_
  | with_reducible refine ex_etup ?_
  | with_reducible refine br_true ?_
  | with_reducible refine br_false ?_
  | (with_reducible refine isBr ?_; refine br_t rfl ?_)
  | (with_reducible refine isBr ?_; refine br_f rfl ?_)
  | (with_reducible refine isFld ?_; with_reducible refine ex_fld (by walk_at "at") (by walk_at "fact") (by walk_at "fact") (by with_unfolding_all rfl) ?_)
  | (with_reducible refine isPut ?_; with_reducible refine ex_put (by walk_at "at") (by walk_at "fact") (by walk_at "fact") (by with_unfolding_all exact of_decide_eq_true rfl) ?_)
  | (with_reducible refine isMeth ?_; with_reducible refine ex_meth (by walk_at "at") (by with_unfolding_all rfl) ?_)
  | (with_reducible refine isTy ?_; with_reducible refine And.intro (ty_cell (by walk_at "at")) ?_)
  | with_reducible refine k_whole ?_
  | with_reducible refine k_count ?_
  | with_reducible refine k_amount ?_)
local macro_rules | `(tactic| walk_at "s") => `(tactic| first
  | (with_reducible refine isWE ?_; walk_at "ge")
  | (with_reducible refine isWS ?_; walk_at "gst")
  | (with_reducible refine isWT ?_; walk_at "gt")
  | (with_reducible refine isWR ?_; walk_at "gr")
  | (with_reducible refine isWA ?_; walk_at "ga")
  | (with_reducible refine isWC ?_; walk_at "gc")
  | walk_at "gx")
local macro_rules | `(tactic| walk_at "w") => `(tactic| repeat walk_at "s")

section
variable {P : Program} {w : World} {K : PySem.W.Frag} {mg : Str → Option Value} {base : Heap}
abbrev aDone : ASp := A2 fun bk dd L Φ _ => ∃ k ra s kk S f N dl, bk = .ref k.b ∧ Part (BkC k ra s kk) L f ∧ BkOk N ra s ∧ (s.kept.Pairwise fun a b => kle a b = true) ∧ SK S kk ∧ dd = Dl.d dl ∧ dl.ok ∧
  ∀ ra' : List Addr, ra'.length = (dl.go S s).lanes.length → Φ (.tup [.str (dl.due S s), dl.tells S s]) (f (BkC k ra' (dl.go S s) kk))
theorem sc_law_done : FnScope ["_law_book_here", "_law_deed_here", "_law_due", "_law_tells", "_law_word", "_law_left", "_law_right", "_law_one", "_law_other", "_law_road"] ["_law_book_here", "_law_deed_here"] d_law_done.scope := ⟨rfl, rfl, rfl, by decide +kernel, rfl, by decide +kernel, by decide +kernel⟩
theorem ok_law_done (T : Tx K mg) : FOk P w K mg base 5 (He.fAd K d_law_done.at_) ["_law_book_here", "_law_deed_here"] aDone := by
  refine fok_of (d := d_law_done) T 56 (k := 4) rfl rfl rfl sc_law_done (fun ds L Φ ex h => A2.len h) (fun _ _ _ _ _ _ us hl => match us, hl with | [_, _], _ => rfl) (fun cdv Ar outer s H E ds L Φ ex hr h => ?_)
  obtain ⟨book_here, deed_here, rfl, h⟩ := h
  refine ⟨_, (pss_cons (ps_set (i := 2) sc_law_done.nd rfl (Or.inl rfl) pe_str)
    (pss_cons (ps_set (i := 3) sc_law_done.nd rfl (Or.inl rfl) pe_non)
    (pss_cons (ps_if (pt_cmpR op_eq (pe_ix ix_tup (pv 1) pe_int (fun _ _ => rfl)) pe_str (nomark _)) (pss_cons (ps_set (i := 2) sc_law_done.nd rfl (Or.inl rfl) (pe_c (ok_law_open_due T) hr rfl (g_law_open_due T) (pa_cons (pv 0) (pa_cons (pv 1) pa_nil))))
    (pss_one (ps_if (pt_cmpR op_eq (pv 2) pe_str (nomark _)) (pss_cons (ps_asg (pv 1) (pg_tup (n := 5) rfl (pgs_cons (pg_name (i := 4) sc_law_done.nd rfl (Or.inl rfl)) (pgs_cons (pg_name (i := 5) sc_law_done.nd rfl (Or.inl rfl)) (pgs_cons (pg_name (i := 6) sc_law_done.nd rfl (Or.inl rfl)) (pgs_cons (pg_name (i := 7) sc_law_done.nd rfl (Or.inl rfl)) (pgs_cons (pg_name (i := 8) sc_law_done.nd rfl (Or.inl rfl)) pgs_nil)))))))
    (pss_cons (ps_set (i := 3) sc_law_done.nd rfl (Or.inl rfl) (pe_callB call_len rfl (f_len T) (by decide +kernel) (pa_cons (pe_ix ix_list (pv 0) pe_int (fun _ _ => rfl)) pa_nil)))
    (pss_cons (ps_dput (hu_of hr) (pe_ix ix_list (pv 0) pe_int (fun _ _ => rfl)) (pv 5) (pe_op op_sub (pe_dget (hu_of hr) (pe_ix ix_list (pv 0) pe_int (fun _ _ => rfl)) (pv 5) (fun _ _ => rfl)) (pv 7)) rfl)
    (pss_cons (ps_dput (hu_of hr) (pe_ix ix_list (pv 0) pe_int (fun _ _ => rfl)) (pv 6) (pe_op op_sub (pe_dget (hu_of hr) (pe_ix ix_list (pv 0) pe_int (fun _ _ => rfl)) (pv 6) (fun _ _ => rfl)) (pv 8)) rfl)
    (pss_one (ps_expr (pe_bm PySem.F.plainAttrs_list PySem.F.slot_list_append PySem.F.type_list_append mt_append (pe_ix ix_list (pv 0) pe_int (fun _ _ => rfl)) (pa_cons (pe_lst (pa_cons (pv 5) (pa_cons (pv 6) (pa_cons (pv 7) (pa_cons (pv 8) (pa_cons pe_str (pa_cons (pe_tup (pa_cons (pv 3) (pa_cons pe_int (pa_cons (pv 7) (pa_cons (pv 8) (pa_cons (pe_tup pa_nil) pa_nil)))))) (pa_cons pe_non pa_nil)))))))) pa_nil)))))))) pss_nil))) pss_nil)
    (pss_cons (ps_if (pt_cmpR op_eq (pe_ix ix_tup (pv 1) pe_int (fun _ _ => rfl)) pe_str (nomark _)) (pss_cons (ps_set (i := 2) sc_law_done.nd rfl (Or.inl rfl) (pe_c (ok_law_tell_due T) hr rfl (g_law_tell_due T) (pa_cons (pv 0) (pa_cons (pe_ix ix_tup (pv 1) pe_int (fun _ _ => rfl)) pa_nil))))
    (pss_one (ps_if (pt_cmpR op_eq (pv 2) pe_str (nomark _)) (pss_cons (ps_set (i := 9) sc_law_done.nd rfl (Or.inl rfl) (pe_ix ix_list (pe_ix ix_list (pv 0) pe_int (fun _ _ => rfl)) (pe_ix ix_tup (pe_ix ix_tup (pv 1) pe_int (fun _ _ => rfl)) pe_int (fun _ _ => rfl)) (fun _ _ => rfl)))
    (pss_cons (ps_if (pt_cmpR op_eq (pe_ix ix_list (pv 9) pe_int (fun _ _ => rfl)) pe_str (nomark _)) (pss_one (ps_asg (pe_op op_add (pe_ix ix_list (pv 0) pe_int (fun _ _ => rfl)) (pe_ix ix_list (pv 0) pe_int (fun _ _ => rfl))) (pg_sub (pv 9) pe_int set_list))) pss_nil)
    (pss_cons (ps_asg pe_str (pg_sub (pv 9) pe_int set_list))
    (pss_one (ps_asg (pe_ix ix_tup (pv 1) pe_int (fun _ _ => rfl)) (pg_sub (pv 9) pe_int set_list)))))) pss_nil))) pss_nil)
    (pss_cons (ps_if (pt_cmpR op_eq (pe_ix ix_tup (pv 1) pe_int (fun _ _ => rfl)) pe_str (nomark _)) (pss_one (ps_expr (pe_dsetd (pe_ix ix_list (pv 0) pe_int (fun _ _ => rfl)) (pe_c (ok_seal_of T) hr rfl (g_seal_of T) (pa_cons (pe_ix ix_tup (pv 1) pe_int (fun _ _ => rfl)) pa_nil)) (pe_tup (pa_cons (pe_ix ix_list (pv 0) pe_int (fun _ _ => rfl)) (pa_cons (pe_ix ix_tup (pv 1) pe_int (fun _ _ => rfl)) pa_nil))) ⟨rfl, rfl, rfl, rfl⟩))) pss_nil)
    (pss_cons (ps_if (pt_cmpR op_eq (pe_ix ix_tup (pv 1) pe_int (fun _ _ => rfl)) pe_str (nomark _)) (pss_one (ps_set (i := 3) sc_law_done.nd rfl (Or.inl rfl) (pe_c (ok_law_turned T) hr rfl (g_law_turned T) (pa_cons (pv 0) pa_nil)))) pss_nil)
    (pss_cons (ps_if (pt_cmpR op_eq (pv 2) pe_str (nomark _)) (pss_one (ps_expr (pe_bm PySem.F.plainAttrs_list PySem.F.slot_list_append PySem.F.type_list_append mt_append (pe_ix ix_list (pv 0) pe_int (fun _ _ => rfl)) (pa_cons (pe_tup (pa_cons (pv 1) (pa_cons (pe_ifExp (pt_cmpR op_eq (pe_ix ix_tup (pv 1) pe_int (fun _ _ => rfl)) pe_str (nomark _)) (pe_callTy call_list_of rfl (f_list T) (by decide +kernel) (pa_cons (pv 3) pa_nil)) (pe_lst pa_nil)) pa_nil))) pa_nil)))) pss_nil)
    (pss_one (ps_ret (pe_tup (pa_cons (pv 2) (pa_cons (pv 3) pa_nil)))))))))))), ?_⟩
  obtain ⟨k, ra, s, kk, S, f, N, dl, rfl, ⟨hf, rfl⟩, ok, hks, hS, rfl, dok, h⟩ := h
  dsimp only [cxOf]
  obtain ⟨la, ct⟩ := ok.ct
  cases dl with
  | op l r m n =>
    dsimp only [Dl.d, Dl.ok, Dl.due, Dl.go, Dl.tells] at *
    obtain ⟨nl, nr, hm, hn⟩ := dok
    walk_at "w"
    refine ⟨_, _, rfl, k, ra, s, kk, S, f, N, l, r, m, n, rfl, ⟨hf, rfl⟩, ok, hS, rfl, hm, hn, nl, nr, ?_⟩
    walk_at "w"
    by_cases hd : openDue S s l r m n = ""
    · refine br_t (decide_eq_true hd) ?_
      obtain ⟨x, y, hx, hy, hne, hmx, hny, hpos⟩ := openDue_ok hd
      rw [if_pos hd, if_pos hd] at h
      walk_at "w"
      refine ⟨_, wg_tup (us := [(4, .str "open"), (5, .str l), (6, .str r), (7, .int m), (8, .int n)]) rfl (wgs_cons wg_name (wgs_cons wg_name (wgs_cons wg_name (wgs_cons wg_name (wgs_cons wg_name wgs_nil))))), ?_⟩
      dsimp only [setG]
      walk_at "w"
      rw [List.length_map, ok.rl]
      walk_at "w"
      have hbl : (bget s.bags l).isSome = true := by rw [hx]; rfl
      have hy2 : bget (bput s.bags l (x - m)) r = some y := by rw [bput_get, if_neg (fun z => hne z.symm), hy]
      refine ⟨_, _, .inr l, _, _, rfl, rfl, by walk_at "at", by rw [bagK_get, hx]; rfl, ?_⟩
      walk_at "w"
      refine ⟨_, _, .inr l, _, rfl, rfl, by walk_at "at", by have := ct.bg.few; unfold bagK; rw [List.length_map]; omega, ?_⟩
      dsimp only
      rw [bagK_put hbl]
      show WS P w K E _ _ (f (BkC k ra { s with bags := bput s.bags l (x - m) } kk)) _
      walk_at "w"
      refine ⟨_, _, .inr r, _, _, rfl, rfl, by walk_at "at", by rw [bagK_get]; dsimp only; rw [hy2]; rfl, ?_⟩
      walk_at "w"
      refine ⟨_, _, .inr r, _, rfl, rfl, by walk_at "at", by have := ct.bg.few; unfold bagK bput; rw [List.length_map, List.length_map]; omega, ?_⟩
      dsimp only
      rw [bagK_put (by rw [hy2]; rfl)]
      show WS P w K E _ _ (f (BkC k ra { s with bags := bput (bput s.bags l (x - m)) r (y - n) } kk)) _
      refine ws_drop (we_bm (we_op (we_var rfl (we_int ?_))))
      refine wr_ixC (by walk_at "at") (atI_nat (n := 3) rfl) ?_
      refine ⟨ty_cell (by walk_at "at"), wa_cons (we_lstC ?_)⟩
      walk_at "w"
      intro ad
      refine wa_nil ?_
      refine wm_append (At.tail (At.in hf at_kr)) (by rw [List.length_map, ok.rl]; have := ct.nl; have := ct.big; omega) ?_
      have hp : (f (BkC k (ra ++ [ad]) { s with bags := bput (bput s.bags l (x - m)) r (y - n), lanes := s.lanes ++ [⟨l, r, ⟨s.lanes.length, 0, m, n, []⟩, ⟨s.lanes.length, 0, m, n, []⟩, "open", none⟩] } kk)).Perm
          ((ad, .lst (rdL ⟨l, r, ⟨s.lanes.length, 0, m, n, []⟩, ⟨s.lanes.length, 0, m, n, []⟩, "open", none⟩)) :: f ((k.b, .lst (bkL k s)) :: (k.n7, .dN (kk.map keyD)) :: (k.o6, .lst s.rows) :: (k.s4, .dK (seenK s.seen)) :: (k.r3, .lst (ra.map D.ref ++ [.ref ad])) :: (k.d2, .dK (bagK (bput (bput s.bags l (x - m)) r (y - n)))) :: rdC ra s.lanes)) := by
        unfold BkC
        dsimp only
        rw [rdC_snoc ok.rl, List.map_append]
        exact hole_snoc hf (S := (k.b, .lst (bkL k s)) :: (k.n7, .dN (kk.map keyD)) :: (k.o6, .lst s.rows) :: (k.s4, .dK (seenK s.seen)) :: (k.r3, .lst (ra.map D.ref ++ [.ref ad])) :: (k.d2, .dK (bagK (bput (bput s.bags l (x - m)) r (y - n)))) :: rdC ra s.lanes)
      have h := h (ra ++ [ad]) (by show _ = (s.lanes ++ [_]).length; rw [List.length_append, List.length_append, ok.rl]; rfl)
      unfold openS at h
      rw [hx, hy] at h
      refine WS.perm hp ?_
      walk_at "w"
      refine br_t (decide_eq_true hd) ?_
      walk_at "w"
      refine wm_append (by walk_at "at") (by have := ct.nr; have := ct.big; show s.rows.length < _; omega) ?_
      walk_at "w"
      rw [hd] at h ⊢
      exact h
    · refine br_f (decide_eq_false hd) ?_
      rw [if_neg hd, if_neg hd] at h
      walk_at "w"
      refine br_f (decide_eq_false hd) ?_
      walk_at "w"
      exact h ra ok.rl
  | tl t =>
    dsimp only [Dl.d, Dl.ok, Dl.due, Dl.go, Dl.tells] at *
    walk_at "w"
    refine ⟨_, _, rfl, k, ra, s, kk, S, f, N, t, rfl, ⟨hf, rfl⟩, ok, hS, rfl, dok, ?_⟩
    walk_at "w"
    by_cases hd : tellDue S s t = ""
    · refine br_t (decide_eq_true hd) ?_
      obtain ⟨r, hr, _, _⟩ := tellDue_ok hd
      rw [if_pos hd] at h
      have tl := dok.lane
      have hlt := (List.getElem?_eq_some_iff.mp hr).1
      obtain ⟨ad, had⟩ : ∃ ad, ra[t.lane.toNat]? = some ad := ⟨_, List.getElem?_eq_getElem (by rw [ok.rl]; exact hlt)⟩
      obtain ⟨g, hA, hs⟩ := at_krd (k := k) (kk := kk) hf had hr
      walk_at "w"
      refine wr_ixC (by walk_at "at") (atI_int tl (by rw [List.getElem?_map, had]; rfl)) ?_
      refine ws_cut (fun Γ' L' => L' = g (.lst (rdL { r with en := if r.mood = "open" then some (s.clock + s.long) else r.en })) ∧ Γ' = [some (.ref k.b), some (.tup [.str "tell", t.d]), some (.str ""), some .non, none, none, none, none, none, some (.ref ad)]) ?_ ?_
      · walk_at "w"
        by_cases c1 : r.mood = "open"
        · refine br_t (decide_eq_true c1) ?_
          walk_at "w"
          refine ex_setL (n := 6) hA (by unfold rdL; simp) ?_
          rw [if_pos c1]
          exact ⟨rfl, by rw [hd]; rfl⟩
        · refine br_f (decide_eq_false c1) ?_
          rw [if_neg c1]
          exact ws_next ⟨hA.eq, by rw [hd]; rfl⟩
      · rintro Γ' L' ⟨rfl, rfl⟩
        walk_at "w"
        refine ex_setL (n := 4) hA.to (by unfold rdL; simp) ?_
        walk_at "w"
        refine ex_setL (n := 5) hA.to (by unfold rdL; simp) ?_
        dsimp only
        rw [show ((rdL { r with en := if r.mood = "open" then some (s.clock + s.long) else r.en }).set 4 (.str "closing")).set 5 t.d = rdL (tellR s t r) from rfl, hs]
        walk_at "w"
        refine wm_append (by walk_at "at") (by have := ct.nr; have := ct.big; show s.rows.length < _; omega) ?_
        walk_at "w"
        have h := h ra (by
          unfold tellS
          rw [hr]
          show _ = (s.lanes.set _ _).length
          rw [List.length_set]
          exact ok.rl)
        unfold tellS at h
        rw [hr, hd] at h
        exact h
    · refine br_f (decide_eq_false hd) ?_
      rw [if_neg hd] at h
      walk_at "w"
      refine br_f (decide_eq_false hd) ?_
      walk_at "w"
      exact h ra ok.rl
  | sh x =>
    dsimp only [Dl.d, Dl.ok, Dl.due, Dl.go, Dl.tells] at *
    walk_at "w"
    have shw : ∀ L', L' = f (BkC k ra (showS s x) kk) → Φ (.tup [.str "", .non]) L' := fun L' e => by
      rw [e]
      exact h ra ok.rl
    refine ⟨_, _, _, rfl, by walk_at "at", ?_⟩
    walk_at "w"
    refine k_seal dok ?_
    walk_at "w"
    refine ⟨_, .inl (3 * x + 17), _, rfl, by walk_at "at", by have := ct.ns; have := ct.big; unfold seenK; rw [List.length_map]; omega, fun d hd => ?_, fun hd => ?_⟩
    · have hs : (sget s.seen (3 * x + 17)).isSome = true := by
        rw [seenK_get] at hd
        cases e : sget s.seen (3 * x + 17) with
        | none => rw [e] at hd; cases hd
        | some z => rfl
      walk_at "w"
      refine wm_append (by walk_at "at") (by have := ct.nr; have := ct.big; omega) ?_
      walk_at "w"
      refine shw _ ?_
      unfold showS sput
      rw [if_pos hs]
      rfl
    · have hs : ¬ (sget s.seen (3 * x + 17)).isSome = true := by
        rw [seenK_get] at hd
        cases e : sget s.seen (3 * x + 17) with
        | none => simp
        | some z => rw [e] at hd; cases hd
      rw [putKD_none hd]
      walk_at "w"
      refine wm_append (by walk_at "at") (by have := ct.nr; have := ct.big; omega) ?_
      walk_at "w"
      refine shw _ ?_
      unfold showS sput
      rw [if_neg hs]
      unfold BkC seenK
      dsimp only
      rw [List.map_append]
      rfl
  | tn =>
    dsimp only [Dl.d, Dl.ok, Dl.due, Dl.go, Dl.tells] at *
    walk_at "w"
    refine ⟨_, rfl, k, ra, s, kk, f, N, rfl, ⟨hf, rfl⟩, ok, hks, ?_⟩
    walk_at "w"
    refine wc_list ?_ (.inl rfl)
    walk_at "w"
    refine wm_append (by walk_at "at") (by have := ct.nr; have := ct.big; show s.rows.length < _; omega) ?_
    walk_at "w"
    refine h ra ?_
    rw [ok.rl]
    show _ = (s.lanes.map _).length
    rw [List.length_map]
end
end Cl
set_option Elab.async false
set_option linter.all false
set_option maxRecDepth 100000
set_option maxHeartbeats 4000000
/-! try .. except X as e, the exception kept behind the suite; calls inside; isinstance of a kept exception. -/
namespace Cl
open PySem PySem.Spec PyProof.Rows L2
section
variable {X : Cx} {pins : List (Addr × Obj)} {σ : L2.St} {H : Hp} {s : Shared}
theorem inv_track {a : Addr} {cls : Value} {oe : Obj} {vs : Array Value} (I : Inv X pins σ H s) (ha : s.heap.get? a = some oe) (hz : Zc cls none oe) (hd : oe.data = .fields vs) (na : H a = none) (nL : a ≠ X.env.locals) (n0 : X.s_0.heap.get? a = none) (np : ∀ p ∈ X.pn ++ pins, p.1 ≠ a) :
    Inv X pins σ (upd H a (.ext (excPhi cls a))) s := by
  have ne : ∀ b o, H b = some o → b ≠ a := fun b o e z => by rw [z, na] at e; cases e
  refine ⟨I.ok, I.os, I.bare, ⟨I.base.keep, I.base.slot, fun b o e n hx => ?_, I.base.there, fun b xs e => ?_, fun b o xs e => ?_, fun b ps e => ?_⟩, I.loc, I.cell, ?_, fun x c e => ?_, fun p hp => ?_, ?_, I.len⟩
  · rw [upd_ne (fun z => by rw [z, n0] at e; cases e)]
    exact I.base.free b o e n hx
  · have q := I.base.tups b xs e
    rw [upd_ne (ne _ _ q)]; exact q
  · have q := I.base.frzs b o xs e
    rw [upd_ne (ne _ _ q)]; exact q
  · obtain ⟨m, q⟩ := I.base.tbls b ps e
    exact ⟨m, by rw [upd_ne (ne _ _ q)]; exact q⟩
  · rw [upd_ne nL.symm]; exact I.free
  · have hc : c ≠ a := fun z => by
      obtain ⟨v, o, ho, hv⟩ := I.cell x c e
      rw [z, ha] at ho; cases ho; rw [hd] at hv; cases hv
    rw [upd_ne hc]; exact I.freeC x c e
  · obtain ⟨e, n, nl, nf, d⟩ := I.pin p hp
    exact ⟨e, by rw [upd_ne (np p hp)]; exact n, nl, nf, d⟩
  · intro b o e
    by_cases hb : b = a
    · subst hb
      rw [upd_same] at e
      cases e
      exact ⟨⟨oe, vs, ha, hz, hd⟩, ⟨oe, ha⟩, fun h1 h2 ⟨o1, v1, g1, g2, g3⟩ k => ⟨o1, v1, k _ g1, g2, g3⟩⟩
    · rw [upd_ne hb] at e
      exact (I.hok b o e).stay (fun c v _ q => q) (fun c q => by rw [upd_ne (ne _ _ q)]; exact q) fun c xs q => by rw [upd_ne (ne _ _ q)]; exact q
end
/-- try: body / except c as n: suite, where all that is let out is of c; slot i is n's; the exception is kept -/
def tTryK (X : Cx) (c : Value) (i : Nat) (body suite : List Stmt) : TS := fun D σ H => ∃ (W : WX) (tb : TS),
  (∀ (pn : List (Addr × Obj)) (xe : Value → Shared → Prop), Takes (X.tr pn xe) W → PassesOwn (model X.prog X.w) X.A X.env xe → PSs (X.tr pn xe) body tb) ∧
  (∀ cls d σ1 H1, W cls d σ1 H1 → PySem.W.exmOne X.K cls c = some true ∧ d = none ∧ ∀ a, H1 a = none → ∃ ts : TS,
    (∀ (oe : Obj) (pn : List (Addr × Obj)), Zc cls none oe → (∃ vs, oe.data = .fields vs) → PSs (X.suite a ((a, oe) :: pn)) suite ts) ∧
    ts { nx := fun σ' H' => H' a = none → D.nx (σ'.set i none) (upd H' a (.ext (excPhi cls a))), rt := fun _ _ => False, bk := fun _ _ => False, ct := fun _ _ => False } (σ1.set i (some (.ref a))) H1) ∧ tb D σ H
section
variable {X : Cx} {x n : Str} {c : Value} {i : Nat} {body suite : List Stmt} {b₀ : Stmt} {np pos pos' : Pos}
theorem ps_try_keep (hs : X.stack = X.env :: X.outer) (hf : X.env.frame = some X.env.locals) (hex : X.ex = []) (hN : X.N.Nodup) (hi : X.N[i]? = some n) (hln : X.env.kindOf n = some .local) (hc : Names X x c) :
    PS X (.Try body [.ExceptHandler (some (.Name x np)) (some n) (b₀ :: suite) pos'] [] [] pos) (tTryK X c i body (b₀ :: suite)) := by
  refine ⟨fun pins s σ H D I h => ?_⟩
  obtain ⟨W, tb, hb, hx, h⟩ := h
  have ok := I.ok
  have hfr : X.A.frames = some (X.env :: X.outer) := by rw [ok.frames, hs]
  have hloc : Loc X.env.scope n := .inl hln
  refine wpAny_Try_except ?_
  refine wpAny_mono ((hb (X.pn ++ pins) (fun e s₁ => wpAny (model X.prog X.w) X.A (noteFrame e X.env) (fun _ s₂ => wpAny (model X.prog X.w) X.A (setFlight e none) (fun _ s₃ =>
    wpAny (model X.prog X.w) X.A (handleBy e X.env [.ExceptHandler (some (.Name x np)) (some n) (b₀ :: suite) pos']) (SP X pins D) X.xe s₃) X.xe s₂) X.xe s₁) (fun u s' xx => ?_) PassesOwn.looking).run [] s σ H D (I.toTry _) h) (fun f s1 hsp => ?_) (fun e s1 he => he)
  · -- the catch
    obtain ⟨a, B, sI, pins', σ', H', cls, d, rfl, J', nb, up, sky, na, os, ag, xw⟩ := xx
    obtain ⟨hb1, rfl, hyes⟩ := hx _ _ _ _ xw
    obtain ⟨ts, hsu, hyes⟩ := hyes a na
    have J : Inv X pins σ' H' sI := J'.ofTry ok
    have sky' : Sky B (X.env :: X.outer) a (Zc cls none) X.env.locals s'.heap := by rw [← hs]; exact sky
    show wpAny (model X.prog X.w) X.A (noteFrame (.ref a) X.env) _ _ _
    refine Sky.land Zc.steady hfr hf sky' fun h3 fl3 up3 => ?_
    have J3 : Inv X pins σ' H' { s' with heap := h3 } := J.landed nb fl3.1 (up.trans up3) os ag
    obtain ⟨oe3, vs3, he3, hz3, hd3⟩ := fl3.there
    have notFr : ∀ {h : Heap} {o : Obj} {vs : Array Value}, h.FunFrames B (X.env :: X.outer) → h.get? a = some o → o.data = .fields vs → a ∉ frs (X.env :: X.outer) := fun {h o vs} ff e dd hm => by
      obtain ⟨_, o', e', hnf⟩ := ff.mem hm
      rw [e] at e'; cases e'
      exact hnf _ dd
    have nfr := notFr fl3.2.2.1 he3 hd3
    have nL : a ≠ X.env.locals := fun z => nfr (List.mem_filterMap.mpr ⟨X.env, List.mem_cons_self, by rw [hf, z]⟩)
    have nF : a ∉ X.fs := fun hm => by
      obtain ⟨e, he, q⟩ := List.mem_filterMap.mp hm
      exact nfr (List.mem_filterMap.mpr ⟨e, List.mem_cons_of_mem _ he, q⟩)
    have Ba : B.get? a = none := fl3.2.1
    have n0 : X.s_0.heap.get? a = none := by
      cases e : X.s_0.heap.get? a with
      | none => rfl
      | some o =>
        obtain ⟨o', e'⟩ := J.base.there a o e (by rw [hex]; simp)
        have z := nb a o' e' (by rw [show (X.tr (X.pn ++ pins) _).stack = X.env :: X.outer from hs]; exact nfr)
        rw [Ba] at z; cases z
    have npp : ∀ p ∈ X.pn ++ pins, p.1 ≠ a := fun p hp z => by
      obtain ⟨e, _, nl, nf, _⟩ := J.pin p hp
      have z2 := nb p.1 p.2 e (by rw [z, show (X.tr (X.pn ++ pins) _).stack = X.env :: X.outer from hs]; exact nfr)
      rw [z, Ba] at z2; cases z2
    have S3 := J3.suite he3 hd3 na nL nF
    refine wpAny_handleBy_cons (codeAny_handlers_test ?_) (by intro q; cases q)
    have LT : PySem.W.Looks (model X.prog X.w) h3 (typeOf (.ref a)) cls := fun A Q E s k q => wpAny_typeOf_ref (k _ _ he3) (by rw [hz3.1]; exact q)
    have LM := PySem.W.exm_one (M := model X.prog X.w) (J3.kIn) LT hb1
    have test : ∀ {Q : Value → Shared → Prop} {E : Value → Shared → Prop}, Q c { s' with heap := h3 } → wpAny (model X.prog X.w) (X.A.mark (some (.ref a))) (eval (.Name x np) X.env) Q E { s' with heap := h3 } := fun {Q E} q => by
      obtain ⟨hg, hdbg, hm | ⟨hm, hv, hnn⟩⟩ := hc
      · exact ld_glob (X := X.suite a ((a, oe3) :: (X.pn ++ pins))) S3 hg hm q hdbg
      · exact ld_blt (X := X.suite a ((a, oe3) :: (X.pn ++ pins))) S3 hg hm hv q hnn hdbg
    refine test (LM.here ?_)
    · refine codeAny_handlers_suite_as ?_
      refine HandSPX.lands_againZ fl3 fun h4 fl4 up4 => ?_
      have J4 : Inv X pins σ' H' { s' with heap := h4 } := J.landed nb fl4.1 ((up.trans up3).trans up4) os ag
      obtain ⟨oe4, vs4, he4, hz4, hd4⟩ := fl4.there
      have S4 := J4.suite he4 hd4 na nL nF
      refine store_ok (X := X.suite a ((a, oe4) :: (X.pn ++ pins))) (v := .ref a) S4 hN hi hloc rfl (fun s5 S5 => ?_) (.inr hln)
      refine wpAny_mono ((hsu oe4 (X.pn ++ pins) hz4 ⟨_, hd4⟩).run [] s5 _ H' _ S5 hyes) (fun f s6 hsp => ?_) (fun _ _ z => False.elim z)
      cases f with
      | next =>
        obtain ⟨σ6, H6, S6, q6⟩ := hsp
        obtain ⟨g6, n6, _, _, _⟩ := S6.pin (a, oe4) (by rw [List.append_nil]; exact List.mem_cons_self)
        exact gone_ok (inv_track (S6.unsuite ok) g6 hz4 hd4 n6 nL n0 npp) hN hi hln fun s7 J7 => ⟨_, _, J7, q6 n6⟩
      | brk =>
        obtain ⟨σ6, H6, S6, q6⟩ := hsp
        exact False.elim q6
      | cont =>
        obtain ⟨σ6, H6, S6, q6⟩ := hsp
        exact False.elim q6
      | ret u =>
        obtain ⟨v6, σ6, H6, S6, r6, q6⟩ := hsp
        exact False.elim q6
  · cases f with
    | next =>
      obtain ⟨σ', H', J', q⟩ := hsp
      exact wpAny_execs_nil ⟨σ', H', J'.ofTry ok, q⟩
    | brk =>
      obtain ⟨σ', H', J', q⟩ := hsp
      exact ⟨σ', H', J'.ofTry ok, q⟩
    | cont =>
      obtain ⟨σ', H', J', q⟩ := hsp
      exact ⟨σ', H', J'.ofTry ok, q⟩
    | ret u =>
      obtain ⟨v, σ', H', J', r, q⟩ := hsp
      exact ⟨v, σ', H', J'.ofTry ok, r, q⟩
end
/-! ### calls inside -/
def tMethS (C : Addr) (m : Str) (sp : Sp) (E : L2.St → XK) (ta : TE) (t : TA) : TE := fun σ H Q => ta σ H fun x H1 => ∃ a dx fs, x = .ref a ∧ H1 a = some (.ins C dx fs) ∧ fs.lookup m = none ∧ t σ H1 fun vs H2 => sp (x :: vs) H2 Q (E σ)
def tMethKS (C : Addr) (m : Str) (n mm : Nat) (sp : Sp) (gV : List V → List V → List V) (E : L2.St → XK) (ta : TE) (t tk : TA) : TE := fun σ H Q => ta σ H fun x H1 => ∃ a dx fs, x = .ref a ∧ H1 a = some (.ins C dx fs) ∧ fs.lookup m = none ∧
  t σ H1 fun vs H2 => tk σ H2 fun zs H3 => vs.length = n ∧ zs.length = mm ∧ sp (gV (x :: vs) zs) H3 Q (E σ)
section
variable {X : Cx} {C f : Addr} {ps ks : List Str} {B : ASp} {x m : Str} {p pos apos : Pos} {e o : Expr} {es : List Expr} {kws : List Keyword} {ta : TE} {t tk : TA} {j k n : Nat} {W : WX}
theorem run_fnNS {CX : CXT} {fd : FuncData} {sp : Sp} {g : List Value → List Value → List Value} {gV : List V → List V → List V} {pins : List (Addr × Obj)} {σ : L2.St} {H : Hp} {s : Shared} {Q : VK} {E : XK} {us ws : List Value} {vs zs : List V} (F : FnOk X.prog X.w X.K X.mg X.base CX k f fd ps sp) (hr : Room k X.A) (hb : KBn X.K fd ps n ks g gV) (hx : PassesAt CX X σ E)
    (I : Inv X pins σ H s) (r : Vals vs us) (rz : Vals zs ws) (l1 : vs.length = n) (l2 : zs.length = ks.length) (h : sp (gV vs zs) H Q E) : wpAny (model X.prog X.w) X.A (call (.ref f) us (ks.zip ws)) (EP X pins σ Q) X.xe s := by
  have r2 := hb.rel r rz
  refine wpAny_call (codeAny_mono (F.run X.A X.stack s H ⟨us, ks.zip ws⟩ (g us ws) (gV vs zs) Q E hr I.env0 (hb.to s us ws I.kIn (r.length.symm.trans l1) (rz.length.symm.trans l2)) r2 h) fun r s' hq => ?_)
  cases r with
  | error e => exact hx pins H s e s' I hq
  | ok fl =>
    cases fl with
    | ret u => exact I.after hq
    | next => exact False.elim hq
    | brk => exact False.elim hq
    | cont => exact False.elim hq
theorem pe_mS {pl : Sem Bool} (tk : Takes X W) (he : PE X o ta) (c : Cls X.K C) (hm : Meth X.K C m f) (h : FOk X.prog X.w X.K X.mg X.base j f ps B) (hr : Room k X.A) (ha : PA X (e :: es) t) (hj : j ≤ k := by decide)
    (hst : starEach (e :: es) X.env = (false, eval e X.env) :: starEach es X.env := by rfl) (hpl : (backTo pos (starEach es X.env)).any (·.1) = false := by rfl)
    (ht : eval (.Call (.Attribute o m apos) (e :: es) [] pos) X.env = (do
      let ov ← eval o X.env
      standAt apos.atName
      let (f, first) ← holding [ov] (getMethod ov m pl)
      callWith pos f first (backTo pos (starEach (e :: es) X.env)) (backToKw pos (keywordEach [] X.env))) := by rfl) :
    PE X (.Call (.Attribute o m apos) (e :: es) [] pos) (tMethS C m (spOf X.prog X.w X.K B) (L2.WE W) ta t) := by
  obtain ⟨fd, F, b, kp⟩ := h
  refine ⟨fun pins s σ H Q I h => ?_⟩
  refine PySem.W.methodCall_KW (pl := pl) (thn (he.run pins s σ H _ I h) fun u s1 ⟨x, H1, I1, rx, a, dx, fs, ex, ea, l, q⟩ => ?_) ht
  subst ex
  obtain rfl : u = Value.ref a := rx
  refine getmeth_ok I1 ea c hm l ?_
  refine PySem.W.callWith_K (first := [.ref a]) (h₀ := X.base) I.ok.mod.kin hm.kp (thn (ha.run pos pins s1 σ H1 _ I1 q) fun us s2 ⟨vs, H2, I2, r, q2⟩ => ⟨I2.kIn, ?_⟩) hst hpl
  exact run_fnS (E := L2.WE W) (us := .ref a :: us) (vs := .ref a :: vs) F (hr.mono hj) b (passAt tk σ) I2 (.cons rfl r) q2
theorem pe_m0S {pl : Sem Bool} (tk : Takes X W) (he : PE X o ta) (c : Cls X.K C) (hm : Meth X.K C m f) (h : FOk X.prog X.w X.K X.mg X.base j f ps B) (hr : Room k X.A) (hj : j ≤ k := by decide)
    (ht : eval (.Call (.Attribute o m apos) [] [] pos) X.env = (do
      let ov ← eval o X.env
      standAt apos.atName
      let (f, first) ← holding [ov] (getMethod ov m pl)
      callWith pos f first (backTo pos (starEach [] X.env)) (backToKw pos (keywordEach [] X.env))) := by rfl) :
    PE X (.Call (.Attribute o m apos) [] [] pos) (tMethS C m (spOf X.prog X.w X.K B) (L2.WE W) ta tNil) := by
  obtain ⟨fd, F, b, kp⟩ := h
  refine ⟨fun pins s σ H Q I h => ?_⟩
  refine PySem.W.methodCall_KW (pl := pl) (thn (he.run pins s σ H _ I h) fun u s1 ⟨x, H1, I1, rx, a, dx, fs, ex, ea, l, q⟩ => ?_) ht
  subst ex
  obtain rfl : u = Value.ref a := rx
  refine getmeth_ok I1 ea c hm l ?_
  exact PySem.W.callWith_K0 (first := [.ref a]) I1.kIn hm.kp (run_fnS (E := L2.WE W) (us := [.ref a]) (vs := [.ref a]) F (hr.mono hj) b (passAt tk σ) I1 (.cons rfl .nil) q)
theorem pe_mKS {pl : Sem Bool} (tkk : Takes X W) (he : PE X o ta) (c : Cls X.K C) (hm : Meth X.K C m f) (h : FKOk X.prog X.w X.K X.mg X.base j f ps (n + 1) ks B) (hr : Room k X.A) (ha : PA X (e :: es) t) (hkw : PK X kws tk) (hj : j ≤ k := by decide)
    (hall : (backToKw pos (keywordEach kws X.env)).all (·.1.isSome) = true := by rfl) (hks : (backToKw pos (keywordEach kws X.env)).filterMap (·.1) = ks := by rfl)
    (hst : starEach (e :: es) X.env = (false, eval e X.env) :: starEach es X.env := by rfl) (hpl : ((backTo pos (starEach (e :: es) X.env)).any (·.1) || (backToKw pos (keywordEach kws X.env)).any (·.1.isNone)) = false := by rfl)
    (ht : eval (.Call (.Attribute o m apos) (e :: es) kws pos) X.env = (do
      let ov ← eval o X.env
      standAt apos.atName
      let (f, first) ← holding [ov] (getMethod ov m pl)
      callWith pos f first (backTo pos (starEach (e :: es) X.env)) (backToKw pos (keywordEach kws X.env))) := by rfl) :
    PE X (.Call (.Attribute o m apos) (e :: es) kws pos) (tMethKS C m n ks.length (spOf X.prog X.w X.K B) (fun vs zs => vs ++ zs.reverse) (L2.WE W) ta t tk) := by
  obtain ⟨fd, F, b, kp⟩ := h
  refine ⟨fun pins s σ H Q I h => ?_⟩
  refine PySem.W.methodCall_KW (pl := pl) (thn (he.run pins s σ H _ I h) fun u s1 ⟨x, H1, I1, rx, a, dx, fs, ex, ea, l, q⟩ => ?_) ht
  subst ex
  obtain rfl : u = Value.ref a := rx
  refine getmeth_ok I1 ea c hm l ?_
  refine PySem.W.callWith_KW (first := [.ref a]) (h₀ := X.base) I.ok.mod.kin hm.kp hall (thn (ha.run pos pins s1 σ H1 _ I1 q) fun us s2 ⟨vs, H2, I2, r, q2⟩ => ?_) hpl hst
  refine thn (hkw.run pos pins s2 σ H2 _ I2 q2) fun ws s3 ⟨zs, H3, I3, rz, l1, l2, q3⟩ => ⟨I3.kIn, ?_⟩
  rw [hks]
  exact run_fnNS (E := L2.WE W σ) (us := .ref a :: us) (vs := .ref a :: vs) F (hr.mono hj) b (passAt tkk σ) I3 (.cons rfl r) rz (by rw [List.length_cons, l1]) l2 q3
end
section
variable {X : Cx} {P : Program} {w : World} {K : PySem.W.Frag} {mg : Str → Option Value} {base : Heap} {C f : Addr} {ps ks : List Str} {B : ASp} {x m : Str} {p pos apos : Pos} {e o : Expr} {es : List Expr} {kws : List Keyword} {ta : TE} {t tk : TA} {j k n : Nat} {W : WX}
theorem pe_mST {pl : Sem Bool} (eP : X.prog = P) (ew : X.w = w) (eK : X.K = K) (em : X.mg = mg) (eb : X.base = base) (tk : Takes X W) (he : PE X o ta) (c : Cls K C) (hm : Meth K C m f) (h : FOk P w K mg base j f ps B) (hr : Room k X.A) (ha : PA X (e :: es) t) (hj : j ≤ k := by decide)
    (hst : starEach (e :: es) X.env = (false, eval e X.env) :: starEach es X.env := by rfl) (hpl : (backTo pos (starEach es X.env)).any (·.1) = false := by rfl)
    (ht : eval (.Call (.Attribute o m apos) (e :: es) [] pos) X.env = (do
      let ov ← eval o X.env
      standAt apos.atName
      let (f, first) ← holding [ov] (getMethod ov m pl)
      callWith pos f first (backTo pos (starEach (e :: es) X.env)) (backToKw pos (keywordEach [] X.env))) := by rfl) :
    PE X (.Call (.Attribute o m apos) (e :: es) [] pos) (tMethS C m (spOf P w K B) (L2.WE W) ta t) := by
  subst eP ew eK em eb
  exact pe_mS tk he c hm h hr ha hj hst hpl ht
theorem pe_m0ST {pl : Sem Bool} (eP : X.prog = P) (ew : X.w = w) (eK : X.K = K) (em : X.mg = mg) (eb : X.base = base) (tk : Takes X W) (he : PE X o ta) (c : Cls K C) (hm : Meth K C m f) (h : FOk P w K mg base j f ps B) (hr : Room k X.A) (hj : j ≤ k := by decide)
    (ht : eval (.Call (.Attribute o m apos) [] [] pos) X.env = (do
      let ov ← eval o X.env
      standAt apos.atName
      let (f, first) ← holding [ov] (getMethod ov m pl)
      callWith pos f first (backTo pos (starEach [] X.env)) (backToKw pos (keywordEach [] X.env))) := by rfl) :
    PE X (.Call (.Attribute o m apos) [] [] pos) (tMethS C m (spOf P w K B) (L2.WE W) ta tNil) := by
  subst eP ew eK em eb
  exact pe_m0S tk he c hm h hr hj ht
theorem pe_mKST {pl : Sem Bool} (eP : X.prog = P) (ew : X.w = w) (eK : X.K = K) (em : X.mg = mg) (eb : X.base = base) (tkk : Takes X W) (he : PE X o ta) (c : Cls K C) (hm : Meth K C m f) (h : FKOk P w K mg base j f ps (n + 1) ks B) (hr : Room k X.A) (ha : PA X (e :: es) t) (hkw : PK X kws tk) (hj : j ≤ k := by decide)
    (hall : (backToKw pos (keywordEach kws X.env)).all (·.1.isSome) = true := by rfl) (hks : (backToKw pos (keywordEach kws X.env)).filterMap (·.1) = ks := by rfl)
    (hst : starEach (e :: es) X.env = (false, eval e X.env) :: starEach es X.env := by rfl) (hpl : ((backTo pos (starEach (e :: es) X.env)).any (·.1) || (backToKw pos (keywordEach kws X.env)).any (·.1.isNone)) = false := by rfl)
    (ht : eval (.Call (.Attribute o m apos) (e :: es) kws pos) X.env = (do
      let ov ← eval o X.env
      standAt apos.atName
      let (f, first) ← holding [ov] (getMethod ov m pl)
      callWith pos f first (backTo pos (starEach (e :: es) X.env)) (backToKw pos (keywordEach kws X.env))) := by rfl) :
    PE X (.Call (.Attribute o m apos) (e :: es) kws pos) (tMethKS C m n ks.length (spOf P w K B) (fun vs zs => vs ++ zs.reverse) (L2.WE W) ta t tk) := by
  subst eP ew eK em eb
  exact pe_mKS tkk he c hm h hr ha hkw hj hall hks hst hpl ht
end
/-! ### phase 2 -/
theorem Sl.unset2 {K : PySem.W.Frag} {F : Hp} {σ : L2.St} {Γ : Gm} (i : Nat) (h : Sl K F σ Γ) : Sl K F (σ.set i none) (Γ.set i none) := h.wipe [i]
theorem RsA.reverse {K : PySem.W.Frag} {F : Hp} : ∀ {vs : List V} {ds : List D}, RsA K F vs ds → RsA K F vs.reverse ds.reverse
  | _, _, .nil => .nil
  | _, _, .cons h r => by
    rw [List.reverse_cons, List.reverse_cons]
    exact (RsA.reverse r).append (.cons h .nil)
section
variable (P : Program) (w : World) (K : PySem.W.Frag)
def LkW (F : Hp) (σ : L2.St) (ex : Ex) (W : WX) : Prop := ∀ cls F' H' L', Same F F' → Spl P w K F' L' H' → ex cls L' → W cls none σ H'
def WSx (ts : TS) (Γ : Gm) (L : Sto) (W : WX) (ex : Ex) (A : Pst) : Prop := ∀ (σ : L2.St) (F H : Hp) (De : Ends), Sl K F σ Γ → Spl P w K F L H → LkW P w K F σ ex W → EOk P w K F A De → ts De σ H
def WEx (te : TE) (Γ : Gm) (L : Sto) (W : WX) (ex : Ex) (Φ : D → Sto → Prop) : Prop := ∀ (σ : L2.St) (F H : Hp) (Q : VK), Sl K F σ Γ → Spl P w K F L H → LkW P w K F σ ex W → KV1 P w K F Φ Q → te σ H Q
end
section
variable {P : Program} {w : World} {K : PySem.W.Frag} {E : XK} {F F' H H' : Hp} {σ : L2.St} {Γ Γ' : Gm} {L L' : Sto} {ex : Ex} {Φ Φ' : D → Sto → Prop} {Q : VK} {ta tb te tx : TE} {d d' : D} {A : Pst} {W : WX} {t : TT} {ts us : TS} {tr tk : TA} {B : ASp}
theorem LkW.mono (e : Same F F') (h : LkW P w K F σ ex W) : LkW P w K F' σ ex W := fun cls F2 H2 L2 e2 s q => h cls F2 H2 L2 (Same.tr e e2) s q
theorem wsx_if (h : WT P w K E0 t Γ L Ex0 fun b L1 => (b = true → WSx P w K ts Γ L1 W ex A) ∧ (b = false → WSx P w K us Γ L1 W ex A)) : WSx P w K (tIfS t ts us) Γ L W ex A := fun σ F H De sl S lk k =>
  h σ F H _ sl S Lk0 fun b F1 H1 L1 e1 S1 q => by
    cases b with
    | true => exact q.1 rfl σ F1 H1 De (sl.mono e1) S1 (lk.mono e1) (k.mono e1)
    | false => exact q.2 rfl σ F1 H1 De (sl.mono e1) S1 (lk.mono e1) (k.mono e1)
theorem wsx_set {n : Nat} (h : WEx P w K te Γ L W ex fun d L1 => A.nx (Γ.set n (some d)) L1) : WSx P w K (tAsg te (gName n)) Γ L W ex A := fun σ F H De sl S lk k =>
  h σ F H _ sl S lk fun v d F1 H1 L1 e1 S1 r1 q => k.nx _ _ F1 H1 L1 e1 ((sl.mono e1).set n r1) S1 q
theorem wex_meth {C : Addr} {m : Str} (h : WE P w K E0 ta Γ L Ex0 fun x L1 => ∃ a fs g, x = .ref a ∧ At a (.ins C fs) L1 g ∧ fs.lookup m = none ∧ WA P w K E0 tr Γ L1 Ex0 fun ds L2 => B (.ref a :: ds) L2 Φ ex) : WEx P w K (tMethS C m (spOf P w K B) (L2.WE W) ta tr) Γ L W ex Φ := fun σ F H Q sl S lk k =>
  h σ F H _ sl S Lk0 fun vx x F1 H1 L1 e1 S1 r1 ⟨a, fs, g, ex1, ht, hm, q⟩ => by
    subst ex1
    obtain ⟨np, o, ho, dx, vs, rfl, rf⟩ := S1.look ht
    have ev := r1.ref_inv
    subst ev
    exact ⟨a, dx, vs, rfl, ho, rf_none rf hm, q σ F1 H1 _ (sl.mono e1) S1 Lk0 fun us ds F2 H2 L2 e2 S2 r2 q2 => ⟨F2, _, L2, Φ, ex, .cons (.ref a) r2, S2, q2, k.mono (Same.tr e1 e2), fun cls F3 H3 L3 e3 S3 q3 => lk cls F3 H3 L3 (Same.tr (Same.tr e1 e2) e3) S3 q3⟩⟩
theorem wex_methK {C : Addr} {m : Str} {n mm : Nat} (h : WE P w K E0 ta Γ L Ex0 fun x L1 => ∃ a fs g, x = .ref a ∧ At a (.ins C fs) L1 g ∧ fs.lookup m = none ∧ WA P w K E0 tr Γ L1 Ex0 fun ds L2 => WA P w K E0 tk Γ L2 Ex0 fun es L3 => ds.length = n ∧ es.length = mm ∧ B (.ref a :: (ds ++ es.reverse)) L3 Φ ex) :
    WEx P w K (tMethKS C m n mm (spOf P w K B) (fun vs zs => vs ++ zs.reverse) (L2.WE W) ta tr tk) Γ L W ex Φ := fun σ F H Q sl S lk k =>
  h σ F H _ sl S Lk0 fun vx x F1 H1 L1 e1 S1 r1 ⟨a, fs, g, ex1, ht, hm, q⟩ => by
    subst ex1
    obtain ⟨np, o, ho, dx, vs, rfl, rf⟩ := S1.look ht
    have ev := r1.ref_inv
    subst ev
    exact ⟨a, dx, vs, rfl, ho, rf_none rf hm, q σ F1 H1 _ (sl.mono e1) S1 Lk0 fun us ds F2 H2 L2 e2 S2 r2 q2 => q2 σ F2 H2 _ (sl.mono (Same.tr e1 e2)) S2 Lk0 fun zs es F3 H3 L3 e3 S3 r3 ⟨l1, l2, q3⟩ =>
      ⟨by rw [r2.length, l1], by rw [r3.length, l2], F3, _, L3, Φ, ex, .cons (.ref a) ((r2.mono e3).append r3.reverse), S3, q3, k.mono (Same.tr e1 (Same.tr e2 e3)), fun cls F4 H4 L4 e4 S4 q4 => lk cls F4 H4 L4 (Same.tr e1 (Same.tr e2 (Same.tr e3 e4))) S4 q4⟩⟩
theorem ws_tryK {X : Cx} {c : Value} {i : Nat} {body suite : List Stmt} {exB : Ex} (eK : X.K = K)
    (hb : ∀ W : WX, ∃ tb : TS, (∀ (pn : List (Addr × Obj)) (xe : Value → Shared → Prop), Takes (X.tr pn xe) W → PassesOwn (model X.prog X.w) X.A X.env xe → PSs (X.tr pn xe) body tb) ∧ WSx P w K tb Γ L W exB A)
    (hx : ∀ cls L', exB cls L' → PySem.W.exmOne K cls c = some true ∧ ∀ a, ∃ ts : TS, (∀ (oe : Obj) (pn : List (Addr × Obj)), Zc cls none oe → (∃ vs, oe.data = .fields vs) → PSs (X.suite a ((a, oe) :: pn)) suite ts) ∧
      WS P w K E0 ts (Γ.set i (some (.ref a))) L' { nx := fun Γ' L2 => A.nx (Γ'.set i none) ((a, .exc cls) :: L2), rt := fun _ _ => False }) : WS P w K E (tTryK X c i body suite) Γ L A := fun σ F H De sl S lk k => by
  subst eK
  obtain ⟨tb, h1, h2⟩ := hb fun cls d σ1 H1 => σ1 = σ ∧ d = none ∧ ∃ F' L', Same F F' ∧ Spl P w X.K F' L' H1 ∧ exB cls L'
  refine ⟨_, tb, h1, ?_, h2 σ F H De sl S (fun cls F1 H1 L1 e1 S1 q => ⟨rfl, rfl, F1, L1, e1, S1, q⟩) k⟩
  rintro cls d σ1 H1 ⟨rfl, rfl, F1, L1, e1, S1, q⟩
  obtain ⟨g1, g2⟩ := hx cls L1 q
  refine ⟨g1, rfl, fun a ha => ?_⟩
  obtain ⟨ts, p1, p2⟩ := g2 a
  refine ⟨ts, p1, ?_⟩
  refine p2 _ F1 H1 _ ((sl.mono e1).set i (.ref a)) S1 Lk0 ⟨fun σ2 Γ2 F2 H2 L2 e2 s2 S2 q2 na => ?_, fun _ _ _ _ _ _ _ _ q => q.elim, fun _ _ _ _ _ _ _ _ q => q.elim, fun _ _ _ _ _ _ _ _ q => q.elim⟩
  exact k.nx _ _ F2 _ _ (Same.tr e1 e2) (s2.unset2 i) (S2.new (c := .exc cls) na rfl) q2
end
/-! ### isinstance of a kept exception -/
def rIsX (K : PySem.W.Frag) : List V → Hp → VK → Prop := fun xs H Q => ∃ (a D : Addr) (c : V) (cv : Value) (b : Bool), xs = [.ref a, c] ∧ H a = some (.ext (excPhi (.ref D) a)) ∧ ExcC K D ∧ (∀ u, RelV c u → u = cv) ∧ PySem.W.kitOne K (.ref D) cv = some b ∧ Q (.bl b) H
theorem call_isX {X : Cx} : CallR X (.builtin "isinstance") (rIsX X.K) := by
  intro pins s σ H xs us Q I r h
  obtain ⟨a, D, c, cv, b, rfl, ha, C, hcv, e, q⟩ := h
  cases r with
  | cons rx rr =>
    cases rr with
    | cons rt rr =>
      cases rr
      cases rx
      have ec := hcv _ rt
      subst ec
      obtain ⟨⟨oe, vs, hget, hz, hv⟩, _, _⟩ := I.hok a _ ha
      have J : PySem.W.InstAt s.heap a oe D none := by
        obtain ⟨oc, od, oda, osl⟩ := oe
        obtain ⟨h1, h2⟩ := hz
        dsimp only at h1 h2 hv
        subst h1 h2 hv
        exact ⟨hget, rfl, rfl, trivial⟩
      exact PySem.W.kia_one (PySem.W.handS_kitx_exc C.hg C.hk C.hs C.hd C.ha C.hn C.ht C.hm) I.kIn J e (fun z => nomatch z) fun tk => ⟨.bl b, H, I.kept (t' := tk) fun _ _ z => z, rfl, q⟩
section
variable {P : Program} {w : World} {K : PySem.W.Frag} {mg : Str → Option Value} {L : Sto} {Φ : D → Sto → Prop}
theorem wc_isX {a Da : Addr} {cv : Value} {c : V} {y : D} {f : Co → Sto} {b : Bool} (ht : At a (.exc (.ref Da)) L f) (C : ExcC K Da) (hy : y.v = some c) (hcv : ∀ u, RelV c u → u = cv) (hk : PySem.W.kitOne K (.ref Da) cv = some b) (q : Φ (.bl b) L) : WC P w K (rIsX K) [.ref a, y] L Φ := fun F H vs Q r S k => by
  obtain ⟨v, u, rfl, r1, r2⟩ := rsa2 r
  obtain ⟨_, o, ho, ro⟩ := S.look ht
  have ro2 : o = .ext (excPhi (.ref Da) a) := ro
  subst ro2
  refine ⟨a, Da, c, cv, b, ?_, ho, C, hcv, hk, k.here S (.bl b) q⟩
  rw [r1.ref_inv, r2.of_v hy]
theorem excC_of (T : Tx K mg) {x : Str} (hx : x ∈ excNames) (hs : PySem.W.subIn K (.ref (He.ga K x)) (.type "BaseException") = some true) :
    ExcC K (He.ga K x) ∧ PySem.W.kitOne K (.ref (He.ga K x)) (.type "ValueError") = some true ∧ ∀ y ∈ excNames, PySem.W.kitOne K (.ref (He.ga K x)) (.ref (He.ga K y)) = some (decide (x = y) || decide (y = "CoinError")) := by
  have h := T.exs
  unfold ex at h
  simp only [Bool.and_eq_true] at h
  obtain ⟨h1, h2, h3⟩ := h
  have h4 := List.all_eq_true.mp h3 x hx
  unfold exOne at h4
  simp only [Bool.and_eq_true] at h4
  obtain ⟨a1, a2, a3, a4, a5, a6, a7⟩ := h4
  exact ⟨⟨He.eqO_ok a1, He.eqO_ok a2, hs, a3, He.eqO_ok a4, He.eqO_ok h1, of_decide_eq_true h2, of_decide_eq_true a5⟩, of_decide_eq_true a6, fun y hy => of_decide_eq_true (List.all_eq_true.mp a7 y hy)⟩
end
end Cl
set_option Elab.async false
set_option linter.all false
set_option maxRecDepth 100000
set_option maxHeartbeats 4000000
namespace Cl
open PySem PySem.Spec PyProof.Rows L2
local macro_rules | `(tactic| walk_at "at") => `(tactic| first | assumption | repeat first | with_reducible exact At.here | with_reducible exact at_mc | with_reducible exact at_mb | with_reducible exact at_mo | with_reducible exact at_ms | with_reducible exact at_md | with_reducible exact at_kb | with_reducible exact at_kn | with_reducible exact at_ko | with_reducible exact at_ks | with_reducible exact at_kr | with_reducible exact at_kd | with_reducible apply At.tail | (with_reducible apply At.in (by assumption)))
local macro_rules | `(tactic| walk_at "fact") => `(tactic| first | exact c_Court (by assumption) | exact c_Lane (by assumption) | exact c_Signs (by assumption) | exact n_Court_clock (by assumption) | exact n_Court_long (by assumption) | exact n_Court_bags (by assumption) | exact n_Court_book (by assumption) | exact n_Court_opened (by assumption) | exact n_Court_seen (by assumption) | exact n_Court_kept (by assumption) | exact n_Court_deeds (by assumption) | exact n_Lane_both (by assumption) | exact n_Lane_first (by assumption) | exact n_Lane_standing (by assumption) | exact n_Lane_mood (by assumption) | exact n_Lane_ending (by assumption) | exact n_Signs_by_hand (by assumption))
local macro_rules | `(tactic| walk_at "ge") => `(tactic| first
  | with_reducible refine we_var rfl ?_
  | with_reducible refine we_int ?_
  | with_reducible refine we_str ?_
  | with_reducible refine we_ty ?_
  | with_reducible refine we_bl ?_
  | with_reducible refine we_non ?_
  | with_reducible refine we_ref ?_
  | with_reducible refine we_op ?_
  | with_reducible refine we_cb ?_
  | with_reducible refine we_call0 ?_
  | with_reducible refine we_call ?_
  | with_reducible refine we_lst ?_
  | with_reducible refine we_tup ?_
  | with_reducible refine we_andV ?_
  | with_reducible refine we_orV ?_
  | with_reducible refine we_notV ?_
  | with_reducible refine we_if ?_
  | with_reducible refine we_chain ?_
  | with_reducible refine we_sl ?_
  | with_reducible refine we_lz ?_
  | with_reducible refine we_dnewK (fun _ => ?_)
  | with_reducible refine we_dnewN (fun _ => ?_)
  | with_reducible refine we_fld ?_
  | with_reducible refine we_dget ?_
  | with_reducible refine we_din ?_
  | with_reducible refine we_dnotIn ?_
  | with_reducible refine we_dget2 ?_
  | with_reducible refine we_dsetd ?_
  | with_reducible refine we_make ?_
  | with_reducible refine we_meth0 ?_
  | with_reducible refine we_meth ?_
  | with_reducible refine we_bm ?_)
local macro_rules | `(tactic| walk_at "gt") => `(tactic| first
  | with_reducible refine wt_B ?_
  | with_reducible refine wt_test ?_
  | with_reducible refine wt_not ?_
  | with_reducible refine wt_and ?_
  | with_reducible refine wt_or ?_
  | with_reducible refine wt_yes ?_)
local macro_rules | `(tactic| walk_at "gst") => `(tactic| first
  | with_reducible refine ws_ret ?_
  | with_reducible refine ws_retN ?_
  | with_reducible refine ws_seq ?_
  | with_reducible refine ws_set ?_
  | with_reducible refine ws_drop ?_
  | with_reducible refine ws_if ?_
  | with_reducible refine ws_next ?_
  | with_reducible refine ws_raise ?_
  | with_reducible refine ws_asgS ?_
  | with_reducible refine ws_setL ?_
  | with_reducible refine ws_setN ?_
  | with_reducible refine ws_asg ?_
  | with_reducible refine ws_fld ?_
  | with_reducible refine ws_fldaddI ?_
  | with_reducible refine ws_dput ?_)
local macro_rules | `(tactic| walk_at "gr") => `(tactic| first
  | with_reducible refine wr_ixT rfl ?_
  | with_reducible refine wr_ixL rfl ?_
  | with_reducible refine ix_t0 ?_
  | with_reducible refine ix_t1 ?_
  | with_reducible refine ix_t2 ?_
  | with_reducible refine ix_t3 ?_
  | with_reducible refine ix_t4 ?_
  | with_reducible refine ix_l0 ?_
  | with_reducible refine ix_l1 ?_
  | with_reducible refine ix_l2 ?_
  | with_reducible refine ix_l3 ?_
  | with_reducible refine ix_l4 ?_
  | with_reducible refine wr_int ?_
  | (with_reducible refine isPow ?_; with_reducible refine wr_powL (by decide) (by decide) (by decide) ?_)
  | with_reducible refine wr_bool ?_
  | with_reducible refine wr_eqI ?_
  | with_reducible refine wr_neI ?_
  | with_reducible refine wr_eqS ?_
  | with_reducible refine wr_neS ?_
  | with_reducible refine wr_eqB ?_
  | with_reducible refine wr_neB ?_
  | with_reducible refine wr_isN ?_
  | with_reducible refine wr_notN ?_
  | (with_reducible refine isIxC ?_; with_reducible refine wr_ixC (by walk_at "at") (by with_unfolding_all rfl) ?_))
local macro_rules | `(tactic| walk_at "gc") => `(tactic| first
  | with_reducible refine wc_isi rfl rfl ?_
  | with_reducible refine wc_isi (by decide) (by decide +kernel) ?_
  | (with_reducible refine isLen ?_; with_reducible refine wc_lenC (by walk_at "at") ?_)
  | with_reducible refine wc_lenT ?_
  | with_reducible refine wc_lenL ?_)
local macro_rules | `(tactic| walk_at "ga") => `(tactic| first
  | with_reducible refine wa_cons ?_
  | with_reducible refine wa_nil ?_)
local macro_rules | `(tactic| walk_at "gx") => `(tactic| first
  | (with_reducible refine isLn ?_; with_reducible refine lenAnd (by simp) ?_)
  | with_reducible refine wsl_tup ?_
  | with_reducible refine wo_none ?_
  | with_reducible refine wo_some ?_
  | with_reducible refine ex_bl ?_
  | with_reducible refine ex_int ?_
  | with_reducible refine ex_str ?_
  | with_reducible refine ex_tup ?_
  | with_reducible refine ex_lst ?_
  | with_reducible refine ex_etup ?_
  | with_reducible refine br_true ?_
  | with_reducible refine br_false ?_
  | (with_reducible refine isBr ?_; refine br_t rfl ?_)
  | (with_reducible refine isBr ?_; refine br_f rfl ?_)
  | (with_reducible refine isFld ?_; with_reducible refine ex_fld (by walk_at "at") (by walk_at "fact") (by walk_at "fact") (by with_unfolding_all rfl) ?_)
  | (with_reducible refine isPut ?_; with_reducible refine ex_put (by walk_at "at") (by walk_at "fact") (by walk_at "fact") (by with_unfolding_all exact of_decide_eq_true rfl) ?_)
  | (with_reducible refine isMeth ?_; with_reducible refine ex_meth (by walk_at "at") (by with_unfolding_all rfl) ?_)
  | (with_reducible refine isTy ?_; with_reducible refine And.intro (ty_cell (by walk_at "at")) ?_)
  | with_reducible refine k_whole ?_
  | with_reducible refine k_count ?_
  | with_reducible refine k_amount ?_)
local macro_rules | `(tactic| walk_at "s") => `(tactic| first
  | (with_reducible refine isWE ?_; walk_at "ge")
  | (with_reducible refine isWS ?_; walk_at "gst")
  | (with_reducible refine isWT ?_; walk_at "gt")
  | (with_reducible refine isWR ?_; walk_at "gr")
  | (with_reducible refine isWA ?_; walk_at "ga")
  | (with_reducible refine isWC ?_; walk_at "gc")
  | walk_at "gx")
local macro_rules | `(tactic| walk_at "w") => `(tactic| repeat walk_at "s")

section
variable {P : Program} {w : World} {K : PySem.W.Frag} {mg : Str → Option Value} {base : Heap}
/-! ### kinds of refusals -/
def kinds : List Str := ["NoHand", "NoCoins", "NotSigned", "NoLane", "Settled", "Old"]
theorem kinds_exc {x : Str} (h : x ∈ kinds) : x ∈ excNames := by
  simp only [kinds, List.mem_cons, List.not_mem_nil, or_false] at h
  rcases h with rfl | rfl | rfl | rfl | rfl | rfl <;> decide +kernel
theorem kinds_sub (T : Tx K mg) {x : Str} (h : x ∈ kinds) : PySem.W.subIn K (.ref (He.ga K x)) (.type "BaseException") = some true := by
  simp only [kinds, List.mem_cons, List.not_mem_nil, or_false] at h
  rcases h with rfl | rfl | rfl | rfl | rfl | rfl
  · exact (x_NoHand T).2.2.1
  · exact (x_NoCoins T).2.2.1
  · exact (x_NotSigned T).2.2.1
  · exact (x_NoLane T).2.2.1
  · exact (x_Settled T).2.2.1
  · exact (x_Old T).2.2.1
theorem kinds_coin (T : Tx K mg) {x : Str} (h : x ∈ kinds) : PySem.W.exmOne K (.ref (He.ga K x)) (.ref (He.ga K "CoinError")) = some true := by
  simp only [kinds, List.mem_cons, List.not_mem_nil, or_false] at h
  rcases h with rfl | rfl | rfl | rfl | rfl | rfl
  · exact xm_NoHand T
  · exact xm_NoCoins T
  · exact xm_NotSigned T
  · exact xm_NoLane T
  · exact xm_Settled T
  · exact xm_Old T
theorem wc_isN (T : Tx K mg) {a : Addr} {nm y : Str} {L : Sto} {f : Co → Sto} {Φ : D → Sto → Prop} (hn : nm ∈ kinds) (ht : At a (.exc (exC K nm)) L f) (hy : y ∈ excNames) (q : Φ (.bl (decide (nm = y) || decide (y = "CoinError"))) L) : WC P w K (rIsX K) [.ref a, .ref (He.ga K y)] L Φ := by
  obtain ⟨C, h1, h2⟩ := excC_of T (kinds_exc hn) (kinds_sub T hn)
  exact wc_isX ht C rfl (fun u r => r) (h2 y hy) q
theorem wc_isV (T : Tx K mg) {a : Addr} {nm : Str} {L : Sto} {f : Co → Sto} {Φ : D → Sto → Prop} (hn : nm ∈ kinds) (ht : At a (.exc (exC K nm)) L f) (q : Φ (.bl true) L) : WC P w K (rIsX K) [.ref a, .ty "ValueError"] L Φ := by
  obtain ⟨C, h1, h2⟩ := excC_of T (kinds_exc hn) (kinds_sub T hn)
  exact wc_isX ht C rfl (fun u r => r) h1 q
abbrev aKind (K : PySem.W.Frag) : ASp := A1 fun self L Φ _ => ∃ a nm f, self = .ref a ∧ At a (.exc (exC K nm)) L f ∧ nm ∈ kinds ∧ Φ (.str nm) L
theorem sc_law_kind : FnScope ["_law_e", "_law_named", "_law_found", "_law_one", "_law_so"] ["_law_e"] d_law_kind.scope := ⟨rfl, rfl, rfl, by decide +kernel, rfl, by decide +kernel, by decide +kernel⟩
theorem ok_law_kind (T : Tx K mg) : FOk P w K mg base 1 (He.fAd K d_law_kind.at_) ["_law_e"] (aKind K) := by
  refine fok_of (d := d_law_kind) T 57 (k := 0) rfl rfl rfl sc_law_kind (fun ds L Φ ex h => A1.len h) (fun _ _ _ _ _ _ us hl => match us, hl with | [_], _ => rfl) (fun cdv Ar outer s H E ds L Φ ex hr h => ?_)
  obtain ⟨e, rfl, h⟩ := h
  refine ⟨_, (pss_cons (ps_set (i := 1) sc_law_kind.nd rfl (Or.inl rfl) (pe_lst (pa_cons (pe_tup (pa_cons pe_str (pa_cons (pe_callB call_isX rfl (f_isinstance T) (by decide +kernel) (pa_cons (pv 0) (pa_cons (pe_gcls rfl (g_NoCoins T)) pa_nil))) pa_nil))) (pa_cons (pe_tup (pa_cons pe_str (pa_cons (pe_callB call_isX rfl (f_isinstance T) (by decide +kernel) (pa_cons (pv 0) (pa_cons (pe_gcls rfl (g_NoHand T)) pa_nil))) pa_nil))) pa_nil))))
    (pss_cons (ps_set (i := 1) sc_law_kind.nd rfl (Or.inl rfl) (pe_op op_catX (pv 1) (pe_lst (pa_cons (pe_tup (pa_cons pe_str (pa_cons (pe_callB call_isX rfl (f_isinstance T) (by decide +kernel) (pa_cons (pv 0) (pa_cons (pe_gcls rfl (g_NoLane T)) pa_nil))) pa_nil))) (pa_cons (pe_tup (pa_cons pe_str (pa_cons (pe_callB call_isX rfl (f_isinstance T) (by decide +kernel) (pa_cons (pv 0) (pa_cons (pe_gcls rfl (g_NoName T)) pa_nil))) pa_nil))) pa_nil)))))
    (pss_cons (ps_set (i := 1) sc_law_kind.nd rfl (Or.inl rfl) (pe_op op_catX (pv 1) (pe_lst (pa_cons (pe_tup (pa_cons pe_str (pa_cons (pe_callB call_isX rfl (f_isinstance T) (by decide +kernel) (pa_cons (pv 0) (pa_cons (pe_gcls rfl (g_NoNumber T)) pa_nil))) pa_nil))) pa_nil))))
    (pss_cons (ps_set (i := 1) sc_law_kind.nd rfl (Or.inl rfl) (pe_op op_catX (pv 1) (pe_lst (pa_cons (pe_tup (pa_cons pe_str (pa_cons (pe_callB call_isX rfl (f_isinstance T) (by decide +kernel) (pa_cons (pv 0) (pa_cons (pe_gcls rfl (g_NoState T)) pa_nil))) pa_nil))) (pa_cons (pe_tup (pa_cons pe_str (pa_cons (pe_callB call_isX rfl (f_isinstance T) (by decide +kernel) (pa_cons (pv 0) (pa_cons (pe_gcls rfl (g_NotSigned T)) pa_nil))) pa_nil))) pa_nil)))))
    (pss_cons (ps_set (i := 1) sc_law_kind.nd rfl (Or.inl rfl) (pe_op op_catX (pv 1) (pe_lst (pa_cons (pe_tup (pa_cons pe_str (pa_cons (pe_callB call_isX rfl (f_isinstance T) (by decide +kernel) (pa_cons (pv 0) (pa_cons (pe_gcls rfl (g_Old T)) pa_nil))) pa_nil))) (pa_cons (pe_tup (pa_cons pe_str (pa_cons (pe_callB call_isX rfl (f_isinstance T) (by decide +kernel) (pa_cons (pv 0) (pa_cons (pe_gcls rfl (g_Settled T)) pa_nil))) pa_nil))) pa_nil)))))
    (pss_cons (ps_set (i := 1) sc_law_kind.nd rfl (Or.inl rfl) (pe_op op_catX (pv 1) (pe_lst (pa_cons (pe_tup (pa_cons pe_str (pa_cons (pe_callB call_isX rfl (f_isinstance T) (by decide +kernel) (pa_cons (pv 0) (pa_cons (pe_gcls rfl (g_NoSecret T)) pa_nil))) pa_nil))) (pa_cons (pe_tup (pa_cons pe_str (pa_cons (pe_callB call_isX rfl (f_isinstance T) (by decide +kernel) (pa_cons (pv 0) (pa_cons (pe_gcls rfl (g_NoPaper T)) pa_nil))) pa_nil))) pa_nil)))))
    (pss_cons (ps_setLc (i := 2) (own := [("_law_one", 3), ("_law_so", 4)]) rfl sc_law_kind.nd rfl rfl (sw_true rfl rfl rfl (by decide +kernel)) (pi_list (pv 1)) (blkOk_by (own := [("_law_one", 3), ("_law_so", 4)]) (N := ["_law_e", "_law_named", "_law_found", "_law_one", "_law_so"]) (sc := d_law_kind.scope) (by decide +kernel)) (fun _ _ _ _ _ => by exact (pg_tupK (n := 2) (K := K) rfl rfl (pgs_cons (pg_name (i := 3) sc_law_kind.nd rfl (Or.inl rfl)) (pgs_cons (pg_name (i := 4) sc_law_kind.nd rfl (Or.inl rfl)) pgs_nil)))) (fun _ _ _ _ _ => by exact (pts_one (pt_val (pv 4)))) (fun _ _ _ _ _ => by exact (pv 3)))
    (pss_cons (ps_if (PW.pt (pw_or (pt_cmpR op_ne (pe_callB call_len rfl (f_len T) (by decide +kernel) (pa_cons (pv 2) pa_nil)) pe_int (nomark _)) (pw_or (pt_not (pt_val (pe_callB call_isX rfl (f_isinstance T) (by decide +kernel) (pa_cons (pv 0) (pa_cons (pe_gcls rfl (g_CoinError T)) pa_nil))))) (pw_or1 (pt_not (pt_val (pe_callB call_isX rfl (f_isinstance T) (by decide +kernel) (pa_cons (pv 0) (pa_cons (pe_gty (n := "ValueError") rfl (f_ValueError T) (by decide +kernel)) pa_nil))))))))) (pss_one (ps_ret pe_str)) pss_nil)
    (pss_one (ps_ret (pe_ix ix_list (pv 2) pe_int (fun _ _ => rfl)))))))))))), ?_⟩
  obtain ⟨a, nm, f, rfl, ht, hn, h⟩ := h
  dsimp only [cxOf]
  walk_at "w"
  refine wc_isN T hn ht (by decide +kernel) ?_
  walk_at "w"
  refine wc_isN T hn ht (by decide +kernel) ?_
  walk_at "w"
  refine wc_isN T hn ht (by decide +kernel) ?_
  walk_at "w"
  refine wc_isN T hn ht (by decide +kernel) ?_
  walk_at "w"
  refine wr_cat (.inl rfl) (.inl rfl) (by simp) ?_
  walk_at "w"
  refine wc_isN T hn ht (by decide +kernel) ?_
  walk_at "w"
  refine wr_cat (.inl rfl) (.inl rfl) (by simp) ?_
  walk_at "w"
  refine wc_isN T hn ht (by decide +kernel) ?_
  walk_at "w"
  refine wc_isN T hn ht (by decide +kernel) ?_
  walk_at "w"
  refine wr_cat (.inl rfl) (.inl rfl) (by simp) ?_
  walk_at "w"
  refine wc_isN T hn ht (by decide +kernel) ?_
  walk_at "w"
  refine wc_isN T hn ht (by decide +kernel) ?_
  walk_at "w"
  refine wr_cat (.inl rfl) (.inl rfl) (by simp) ?_
  walk_at "w"
  refine wc_isN T hn ht (by decide +kernel) ?_
  walk_at "w"
  refine wc_isN T hn ht (by decide +kernel) ?_
  walk_at "w"
  refine wr_cat (.inl rfl) (.inl rfl) (by simp) ?_
  walk_at "w"
  refine we_lcP (wi_listD ?_)
  walk_at "w"
  refine ⟨fun _ _ => trivial, by simp, fun d => (match d with | .tup [_, .bl b] => b | _ => false), fun d => (match d with | .tup [x, _] => x | d => d), fun d hd p acc => ?_, ?_⟩
  · obtain ⟨x, b, rfl⟩ : ∃ x b, d = .tup [.str x, .bl b] := by
      simp only [List.cons_append, List.nil_append, List.mem_cons, List.not_mem_nil, or_false] at hd
      rcases hd with rfl | rfl | rfl | rfl | rfl | rfl | rfl | rfl | rfl | rfl | rfl <;> exact ⟨_, _, rfl⟩
    refine ⟨_, wg_tup (us := [(3, .str x), (4, .bl b)]) rfl (wgs_cons wg_name (wgs_cons wg_name wgs_nil)), by simp, ?_⟩
    walk_at "w"
    refine ⟨fun hb => ?_, fun hb => ⟨hb, rfl⟩⟩
    walk_at "w"
    exact ⟨hb, rfl, rfl⟩
  · have hn2 := hn
    simp only [kinds, List.mem_cons, List.not_mem_nil, or_false] at hn2
    generalize hds : (List.filter _ _).map _ = ds
    have e : ds = [.str nm] := by
      rw [← hds]
      rcases hn2 with rfl | rfl | rfl | rfl | rfl | rfl <;> rfl
    rw [e]
    refine WS.unset 1 ?_
    dsimp only [startG, List.set_cons_succ, List.set_cons_zero, List.map_cons, List.map_nil, List.length_cons, List.length_nil, List.replicate, List.cons_append, List.nil_append]
    walk_at "w"
    refine wc_isN T hn ht (by decide +kernel) ?_
    walk_at "w"
    refine br_f (by rw [decide_eq_true (show ("CoinError" : Str) = "CoinError" from rfl), Bool.or_true]; rfl) ?_
    walk_at "w"
    refine wc_isV T hn ht ?_
    walk_at "w"
    exact h
end
end Cl
set_option Elab.async false
set_option linter.all false
set_option maxRecDepth 100000
set_option maxHeartbeats 4000000
namespace Cl
open PySem PySem.Spec PyProof.Rows L2
local macro_rules | `(tactic| walk_at "at") => `(tactic| first | assumption | repeat first | with_reducible exact At.here | with_reducible exact at_mc | with_reducible exact at_mb | with_reducible exact at_mo | with_reducible exact at_ms | with_reducible exact at_md | with_reducible exact at_kb | with_reducible exact at_kn | with_reducible exact at_ko | with_reducible exact at_ks | with_reducible exact at_kr | with_reducible exact at_kd | with_reducible apply At.tail | (with_reducible apply At.in (by assumption)))
local macro_rules | `(tactic| walk_at "fact") => `(tactic| first | exact c_Court (by assumption) | exact c_Lane (by assumption) | exact c_Signs (by assumption) | exact n_Court_clock (by assumption) | exact n_Court_long (by assumption) | exact n_Court_bags (by assumption) | exact n_Court_book (by assumption) | exact n_Court_opened (by assumption) | exact n_Court_seen (by assumption) | exact n_Court_kept (by assumption) | exact n_Court_deeds (by assumption) | exact n_Lane_both (by assumption) | exact n_Lane_first (by assumption) | exact n_Lane_standing (by assumption) | exact n_Lane_mood (by assumption) | exact n_Lane_ending (by assumption) | exact n_Signs_by_hand (by assumption))
local macro_rules | `(tactic| walk_at "ge") => `(tactic| first
  | with_reducible refine we_var rfl ?_
  | with_reducible refine we_int ?_
  | with_reducible refine we_str ?_
  | with_reducible refine we_ty ?_
  | with_reducible refine we_bl ?_
  | with_reducible refine we_non ?_
  | with_reducible refine we_ref ?_
  | with_reducible refine we_op ?_
  | with_reducible refine we_cb ?_
  | with_reducible refine we_call0 ?_
  | with_reducible refine we_call ?_
  | with_reducible refine we_lst ?_
  | with_reducible refine we_tup ?_
  | with_reducible refine we_andV ?_
  | with_reducible refine we_orV ?_
  | with_reducible refine we_notV ?_
  | with_reducible refine we_if ?_
  | with_reducible refine we_chain ?_
  | with_reducible refine we_sl ?_
  | with_reducible refine we_lz ?_
  | with_reducible refine we_dnewK (fun _ => ?_)
  | with_reducible refine we_dnewN (fun _ => ?_)
  | with_reducible refine we_fld ?_
  | with_reducible refine we_dget ?_
  | with_reducible refine we_din ?_
  | with_reducible refine we_dnotIn ?_
  | with_reducible refine we_dget2 ?_
  | with_reducible refine we_dsetd ?_
  | with_reducible refine we_make ?_
  | with_reducible refine we_meth0 ?_
  | with_reducible refine we_meth ?_
  | with_reducible refine we_bm ?_)
local macro_rules | `(tactic| walk_at "gt") => `(tactic| first
  | with_reducible refine wt_B ?_
  | with_reducible refine wt_test ?_
  | with_reducible refine wt_not ?_
  | with_reducible refine wt_and ?_
  | with_reducible refine wt_or ?_
  | with_reducible refine wt_yes ?_)
local macro_rules | `(tactic| walk_at "gst") => `(tactic| first
  | with_reducible refine ws_ret ?_
  | with_reducible refine ws_retN ?_
  | with_reducible refine ws_seq ?_
  | with_reducible refine ws_set ?_
  | with_reducible refine ws_drop ?_
  | with_reducible refine ws_if ?_
  | with_reducible refine ws_next ?_
  | with_reducible refine ws_raise ?_
  | with_reducible refine ws_asgS ?_
  | with_reducible refine ws_setL ?_
  | with_reducible refine ws_setN ?_
  | with_reducible refine ws_asg ?_
  | with_reducible refine ws_fld ?_
  | with_reducible refine ws_fldaddI ?_
  | with_reducible refine ws_dput ?_)
local macro_rules | `(tactic| walk_at "gr") => `(tactic| first
  | with_reducible refine wr_ixT rfl ?_
  | with_reducible refine wr_ixL rfl ?_
  | with_reducible refine ix_t0 ?_
  | with_reducible refine ix_t1 ?_
  | with_reducible refine ix_t2 ?_
  | with_reducible refine ix_t3 ?_
  | with_reducible refine ix_t4 ?_
  | with_reducible refine ix_l0 ?_
  | with_reducible refine ix_l1 ?_
  | with_reducible refine ix_l2 ?_
  | with_reducible refine ix_l3 ?_
  | with_reducible refine ix_l4 ?_
  | with_reducible refine wr_int ?_
  | (with_reducible refine isPow ?_; with_reducible refine wr_powL (by decide) (by decide) (by decide) ?_)
  | with_reducible refine wr_bool ?_
  | with_reducible refine wr_eqI ?_
  | with_reducible refine wr_neI ?_
  | with_reducible refine wr_eqS ?_
  | with_reducible refine wr_neS ?_
  | with_reducible refine wr_eqB ?_
  | with_reducible refine wr_neB ?_
  | with_reducible refine wr_isN ?_
  | with_reducible refine wr_notN ?_
  | (with_reducible refine isIxC ?_; with_reducible refine wr_ixC (by walk_at "at") (by with_unfolding_all rfl) ?_))
local macro_rules | `(tactic| walk_at "gc") => `(tactic| first
  | with_reducible refine wc_isi rfl rfl ?_
  | with_reducible refine wc_isi (by decide) (by decide +kernel) ?_
  | (with_reducible refine isLen ?_; with_reducible refine wc_lenC (by walk_at "at") ?_)
  | with_reducible refine wc_lenT ?_
  | with_reducible refine wc_lenL ?_)
local macro_rules | `(tactic| walk_at "ga") => `(tactic| first
  | with_reducible refine wa_cons ?_
  | with_reducible refine wa_nil ?_)
local macro_rules | `(tactic| walk_at "gx") => `(tactic| first
  | (with_reducible refine isLn ?_; with_reducible refine lenAnd (by simp) ?_)
  | with_reducible refine wsl_tup ?_
  | with_reducible refine wo_none ?_
  | with_reducible refine wo_some ?_
  | with_reducible refine ex_bl ?_
  | with_reducible refine ex_int ?_
  | with_reducible refine ex_str ?_
  | with_reducible refine ex_tup ?_
  | with_reducible refine ex_lst ?_
  | with_reducible refine ex_etup ?_
  | with_reducible refine br_true ?_
  | with_reducible refine br_false ?_
  | (with_reducible refine isBr ?_; refine br_t rfl ?_)
  | (with_reducible refine isBr ?_; refine br_f rfl ?_)
  | (with_reducible refine isFld ?_; with_reducible refine ex_fld (by walk_at "at") (by walk_at "fact") (by walk_at "fact") (by with_unfolding_all rfl) ?_)
  | (with_reducible refine isPut ?_; with_reducible refine ex_put (by walk_at "at") (by walk_at "fact") (by walk_at "fact") (by with_unfolding_all exact of_decide_eq_true rfl) ?_)
  | (with_reducible refine isMeth ?_; with_reducible refine ex_meth (by walk_at "at") (by with_unfolding_all rfl) ?_)
  | (with_reducible refine isTy ?_; with_reducible refine And.intro (ty_cell (by walk_at "at")) ?_)
  | with_reducible refine k_whole ?_
  | with_reducible refine k_count ?_
  | with_reducible refine k_amount ?_)
local macro_rules | `(tactic| walk_at "s") => `(tactic| first
  | (with_reducible refine isWE ?_; walk_at "ge")
  | (with_reducible refine isWS ?_; walk_at "gst")
  | (with_reducible refine isWT ?_; walk_at "gt")
  | (with_reducible refine isWR ?_; walk_at "gr")
  | (with_reducible refine isWA ?_; walk_at "ga")
  | (with_reducible refine isWC ?_; walk_at "gc")
  | walk_at "gx")
local macro_rules | `(tactic| walk_at "w") => `(tactic| repeat walk_at "s")

section
variable {P : Program} {w : World} {K : PySem.W.Frag} {mg : Str → Option Value} {base : Heap}
theorem openDue_kinds (S : Str → D → Bool) (s : CtS) (l r : Str) (m n : Int) : openDue S s l r m n = "" ∨ openDue S s l r m n ∈ kinds := by
  unfold openDue kinds
  split
  · split
    · exact .inr (by simp)
    · split
      · exact .inr (by simp)
      · split
        · exact .inl rfl
        · exact .inr (by simp)
  · exact .inr (by simp)
theorem tellDue_kinds (S : Str → D → Bool) (s : CtS) (t : Stt) : tellDue S s t = "" ∨ tellDue S s t ∈ kinds := by
  unfold tellDue kinds
  split
  · exact .inr (by simp)
  · split
    · exact .inr (by simp)
    · split
      · exact .inr (by simp)
      · split
        · exact .inr (by simp)
        · exact .inl rfl
abbrev aAsked (K : PySem.W.Frag) : ASp := A2 fun ct dd L Φ _ => ∃ a la s sg f N M S dl, ct = .ref a.c ∧ Part (MC K a la s sg) L f ∧ CtOk N la s ∧ N < 1000 ∧ SgOk M sg ∧ (∀ h d, S h d = true ↔ sgd sg h d) ∧ dd = Dl.d dl ∧ dl.ok ∧
  ∀ la' : List Addr, la'.length = (dl.go S s).lanes.length → Φ (.tup [.str (dl.due S s), dl.tells S s]) (f (MC K a la' (dl.go S s) sg))
theorem sc_law_asked : FnScope ["_law_court", "_law_deed_here", "_law_told", "_law_caught", "_law_e"] ["_law_court", "_law_deed_here"] d_law_asked.scope := ⟨rfl, rfl, rfl, by decide +kernel, rfl, by decide +kernel, by decide +kernel⟩
theorem ok_law_asked (T : Tx K mg) : FOk P w K mg base 8 (He.fAd K d_law_asked.at_) ["_law_court", "_law_deed_here"] (aAsked K) := by
  refine fok_of (d := d_law_asked) T 58 (k := 7) rfl rfl rfl sc_law_asked (fun ds L Φ ex h => A2.len h) (fun _ _ _ _ _ _ us hl => match us, hl with | [_, _], _ => rfl) (fun cdv Ar outer s H E ds L Φ ex hr h => ?_)
  obtain ⟨court, deed_here, rfl, h⟩ := h
  refine ⟨_, (pss_cons (ps_set (i := 2) sc_law_asked.nd rfl (Or.inl rfl) pe_non)
    (pss_cons (ps_set (i := 3) sc_law_asked.nd rfl (Or.inl rfl) pe_non)
    (pss_cons (ps_try_keep (i := 4) rfl rfl rfl sc_law_asked.nd rfl rfl ⟨rfl, by decide, Or.inl (g_CoinError T)⟩)
    (pss_one (ps_ret (pe_tup (pa_cons (pe_ifExp (pt_cmpR op_isN (pv 3) pe_non (nomark _)) pe_str (pe_c (ok_law_kind T) hr rfl (g_law_kind T) (pa_cons (pv 3) pa_nil))) (pa_cons (pv 2) pa_nil)))))))), ?_⟩
  obtain ⟨a, la, s, sg, f, N, M, S, dl, rfl, ⟨hf, rfl⟩, ok, hN, sok, hS, rfl, dok, h⟩ := h
  dsimp only [cxOf]
  refine ws_seq (ws_set (we_non ?_))
  refine ws_seq (ws_set (we_non ?_))
  dsimp only [startG, List.map_cons, List.map_nil, List.length_cons, List.length_nil, List.replicate, List.cons_append, List.nil_append, List.set_cons_succ, List.set_cons_zero]
  refine ws_seq (ws_tryK (exB := fun cls L' => cls = exC K (dl.due S s) ∧ dl.due S s ∈ kinds ∧ dl.go S s = s ∧ dl.tells S s = .non ∧ L' = f (MC K a la s sg)) rfl (fun W => ⟨_, fun pn xe tkW po => by exact (pss_one (ps_if (pt_cmpR op_eq (pe_ix (ix_tupK (K := K) rfl) (pv 1) pe_int (fun _ _ => rfl)) pe_str (nomark _)) (pss_one (ps_set (i := 2) sc_law_asked.nd rfl (Or.inl rfl) (pe_mKST (P := P) (w := w) (K := K) (mg := mg) (base := base) rfl rfl rfl rfl rfl (tkW) (pv 0) (c_Court T) (m_Court_lane T) (ok_Court_lane T) hr (pa_cons (pe_ix (ix_tupK (K := K) rfl) (pv 1) pe_int (fun _ _ => rfl)) (pa_cons (pe_ix (ix_tupK (K := K) rfl) (pv 1) pe_int (fun _ _ => rfl)) pa_nil)) (pk_cons (pe_ix (ix_tupK (K := K) rfl) (pv 1) pe_int (fun _ _ => rfl)) (pk_cons (pe_ix (ix_tupK (K := K) rfl) (pv 1) pe_int (fun _ _ => rfl)) pk_nil))))) (pss_one (ps_if (pt_cmpR op_eq (pe_ix (ix_tupK (K := K) rfl) (pv 1) pe_int (fun _ _ => rfl)) pe_str (nomark _)) (pss_one (ps_set (i := 2) sc_law_asked.nd rfl (Or.inl rfl) (pe_mST (P := P) (w := w) (K := K) (mg := mg) (base := base) rfl rfl rfl rfl rfl (tkW) (pv 0) (c_Court T) (m_Court_tell T) (ok_Court_tell T) hr (pa_cons (pe_ix (ix_tupK (K := K) rfl) (pv 1) pe_int (fun _ _ => rfl)) pa_nil)))) (pss_one (ps_if (pt_cmpR op_eq (pe_ix (ix_tupK (K := K) rfl) (pv 1) pe_int (fun _ _ => rfl)) pe_str (nomark _)) (pss_one (ps_set (i := 2) sc_law_asked.nd rfl (Or.inl rfl) (pe_mST (P := P) (w := w) (K := K) (mg := mg) (base := base) rfl rfl rfl rfl rfl (tkW) (pv 0) (c_Court T) (m_Court_show T) (ok_Court_show T) hr (pa_cons (pe_ix (ix_tupK (K := K) rfl) (pv 1) pe_int (fun _ _ => rfl)) pa_nil)))) (pss_one (ps_set (i := 2) sc_law_asked.nd rfl (Or.inl rfl) (pe_m0ST (P := P) (w := w) (K := K) (mg := mg) (base := base) rfl rfl rfl rfl rfl (tkW) (pv 0) (c_Court T) (m_Court_turn T) (ok_Court_turn T) hr))))))))), ?_⟩) (fun cls L' hx => ?_))
  · cases dl with
    | op l r m n =>
      dsimp only [Dl.d, Dl.ok, Dl.due, Dl.go, Dl.tells] at *
      obtain ⟨nl, nr, hm, hn⟩ := dok
      refine wsx_if ?_
      walk_at "w"
      refine wsx_set (wex_methK ?_)
      walk_at "w"
      refine ⟨_, _, _, rfl, At.in hf at_mc, by with_unfolding_all rfl, ?_⟩
      walk_at "w"
      refine ⟨rfl, rfl, _, _, _, _, _, rfl, a, la, s, sg, f, N, M, S, l, r, m, n, rfl, ⟨hf, rfl⟩, ok, hN, sok, rfl, rfl, rfl, rfl, nl, nr, hm, hn, hS, fun hd x => ?_, fun hd => ⟨rfl, (openDue_kinds S s l r m n).resolve_left hd, by rw [if_neg hd], by rw [if_neg hd], rfl⟩⟩
      walk_at "w"
      have h := h (la ++ [x]) (by rw [if_pos hd]; show _ = (s.lanes ++ [_]).length; rw [List.length_append, List.length_append, ok.ll]; rfl)
      rw [if_pos hd, if_pos hd, hd] at h
      exact h
    | tl t =>
      dsimp only [Dl.d, Dl.ok, Dl.due, Dl.go, Dl.tells] at *
      refine wsx_if ?_
      walk_at "w"
      refine wsx_if ?_
      walk_at "w"
      refine wsx_set (wex_meth ?_)
      walk_at "w"
      refine ⟨_, _, rfl, a, la, s, sg, f, N, M, t, S, rfl, ⟨hf, rfl⟩, ok, sok, rfl, dok, hS, fun hd => ?_, fun hd => ⟨rfl, (tellDue_kinds S s t).resolve_left hd, by rw [if_neg hd], rfl, rfl⟩⟩
      walk_at "w"
      obtain ⟨r, hr, _, _⟩ := tellDue_ok hd
      have h := h la (by
        rw [if_pos hd]
        unfold tellS
        rw [hr]
        show _ = (s.lanes.set _ _).length
        rw [List.length_set, ok.ll])
      rw [if_pos hd, hd] at h
      exact h
    | sh x =>
      dsimp only [Dl.d, Dl.ok, Dl.due, Dl.go, Dl.tells] at *
      refine wsx_if ?_
      walk_at "w"
      refine wsx_if ?_
      walk_at "w"
      refine wsx_if ?_
      walk_at "w"
      refine wsx_set (wex_meth ?_)
      walk_at "w"
      refine ⟨_, _, rfl, a, la, s, sg, f, N, x, rfl, ⟨hf, rfl⟩, ok, rfl, dok, ?_⟩
      walk_at "w"
      exact h la ok.ll
    | tn =>
      dsimp only [Dl.d, Dl.ok, Dl.due, Dl.go, Dl.tells] at *
      refine wsx_if ?_
      walk_at "w"
      refine wsx_if ?_
      walk_at "w"
      refine wsx_if ?_
      walk_at "w"
      refine wsx_set (wex_meth ?_)
      walk_at "w"
      refine ⟨_, rfl, a, la, s, sg, f, N, rfl, ⟨hf, rfl⟩, ok, ?_⟩
      walk_at "w"
      refine h la ?_
      rw [ok.ll]
      show _ = (s.lanes.map _).length
      rw [List.length_map]
  · obtain ⟨rfl, hk, hg, ht, rfl⟩ := hx
    refine ⟨kinds_coin T hk, fun ad => ⟨_, fun oe pn hz hv => by exact (pss_one (ps_set (i := 3) sc_law_asked.nd rfl (Or.inl rfl) (pv 4))), ?_⟩⟩
    have h := h la (by rw [hg]; exact ok.ll)
    rw [hg, ht] at h
    refine ws_set (we_var rfl ?_)
    refine ws_ret (WE.forget ?_)
    walk_at "w"
    refine ⟨_, rfl, ad, _, _, rfl, At.here, hk, ?_⟩
    walk_at "w"
    exact ⟨_, List.sublist_cons_self _ _, h⟩
end
end Cl
set_option Elab.async false
set_option linter.all false
set_option maxRecDepth 100000
set_option maxHeartbeats 4000000
namespace Cl
open PySem PySem.Spec PyProof.Rows L2
local macro_rules | `(tactic| walk_at "at") => `(tactic| first | assumption | repeat first | with_reducible exact At.here | with_reducible exact at_mc | with_reducible exact at_mb | with_reducible exact at_mo | with_reducible exact at_ms | with_reducible exact at_md | with_reducible exact at_kb | with_reducible exact at_kn | with_reducible exact at_ko | with_reducible exact at_ks | with_reducible exact at_kr | with_reducible exact at_kd | with_reducible apply At.tail | (with_reducible apply At.in (by assumption)))
local macro_rules | `(tactic| walk_at "fact") => `(tactic| first | exact c_Court (by assumption) | exact c_Lane (by assumption) | exact c_Signs (by assumption) | exact n_Court_clock (by assumption) | exact n_Court_long (by assumption) | exact n_Court_bags (by assumption) | exact n_Court_book (by assumption) | exact n_Court_opened (by assumption) | exact n_Court_seen (by assumption) | exact n_Court_kept (by assumption) | exact n_Court_deeds (by assumption) | exact n_Lane_both (by assumption) | exact n_Lane_first (by assumption) | exact n_Lane_standing (by assumption) | exact n_Lane_mood (by assumption) | exact n_Lane_ending (by assumption) | exact n_Signs_by_hand (by assumption))
local macro_rules | `(tactic| walk_at "ge") => `(tactic| first
  | with_reducible refine we_var rfl ?_
  | with_reducible refine we_int ?_
  | with_reducible refine we_str ?_
  | with_reducible refine we_ty ?_
  | with_reducible refine we_bl ?_
  | with_reducible refine we_non ?_
  | with_reducible refine we_ref ?_
  | with_reducible refine we_op ?_
  | with_reducible refine we_cb ?_
  | with_reducible refine we_call0 ?_
  | with_reducible refine we_call ?_
  | with_reducible refine we_lst ?_
  | with_reducible refine we_tup ?_
  | with_reducible refine we_andV ?_
  | with_reducible refine we_orV ?_
  | with_reducible refine we_notV ?_
  | with_reducible refine we_if ?_
  | with_reducible refine we_chain ?_
  | with_reducible refine we_sl ?_
  | with_reducible refine we_lz ?_
  | with_reducible refine we_dnewK (fun _ => ?_)
  | with_reducible refine we_dnewN (fun _ => ?_)
  | with_reducible refine we_fld ?_
  | with_reducible refine we_dget ?_
  | with_reducible refine we_din ?_
  | with_reducible refine we_dnotIn ?_
  | with_reducible refine we_dget2 ?_
  | with_reducible refine we_dsetd ?_
  | with_reducible refine we_make ?_
  | with_reducible refine we_meth0 ?_
  | with_reducible refine we_meth ?_
  | with_reducible refine we_bm ?_)
local macro_rules | `(tactic| walk_at "gt") => `(tactic| first
  | with_reducible refine wt_B ?_
  | with_reducible refine wt_test ?_
  | with_reducible refine wt_not ?_
  | with_reducible refine wt_and ?_
  | with_reducible refine wt_or ?_
  | with_reducible refine wt_yes ?_)
local macro_rules | `(tactic| walk_at "gst") => `(tactic| first
  | with_reducible refine ws_ret ?_
  | with_reducible refine ws_retN ?_
  | with_reducible refine ws_seq ?_
  | with_reducible refine ws_set ?_
  | with_reducible refine ws_drop ?_
  | with_reducible refine ws_if ?_
  | with_reducible refine ws_next ?_
  | with_reducible refine ws_raise ?_
  | with_reducible refine ws_asgS ?_
  | with_reducible refine ws_setL ?_
  | with_reducible refine ws_setN ?_
  | with_reducible refine ws_asg ?_
  | with_reducible refine ws_fld ?_
  | with_reducible refine ws_fldaddI ?_
  | with_reducible refine ws_dput ?_)
local macro_rules | `(tactic| walk_at "gr") => `(tactic| first
  | with_reducible refine wr_ixT rfl ?_
  | with_reducible refine wr_ixL rfl ?_
  | with_reducible refine ix_t0 ?_
  | with_reducible refine ix_t1 ?_
  | with_reducible refine ix_t2 ?_
  | with_reducible refine ix_t3 ?_
  | with_reducible refine ix_t4 ?_
  | with_reducible refine ix_l0 ?_
  | with_reducible refine ix_l1 ?_
  | with_reducible refine ix_l2 ?_
  | with_reducible refine ix_l3 ?_
  | with_reducible refine ix_l4 ?_
  | with_reducible refine wr_int ?_
  | (with_reducible refine isPow ?_; with_reducible refine wr_powL (by decide) (by decide) (by decide) ?_)
  | with_reducible refine wr_bool ?_
  | with_reducible refine wr_eqI ?_
  | with_reducible refine wr_neI ?_
  | with_reducible refine wr_eqS ?_
  | with_reducible refine wr_neS ?_
  | with_reducible refine wr_eqB ?_
  | with_reducible refine wr_neB ?_
  | with_reducible refine wr_isN ?_
  | with_reducible refine wr_notN ?_
  | (with_reducible refine isIxC ?_; with_reducible refine wr_ixC (by walk_at "at") (by with_unfolding_all rfl) ?_))
local macro_rules | `(tactic| walk_at "gc") => `(tactic| first
  | with_reducible refine wc_isi rfl rfl ?_
  | with_reducible refine wc_isi (by decide) (by decide +kernel) ?_
  | (with_reducible refine isLen ?_; with_reducible refine wc_lenC (by walk_at "at") ?_)
  | with_reducible refine wc_lenT ?_
  | with_reducible refine wc_lenL ?_)
local macro_rules | `(tactic| walk_at "ga") => `(tactic| first
  | with_reducible refine wa_cons ?_
  | with_reducible refine wa_nil ?_)
local macro_rules | `(tactic| walk_at "gx") => `(tactic| first
  | (with_reducible refine isLn ?_; with_reducible refine lenAnd (by simp) ?_)
  | with_reducible refine wsl_tup ?_
  | with_reducible refine wo_none ?_
  | with_reducible refine wo_some ?_
  | with_reducible refine ex_bl ?_
  | with_reducible refine ex_int ?_
  | with_reducible refine ex_str ?_
  | with_reducible refine ex_tup ?_
  | with_reducible refine ex_lst ?_
  | with_reducible refine ex_etup ?_
  | with_reducible refine br_true ?_
  | with_reducible refine br_false ?_
  | (with_reducible refine isBr ?_; refine br_t rfl ?_)
  | (with_reducible refine isBr ?_; refine br_f rfl ?_)
  | (with_reducible refine isFld ?_; with_reducible refine ex_fld (by walk_at "at") (by walk_at "fact") (by walk_at "fact") (by with_unfolding_all rfl) ?_)
  | (with_reducible refine isPut ?_; with_reducible refine ex_put (by walk_at "at") (by walk_at "fact") (by walk_at "fact") (by with_unfolding_all exact of_decide_eq_true rfl) ?_)
  | (with_reducible refine isMeth ?_; with_reducible refine ex_meth (by walk_at "at") (by with_unfolding_all rfl) ?_)
  | (with_reducible refine isTy ?_; with_reducible refine And.intro (ty_cell (by walk_at "at")) ?_)
  | with_reducible refine k_whole ?_
  | with_reducible refine k_count ?_
  | with_reducible refine k_amount ?_)
local macro_rules | `(tactic| walk_at "s") => `(tactic| first
  | (with_reducible refine isWE ?_; walk_at "ge")
  | (with_reducible refine isWS ?_; walk_at "gst")
  | (with_reducible refine isWT ?_; walk_at "gt")
  | (with_reducible refine isWR ?_; walk_at "gr")
  | (with_reducible refine isWA ?_; walk_at "ga")
  | (with_reducible refine isWC ?_; walk_at "gc")
  | walk_at "gx")
local macro_rules | `(tactic| walk_at "w") => `(tactic| repeat walk_at "s")

section
variable {P : Program} {w : World} {K : PySem.W.Frag} {mg : Str → Option Value} {base : Heap}
/-! ### alike -/
def kitAnyB (a : String) : List String → Option Bool
  | [] => some false
  | c :: r => match kitB a c with
    | some true => some true
    | some false => kitAnyB a r
    | none => none
theorem kitAny_ty (K : PySem.W.Frag) (a : String) : ∀ ns : List String, PySem.W.kitAny K (.type a) (ns.map Value.type) = kitAnyB a ns
  | [] => rfl
  | c :: r => by
    have ih := kitAny_ty K a r
    unfold kitAnyB
    rw [List.map_cons]
    unfold PySem.W.kitAny
    rw [show PySem.W.kitOne K (.type a) (.type c) = kitB a c from rfl, ih]
    rfl
def D.sim : Nat → D → Prop
  | 0, _ => False
  | _ + 1, .int _ => True
  | _ + 1, .str x => PyData.canLay0 (.str x) = true
  | _ + 1, .non => True
  | n + 1, .tup ds => ds.length ≤ 100000 ∧ ∀ d ∈ ds, D.sim n d
  | n + 1, .lst ds => ds.length ≤ 100000 ∧ ∀ d ∈ ds, D.sim n d
  | _ + 1, _ => False
abbrev aSame (n : Nat) : ASp := A2 fun x y L Φ _ => x = y ∧ y.sim n ∧ Φ (.bl true) L
theorem sc_law_same : FnScope ["_law_found", "_law_due", "_law_one", "_law_other"] ["_law_found", "_law_due"] d_law_same.scope := ⟨rfl, rfl, rfl, by decide +kernel, rfl, by decide +kernel, by decide +kernel⟩
theorem same_zero (T : Tx K mg) : FOk P w K mg base 1 (He.fAd K d_law_same.at_) ["_law_found", "_law_due"] (aSame 0) := by
  refine fok_of (d := d_law_same) T 59 (k := 0) rfl rfl rfl sc_law_same (fun ds L Φ ex h => A2.len h) (fun _ _ _ _ _ _ us hl => match us, hl with | [_, _], _ => rfl) (fun cdv Ar outer s H E ds L Φ ex hr h => ?_)
  obtain ⟨x, y, rfl, _, h, _⟩ := h
  exact False.elim h
theorem wr_eqNN {L : Sto} {Φ : D → Sto → Prop} (q : Φ (.bl true) L) : WR P w K rEq .non .non L Φ := wr_eq rfl rfl rfl q
theorem we_isS {E : XK} {Γ : Gm} {L : Sto} {ex : Ex} {Φ : D → Sto → Prop} {ta : TE} {tt : TA} (ns : List String) (b : Bool) (h : WE P w K E ta Γ L ex fun x L1 => x.isRef = false ∧ WA P w K E tt Γ L1 ex fun cs L2 => cs = ns.map D.ty ∧ ns.length ≤ 100000 ∧ kitAnyB x.kind ns = some b ∧ Φ (.bl b) L2) :
    WE P w K E (tCB (rIsiT K) (tCons ta (tCons (tTup tt) tNil))) Γ L ex Φ := we_isiT (h.imp fun x L1 ⟨h1, h2⟩ => ⟨h1, fun σ F H Q sl S lk q => h2 σ F H Q sl S lk fun vs ds F' H' L' e s r ⟨a1, a2, a3, a4⟩ => q vs ds F' H' L' e s r ⟨ns, b, a1, a2, by rw [kitAny_ty]; exact a3, a4⟩⟩)
theorem same_step (T : Tx K mg) (n k : Nat) (ih : FOk P w K mg base k (He.fAd K d_law_same.at_) ["_law_found", "_law_due"] (aSame n)) : FOk P w K mg base (k + 1) (He.fAd K d_law_same.at_) ["_law_found", "_law_due"] (aSame (n + 1)) := by
  refine fok_of (d := d_law_same) T 59 (k := k) rfl rfl rfl sc_law_same (fun ds L Φ ex h => A2.len h) (fun _ _ _ _ _ _ us hl => match us, hl with | [_, _], _ => rfl) (fun cdv Ar outer s H E ds L Φ ex hr h => ?_)
  obtain ⟨x, y, rfl, h⟩ := h
  refine ⟨_, (pss_cons (ps_if (pt_val (pe_callB call_isiT rfl (f_isinstance T) (by decide +kernel) (pa_cons (pv 1) (pa_cons (pe_tup (pa_cons (pe_gty (n := "list") rfl (f_list T) (by decide +kernel)) (pa_cons (pe_gty (n := "tuple") rfl (f_tuple T) (by decide +kernel)) pa_nil))) pa_nil)))) (pss_cons (ps_if (PW.pt (pw_or (pt_cmpR op_ne (pe_callB call_isi rfl (f_isinstance T) (by decide +kernel) (pa_cons (pv 0) (pa_cons (pe_gty (n := "list") rfl (f_list T) (by decide +kernel)) pa_nil))) (pe_callB call_isi rfl (f_isinstance T) (by decide +kernel) (pa_cons (pv 1) (pa_cons (pe_gty (n := "list") rfl (f_list T) (by decide +kernel)) pa_nil))) (nomark _)) (pw_or1 (pt_cmpR op_ne (pe_callB call_isi rfl (f_isinstance T) (by decide +kernel) (pa_cons (pv 0) (pa_cons (pe_gty (n := "tuple") rfl (f_tuple T) (by decide +kernel)) pa_nil))) (pe_callB call_isi rfl (f_isinstance T) (by decide +kernel) (pa_cons (pv 1) (pa_cons (pe_gty (n := "tuple") rfl (f_tuple T) (by decide +kernel)) pa_nil))) (nomark _))))) (pss_one (ps_ret pe_bl)) pss_nil)
    (pss_cons (ps_if (pt_cmpR op_ne (pe_callB call_len rfl (f_len T) (by decide +kernel) (pa_cons (pv 0) pa_nil)) (pe_callB call_len rfl (f_len T) (by decide +kernel) (pa_cons (pv 1) pa_nil)) (nomark _)) (pss_one (ps_ret pe_bl)) pss_nil)
    (pss_one (ps_ret (pe_callB (cr_all rfl) rfl (f_all T) (by decide +kernel) (pa_cons (pe_lc (own := [("_law_one", 2), ("_law_other", 3)]) rfl sc_law_same.nd (RZ.pi_zipA rfl (f_zip T) (pa_cons (pv 0) (pa_cons (pv 1) pa_nil))) (blkOk_by (own := [("_law_one", 2), ("_law_other", 3)]) (N := ["_law_found", "_law_due", "_law_one", "_law_other"]) (sc := d_law_same.scope) (by decide +kernel)) (fun _ _ _ _ _ => by exact (pg_tupK (n := 2) (K := K) rfl rfl (pgs_cons (pg_name (i := 2) sc_law_same.nd rfl (Or.inl rfl)) (pgs_cons (pg_name (i := 3) sc_law_same.nd rfl (Or.inl rfl)) pgs_nil)))) (fun _ _ _ _ _ => by exact pts_nil) (fun _ _ _ _ _ => by exact (pe_cK (P := P) (w := w) (K := K) (mg := mg) (base := base) rfl rfl rfl rfl rfl (ih) hr rfl (g_law_same T) (pa_cons (pv 2) (pa_cons (pv 3) pa_nil)) (Nat.le_refl _)))) pa_nil)))))) pss_nil)
    (pss_cons (ps_if (PW.pt (pw_or (pt_val (pe_callB call_isiT rfl (f_isinstance T) (by decide +kernel) (pa_cons (pv 0) (pa_cons (pe_tup (pa_cons (pe_gty (n := "list") rfl (f_list T) (by decide +kernel)) (pa_cons (pe_gty (n := "tuple") rfl (f_tuple T) (by decide +kernel)) (pa_cons (pe_gty (n := "bool") rfl (f_bool T) (by decide +kernel)) pa_nil)))) pa_nil)))) (pw_or1 (pt_cmpR op_ne (pe_callB call_isi rfl (f_isinstance T) (by decide +kernel) (pa_cons (pv 0) (pa_cons (pe_gty (n := "int") rfl (f_int T) (by decide +kernel)) pa_nil))) (pe_callB call_isi rfl (f_isinstance T) (by decide +kernel) (pa_cons (pv 1) (pa_cons (pe_gty (n := "int") rfl (f_int T) (by decide +kernel)) pa_nil))) (nomark _))))) (pss_one (ps_ret pe_bl)) pss_nil)
    (pss_one (ps_ret (pe_cmpR op_eq (pv 0) (pv 1) (nomark _)))))), ?_⟩
  obtain ⟨rfl, hx, h⟩ := h
  dsimp only [cxOf]
  cases x with
  | int i =>
    refine ws_seq (ws_if (wt_B (we_isS ["list", "tuple"] false (we_var rfl ⟨rfl, ?_⟩))))
    walk_at "w"
    refine ⟨rfl, by decide, by show kitAnyB "int" _ = _; decide +kernel, false, rfl, br_false (ws_next ?_)⟩
    refine ws_seq (ws_if (wt_or (wt_B (we_isS ["list", "tuple", "bool"] false (we_var rfl ⟨rfl, ?_⟩)))))
    walk_at "w"
    refine ⟨rfl, by decide, by show kitAnyB "int" _ = _; decide +kernel, false, rfl, br_false ?_⟩
    walk_at "w"
    rw [decide_eq_true rfl]
    exact h
  | str i =>
    refine ws_seq (ws_if (wt_B (we_isS ["list", "tuple"] false (we_var rfl ⟨rfl, ?_⟩))))
    walk_at "w"
    refine ⟨rfl, by decide, by show kitAnyB "str" _ = _; decide +kernel, false, rfl, br_false (ws_next ?_)⟩
    refine ws_seq (ws_if (wt_or (wt_B (we_isS ["list", "tuple", "bool"] false (we_var rfl ⟨rfl, ?_⟩)))))
    walk_at "w"
    refine ⟨rfl, by decide, by show kitAnyB "str" _ = _; decide +kernel, false, rfl, br_false ?_⟩
    walk_at "w"
    rw [decide_eq_true rfl]
    exact h
  | non =>
    refine ws_seq (ws_if (wt_B (we_isS ["list", "tuple"] false (we_var rfl ⟨rfl, ?_⟩))))
    walk_at "w"
    refine ⟨rfl, by decide, by show kitAnyB "NoneType" _ = _; decide +kernel, false, rfl, br_false (ws_next ?_)⟩
    refine ws_seq (ws_if (wt_or (wt_B (we_isS ["list", "tuple", "bool"] false (we_var rfl ⟨rfl, ?_⟩)))))
    walk_at "w"
    refine ⟨rfl, by decide, by show kitAnyB "NoneType" _ = _; decide +kernel, false, rfl, br_false ?_⟩
    walk_at "w"
    refine wr_eqNN ?_
    exact h
  | tup ds =>
    have hx : ds.length ≤ 100000 ∧ ∀ d ∈ ds, D.sim n d := hx
    refine ws_seq (ws_if (wt_B (we_isS ["list", "tuple"] true (we_var rfl ⟨rfl, ?_⟩))))
    walk_at "w"
    refine ⟨rfl, by decide, by show kitAnyB "tuple" _ = _; decide +kernel, true, rfl, br_true ?_⟩
    walk_at "w"
    refine br_f (by rw [decide_eq_true rfl]; rfl) ?_
    walk_at "w"
    refine we_lcM (wi_zipT ?_)
    walk_at "w"
    refine ⟨ds, ds, rfl, fun _ _ => trivial, by unfold zipD; rw [List.length_zipWith]; omega, fun _ => .bl true, fun d hd p acc => ?_, ?_⟩
    · obtain ⟨i, hi⟩ := List.getElem?_of_mem hd
      obtain ⟨e, e', h1, h2, rfl⟩ := zipD_get hi
      rw [h1] at h2
      cases h2
      refine ⟨_, wg_tup (us := [(2, e), (3, e)]) rfl (wgs_cons wg_name (wgs_cons wg_name wgs_nil)), by simp, ?_⟩
      walk_at "w"
      exact ⟨_, _, rfl, rfl, hx.2 e (List.mem_of_getElem? h1), rfl, rfl⟩
    · walk_at "w"
      exact wc_allT (fun d hd => by obtain ⟨_, _, rfl⟩ := List.mem_map.mp hd; rfl) h
  | lst ds =>
    have hx : ds.length ≤ 100000 ∧ ∀ d ∈ ds, D.sim n d := hx
    refine ws_seq (ws_if (wt_B (we_isS ["list", "tuple"] true (we_var rfl ⟨rfl, ?_⟩))))
    walk_at "w"
    refine ⟨rfl, by decide, by show kitAnyB "list" _ = _; decide +kernel, true, rfl, br_true ?_⟩
    walk_at "w"
    refine br_f (by rw [decide_eq_true rfl]; rfl) ?_
    walk_at "w"
    refine we_lcM (wi_zipL ?_)
    walk_at "w"
    refine ⟨ds, ds, rfl, fun _ _ => trivial, by unfold zipD; rw [List.length_zipWith]; omega, fun _ => .bl true, fun d hd p acc => ?_, ?_⟩
    · obtain ⟨i, hi⟩ := List.getElem?_of_mem hd
      obtain ⟨e, e', h1, h2, rfl⟩ := zipD_get hi
      rw [h1] at h2
      cases h2
      refine ⟨_, wg_tup (us := [(2, e), (3, e)]) rfl (wgs_cons wg_name (wgs_cons wg_name wgs_nil)), by simp, ?_⟩
      walk_at "w"
      exact ⟨_, _, rfl, rfl, hx.2 e (List.mem_of_getElem? h1), rfl, rfl⟩
    · walk_at "w"
      exact wc_allT (fun d hd => by obtain ⟨_, _, rfl⟩ := List.mem_map.mp hd; rfl) h
  | _ => exact False.elim hx
theorem ok_sameN (T : Tx K mg) : ∀ n : Nat, FOk P w K mg base (n + 1) (He.fAd K d_law_same.at_) ["_law_found", "_law_due"] (aSame n)
  | 0 => same_zero T
  | n + 1 => same_step T n (n + 1) (ok_sameN T n)
theorem ok_law_same (T : Tx K mg) : FOk P w K mg base 10 (He.fAd K d_law_same.at_) ["_law_found", "_law_due"] (aSame 9) := ok_sameN T 9
end
end Cl
set_option Elab.async false
set_option linter.all false
set_option maxRecDepth 100000
set_option maxHeartbeats 4000000
/-! Plain: data that are alike; what a deed keeps. -/
namespace Cl
open PySem PySem.Spec PyProof.Rows L2
theorem let_ok : (Let.cps.toList.all fun c => decide (c < 0x110000)) = true := by decide +kernel
theorem nm_lay {s : Str} (h : isNm s) : PyData.canLay0 (.str s) = true := by
  show PyData.strOk s = true
  unfold PyData.strOk
  rw [← Array.all_toList]
  refine List.all_eq_true.mpr fun c hc => ?_
  have := List.all_eq_true.mp let_ok c (h.let_ c hc)
  simpa using this
theorem side_lay (b : Bool) : PyData.canLay0 (.str (side b)) = true := SeqAt.canLay_of_shaped (side_ok b)
/-- simple data are pure, can be laid, are not deep -/
theorem sim_all : ∀ (n : Nat) (d : D), d.sim n → d.pure = true ∧ d.py.canLay0 = true ∧ d.py.depth ≤ n
  | 0, _, h => h.elim
  | n + 1, .int _, _ => ⟨by unfold D.pure; rfl, by unfold D.py; rfl, by unfold D.py PyData.depth; omega⟩
  | n + 1, .non, _ => ⟨by unfold D.pure; rfl, by unfold D.py; rfl, by unfold D.py PyData.depth; omega⟩
  | n + 1, .str x, h => ⟨by unfold D.pure; rfl, by unfold D.py; exact h, by unfold D.py PyData.depth; omega⟩
  | n + 1, .tup ds, h => by
    have key : ∀ l : List D, (∀ d ∈ l, D.sim n d) → D.pures l = true ∧ PyData.canLayAll0 (D.pys l) = true ∧ PyData.depthAll (D.pys l) ≤ n := fun l => by
      induction l with
      | nil => exact fun _ => ⟨by unfold D.pures; rfl, by unfold D.pys PyData.canLayAll0; rfl, by unfold D.pys PyData.depthAll; omega⟩
      | cons d l ih =>
        intro hl
        obtain ⟨a1, a2, a3⟩ := ih fun x hx => hl x (List.mem_cons_of_mem _ hx)
        obtain ⟨b1, b2, b3⟩ := sim_all n d (hl d List.mem_cons_self)
        refine ⟨by rw [D.pures, a1, b1]; rfl, by rw [D.pys, PyData.canLayAll0, a2, b2]; rfl, by rw [D.pys, PyData.depthAll]; omega⟩
    obtain ⟨k1, k2, k3⟩ := key ds h.2
    exact ⟨by unfold D.pure; exact k1, by unfold D.py PyData.canLay0; exact k2, by unfold D.py PyData.depth; omega⟩
  | n + 1, .lst ds, h => by
    have key : ∀ l : List D, (∀ d ∈ l, D.sim n d) → D.pures l = true ∧ PyData.canLayAll0 (D.pys l) = true ∧ PyData.depthAll (D.pys l) ≤ n := fun l => by
      induction l with
      | nil => exact fun _ => ⟨by unfold D.pures; rfl, by unfold D.pys PyData.canLayAll0; rfl, by unfold D.pys PyData.depthAll; omega⟩
      | cons d l ih =>
        intro hl
        obtain ⟨a1, a2, a3⟩ := ih fun x hx => hl x (List.mem_cons_of_mem _ hx)
        obtain ⟨b1, b2, b3⟩ := sim_all n d (hl d List.mem_cons_self)
        refine ⟨by rw [D.pures, a1, b1]; rfl, by rw [D.pys, PyData.canLayAll0, a2, b2]; rfl, by rw [D.pys, PyData.depthAll]; omega⟩
    obtain ⟨k1, k2, k3⟩ := key ds h.2
    exact ⟨by unfold D.pure; exact k1, by unfold D.py PyData.canLay0; exact k2, by unfold D.py PyData.depth; omega⟩
  | _ + 1, .bl _, h => h.elim
  | _ + 1, .ref _, h => h.elim
  | _ + 1, .ty _, h => h.elim
  | _ + 1, .scr _, h => h.elim
  | _ + 1, .etup _, h => h.elim
theorem D.sim_succ : ∀ (n : Nat) (d : D), d.sim n → d.sim (n + 1)
  | 0, _, h => h.elim
  | n + 1, .int _, h => h
  | n + 1, .non, h => h
  | n + 1, .str _, h => h
  | n + 1, .tup ds, h => ⟨h.1, fun d hd => D.sim_succ n d (h.2 d hd)⟩
  | n + 1, .lst ds, h => ⟨h.1, fun d hd => D.sim_succ n d (h.2 d hd)⟩
  | _ + 1, .bl _, h => h.elim
  | _ + 1, .ref _, h => h.elim
  | _ + 1, .ty _, h => h.elim
  | _ + 1, .scr _, h => h.elim
  | _ + 1, .etup _, h => h.elim
theorem D.sim_mono {m n : Nat} {d : D} (h : m ≤ n) (hd : d.sim m) : d.sim n := by
  induction h with
  | refl => exact hd
  | step _ ih => exact D.sim_succ _ _ ih
theorem sim_shaped {n : Nat} {d : D} (h : d.sim n) (hn : n ≤ 64) : SeqAt.shaped d.py = true := by
  obtain ⟨_, a2, a3⟩ := sim_all n d h
  unfold SeqAt.shaped
  rw [a2, decide_eq_true (Nat.le_trans a3 hn)]
  rfl
theorem sim_eqv {n : Nat} {d : D} (h : d.sim n) : PyData.eqv d.py d.py = true := SeqAt.eqv_refl _ (sim_all n d h).2.1
theorem lck_sim (n : Nat) (l : Lck) : (Lck.d l).sim (n + 2) := by
  refine ⟨by simp, fun d hd => ?_⟩
  simp only [List.mem_cons, List.not_mem_nil, or_false] at hd
  rcases hd with rfl | rfl | rfl | rfl | rfl
  · trivial
  · exact side_lay _
  · trivial
  · trivial
  · trivial
theorem stt_sim (n : Nat) {t : Stt} (h : t.ok) : t.d.sim (n + 4) := by
  refine ⟨by simp, fun d hd => ?_⟩
  simp only [List.mem_cons, List.not_mem_nil, or_false] at hd
  rcases hd with rfl | rfl | rfl | rfl | rfl
  · trivial
  · trivial
  · trivial
  · trivial
  · exact ⟨by have := h.few; rw [List.length_map]; omega, fun d hd => by
      obtain ⟨l, _, rfl⟩ := List.mem_map.mp hd
      exact lck_sim n l⟩
theorem lay_lit {x : Str} (h : PyData.strOk x = true := by decide +kernel) : PyData.canLay0 (.str x) = true := h
theorem dl_sim (n : Nat) {dl : Dl} (h : dl.ok) : dl.d.sim (n + 5) := by
  cases dl with
  | op l r m k =>
    refine ⟨by simp, fun d hd => ?_⟩
    simp only [List.mem_cons, List.not_mem_nil, or_false] at hd
    rcases hd with rfl | rfl | rfl | rfl | rfl
    · exact lay_lit
    · exact nm_lay h.1
    · exact nm_lay h.2.1
    · trivial
    · trivial
  | tl t =>
    refine ⟨by simp, fun d hd => ?_⟩
    simp only [List.mem_cons, List.not_mem_nil, or_false] at hd
    rcases hd with rfl | rfl
    · exact lay_lit
    · exact stt_sim n h
  | sh x =>
    refine ⟨by simp, fun d hd => ?_⟩
    simp only [List.mem_cons, List.not_mem_nil, or_false] at hd
    rcases hd with rfl | rfl
    · exact lay_lit
    · trivial
  | tn =>
    refine ⟨by simp, fun d hd => ?_⟩
    simp only [List.mem_cons, List.not_mem_nil, or_false] at hd
    rcases hd with rfl
    exact lay_lit
theorem pr_sim (n : Nat) {e : Str × Int} (h : isNm e.1) : (prD e).sim (n + 2) := by
  refine ⟨by simp, fun d hd => ?_⟩
  simp only [List.mem_cons, List.not_mem_nil, or_false] at hd
  rcases hd with rfl | rfl
  · exact nm_lay h
  · trivial
/-- the rows are deeds and what they paid -/
def RwOk (s : CtS) : Prop := ∀ d ∈ s.rows, ∃ (dl : Dl) (ps : List (Str × Int)), d = rowD dl.d (ps.map prD) ∧ dl.ok ∧ ps.length ≤ 100000 ∧ ∀ e ∈ ps, isNm e.1
theorem row_sim {s : CtS} (h : RwOk s) {d : D} (hd : d ∈ s.rows) : d.sim 7 := by
  obtain ⟨dl, ps, rfl, h1, h2, h3⟩ := h d hd
  refine ⟨by simp, fun d hd => ?_⟩
  simp only [List.mem_cons, List.not_mem_nil, or_false] at hd
  rcases hd with rfl | rfl
  · exact dl_sim 1 h1
  · exact ⟨by rw [List.length_map]; exact h2, fun d hd => by
      obtain ⟨e, he, rfl⟩ := List.mem_map.mp hd
      exact pr_sim 3 (h3 e he)⟩
theorem rows_sim {s : CtS} (h : RwOk s) (hl : s.rows.length ≤ 100000) : (D.lst s.rows).sim 8 := ⟨hl, fun d hd => row_sim h hd⟩
end Cl
set_option Elab.async false
set_option linter.all false
set_option maxRecDepth 100000
set_option maxHeartbeats 4000000
namespace Cl
open PySem PySem.Spec PyProof.Rows L2
section
variable {P : Program} {w : World} {K : PySem.W.Frag} {L : Sto} {Φ : D → Sto → Prop} {x y : D}
theorem wr_eqQC {ds es : List D} (hx : x = .lst ds ∨ ∃ p f, x = .ref p ∧ At p (.lst ds) L f) (hy : y = .lst es ∨ ∃ p f, y = .ref p ∧ At p (.lst es) L f) (px : D.pures ds = true) (py : D.pures es = true) (sx : SeqAt.shaped (D.py (.lst ds)) = true) (sy : SeqAt.shaped (D.py (.lst es)) = true)
    (q : Φ (.bl (PyData.eqv (D.py (.lst ds)) (D.py (.lst es)))) L) : WR P w K (rEqD K) x y L Φ := fun F H vx vy Q r1 r2 S k => ⟨_, _, lst_dp S r1 hx px, lst_dp S r2 hy py, sx, sy, k.here S (.bl _) q⟩
end
def roadD (r : Rd) : D := .tup [.str r.mood, .str r.l, .str r.r, .int (r.first.l + r.first.r), r.st.d, oD r.en]
theorem road_sim {i : Nat} {bs : List (Str × Int)} {r : Rd} (h : RdOk i bs r) : (roadD r).sim 6 := by
  refine ⟨by simp, fun d hd => ?_⟩
  simp only [List.mem_cons, List.not_mem_nil, or_false] at hd
  rcases hd with rfl | rfl | rfl | rfl | rfl | rfl
  · rcases h.md with e | e | e <;> rw [e] <;> exact lay_lit
  · exact nm_lay h.l
  · exact nm_lay h.r
  · trivial
  · exact stt_sim 1 h.s
  · cases r.en <;> trivial
def stD (s : CtS) : D → D
  | .int i => match s.lanes[i.toNat]? with
    | some r => roadD r
    | none => .non
  | d => d
theorem st_all (s : CtS) : (rangeD s.lanes.length).map (stD s) = s.lanes.map roadD := by
  refine List.ext_getElem (by rw [List.length_map, rangeD_len, List.length_map]) fun i h1 h2 => ?_
  rw [List.length_map] at h2
  have e : (rangeD s.lanes.length)[i]'(by rw [rangeD_len]; exact h2) = .int (i : Int) := by
    unfold rangeD
    simp
  rw [List.getElem_map, List.getElem_map, e]
  show (match s.lanes[((i : Nat) : Int).toNat]? with | some r => roadD r | none => .non) = _
  rw [Int.toNat_natCast, List.getElem?_eq_getElem h2]
theorem bget_mem {bs : List (Str × Int)} {e : Str × Int} (h : e ∈ bs) : ∃ v, bget bs e.1 = some v := by
  unfold bget
  cases q : bs.find? fun x => decide (x.1 = e.1) with
  | none =>
    rw [List.find?_eq_none] at q
    exact absurd (decide_eq_true rfl) (q e h)
  | some x => exact ⟨_, rfl⟩
local macro_rules | `(tactic| walk_at "at") => `(tactic| first | assumption | repeat first | with_reducible exact At.here | with_reducible exact at_mc | with_reducible exact at_mb | with_reducible exact at_mo | with_reducible exact at_ms | with_reducible exact at_md | with_reducible exact at_kb | with_reducible exact at_kn | with_reducible exact at_ko | with_reducible exact at_ks | with_reducible exact at_kr | with_reducible exact at_kd | with_reducible apply At.tail | (with_reducible apply At.in (by assumption)))
local macro_rules | `(tactic| walk_at "fact") => `(tactic| first | exact c_Court (by assumption) | exact c_Lane (by assumption) | exact c_Signs (by assumption) | exact n_Court_clock (by assumption) | exact n_Court_long (by assumption) | exact n_Court_bags (by assumption) | exact n_Court_book (by assumption) | exact n_Court_opened (by assumption) | exact n_Court_seen (by assumption) | exact n_Court_kept (by assumption) | exact n_Court_deeds (by assumption) | exact n_Lane_both (by assumption) | exact n_Lane_first (by assumption) | exact n_Lane_standing (by assumption) | exact n_Lane_mood (by assumption) | exact n_Lane_ending (by assumption) | exact n_Signs_by_hand (by assumption))
local macro_rules | `(tactic| walk_at "ge") => `(tactic| first
  | with_reducible refine we_var rfl ?_
  | with_reducible refine we_int ?_
  | with_reducible refine we_str ?_
  | with_reducible refine we_ty ?_
  | with_reducible refine we_bl ?_
  | with_reducible refine we_non ?_
  | with_reducible refine we_ref ?_
  | with_reducible refine we_op ?_
  | with_reducible refine we_cb ?_
  | with_reducible refine we_call0 ?_
  | with_reducible refine we_call ?_
  | with_reducible refine we_lst ?_
  | with_reducible refine we_tup ?_
  | with_reducible refine we_andV ?_
  | with_reducible refine we_orV ?_
  | with_reducible refine we_notV ?_
  | with_reducible refine we_if ?_
  | with_reducible refine we_chain ?_
  | with_reducible refine we_sl ?_
  | with_reducible refine we_lz ?_
  | with_reducible refine we_dnewK (fun _ => ?_)
  | with_reducible refine we_dnewN (fun _ => ?_)
  | with_reducible refine we_fld ?_
  | with_reducible refine we_dget ?_
  | with_reducible refine we_din ?_
  | with_reducible refine we_dnotIn ?_
  | with_reducible refine we_dget2 ?_
  | with_reducible refine we_dsetd ?_
  | with_reducible refine we_make ?_
  | with_reducible refine we_meth0 ?_
  | with_reducible refine we_meth ?_
  | with_reducible refine we_bm ?_)
local macro_rules | `(tactic| walk_at "gt") => `(tactic| first
  | with_reducible refine wt_B ?_
  | with_reducible refine wt_test ?_
  | with_reducible refine wt_not ?_
  | with_reducible refine wt_and ?_
  | with_reducible refine wt_or ?_
  | with_reducible refine wt_yes ?_)
local macro_rules | `(tactic| walk_at "gst") => `(tactic| first
  | with_reducible refine ws_ret ?_
  | with_reducible refine ws_retN ?_
  | with_reducible refine ws_seq ?_
  | with_reducible refine ws_set ?_
  | with_reducible refine ws_drop ?_
  | with_reducible refine ws_if ?_
  | with_reducible refine ws_next ?_
  | with_reducible refine ws_raise ?_
  | with_reducible refine ws_asgS ?_
  | with_reducible refine ws_setL ?_
  | with_reducible refine ws_setN ?_
  | with_reducible refine ws_asg ?_
  | with_reducible refine ws_fld ?_
  | with_reducible refine ws_fldaddI ?_
  | with_reducible refine ws_dput ?_)
local macro_rules | `(tactic| walk_at "gr") => `(tactic| first
  | with_reducible refine wr_ixT rfl ?_
  | with_reducible refine wr_ixL rfl ?_
  | with_reducible refine ix_t0 ?_
  | with_reducible refine ix_t1 ?_
  | with_reducible refine ix_t2 ?_
  | with_reducible refine ix_t3 ?_
  | with_reducible refine ix_t4 ?_
  | with_reducible refine ix_l0 ?_
  | with_reducible refine ix_l1 ?_
  | with_reducible refine ix_l2 ?_
  | with_reducible refine ix_l3 ?_
  | with_reducible refine ix_l4 ?_
  | with_reducible refine wr_int ?_
  | (with_reducible refine isPow ?_; with_reducible refine wr_powL (by decide) (by decide) (by decide) ?_)
  | with_reducible refine wr_bool ?_
  | with_reducible refine wr_eqI ?_
  | with_reducible refine wr_neI ?_
  | with_reducible refine wr_eqS ?_
  | with_reducible refine wr_neS ?_
  | with_reducible refine wr_eqB ?_
  | with_reducible refine wr_neB ?_
  | with_reducible refine wr_isN ?_
  | with_reducible refine wr_notN ?_
  | (with_reducible refine isIxC ?_; with_reducible refine wr_ixC (by walk_at "at") (by with_unfolding_all rfl) ?_))
local macro_rules | `(tactic| walk_at "gc") => `(tactic| first
  | with_reducible refine wc_isi rfl rfl ?_
  | with_reducible refine wc_isi (by decide) (by decide +kernel) ?_
  | (with_reducible refine isLen ?_; with_reducible refine wc_lenC (by walk_at "at") ?_)
  | with_reducible refine wc_lenT ?_
  | with_reducible refine wc_lenL ?_)
local macro_rules | `(tactic| walk_at "ga") => `(tactic| first
  | with_reducible refine wa_cons ?_
  | with_reducible refine wa_nil ?_)
local macro_rules | `(tactic| walk_at "gx") => `(tactic| first
  | (with_reducible refine isLn ?_; with_reducible refine lenAnd (by simp) ?_)
  | with_reducible refine wsl_tup ?_
  | with_reducible refine wo_none ?_
  | with_reducible refine wo_some ?_
  | with_reducible refine ex_bl ?_
  | with_reducible refine ex_int ?_
  | with_reducible refine ex_str ?_
  | with_reducible refine ex_tup ?_
  | with_reducible refine ex_lst ?_
  | with_reducible refine ex_etup ?_
  | with_reducible refine br_true ?_
  | with_reducible refine br_false ?_
  | (with_reducible refine isBr ?_; refine br_t rfl ?_)
  | (with_reducible refine isBr ?_; refine br_f rfl ?_)
  | (with_reducible refine isFld ?_; with_reducible refine ex_fld (by walk_at "at") (by walk_at "fact") (by walk_at "fact") (by with_unfolding_all rfl) ?_)
  | (with_reducible refine isPut ?_; with_reducible refine ex_put (by walk_at "at") (by walk_at "fact") (by walk_at "fact") (by with_unfolding_all exact of_decide_eq_true rfl) ?_)
  | (with_reducible refine isMeth ?_; with_reducible refine ex_meth (by walk_at "at") (by with_unfolding_all rfl) ?_)
  | (with_reducible refine isTy ?_; with_reducible refine And.intro (ty_cell (by walk_at "at")) ?_)
  | with_reducible refine k_whole ?_
  | with_reducible refine k_count ?_
  | with_reducible refine k_amount ?_)
local macro_rules | `(tactic| walk_at "s") => `(tactic| first
  | (with_reducible refine isWE ?_; walk_at "ge")
  | (with_reducible refine isWS ?_; walk_at "gst")
  | (with_reducible refine isWT ?_; walk_at "gt")
  | (with_reducible refine isWR ?_; walk_at "gr")
  | (with_reducible refine isWA ?_; walk_at "ga")
  | (with_reducible refine isWC ?_; walk_at "gc")
  | walk_at "gx")
local macro_rules | `(tactic| walk_at "w") => `(tactic| repeat walk_at "s")

local macro_rules | `(tactic| walk_at "at") => `(tactic| first | assumption | repeat first | assumption | with_reducible exact At.here | with_reducible exact at_kb | with_reducible exact at_kn | with_reducible exact at_ko | with_reducible exact at_ks | with_reducible exact at_kr | with_reducible exact at_kd | with_reducible apply At.tail | (with_reducible apply At.in (by assumption)) | with_reducible apply At.right)
section
variable {P : Program} {w : World} {K : PySem.W.Frag} {mg : Str → Option Value} {base : Heap}
theorem k_same {x y : D} {n : Nat} {L Φ ex} (e : x = y) (hs : y.sim n) (h : Φ (.bl true) L) : aSame n [x, y] L Φ ex := ⟨_, _, rfl, e, hs, h⟩
abbrev aLooked (K : PySem.W.Frag) : ASp := A3 fun ct bk ks L Φ _ => ∃ a la s sg k ra kk f N ns, ct = .ref a.c ∧ bk = .ref k.b ∧ Part (MC K a la s sg ++ BkC k ra s kk) L f ∧ CtOk N la s ∧ ra.length = s.lanes.length ∧ RwOk s ∧ ks = .lst (List.map D.int ns) ∧ (∀ n ∈ ns, 0 ≤ n) ∧ ns.length ≤ 100 ∧ Φ (.bl true) (f (MC K a la s sg ++ BkC k ra s kk))
theorem sc_law_looked : FnScope ["_law_court", "_law_book_here", "_law_keys", "_law_roads", "_law_left", "_law_right", "_law_one", "_law_other", "_law_mood", "_law_standing", "_law_ending", "_law_hands", "_law_shown", "_law_k", "_law_hand"] ["_law_court", "_law_book_here", "_law_keys"] d_law_looked.scope := ⟨rfl, rfl, rfl, by decide +kernel, rfl, by decide +kernel, by decide +kernel⟩
theorem ok_law_looked (T : Tx K mg) : FOk P w K mg base 11 (He.fAd K d_law_looked.at_) ["_law_court", "_law_book_here", "_law_keys"] (aLooked K) := by
  refine fok_of (d := d_law_looked) T 61 (k := 10) rfl rfl rfl sc_law_looked (fun ds L Φ ex h => A3.len h) (fun _ _ _ _ _ _ us hl => match us, hl with | [_, _, _], _ => rfl) (fun cdv Ar outer s H E ds L Φ ex hr h => ?_)
  obtain ⟨court, book_here, keys, rfl, h⟩ := h
  refine ⟨_, (pss_cons (ps_set (i := 3) sc_law_looked.nd rfl (Or.inl rfl) (pe_lst pa_nil))
    (pss_cons (ps_for (passes_of rfl) rfl (pi_list (pe_ix ix_list (pv 1) pe_int (fun _ _ => rfl))) (pg_lst (n := 7) rfl (pgs_cons (pg_name (i := 4) sc_law_looked.nd rfl (Or.inl rfl)) (pgs_cons (pg_name (i := 5) sc_law_looked.nd rfl (Or.inl rfl)) (pgs_cons (pg_name (i := 6) sc_law_looked.nd rfl (Or.inl rfl)) (pgs_cons (pg_name (i := 7) sc_law_looked.nd rfl (Or.inl rfl)) (pgs_cons (pg_name (i := 8) sc_law_looked.nd rfl (Or.inl rfl)) (pgs_cons (pg_name (i := 9) sc_law_looked.nd rfl (Or.inl rfl)) (pgs_cons (pg_name (i := 10) sc_law_looked.nd rfl (Or.inl rfl)) pgs_nil)))))))) (pss_one (ps_expr (pe_bm PySem.F.plainAttrs_list PySem.F.slot_list_append PySem.F.type_list_append mt_append (pv 3) (pa_cons (pe_tup (pa_cons (pv 8) (pa_cons (pv 4) (pa_cons (pv 5) (pa_cons (pe_op op_add (pv 6) (pv 7)) (pa_cons (pv 9) (pa_cons (pv 10) pa_nil))))))) pa_nil)))))
    (pss_cons (ps_if (pt_not (pt_val (pe_c (ok_law_same T) hr rfl (g_law_same T) (pa_cons (pe_lc (own := [("_law_k", 13)]) rfl sc_law_looked.nd (pi_range1 rfl (f_range T) (pa_cons (pe_callB call_len rfl (f_len T) (by decide +kernel) (pa_cons (pv 3) pa_nil)) pa_nil)) (blkOk_by (own := [("_law_k", 13)]) (N := ["_law_court", "_law_book_here", "_law_keys", "_law_roads", "_law_left", "_law_right", "_law_one", "_law_other", "_law_mood", "_law_standing", "_law_ending", "_law_hands", "_law_shown", "_law_k", "_law_hand"]) (sc := d_law_looked.scope) (by decide +kernel)) (fun _ _ _ _ _ => by exact (pg_name (i := 13) sc_law_looked.nd rfl (Or.inl rfl))) (fun _ _ _ _ _ => by exact pts_nil) (fun _ _ _ _ _ => by exact (pe_mK (P := P) (w := w) (K := K) (mg := mg) (base := base) rfl rfl rfl rfl rfl (pv 0) (c_Court T) (m_Court_stand T) (ok_Court_stand T) hr (pa_cons (pv 13) pa_nil)))) (pa_cons (pv 3) pa_nil))))) (pss_one (ps_ret pe_bl)) pss_nil)
    (pss_cons (ps_set (i := 11) sc_law_looked.nd rfl (Or.inl rfl) (pe_callB (call_sortedD rfl) rfl (f_sorted T) (by decide +kernel) (pa_cons (pe_ix ix_list (pv 1) pe_int (fun _ _ => rfl)) pa_nil)))
    (pss_cons (ps_if (pt_not (pt_val (pe_c (ok_law_same T) hr rfl (g_law_same T) (pa_cons (pe_lst (pa_cons (pe_m0 (pv 0) (c_Court T) (m_Court_now T) (ok_Court_now T) hr) (pa_cons (pe_m0 (pv 0) (c_Court T) (m_Court_patience T) (ok_Court_patience T) hr) (pa_cons (pe_m0 (pv 0) (c_Court T) (m_Court_lanes T) (ok_Court_lanes T) hr) pa_nil)))) (pa_cons (pe_lst (pa_cons (pe_ix ix_list (pv 1) pe_int (fun _ _ => rfl)) (pa_cons (pe_ix ix_list (pv 1) pe_int (fun _ _ => rfl)) (pa_cons (pe_callB call_len rfl (f_len T) (by decide +kernel) (pa_cons (pv 3) pa_nil)) pa_nil)))) pa_nil))))) (pss_one (ps_ret pe_bl)) pss_nil)
    (pss_cons (ps_if (pt_not (pt_val (pe_c (ok_law_same T) hr rfl (g_law_same T) (pa_cons (pe_m0 (pv 0) (c_Court T) (m_Court_hands T) (ok_Court_hands T) hr) (pa_cons (pv 11) pa_nil))))) (pss_one (ps_ret pe_bl)) pss_nil)
    (pss_cons (ps_if (pt_not (pt_val (pe_c (ok_law_same T) hr rfl (g_law_same T) (pa_cons (pe_lc (own := [("_law_hand", 14)]) rfl sc_law_looked.nd (pi_list (pv 11)) (blkOk_by (own := [("_law_hand", 14)]) (N := ["_law_court", "_law_book_here", "_law_keys", "_law_roads", "_law_left", "_law_right", "_law_one", "_law_other", "_law_mood", "_law_standing", "_law_ending", "_law_hands", "_law_shown", "_law_k", "_law_hand"]) (sc := d_law_looked.scope) (by decide +kernel)) (fun _ _ _ _ _ => by exact (pg_name (i := 14) sc_law_looked.nd rfl (Or.inl rfl))) (fun _ _ _ _ _ => by exact pts_nil) (fun _ _ _ _ _ => by exact (pe_mK (P := P) (w := w) (K := K) (mg := mg) (base := base) rfl rfl rfl rfl rfl (pv 0) (c_Court T) (m_Court_purse T) (ok_Court_purse T) hr (pa_cons (pv 14) pa_nil)))) (pa_cons (pe_lc (own := [("_law_hand", 14)]) rfl sc_law_looked.nd (pi_list (pv 11)) (blkOk_by (own := [("_law_hand", 14)]) (N := ["_law_court", "_law_book_here", "_law_keys", "_law_roads", "_law_left", "_law_right", "_law_one", "_law_other", "_law_mood", "_law_standing", "_law_ending", "_law_hands", "_law_shown", "_law_k", "_law_hand"]) (sc := d_law_looked.scope) (by decide +kernel)) (fun _ _ _ _ _ => by exact (pg_name (i := 14) sc_law_looked.nd rfl (Or.inl rfl))) (fun _ _ _ _ _ => by exact pts_nil) (fun _ _ _ _ _ => by exact (pe_dget (hu_of hr) (pe_ix (ix_listK (K := K) rfl) (pv 1) pe_int (fun _ _ => rfl)) (pv 14) (fun _ _ => rfl)))) pa_nil))))) (pss_one (ps_ret pe_bl)) pss_nil)
    (pss_cons (ps_setLc (i := 12) (own := [("_law_one", 6)]) rfl sc_law_looked.nd rfl rfl (sw_true rfl rfl rfl (by decide +kernel)) (pi_list (pv 2)) (blkOk_by (own := [("_law_one", 6)]) (N := ["_law_court", "_law_book_here", "_law_keys", "_law_roads", "_law_left", "_law_right", "_law_one", "_law_other", "_law_mood", "_law_standing", "_law_ending", "_law_hands", "_law_shown", "_law_k", "_law_hand"]) (sc := d_law_looked.scope) (by decide +kernel)) (fun _ _ _ _ _ => by exact (pg_name (i := 6) sc_law_looked.nd rfl (Or.inl rfl))) (fun _ _ _ _ _ => by exact pts_nil) (fun _ _ _ _ _ => by exact (pe_dget2 (hu_of hr) (pe_ix (ix_listK (K := K) rfl) (pv 1) pe_int (fun _ _ => rfl)) (pv 6) (pe_tup (pa_cons pe_non (pa_cons pe_non pa_nil))) ⟨rfl, rfl, rfl, rfl⟩)))
    (pss_cons (ps_if (pt_not (pt_val (pe_c (ok_law_same T) hr rfl (g_law_same T) (pa_cons (pe_lc (own := [("_law_one", 6)]) rfl sc_law_looked.nd (pi_list (pv 2)) (blkOk_by (own := [("_law_one", 6)]) (N := ["_law_court", "_law_book_here", "_law_keys", "_law_roads", "_law_left", "_law_right", "_law_one", "_law_other", "_law_mood", "_law_standing", "_law_ending", "_law_hands", "_law_shown", "_law_k", "_law_hand"]) (sc := d_law_looked.scope) (by decide +kernel)) (fun _ _ _ _ _ => by exact (pg_name (i := 6) sc_law_looked.nd rfl (Or.inl rfl))) (fun _ _ _ _ _ => by exact pts_nil) (fun _ _ _ _ _ => by exact (pe_tup (pa_cons (pe_mK (P := P) (w := w) (K := K) (mg := mg) (base := base) rfl rfl rfl rfl rfl (pv 0) (c_Court T) (m_Court_shown T) (ok_Court_shown T) hr (pa_cons (pv 6) pa_nil)) (pa_cons (pe_mK (P := P) (w := w) (K := K) (mg := mg) (base := base) rfl rfl rfl rfl rfl (pv 0) (c_Court T) (m_Court_secret T) (ok_Court_secret T) hr (pa_cons (pv 6) pa_nil)) pa_nil))))) (pa_cons (pv 12) pa_nil))))) (pss_one (ps_ret pe_bl)) pss_nil)
    (pss_one (ps_ret (pe_and (pe_c (ok_law_same T) hr rfl (g_law_same T) (pa_cons (pe_m0 (pv 0) (c_Court T) (m_Court_held T) (ok_Court_held T) hr) (pa_cons (pe_ix ix_list (pv 1) pe_int (fun _ _ => rfl)) pa_nil))) (pe_one (pe_cmpR (op_eqD hr.units) (pe_m0 (pv 0) (c_Court T) (m_Court_rows T) (ok_Court_rows T) hr) (pe_ix ix_list (pv 1) pe_int (fun _ _ => rfl)) (nomark _))))))))))))))), ?_⟩
  obtain ⟨a, la, s, sg, k, ra, kk, f, N, ns, rfl, rfl, ⟨hf, rfl⟩, ok, hra, hrw, rfl, hns, hnl, h⟩ := h
  dsimp only [cxOf]
  have hbig := ok.big
  have hnL := ok.nl
  have pm : Part (MC K a la s sg) (f (MC K a la s sg ++ BkC k ra s kk)) (fun S => f (S ++ BkC k ra s kk)) := Part.in hf Part.front
  refine ws_seq (ws_set (we_lstC (wa_nil ⟨by decide, fun q => ?_⟩)))
  refine ws_seq (ws_for (wi_listC ?_))
  walk_at "w"
  refine ⟨_, _, _, rfl, by walk_at "at", ?_⟩
  refine ⟨fun i Γ' L' => i ≤ s.lanes.length ∧ L' = (q, .lst ((s.lanes.take i).map roadD)) :: f (MC K a la s sg ++ BkC k ra s kk) ∧ ∃ y1 y2 y3 y4 y5 y6 y7 y8 y9 y10 y11, Γ' = [some (.ref a.c), some (.ref k.b), some (.lst (ns.map D.int)), some (.ref q), y1, y2, y3, y4, y5, y6, y7, y8, y9, y10, y11], ⟨Nat.zero_le _, ?_, _, _, _, _, _, _, _, _, _, _, _, rfl⟩, fun i Γ' L' hI => ?_, fun i d Γ' L' hd hI => ?_, fun Γ' L' hI => ?_⟩
  · simp
  · obtain ⟨_, rfl, _⟩ := hI
    exact ⟨_, by walk_at "at"⟩
  · obtain ⟨hi, rfl, y1, y2, y3, y4, y5, y6, y7, y8, y9, y10, y11, rfl⟩ := hI
    rw [List.getElem?_map] at hd
    obtain ⟨ad, had, rfl⟩ := Option.map_eq_some_iff.mp hd
    have hlt : i < s.lanes.length := by rw [← hra]; exact (List.getElem?_eq_some_iff.mp had).1
    obtain ⟨r, hr⟩ : ∃ r, s.lanes[i]? = some r := ⟨_, List.getElem?_eq_getElem hlt⟩
    have htk : s.lanes.take (i + 1) = s.lanes.take i ++ [r] := by rw [List.take_add_one, hr]; rfl
    obtain ⟨g, hA, _⟩ := at_krd (k := k) (kk := kk) (f := fun S => f (MC K a la s sg ++ S)) (hf.comp Hole.id.right) had hr
    refine ⟨_, wg_lstC (us := [(4, .str r.l), (5, .str r.r), (6, .int r.first.l), (7, .int r.first.r), (8, .str r.mood), (9, r.st.d), (10, oD r.en)]) rfl (At.tail hA) (wgs_cons wg_name (wgs_cons wg_name (wgs_cons wg_name (wgs_cons wg_name (wgs_cons wg_name (wgs_cons wg_name (wgs_cons wg_name wgs_nil))))))), ?_⟩
    dsimp only [setG]
    walk_at "w"
    refine wm_append At.here (by rw [List.length_map, List.length_take]; omega) ?_
    refine ⟨hlt, ?_, _, _, _, _, _, _, _, _, _, _, _, rfl⟩
    rw [htk, List.map_append]
    rfl
  · obtain ⟨hi, rfl, y1, y2, y3, y4, y5, y6, y7, y8, y9, y10, y11, rfl⟩ := hI
    rw [List.length_map, hra, List.take_length]
    clear hi
    refine WS.ice 3 rfl ?_
    dsimp only [List.set_cons_succ, List.set_cons_zero]
    have hC := At.in hf (At.left (B := BkC k ra s kk) (at_mc (K := K) (a := a) (la := la) (s := s) (sg := sg)))
    have kb : Part (MC K a la s sg) (f (MC K a la s sg ++ BkC k ra s kk)) (fun S => f (S ++ BkC k ra s kk)) := pm
    walk_at "w"
    refine we_lcM (wi_rng (n := 0) ?_)
    walk_at "w"
    rw [List.length_map]
    refine ⟨_, rfl, by omega, by omega, fun _ _ => trivial, by rw [rangeD_len]; omega, stD s, fun d hd p acc => ?_, ?_⟩
    · obtain ⟨i, hi⟩ := List.getElem?_of_mem hd
      obtain ⟨hi2, rfl⟩ := rangeD_get hi
      have hlt : i < s.lanes.length := by omega
      obtain ⟨r, hr⟩ : ∃ r, s.lanes[i]? = some r := ⟨_, List.getElem?_eq_getElem hlt⟩
      refine ⟨_, wg_name, by simp, ?_⟩
      walk_at "w"
      refine ⟨_, _, rfl, a, la, s, sg, fun S => (p, .lst acc) :: f (S ++ BkC k ra s kk), N, (i : Int), r, rfl, ⟨pm.1.tail, rfl⟩, ok, rfl, by omega, by rw [Int.toNat_natCast]; exact hr, ?_⟩
      refine ⟨?_, rfl⟩
      have wf : r.first.worth = r.first.l + r.first.r := by
        unfold Stt.worth
        rw [(ok.rd _ _ hr).fk]
        simp
      rw [wf]
      show roadD r = _
      unfold stD
      dsimp only
      rw [Int.toNat_natCast, hr]
    · rw [Int.toNat_natCast, st_all]
      walk_at "w"
      refine k_same rfl ⟨by rw [List.length_map]; omega, fun d hd => ?_⟩ ?_
      · obtain ⟨r, hr, rfl⟩ := List.mem_map.mp hd
        obtain ⟨i, hi⟩ := List.getElem?_of_mem hr
        have := road_sim (ok.rd i r hi)
        exact D.sim_mono (by decide) this
      walk_at "w"
      refine wc_sortD (ks := s.bags.map (·.1)) (by walk_at "at") (by unfold bagK; rw [List.map_map, List.map_map]; rfl) (by have := ok.bg.few; rw [List.length_map]; omega) fun ys h1 h2 => ?_
      have hyl : ys.length ≤ 60 := by
        have := h1.length_eq
        have := ok.bg.few
        rw [List.length_map] at *
        omega
      have hyn : ∀ y ∈ ys, isNm y ∧ ∃ v, bget s.bags y = some v := fun y hy => by
        obtain ⟨e, he, rfl⟩ := List.mem_map.mp (h1.mem_iff.mp hy)
        exact ⟨ok.bg.nm e he, bget_mem he⟩
      walk_at "w"
      refine ⟨_, rfl, a, la, s, sg, _, N, rfl, pm, ok, ?_⟩
      walk_at "w"
      refine ⟨_, rfl, a, la, s, sg, _, N, rfl, pm, ok, ?_⟩
      walk_at "w"
      refine ⟨_, rfl, a, la, s, sg, _, N, rfl, pm, ok, ?_⟩
      walk_at "w"
      rw [List.length_map]
      refine k_same rfl ⟨by simp, fun d hd => ?_⟩ ?_
      · simp only [List.mem_cons, List.not_mem_nil, or_false] at hd
        rcases hd with rfl | rfl | rfl <;> trivial
      walk_at "w"
      refine ⟨_, rfl, a, la, s, sg, _, N, rfl, pm, ok, fun zs z1 z2 => ?_⟩
      obtain rfl := sortedS_eq z2 h2 (z1.trans h1.symm)
      walk_at "w"
      refine k_same rfl ⟨by rw [List.length_map]; omega, fun d hd => ?_⟩ ?_
      · obtain ⟨y, hy, rfl⟩ := List.mem_map.mp hd
        exact nm_lay (hyn y hy).1
      walk_at "w"
      refine we_lcM (wi_listD ?_)
      walk_at "w"
      refine ⟨fun _ _ => trivial, by rw [List.length_map]; omega, fun d => (match d with | .str h => .int ((bget s.bags h).getD 0) | d => d), fun d hd p acc => ?_, ?_⟩
      · obtain ⟨y, hy, rfl⟩ := List.mem_map.mp hd
        obtain ⟨ny, v, hv⟩ := hyn y hy
        refine ⟨_, wg_name, by simp, ?_⟩
        walk_at "w"
        refine ⟨_, _, rfl, a, la, s, sg, fun S => (p, .lst acc) :: f (S ++ BkC k ra s kk), N, y, v, rfl, ⟨pm.1.tail, rfl⟩, ok, rfl, ny, hv, ?_, rfl⟩
        dsimp only
        rw [hv]
        rfl
      refine wa_cons ?_
      refine we_lcM (wi_listD ?_)
      walk_at "w"
      refine ⟨fun _ _ => trivial, by rw [List.length_map]; omega, fun d => (match d with | .str h => .int ((bget s.bags h).getD 0) | d => d), fun d hd p acc => ?_, ?_⟩
      · obtain ⟨y, hy, rfl⟩ := List.mem_map.mp hd
        obtain ⟨ny, v, hv⟩ := hyn y hy
        refine ⟨_, wg_name, by simp, ?_⟩
        walk_at "w"
        refine ⟨_, _, .inr y, _, _, rfl, rfl, by walk_at "at", by rw [bagK_get, hv]; rfl, ?_, rfl⟩
        dsimp only
        rw [hv]
        rfl
      walk_at "w"
      refine k_same rfl ⟨by rw [List.length_map, List.length_map]; omega, fun d hd => ?_⟩ ?_
      · obtain ⟨d0, hd0, rfl⟩ := List.mem_map.mp hd
        obtain ⟨y, hy, rfl⟩ := List.mem_map.mp hd0
        trivial
      walk_at "w"
      refine we_lcM (wi_listD ?_)
      walk_at "w"
      refine ⟨fun _ _ => trivial, by rw [List.length_map]; omega, fun d => (match d with | .int n => seenD (sget s.seen n) | d => d), fun d hd p acc => ?_, ?_⟩
      · obtain ⟨y, hy, rfl⟩ := List.mem_map.mp hd
        refine ⟨_, wg_name, by simp, ?_⟩
        walk_at "w"
        refine ⟨_, _, _, rfl, by walk_at "at", ?_⟩
        walk_at "w"
        refine ⟨_, .inl y, _, rfl, by walk_at "at", ?_⟩
        rw [seenK_get]
        dsimp only
        refine ⟨?_, rfl⟩
        cases sget s.seen y <;> rfl
      walk_at "w"
      refine we_lcM (wi_listD ?_)
      walk_at "w"
      refine ⟨fun _ _ => trivial, by rw [List.length_map]; omega, fun d => (match d with | .int n => seenD (sget s.seen n) | d => d), fun d hd p acc => ?_, ?_⟩
      · obtain ⟨y, hy, rfl⟩ := List.mem_map.mp hd
        refine ⟨_, wg_name, by simp, ?_⟩
        walk_at "w"
        refine ⟨_, _, rfl, a, la, s, sg, fun S => (p, .lst acc) :: f (S ++ BkC k ra s kk), N, y, rfl, ⟨pm.1.tail, rfl⟩, ok, rfl, hns y hy, ?_⟩
        walk_at "w"
        refine ⟨_, _, rfl, a, la, s, sg, fun S => (p, .lst acc) :: f (S ++ BkC k ra s kk), N, y, rfl, ⟨pm.1.tail, rfl⟩, ok, rfl, hns y hy, ?_⟩
        walk_at "w"
        refine ⟨?_, rfl⟩
        dsimp only
        cases sget s.seen y <;> rfl
      walk_at "w"
      refine k_same rfl ⟨by rw [List.length_map, List.length_map]; omega, fun d hd => ?_⟩ ?_
      · obtain ⟨d0, hd0, rfl⟩ := List.mem_map.mp hd
        obtain ⟨y, hy, rfl⟩ := List.mem_map.mp hd0
        dsimp only
        cases sget s.seen y with
        | none =>
          refine ⟨by simp, fun d hd => ?_⟩
          simp only [List.mem_cons, List.not_mem_nil, or_false] at hd
          rcases hd with rfl | rfl <;> trivial
        | some z =>
          refine ⟨by simp, fun d hd => ?_⟩
          simp only [List.mem_cons, List.not_mem_nil, or_false] at hd
          rcases hd with rfl | rfl <;> trivial
      have hnk := ok.nk
      have hcp : s.lanes.countP (fun r => r.mood == ("settled" : Str)) ≤ s.lanes.length := List.countP_le_length
      walk_at "w"
      refine ⟨_, rfl, a, la, s, sg, _, N, rfl, pm, ok, ?_⟩
      walk_at "w"
      refine k_same rfl ⟨by rw [List.length_map]; omega, fun d hd => ?_⟩ ?_
      · obtain ⟨e, he, rfl⟩ := List.mem_map.mp hd
        refine ⟨by simp, fun d hd => ?_⟩
        simp only [List.mem_cons, List.not_mem_nil, or_false] at hd
        rcases hd with rfl | rfl
        · trivial
        · exact lck_sim _ _
      walk_at "w"
      refine ⟨_, rfl, a, la, s, sg, _, N, rfl, pm, ok, ?_⟩
      walk_at "w"
      have hrs := rows_sim hrw (by have := ok.nr; omega)
      obtain ⟨rp, _, _⟩ := sim_all _ _ hrs
      unfold D.pure at rp
      refine wr_eqQC (.inl rfl) (.inr ⟨_, _, rfl, by walk_at "at"⟩) rp rp (sim_shaped hrs (by decide)) (sim_shaped hrs (by decide)) ?_
      rw [sim_eqv hrs]
      exact h
end
end Cl
set_option Elab.async false
set_option linter.all false
set_option maxRecDepth 100000
set_option maxHeartbeats 4000000
namespace Cl
open PySem PySem.Spec PyProof.Rows L2
/-! ### all cells -/
abbrev AllC (K : PySem.W.Frag) (wa wg : Addr) (x : Wl) (a : Ad) (la : List Addr) (s : CtS) (sg : Sg) (k : Bk) (ra : List Addr) (kk : Kk) : Sto := WlC wa wg x ++ (MC K a la s sg ++ BkC k ra s kk)
structure SigOk (M : Nat) (sg : Sg) (kk : Kk) : Prop where
  so : SgOk M sg
  kl : kk.length ≤ M
  kn : ∀ e ∈ kk, isNm e.1 ∧ e.2.ok
  eq : ∀ h p, sgd sg h (Ppr.d p) ↔ keyD (h, p) ∈ kk.map keyD
theorem SigOk.mono {M M' : Nat} {sg : Sg} {kk : Kk} (h : SigOk M sg kk) (e : M ≤ M') : SigOk M' sg kk :=
  ⟨⟨h.so.nd, Nat.le_trans h.so.len e, fun x hx => Nat.le_trans (h.so.each x hx) e⟩, Nat.le_trans h.kl e, h.kn, h.eq⟩
theorem keyD_inj {h h' : Str} {p p' : Ppr} : keyD (h, p) = keyD (h', p') ↔ h = h' ∧ p.d = p'.d := by
  constructor
  · intro e
    unfold keyD at e
    injection e with e
    injection e with e1 e2
    injection e1 with e1
    injection e2 with e2 _
    exact ⟨e1, e2⟩
  · rintro ⟨rfl, e⟩
    unfold keyD
    dsimp only
    rw [e]
section
variable {K : PySem.W.Frag} {wa wg : Addr} {x : Wl} {a : Ad} {la : List Addr} {s : CtS} {sg : Sg} {k : Bk} {ra : List Addr} {kk : Kk} {f : Sto → Sto}
theorem hole_w (hf : Hole f) : Hole (fun S => f (S ++ (MC K a la s sg ++ BkC k ra s kk))) := hf.comp Hole.id.left
theorem hole_s (hf : Hole f) : Hole (fun S => f (WlC wa wg x ++ ((MCh K a la s ++ S) ++ BkC k ra s kk))) := hf.comp (Hole.right (Hole.left (Hole.right Hole.id)))
theorem hole_m (hf : Hole f) : Hole (fun S => f (WlC wa wg x ++ (S ++ BkC k ra s kk))) := hf.comp (Hole.right (Hole.left Hole.id))
theorem hole_b (hf : Hole f) : Hole (fun S => f (WlC wa wg x ++ (MC K a la s sg ++ S))) := hf.comp (Hole.right (Hole.right Hole.id))
end
local macro_rules | `(tactic| walk_at "at") => `(tactic| first | assumption | repeat first | assumption | with_reducible exact At.here | with_reducible exact at_kb | with_reducible exact at_kn | with_reducible exact at_ko | with_reducible exact at_ks | with_reducible exact at_kr | with_reducible exact at_kd | with_reducible apply At.tail | (with_reducible apply At.in (by assumption)) | with_reducible apply At.right)
local macro_rules | `(tactic| walk_at "fact") => `(tactic| first | exact c_Court (by assumption) | exact c_Lane (by assumption) | exact c_Signs (by assumption) | exact n_Court_clock (by assumption) | exact n_Court_long (by assumption) | exact n_Court_bags (by assumption) | exact n_Court_book (by assumption) | exact n_Court_opened (by assumption) | exact n_Court_seen (by assumption) | exact n_Court_kept (by assumption) | exact n_Court_deeds (by assumption) | exact n_Lane_both (by assumption) | exact n_Lane_first (by assumption) | exact n_Lane_standing (by assumption) | exact n_Lane_mood (by assumption) | exact n_Lane_ending (by assumption) | exact n_Signs_by_hand (by assumption))
local macro_rules | `(tactic| walk_at "ge") => `(tactic| first
  | with_reducible refine we_var rfl ?_
  | with_reducible refine we_int ?_
  | with_reducible refine we_str ?_
  | with_reducible refine we_ty ?_
  | with_reducible refine we_bl ?_
  | with_reducible refine we_non ?_
  | with_reducible refine we_ref ?_
  | with_reducible refine we_op ?_
  | with_reducible refine we_cb ?_
  | with_reducible refine we_call0 ?_
  | with_reducible refine we_call ?_
  | with_reducible refine we_lst ?_
  | with_reducible refine we_tup ?_
  | with_reducible refine we_andV ?_
  | with_reducible refine we_orV ?_
  | with_reducible refine we_notV ?_
  | with_reducible refine we_if ?_
  | with_reducible refine we_chain ?_
  | with_reducible refine we_sl ?_
  | with_reducible refine we_lz ?_
  | with_reducible refine we_dnewK (fun _ => ?_)
  | with_reducible refine we_dnewN (fun _ => ?_)
  | with_reducible refine we_fld ?_
  | with_reducible refine we_dget ?_
  | with_reducible refine we_din ?_
  | with_reducible refine we_dnotIn ?_
  | with_reducible refine we_dget2 ?_
  | with_reducible refine we_dsetd ?_
  | with_reducible refine we_make ?_
  | with_reducible refine we_meth0 ?_
  | with_reducible refine we_meth ?_
  | with_reducible refine we_bm ?_)
local macro_rules | `(tactic| walk_at "gt") => `(tactic| first
  | with_reducible refine wt_B ?_
  | with_reducible refine wt_test ?_
  | with_reducible refine wt_not ?_
  | with_reducible refine wt_and ?_
  | with_reducible refine wt_or ?_
  | with_reducible refine wt_yes ?_)
local macro_rules | `(tactic| walk_at "gst") => `(tactic| first
  | with_reducible refine ws_ret ?_
  | with_reducible refine ws_retN ?_
  | with_reducible refine ws_seq ?_
  | with_reducible refine ws_set ?_
  | with_reducible refine ws_drop ?_
  | with_reducible refine ws_if ?_
  | with_reducible refine ws_next ?_
  | with_reducible refine ws_raise ?_
  | with_reducible refine ws_asgS ?_
  | with_reducible refine ws_setL ?_
  | with_reducible refine ws_setN ?_
  | with_reducible refine ws_asg ?_
  | with_reducible refine ws_fld ?_
  | with_reducible refine ws_fldaddI ?_
  | with_reducible refine ws_dput ?_)
local macro_rules | `(tactic| walk_at "gr") => `(tactic| first
  | with_reducible refine wr_ixT rfl ?_
  | with_reducible refine wr_ixL rfl ?_
  | with_reducible refine ix_t0 ?_
  | with_reducible refine ix_t1 ?_
  | with_reducible refine ix_t2 ?_
  | with_reducible refine ix_t3 ?_
  | with_reducible refine ix_t4 ?_
  | with_reducible refine ix_l0 ?_
  | with_reducible refine ix_l1 ?_
  | with_reducible refine ix_l2 ?_
  | with_reducible refine ix_l3 ?_
  | with_reducible refine ix_l4 ?_
  | with_reducible refine wr_int ?_
  | (with_reducible refine isPow ?_; with_reducible refine wr_powL (by decide) (by decide) (by decide) ?_)
  | with_reducible refine wr_bool ?_
  | with_reducible refine wr_eqI ?_
  | with_reducible refine wr_neI ?_
  | with_reducible refine wr_eqS ?_
  | with_reducible refine wr_neS ?_
  | with_reducible refine wr_eqB ?_
  | with_reducible refine wr_neB ?_
  | with_reducible refine wr_isN ?_
  | with_reducible refine wr_notN ?_
  | (with_reducible refine isIxC ?_; with_reducible refine wr_ixC (by walk_at "at") (by with_unfolding_all rfl) ?_))
local macro_rules | `(tactic| walk_at "gc") => `(tactic| first
  | with_reducible refine wc_isi rfl rfl ?_
  | with_reducible refine wc_isi (by decide) (by decide +kernel) ?_
  | (with_reducible refine isLen ?_; with_reducible refine wc_lenC (by walk_at "at") ?_)
  | with_reducible refine wc_lenT ?_
  | with_reducible refine wc_lenL ?_)
local macro_rules | `(tactic| walk_at "ga") => `(tactic| first
  | with_reducible refine wa_cons ?_
  | with_reducible refine wa_nil ?_)
local macro_rules | `(tactic| walk_at "gx") => `(tactic| first
  | (with_reducible refine isLn ?_; with_reducible refine lenAnd (by simp) ?_)
  | with_reducible refine wsl_tup ?_
  | with_reducible refine wo_none ?_
  | with_reducible refine wo_some ?_
  | with_reducible refine ex_bl ?_
  | with_reducible refine ex_int ?_
  | with_reducible refine ex_str ?_
  | with_reducible refine ex_tup ?_
  | with_reducible refine ex_lst ?_
  | with_reducible refine ex_etup ?_
  | with_reducible refine br_true ?_
  | with_reducible refine br_false ?_
  | (with_reducible refine isBr ?_; refine br_t rfl ?_)
  | (with_reducible refine isBr ?_; refine br_f rfl ?_)
  | (with_reducible refine isFld ?_; with_reducible refine ex_fld (by walk_at "at") (by walk_at "fact") (by walk_at "fact") (by with_unfolding_all rfl) ?_)
  | (with_reducible refine isPut ?_; with_reducible refine ex_put (by walk_at "at") (by walk_at "fact") (by walk_at "fact") (by with_unfolding_all exact of_decide_eq_true rfl) ?_)
  | (with_reducible refine isMeth ?_; with_reducible refine ex_meth (by walk_at "at") (by with_unfolding_all rfl) ?_)
  | (with_reducible refine isTy ?_; with_reducible refine And.intro (ty_cell (by walk_at "at")) ?_)
  | with_reducible refine k_whole ?_
  | with_reducible refine k_count ?_
  | with_reducible refine k_amount ?_)
local macro_rules | `(tactic| walk_at "s") => `(tactic| first
  | (with_reducible refine isWE ?_; walk_at "ge")
  | (with_reducible refine isWS ?_; walk_at "gst")
  | (with_reducible refine isWT ?_; walk_at "gt")
  | (with_reducible refine isWR ?_; walk_at "gr")
  | (with_reducible refine isWA ?_; walk_at "ga")
  | (with_reducible refine isWC ?_; walk_at "gc")
  | walk_at "gx")
local macro_rules | `(tactic| walk_at "w") => `(tactic| repeat walk_at "s")

section
variable {P : Program} {w : World} {K : PySem.W.Frag} {mg : Str → Option Value} {base : Heap}
abbrev aSigning (K : PySem.W.Frag) : ASp := A5 fun self sn bk pp hs L Φ _ => ∃ wa wg x a la s sg k ra kk f M p l r, self = .ref wa ∧ sn = .ref (Ad.g a) ∧ bk = .ref (Bk.b k) ∧ Part (AllC K wa wg x a la s sg k ra kk) L f ∧ Wl.ok x ∧ x.c + 1 ≤ 1000000 ∧ SigOk M sg kk ∧ M + 2 < 90000 ∧ pp = Ppr.d p ∧ p.ok ∧ hs = .lst [.str l, .str r] ∧ isNm l ∧ isNm r ∧
  ∀ x' sg' kk', Wl.ok x' → x'.c ≤ x.c + 1 → SigOk (M + 2) sg' kk' → Φ .non (f (AllC K wa wg x' a la s sg' k ra kk'))
theorem sc_law_signing : FnScope ["_law_well_here", "_law_signs", "_law_book_here", "_law_paper", "_law_hands", "_law_pick", "_law_k", "_law_hand"] ["_law_well_here", "_law_signs", "_law_book_here", "_law_paper", "_law_hands"] d_law_signing.scope := ⟨rfl, rfl, rfl, by decide +kernel, rfl, by decide +kernel, by decide +kernel⟩
theorem ok_law_signing (T : Tx K mg) : FOk P w K mg base 7 (He.fAd K d_law_signing.at_) ["_law_well_here", "_law_signs", "_law_book_here", "_law_paper", "_law_hands"] (aSigning K) := by
  refine fok_of (d := d_law_signing) T 62 (k := 6) rfl rfl rfl sc_law_signing (fun ds L Φ ex h => A5.len h) (fun _ _ _ _ _ _ us hl => match us, hl with | [_, _, _, _, _], _ => rfl) (fun cdv Ar outer s H E ds L Φ ex hr h => ?_)
  obtain ⟨well_here, signs, book_here, paper, hands, rfl, h⟩ := h
  refine ⟨_, (pss_cons (ps_set (i := 5) sc_law_signing.nd rfl (Or.inl rfl) (pe_c (ok_law_take T) hr rfl (g_law_take T) (pa_cons (pv 0) (pa_cons pe_int pa_nil))))
    (pss_one (ps_for (passes_of rfl) rfl (pi_enum rfl (f_enumerate T) (pa_cons (pv 4) pa_nil)) (pg_tup (n := 2) rfl (pgs_cons (pg_name (i := 6) sc_law_signing.nd rfl (Or.inl rfl)) (pgs_cons (pg_name (i := 7) sc_law_signing.nd rfl (Or.inl rfl)) pgs_nil))) (pss_one (ps_if (PW.pt (pw_or (pt_cmpR op_lt (pv 5) pe_int (nomark _)) (pw_or1 (pt_cmpR op_eq (pv 5) (pe_op op_add pe_int (pv 6)) (nomark _))))) (pss_cons (ps_expr (pe_m (pv 1) (c_Signs T) (m_Signs_sign T) (ok_Signs_sign T) hr (pa_cons (pv 7) (pa_cons (pv 3) pa_nil))))
    (pss_one (ps_asg pe_bl (pg_sub (pe_ix ix_list (pv 2) pe_int (fun _ _ => rfl)) (pe_tup (pa_cons (pv 7) (pa_cons (pv 3) pa_nil))) (set_dN hr.units))))) pss_nil))))), ?_⟩
  obtain ⟨wa, wg, x, a, la, s, sg, k, ra, kk, f, M, p, l, r, rfl, rfl, rfl, ⟨hf, rfl⟩, ok, hc, so, hM, rfl, pok, rfl, nl, nr, h⟩ := h
  dsimp only [cxOf]
  walk_at "w"
  refine k_tk (m := 8) (hole_w (K := K) (a := a) (la := la) (s := s) (sg := sg) (k := k) (ra := ra) (kk := kk) hf) ok (by omega) (by decide) (by decide) fun x1 ok1 hc1 pk hp0 hp1 => ?_
  walk_at "w"
  refine ws_for (wi_enumD ?_)
  walk_at "w"
  refine ⟨_, rfl, fun i Γ' L' => i ≤ 2 ∧ ∃ sg' kk', SigOk (M + i) sg' kk' ∧ L' = f (AllC K wa wg x1 a la s sg' k ra kk') ∧ ∃ y1 y2, Γ' = [some (.ref wa), some (.ref a.g), some (.ref k.b), some (Ppr.d p), some (.lst [.str l, .str r]), some (.int pk), y1, y2], ⟨by decide, sg, kk, so, rfl, _, _, rfl⟩, fun i Γ' L' hI => trivial, fun i d Γ' L' hd hI => ?_, fun Γ' L' hI => ?_⟩
  · obtain ⟨hi, sg', kk', so', rfl, y1, y2, rfl⟩ := hI
    obtain ⟨e0, he, rfl⟩ := enumD_at hd
    obtain ⟨hn, rfl, hnm⟩ : ∃ hn, e0 = .str hn ∧ isNm hn := by
      have := List.mem_of_getElem? he
      simp only [List.mem_cons, List.not_mem_nil, or_false] at this
      rcases this with rfl | rfl
      · exact ⟨_, rfl, nl⟩
      · exact ⟨_, rfl, nr⟩
    have hlt : i < 2 := (List.getElem?_eq_some_iff.mp he).1
    refine ⟨_, wg_tup (us := [(6, .int (i : Int)), (7, .str hn)]) rfl (wgs_cons wg_name (wgs_cons wg_name wgs_nil)), ?_⟩
    dsimp only [setG]
    walk_at "w"
    by_cases c1 : pk < 5
    · refine br_t (decide_eq_true c1) ?_
      walk_at "w"
      refine ⟨_, _, _, rfl, At.in hf (At.right (At.left (by rw [mc_eq]; exact At.right At.here))), by with_unfolding_all rfl, ?_⟩
      walk_at "w"
      refine ⟨_, _, _, rfl, a.g, a.h, sg', M + i, fun S => f (WlC wa wg x1 ++ ((MCh K a la s ++ S) ++ BkC k ra s kk')), hn, p, rfl, rfl, hnm, rfl, pok, ⟨hole_s hf, rfl⟩, so'.so, by omega, fun sg2 so2 hs2 => ?_⟩
      obtain ⟨ds1, k1, e1, e2, e3⟩ := keyD_nk (hn, p)
      have e1' : D.tup [.str hn, p.d] = .tup ds1 := e1
      injection e1' with e1'
      walk_at "w"
      refine ⟨_, _, k1, _, _, rfl, rfl, rfl, by rw [e1']; exact e2, e3, by walk_at "at", by have := so'.kl; rw [List.length_map]; omega, fun hm => ?_, fun hm => ?_⟩
      · refine ⟨hlt, sg2, kk', ⟨so2, by have := so'.kl; omega, so'.kn, fun h' p' => ?_⟩, rfl, _, _, rfl⟩
        rw [hs2, so'.eq]
        constructor
        · rintro (z | z)
          · exact z
          · rw [keyD_inj.mpr z]; exact hm
        · exact .inl
      · refine ⟨hlt, sg2, kk' ++ [(hn, p)], ⟨so2, by have := so'.kl; rw [List.length_append]; simp; omega, fun e he => ?_, fun h' p' => ?_⟩, ?_, _, _, rfl⟩
        · rcases List.mem_append.mp he with z | z
          · exact so'.kn e z
          · have : e = (hn, p) := by simpa using z
            rw [this]; exact ⟨hnm, pok⟩
        · rw [hs2, so'.eq, List.map_append, List.mem_append]
          constructor
          · rintro (z | z)
            · exact .inl z
            · exact .inr (by rw [List.map_cons, List.mem_cons]; exact .inl (keyD_inj.mpr z))
          · rintro (z | z)
            · exact .inl z
            · rw [List.map_cons, List.map_nil, List.mem_singleton] at z
              exact .inr (keyD_inj.mp z)
        · show f (WlC wa wg x1 ++ (MC K a la s sg2 ++ ((k.b, _) :: (k.n7, .dN (kk'.map keyD ++ [keyD (hn, p)])) :: _))) = _
          rw [show kk'.map keyD ++ [keyD (hn, p)] = (kk' ++ [(hn, p)]).map keyD from by rw [List.map_append]; rfl]
          rfl
    · refine br_f (decide_eq_false c1) ?_
      walk_at "w"
      by_cases c2 : pk = 5 + (i : Int)
      · refine br_t (decide_eq_true c2) ?_
        walk_at "w"
        refine ⟨_, _, _, rfl, At.in hf (At.right (At.left (by rw [mc_eq]; exact At.right At.here))), by with_unfolding_all rfl, ?_⟩
        walk_at "w"
        refine ⟨_, _, _, rfl, a.g, a.h, sg', M + i, fun S => f (WlC wa wg x1 ++ ((MCh K a la s ++ S) ++ BkC k ra s kk')), hn, p, rfl, rfl, hnm, rfl, pok, ⟨hole_s hf, rfl⟩, so'.so, by omega, fun sg2 so2 hs2 => ?_⟩
        obtain ⟨ds1, k1, e1, e2, e3⟩ := keyD_nk (hn, p)
        have e1' : D.tup [.str hn, p.d] = .tup ds1 := e1
        injection e1' with e1'
        walk_at "w"
        refine ⟨_, _, k1, _, _, rfl, rfl, rfl, by rw [e1']; exact e2, e3, by walk_at "at", by have := so'.kl; rw [List.length_map]; omega, fun hm => ?_, fun hm => ?_⟩
        · refine ⟨hlt, sg2, kk', ⟨so2, by have := so'.kl; omega, so'.kn, fun h' p' => ?_⟩, rfl, _, _, rfl⟩
          rw [hs2, so'.eq]
          constructor
          · rintro (z | z)
            · exact z
            · rw [keyD_inj.mpr z]; exact hm
          · exact .inl
        · refine ⟨hlt, sg2, kk' ++ [(hn, p)], ⟨so2, by have := so'.kl; rw [List.length_append]; simp; omega, fun e he => ?_, fun h' p' => ?_⟩, ?_, _, _, rfl⟩
          · rcases List.mem_append.mp he with z | z
            · exact so'.kn e z
            · have : e = (hn, p) := by simpa using z
              rw [this]; exact ⟨hnm, pok⟩
          · rw [hs2, so'.eq, List.map_append, List.mem_append]
            constructor
            · rintro (z | z)
              · exact .inl z
              · exact .inr (by rw [List.map_cons, List.mem_cons]; exact .inl (keyD_inj.mpr z))
            · rintro (z | z)
              · exact .inl z
              · rw [List.map_cons, List.map_nil, List.mem_singleton] at z
                exact .inr (keyD_inj.mp z)
          · show f (WlC wa wg x1 ++ (MC K a la s sg2 ++ ((k.b, _) :: (k.n7, .dN (kk'.map keyD ++ [keyD (hn, p)])) :: _))) = _
            rw [show kk'.map keyD ++ [keyD (hn, p)] = (kk' ++ [(hn, p)]).map keyD from by rw [List.map_append]; rfl]
            rfl
      · refine br_f (decide_eq_false c2) ?_
        walk_at "w"
        exact ⟨hlt, sg', kk', so'.mono (by omega), rfl, _, _, rfl⟩
  · obtain ⟨hi, sg', kk', so', rfl, y1, y2, rfl⟩ := hI
    exact h x1 sg' kk' ok1 hc1 so'
end
end Cl
set_option Elab.async false
set_option linter.all false
set_option maxRecDepth 100000
set_option maxHeartbeats 4000000
namespace Cl
open PySem PySem.Spec PyProof.Rows L2
local macro_rules | `(tactic| walk_at "at") => `(tactic| first | assumption | repeat first | assumption | with_reducible exact At.here | with_reducible exact at_kb | with_reducible exact at_kn | with_reducible exact at_ko | with_reducible exact at_ks | with_reducible exact at_kr | with_reducible exact at_kd | with_reducible apply At.tail | (with_reducible apply At.in (by assumption)) | with_reducible apply At.right)
local macro_rules | `(tactic| walk_at "fact") => `(tactic| first | exact c_Court (by assumption) | exact c_Lane (by assumption) | exact c_Signs (by assumption) | exact n_Court_clock (by assumption) | exact n_Court_long (by assumption) | exact n_Court_bags (by assumption) | exact n_Court_book (by assumption) | exact n_Court_opened (by assumption) | exact n_Court_seen (by assumption) | exact n_Court_kept (by assumption) | exact n_Court_deeds (by assumption) | exact n_Lane_both (by assumption) | exact n_Lane_first (by assumption) | exact n_Lane_standing (by assumption) | exact n_Lane_mood (by assumption) | exact n_Lane_ending (by assumption) | exact n_Signs_by_hand (by assumption))
local macro_rules | `(tactic| walk_at "ge") => `(tactic| first
  | with_reducible refine we_var rfl ?_
  | with_reducible refine we_int ?_
  | with_reducible refine we_str ?_
  | with_reducible refine we_ty ?_
  | with_reducible refine we_bl ?_
  | with_reducible refine we_non ?_
  | with_reducible refine we_ref ?_
  | with_reducible refine we_op ?_
  | with_reducible refine we_cb ?_
  | with_reducible refine we_call0 ?_
  | with_reducible refine we_call ?_
  | with_reducible refine we_lst ?_
  | with_reducible refine we_tup ?_
  | with_reducible refine we_andV ?_
  | with_reducible refine we_orV ?_
  | with_reducible refine we_notV ?_
  | with_reducible refine we_if ?_
  | with_reducible refine we_chain ?_
  | with_reducible refine we_sl ?_
  | with_reducible refine we_lz ?_
  | with_reducible refine we_dnewK (fun _ => ?_)
  | with_reducible refine we_dnewN (fun _ => ?_)
  | with_reducible refine we_fld ?_
  | with_reducible refine we_dget ?_
  | with_reducible refine we_din ?_
  | with_reducible refine we_dnotIn ?_
  | with_reducible refine we_dget2 ?_
  | with_reducible refine we_dsetd ?_
  | with_reducible refine we_make ?_
  | with_reducible refine we_meth0 ?_
  | with_reducible refine we_meth ?_
  | with_reducible refine we_bm ?_)
local macro_rules | `(tactic| walk_at "gt") => `(tactic| first
  | with_reducible refine wt_B ?_
  | with_reducible refine wt_test ?_
  | with_reducible refine wt_not ?_
  | with_reducible refine wt_and ?_
  | with_reducible refine wt_or ?_
  | with_reducible refine wt_yes ?_)
local macro_rules | `(tactic| walk_at "gst") => `(tactic| first
  | with_reducible refine ws_ret ?_
  | with_reducible refine ws_retN ?_
  | with_reducible refine ws_seq ?_
  | with_reducible refine ws_set ?_
  | with_reducible refine ws_drop ?_
  | with_reducible refine ws_if ?_
  | with_reducible refine ws_next ?_
  | with_reducible refine ws_raise ?_
  | with_reducible refine ws_asgS ?_
  | with_reducible refine ws_setL ?_
  | with_reducible refine ws_setN ?_
  | with_reducible refine ws_asg ?_
  | with_reducible refine ws_fld ?_
  | with_reducible refine ws_fldaddI ?_
  | with_reducible refine ws_dput ?_)
local macro_rules | `(tactic| walk_at "gr") => `(tactic| first
  | with_reducible refine wr_ixT rfl ?_
  | with_reducible refine wr_ixL rfl ?_
  | with_reducible refine ix_t0 ?_
  | with_reducible refine ix_t1 ?_
  | with_reducible refine ix_t2 ?_
  | with_reducible refine ix_t3 ?_
  | with_reducible refine ix_t4 ?_
  | with_reducible refine ix_l0 ?_
  | with_reducible refine ix_l1 ?_
  | with_reducible refine ix_l2 ?_
  | with_reducible refine ix_l3 ?_
  | with_reducible refine ix_l4 ?_
  | with_reducible refine wr_int ?_
  | (with_reducible refine isPow ?_; with_reducible refine wr_powL (by decide) (by decide) (by decide) ?_)
  | with_reducible refine wr_bool ?_
  | with_reducible refine wr_eqI ?_
  | with_reducible refine wr_neI ?_
  | with_reducible refine wr_eqS ?_
  | with_reducible refine wr_neS ?_
  | with_reducible refine wr_eqB ?_
  | with_reducible refine wr_neB ?_
  | with_reducible refine wr_isN ?_
  | with_reducible refine wr_notN ?_
  | (with_reducible refine isIxC ?_; with_reducible refine wr_ixC (by walk_at "at") (by with_unfolding_all rfl) ?_))
local macro_rules | `(tactic| walk_at "gc") => `(tactic| first
  | with_reducible refine wc_isi rfl rfl ?_
  | with_reducible refine wc_isi (by decide) (by decide +kernel) ?_
  | (with_reducible refine isLen ?_; with_reducible refine wc_lenC (by walk_at "at") ?_)
  | with_reducible refine wc_lenT ?_
  | with_reducible refine wc_lenL ?_)
local macro_rules | `(tactic| walk_at "ga") => `(tactic| first
  | with_reducible refine wa_cons ?_
  | with_reducible refine wa_nil ?_)
local macro_rules | `(tactic| walk_at "gx") => `(tactic| first
  | (with_reducible refine isLn ?_; with_reducible refine lenAnd (by simp) ?_)
  | with_reducible refine wsl_tup ?_
  | with_reducible refine wo_none ?_
  | with_reducible refine wo_some ?_
  | with_reducible refine ex_bl ?_
  | with_reducible refine ex_int ?_
  | with_reducible refine ex_str ?_
  | with_reducible refine ex_tup ?_
  | with_reducible refine ex_lst ?_
  | with_reducible refine ex_etup ?_
  | with_reducible refine br_true ?_
  | with_reducible refine br_false ?_
  | (with_reducible refine isBr ?_; refine br_t rfl ?_)
  | (with_reducible refine isBr ?_; refine br_f rfl ?_)
  | (with_reducible refine isFld ?_; with_reducible refine ex_fld (by walk_at "at") (by walk_at "fact") (by walk_at "fact") (by with_unfolding_all rfl) ?_)
  | (with_reducible refine isPut ?_; with_reducible refine ex_put (by walk_at "at") (by walk_at "fact") (by walk_at "fact") (by with_unfolding_all exact of_decide_eq_true rfl) ?_)
  | (with_reducible refine isMeth ?_; with_reducible refine ex_meth (by walk_at "at") (by with_unfolding_all rfl) ?_)
  | (with_reducible refine isTy ?_; with_reducible refine And.intro (ty_cell (by walk_at "at")) ?_)
  | with_reducible refine k_whole ?_
  | with_reducible refine k_count ?_
  | with_reducible refine k_amount ?_)
local macro_rules | `(tactic| walk_at "s") => `(tactic| first
  | (with_reducible refine isWE ?_; walk_at "ge")
  | (with_reducible refine isWS ?_; walk_at "gst")
  | (with_reducible refine isWT ?_; walk_at "gt")
  | (with_reducible refine isWR ?_; walk_at "gr")
  | (with_reducible refine isWA ?_; walk_at "ga")
  | (with_reducible refine isWC ?_; walk_at "gc")
  | walk_at "gx")
local macro_rules | `(tactic| walk_at "w") => `(tactic| repeat walk_at "s")

section
variable {P : Program} {w : World} {K : PySem.W.Frag} {mg : Str → Option Value} {base : Heap}
theorem nobody_nm : isNm "nobody" := ⟨by decide, by decide, by decide +kernel⟩
theorem bag_nn {bs : List (Str × Int)} (h : BgOk bs) (n : Str) : ∃ v : Int, 0 ≤ v ∧ ((bget bs n).map D.int).getD (.int 0) = .int v := by
  cases e : bget bs n with
  | none => exact ⟨0, Int.le_refl _, rfl⟩
  | some v =>
    refine ⟨v, ?_, rfl⟩
    unfold bget at e
    obtain ⟨x, hx, rfl⟩ := Option.map_eq_some_iff.mp e
    exact h.nn x (List.mem_of_find?_eq_some hx)
abbrev aOpens (K : PySem.W.Frag) : ASp := A4 fun self sn bk fo L Φ _ => ∃ wa wg x a la s sg k ra kk f M ss, self = .ref wa ∧ sn = .ref (Ad.g a) ∧ bk = .ref (Bk.b k) ∧ Part (AllC K wa wg x a la s sg k ra kk) L f ∧ Wl.ok x ∧ x.c + 20 ≤ 1000000 ∧ SigOk M sg kk ∧ M + 2 < 90000 ∧ ra.length = s.lanes.length ∧ BgOk s.bags ∧ fo = .lst (List.map D.str ss) ∧ ss.length ≤ 20 ∧ (∀ s ∈ ss, isNm s) ∧
  ∀ x' sg' kk' dl, Wl.ok x' → x'.c ≤ x.c + 20 → SigOk (M + 2) sg' kk' → Dl.ok dl → Φ (Dl.d dl) (f (AllC K wa wg x' a la s sg' k ra kk'))
theorem sc_law_opening : FnScope ["_law_well_here", "_law_signs", "_law_book_here", "_law_folk_here", "_law_names", "_law_left", "_law_right", "_law_parts_here", "_law_hand", "_law_has", "_law_few", "_law_paper"] ["_law_well_here", "_law_signs", "_law_book_here", "_law_folk_here"] d_law_opening.scope := ⟨rfl, rfl, rfl, by decide +kernel, rfl, by decide +kernel, by decide +kernel⟩
theorem ok_law_opening (T : Tx K mg) : FOk P w K mg base 8 (He.fAd K d_law_opening.at_) ["_law_well_here", "_law_signs", "_law_book_here", "_law_folk_here"] (aOpens K) := by
  refine fok_of (d := d_law_opening) T 63 (k := 7) rfl rfl rfl sc_law_opening (fun ds L Φ ex h => A4.len h) (fun _ _ _ _ _ _ us hl => match us, hl with | [_, _, _, _], _ => rfl) (fun cdv Ar outer s H E ds L Φ ex hr h => ?_)
  obtain ⟨well_here, signs, book_here, folk_here, rfl, h⟩ := h
  refine ⟨_, (pss_cons (ps_set (i := 4) sc_law_opening.nd rfl (Or.inl rfl) (pe_op op_catX (pe_op op_catX (pv 3) (pv 3)) (pe_lst (pa_cons pe_str pa_nil))))
    (pss_cons (ps_set (i := 5) sc_law_opening.nd rfl (Or.inl rfl) (pe_ix ix_list (pv 4) (pe_c (ok_law_take T) hr rfl (g_law_take T) (pa_cons (pv 0) (pa_cons (pe_callB call_len rfl (f_len T) (by decide +kernel) (pa_cons (pv 4) pa_nil)) pa_nil))) (fun _ _ => rfl)))
    (pss_cons (ps_set (i := 6) sc_law_opening.nd rfl (Or.inl rfl) (pe_ix ix_list (pv 4) (pe_c (ok_law_take T) hr rfl (g_law_take T) (pa_cons (pv 0) (pa_cons (pe_callB call_len rfl (f_len T) (by decide +kernel) (pa_cons (pv 4) pa_nil)) pa_nil))) (fun _ _ => rfl)))
    (pss_cons (ps_set (i := 7) sc_law_opening.nd rfl (Or.inl rfl) (pe_lst pa_nil))
    (pss_cons (ps_for (passes_of rfl) rfl (pi_list (pe_lst (pa_cons (pv 5) (pa_cons (pv 6) pa_nil)))) (pg_name (i := 8) sc_law_opening.nd rfl (Or.inl rfl)) (pss_cons (ps_set (i := 9) sc_law_opening.nd rfl (Or.inl rfl) (pe_dget2 (hu_of hr) (pe_ix ix_list (pv 2) pe_int (fun _ _ => rfl)) (pv 8) pe_int ⟨rfl, rfl, rfl, rfl⟩))
    (pss_cons (ps_set (i := 10) sc_law_opening.nd rfl (Or.inl rfl) (pe_callB (call_min2 rfl) rfl (f_min T) (by decide +kernel) (pa_cons (pv 9) (pa_cons (pe_c (ok_law_sum T) hr rfl (g_law_sum T) (pa_cons (pv 0) pa_nil)) pa_nil))))
    (pss_one (ps_expr (pe_bm PySem.F.plainAttrs_list PySem.F.slot_list_append PySem.F.type_list_append mt_append (pv 7) (pa_cons (pe_ix ix_list (pe_lst (pa_cons (pv 10) (pa_cons (pv 10) (pa_cons (pv 10) (pa_cons (pv 10) (pa_cons (pv 9) (pa_cons (pe_op op_add (pv 9) pe_int) (pa_cons pe_int (pa_cons pe_int pa_nil))))))))) (pe_c (ok_law_take T) hr rfl (g_law_take T) (pa_cons (pv 0) (pa_cons pe_int pa_nil))) (fun _ _ => rfl)) pa_nil)))))))
    (pss_cons (ps_set (i := 11) sc_law_opening.nd rfl (Or.inl rfl) (pe_tup (pa_cons pe_str (pa_cons (pe_op op_add (pe_callB call_len rfl (f_len T) (by decide +kernel) (pa_cons (pe_ix ix_list (pv 2) pe_int (fun _ _ => rfl)) pa_nil)) (pe_ix ix_list (pe_lst (pa_cons pe_int (pa_cons pe_int (pa_cons pe_int (pa_cons pe_int (pa_cons pe_int (pa_cons pe_int (pa_cons pe_int (pa_cons pe_int pa_nil))))))))) (pe_c (ok_law_take T) hr rfl (g_law_take T) (pa_cons (pv 0) (pa_cons pe_int pa_nil))) (fun _ _ => rfl))) (pa_cons (pv 5) (pa_cons (pv 6) (pa_cons (pe_ix ix_list (pv 7) pe_int (fun _ _ => rfl)) (pa_cons (pe_ix ix_list (pv 7) pe_int (fun _ _ => rfl)) pa_nil))))))))
    (pss_cons (ps_if (PW.pt (pw_and (pt_cmpR op_ne (pv 5) (pv 6) (nomark _)) (pw_and1 (pt_cmpR op_gt (pe_callB (cr_sum rfl) rfl (f_sum T) (by decide +kernel) (pa_cons (pv 7) pa_nil)) pe_int (nomark _))))) (pss_one (ps_expr (pe_c (ok_law_signing T) hr rfl (g_law_signing T) (pa_cons (pv 0) (pa_cons (pv 1) (pa_cons (pv 2) (pa_cons (pv 11) (pa_cons (pe_lst (pa_cons (pv 5) (pa_cons (pv 6) pa_nil))) pa_nil)))))))) pss_nil)
    (pss_one (ps_ret (pe_tup (pa_cons pe_str (pa_cons (pv 5) (pa_cons (pv 6) (pa_cons (pe_ix ix_list (pv 7) pe_int (fun _ _ => rfl)) (pa_cons (pe_ix ix_list (pv 7) pe_int (fun _ _ => rfl)) pa_nil))))))))))))))), ?_⟩
  obtain ⟨wa, wg, x, a, la, s, sg, k, ra, kk, f, M, ss, rfl, rfl, rfl, ⟨hf, rfl⟩, ok, hc, so, hM, hra, hbg, rfl, hsl, hsn, h⟩ := h
  dsimp only [cxOf]
  have hw : ∀ {f : Sto → Sto}, Hole f → Hole (fun S => f (S ++ (MC K a la s sg ++ BkC k ra s kk))) := fun hf => hole_w hf
  walk_at "w"
  refine wr_cat (.inl rfl) (.inl rfl) (by rw [List.length_map]; omega) ?_
  walk_at "w"
  refine wr_cat (.inl rfl) (.inl rfl) (by rw [List.length_append, List.length_map]; simp; omega) ?_
  rw [show ss.map D.str ++ ss.map D.str ++ [D.str "nobody"] = (ss ++ ss ++ [("nobody" : Str)]).map D.str from by rw [List.map_append, List.map_append]; rfl]
  have hnn : ∀ y ∈ ss ++ ss ++ [("nobody" : Str)], isNm y := fun y hy => by
    rcases List.mem_append.mp hy with z | z
    · rcases List.mem_append.mp z with z | z
      · exact hsn y z
      · exact hsn y z
    · have : y = "nobody" := by simpa using z
      rw [this]; exact nobody_nm
  have hnl : (ss ++ ss ++ [("nobody" : Str)]).length ≤ 41 ∧ 0 < (ss ++ ss ++ [("nobody" : Str)]).length := by
    rw [List.length_append, List.length_append]
    simp
    omega
  generalize ss ++ ss ++ [("nobody" : Str)] = names at hnn hnl ⊢
  walk_at "w"
  refine k_tk (m := ((names.map D.str).length : Int)) (hw hf) ok (by omega) (by rw [List.length_map]; omega) (by rw [List.length_map]; omega) fun x1 ok1 hc1 j1 hj10 hj11 => ?_
  obtain ⟨l, hl, e1⟩ := pick_str (ss := names) hj10 (by rw [List.length_map] at hj11; exact hj11)
  refine wr_ixL e1 ?_
  walk_at "w"
  refine k_tk (m := ((names.map D.str).length : Int)) (hw hf) ok1 (by omega) (by rw [List.length_map]; omega) (by rw [List.length_map]; omega) fun x2 ok2 hc2 j2 hj20 hj21 => ?_
  obtain ⟨r, hr, e2⟩ := pick_str (ss := names) hj20 (by rw [List.length_map] at hj21; exact hj21)
  refine wr_ixL e2 ?_
  have nl := hnn l hl
  have nr := hnn r hr
  refine ws_seq (ws_set (we_lstC (wa_nil ⟨by decide, fun q => ?_⟩)))
  refine ws_seq (ws_for (wi_listD ?_))
  walk_at "w"
  refine ⟨fun i Γ' L' => i ≤ 2 ∧ ∃ (x3 : Wl) (vs : List Int), Wl.ok x3 ∧ x3.c ≤ x2.c + 3 * (i : Int) ∧ L' = (q, .lst (vs.map D.int)) :: f (AllC K wa wg x3 a la s sg k ra kk) ∧ vs.length = i ∧ (∀ v ∈ vs, 0 ≤ v) ∧ ∃ y8 y9 y10, Γ' = [some (.ref wa), some (.ref a.g), some (.ref k.b), some (.lst (ss.map D.str)), some (.lst (names.map D.str)), some (.str l), some (.str r), some (.ref q), y8, y9, y10, none], ⟨by decide, x2, [], ok2, by simp, rfl, rfl, fun v hv => (nomatch hv), _, _, _, rfl⟩, fun i Γ' L' hI => trivial, fun i d Γ' L' hd hI => ?_, fun Γ' L' hI => ?_⟩
  · obtain ⟨hi, x3, vs, ok3, hc3, rfl, hvl, hvn, y8, y9, y10, rfl⟩ := hI
    have hlt : i < 2 := (List.getElem?_eq_some_iff.mp hd).1
    obtain ⟨hn, rfl⟩ : ∃ hn, d = .str hn := by
      have := List.mem_of_getElem? hd
      simp only [List.mem_cons, List.not_mem_nil, or_false] at this
      rcases this with rfl | rfl <;> exact ⟨_, rfl⟩
    refine ⟨_, wg_name, ?_⟩
    dsimp only [setG]
    walk_at "w"
    refine ⟨_, _, _, rfl, by walk_at "at", ?_⟩
    walk_at "w"
    refine ⟨_, .inr hn, _, rfl, by walk_at "at", ?_⟩
    rw [bagK_get]
    obtain ⟨has, h0, eh⟩ := bag_nn hbg hn
    rw [eh]
    walk_at "w"
    refine ⟨_, rfl, wa, wg, x3, fun S => (q, .lst (vs.map D.int)) :: f (S ++ (MC K a la s sg ++ BkC k ra s kk)), rfl, ⟨(hw hf).tail, rfl⟩, ok3, by omega, fun x4 ok4 hc4 n hn0 hn1 => ?_⟩
    walk_at "w"
    refine wc_min2 ?_
    walk_at "w"
    have hfew : 0 ≤ (if n < has then n else has) := by split <;> omega
    generalize (if n < has then n else has) = few at hfew ⊢
    refine k_tk (m := 8) (f := fun S => (q, .lst (vs.map D.int)) :: f (S ++ (MC K a la s sg ++ BkC k ra s kk))) (hw hf).tail ok4 (by omega) (by decide) (by decide) fun x5 ok5 hc5 j hj0 hj1 => ?_
    obtain ⟨v, hv, e⟩ := pick_int (ns := [few, few, few, few, has, has + 1, 0, 0]) hj0 hj1
    have hv0 : 0 ≤ v := by
      simp only [List.mem_cons, List.not_mem_nil, or_false] at hv
      omega
    refine wr_ixL e ?_
    walk_at "w"
    refine wm_append At.here (by rw [List.length_map]; omega) ?_
    refine ⟨hlt, x5, vs ++ [v], ok5, by rw [Int.natCast_add]; omega, by rw [List.map_append]; rfl, by rw [List.length_append, hvl]; rfl, fun z hz => ?_, _, _, _, rfl⟩
    rcases List.mem_append.mp hz with z1 | z1
    · exact hvn z z1
    · have : z = v := by simpa using z1
      rw [this]; exact hv0
  · obtain ⟨hi, x3, vs, ok3, hc3, rfl, hvl, hvn, y8, y9, y10, rfl⟩ := hI
    have hc3 : x3.c ≤ x2.c + 6 := by simp at hc3; omega
    obtain ⟨v1, v2, rfl⟩ : ∃ v1 v2, vs = [v1, v2] := by
      match vs, hvl with
      | [v1, v2], _ => exact ⟨v1, v2, rfl⟩
    have hv1 := hvn v1 (by simp)
    have hv2 := hvn v2 (by simp)
    refine ws_cut (fun Γ' L' => ∃ (x4 : Wl) (v : Int), ∃ y8 y9 y10, Wl.ok x4 ∧ x4.c ≤ x3.c + 1 ∧ 0 ≤ v ∧ L' = (q, .lst ([v1, v2].map D.int)) :: f (AllC K wa wg x4 a la s sg k ra kk) ∧ Γ' = [some (.ref wa), some (.ref a.g), some (.ref k.b), some (.lst (ss.map D.str)), some (.lst (names.map D.str)), some (.str l), some (.str r), some (.ref q), y8, y9, y10, some (Opn.d ⟨s.lanes.length + v, l, r, v1, v2⟩)]) ?_ ?_
    · walk_at "w"
      rw [List.length_map, hra]
      refine k_tk (m := 8) (f := fun S => (q, .lst ([v1, v2].map D.int)) :: f (S ++ (MC K a la s sg ++ BkC k ra s kk))) (hw hf).tail ok3 (by omega) (by decide) (by decide) fun x4 ok4 hc4 j hj0 hj1 => ?_
      obtain ⟨v, hv, e⟩ := pick_int (ns := [0, 0, 0, 0, 0, 0, 0, 1]) hj0 hj1
      have hv0 : 0 ≤ v := by
        simp only [List.mem_cons, List.not_mem_nil, or_false] at hv
        omega
      refine wr_ixL e ?_
      walk_at "w"
      exact ⟨x4, v, _, _, _, ok4, hc4, hv0, rfl, rfl⟩
    rintro Γ' L' ⟨x4, v, y8, y9, y10, ok4, hc4, hv0, rfl, rfl⟩
    refine ws_cut (fun Γ' L' => ∃ (x5 : Wl) (sg' : Sg) (kk' : Kk), ∃ y8 y9 y10 y11, Wl.ok x5 ∧ x5.c ≤ x4.c + 1 ∧ SigOk (M + 2) sg' kk' ∧ L' = (q, .lst ([v1, v2].map D.int)) :: f (AllC K wa wg x5 a la s sg' k ra kk') ∧ Γ' = [some (.ref wa), some (.ref a.g), some (.ref k.b), some (.lst (ss.map D.str)), some (.lst (names.map D.str)), some (.str l), some (.str r), some (.ref q), y8, y9, y10, y11]) ?_ ?_
    · walk_at "w"
      by_cases c1 : l = r
      · refine br_f (by rw [decide_eq_true c1]; rfl) ?_
        walk_at "w"
        exact ⟨x4, sg, kk, _, _, _, _, ok4, by omega, so.mono (by omega), rfl, rfl⟩
      · refine br_t (by rw [decide_eq_false c1]; rfl) ?_
        walk_at "w"
        refine wc_sumC (ns := [v1, v2]) At.here ?_
        walk_at "w"
        by_cases c2 : ([v1, v2] : List Int).sum > 0
        · refine br_t (decide_eq_true c2) ?_
          walk_at "w"
          have hs : ([v1, v2] : List Int).sum = v1 + v2 := by simp
          refine ⟨_, _, _, _, _, rfl, wa, wg, x4, a, la, s, sg, k, ra, kk, fun S => (q, .lst ([v1, v2].map D.int)) :: f S, M, .o ⟨s.lanes.length + v, l, r, v1, v2⟩, l, r, rfl, rfl, rfl, ⟨hf.tail, rfl⟩, ok4, by omega, so, hM, rfl, ⟨by show 0 ≤ (s.lanes.length : Int) + v; omega, nl, nr, c1, hv1, hv2, by show 0 < v1 + v2; omega⟩, rfl, nl, nr, fun x5 sg' kk' ok5 hc5 so' => ?_⟩
          walk_at "w"
          exact ⟨x5, sg', kk', _, _, _, _, ok5, hc5, so', rfl, rfl⟩
        · refine br_f (decide_eq_false c2) ?_
          walk_at "w"
          exact ⟨x4, sg, kk, _, _, _, _, ok4, by omega, so.mono (by omega), rfl, rfl⟩
    · rintro Γ' L' ⟨x5, sg', kk', y8, y9, y10, y11, ok5, hc5, so', rfl, rfl⟩
      refine ws_ret (WE.forget ?_)
      walk_at "w"
      exact ⟨_, List.sublist_cons_self _ _, h x5 sg' kk' (.op l r v1 v2) ok5 (by omega) so' ⟨nl, nr, hv1, hv2⟩⟩
end
end Cl
set_option Elab.async false
set_option linter.all false
set_option maxRecDepth 100000
set_option maxHeartbeats 4000000
/-! Walking over a dict from nested data. -/
namespace Cl
open PySem PySem.Spec PyProof.Rows L2
section
variable {X : Cx} {pins : List (Addr × Obj)} {σ : L2.St} {H : Hp} {s : Shared} {d : Addr} {o : Obj}
theorem frzN {xs : List (NestedKey × Addr × Value)} (I : Inv X pins σ H s) (h : H d = some (.frz o (.ext (dnPhi X.prog X.w d xs)))) :
    s.heap.get? d = some o ∧ o.ExactDict ∧ ∃ (es : Array DictEntry) (ep : Nat), o.data = .dict es ep ∧ es.size = xs.length ∧
      ∀ (i : Nat) (k : NestedKey) (a : Addr) (v : Value), xs[i]? = some (k, a, v) → ∃ en : DictEntry, es[i]? = some en ∧ en.key = .ref a := by
  obtain ⟨hd, ⟨o', es, ep, ho, hx, hdt, he, _⟩, _⟩ := I.hok d _ h
  rw [hd] at ho
  cases ho
  refine ⟨hd, hx, es, ep, hdt, size_of_entries he, fun i k a v e => ?_⟩
  have q := entry_at he i
  rw [e] at q
  exact ⟨_, q, rfl⟩
end
def Itn (P : Program) (w : World) (d : Addr) (o : Obj) : It :=
  ⟨fun i H => ∃ xs, H d = some (.frz o (.ext (dnPhi P w d xs))) ∧ i < xs.length, fun i H x H' => H' = H ∧ ∀ xs, H d = some (.frz o (.ext (dnPhi P w d xs))) → ∃ k a v, xs[i]? = some (k, a, v) ∧ x = .ref a, fun i H => ∃ xs, H d = some (.frz o (.ext (dnPhi P w d xs))) ∧ xs.length ≤ i⟩
theorem turn_keysN {P : Program} {w : World} {K : PySem.W.Frag} {tg : Expr} {d : Addr} {o : Obj} {es : Array DictEntry} {ep : Nat} (it : Addr) (hod : o.data = .dict es ep) : Turn P w K tg (Itn P w d o) [it] it (fun i h => h.IsKeyIter it d i es.size ep) where
  mem := by simp
  obj := fun i h st b hb => by
    have e : b = it := by simpa using hb
    subst e
    obtain ⟨oi, e, c, dd⟩ := st
    exact ⟨oi, e, fun v z => by rw [dd] at z; cases z⟩
  keep := fun i h h' st k => st.at fun oi e => k it (by simp) oi e
  item := by
    intro X hP hw hK hc i pins s σ H E I hf st hg
    subst hP hw hK
    obtain ⟨xs, hd, hi⟩ := hg
    obtain ⟨f0, f1, f2, f3, f4, f5⟩ := hf it (by simp)
    obtain ⟨hgd, hx, es', ep', hdt, hsz, ent⟩ := frzN I hd
    obtain ⟨rfl, rfl⟩ := dict_ep hod hdt
    obtain ⟨⟨k, a, v⟩, hkv⟩ : ∃ p, xs[i]? = some p := ⟨xs[i], List.getElem?_eq_getElem hi⟩
    obtain ⟨en, hen, hkey⟩ := ent i k a v hkv
    refine next_key_item st hgd hdt rfl hen fun h' st' sb => ?_
    have I1 : Inv X pins σ H { s with heap := h' } := I.turned (t' := s.toks) (fun b ob hb e => (sb.2 b hb).trans e) f0 f1 f3 f4 f5
    obtain ⟨oi, e, c, dd⟩ := id st'
    refine ⟨en.key, rfl, go_of (s := { s with heap := h' }) e c dd (by decide) ⟨.ref a, H, I1, hkey, ⟨rfl, fun xs2 hd2 => ?_⟩, st', fun b hb => (hf b hb).1⟩⟩
    obtain ⟨_, _, es2, ep2, hdt2, hsz2, ent2⟩ := frzN I hd2
    obtain ⟨e1, e2⟩ := dict_ep hdt hdt2
    subst e1
    obtain ⟨⟨k2, a2, v2⟩, hkv2⟩ : ∃ p, xs2[i]? = some p := ⟨xs2[i]'(by omega), List.getElem?_eq_getElem (by omega)⟩
    obtain ⟨en2, hen2, hkey2⟩ := ent2 i k2 a2 v2 hkv2
    rw [hen] at hen2
    cases hen2
    rw [hkey] at hkey2
    cases hkey2
    exact ⟨k2, a, v2, hkv2, rfl⟩
  done := by
    intro X hP hw hK hc i pins s σ H E I hf st hg
    subst hP hw hK
    obtain ⟨xs, hd, hi⟩ := hg
    obtain ⟨f0, f1, f2, f3, f4, f5⟩ := hf it (by simp)
    obtain ⟨hgd, hx, es', ep', hdt, hsz, ent⟩ := frzN I hd
    obtain ⟨rfl, rfl⟩ := dict_ep hod hdt
    exact next_key_end (I.ok.hd hc) st hgd hdt rfl (by omega) fun h' eb => ⟨rfl, I.turned (t' := s.toks) (fun b ob hb e => eb b ob hb e) f0 f1 f3 f4 f5⟩
  self := fun A i s Q E st h => by
    refine wpAny_pyIter_slot st.typeIs F.slot_dict_keyiterator_iter (wpAny_call_entry F.slot_dict_keyiterator_iter st.typeIs F.entry_dict_keyiterator_iter ?_ (F.args_dict_keyiterator_iter_1 _))
    show wpAny _ _ (ret (.ref it)) _ _ s
    exact wpAny_pure ⟨_, rfl, "dict_keyiterator", _, st.typeIs, F.slot_dict_keyiterator_next.lookup, h⟩
def iDN (P : Program) (w : World) (td : TE) : TI := fun σ H R => td σ H fun x H1 => ∃ d o xs, x = .ref d ∧ (d == sysModules) = false ∧ H1 d = some (.frz o (.ext (dnPhi P w d xs))) ∧ R (Itn P w d o) H1
theorem pi_dN {X : Cx} {tg e : Expr} {td : TE} (he : PE X e td) : PI X tg e (iDN X.prog X.w td) := by
  refine ⟨fun pins s σ H R I h => ?_⟩
  refine thn (he.run pins s σ H _ I h) fun u s1 ⟨x, H1, I1, rx, d, o, xs, ex, hs, hd, q⟩ => ?_
  subst ex
  obtain rfl : u = Value.ref d := rx
  obtain ⟨hgd, hx, es, ep, hdt, hsz, ent⟩ := frzN I1 hd
  exact iter_keys hs hgd hx hdt (pi_one (tk := s1.toks) I1 _ (turn_keysN _ hdt) ⟨_, Heap.get?_push_size _ rfl, rfl, rfl⟩ q)
section
variable {P : Program} {w : World} {K : PySem.W.Frag} {E : XK} {Γ : Gm} {L : Sto} {ex : Ex} {te : TE} {ts : TS} {A : Pst} {Ψ : List D → (Sto → Prop) → Sto → Prop}
theorem wi_dN (h : WE P w K E te Γ L ex fun x L1 => ∃ p ob u ks f, x = .ref p ∧ At p (.dL ob u ks) L1 f ∧ Ψ ks (fun L => ∃ f, At p (.dL ob u ks) L f) L1) : WI P w K E (iDN P w te) Γ L ex Ψ := fun σ F H R sl S lk k =>
  h σ F H _ sl S lk fun vx x F1 H1 L1 e1 S1 r1 ⟨p, ob, u, ks, f, ex1, ht, q⟩ => by
    subst ex1
    obtain ⟨np, o, ho, rfl, xs, eu, rn, hsys⟩ := S1.look ht
    subst eu
    refine ⟨p, ob, xs, r1.ref_inv, hsys, ho, ?_⟩
    have look : ∀ F' H' L, Spl P w K F' L H' → (∃ f, At p (.dL ob (.ext (dnPhi P w p xs)) ks) L f) → ∃ xs', H' p = some (.frz ob (.ext (dnPhi P w p xs'))) ∧ RN K F' ks xs' := fun F' H' L S ⟨f, ht⟩ => by
      obtain ⟨_, o, ho, rfl, xs', eu, rn, _⟩ := S.look ht
      exact ⟨xs', by rw [ho, eu], rn⟩
    refine k _ ks _ F1 H1 L1 e1 S1 ⟨fun i F' H' L' _ S st hi => ?_, fun i d F' H' L' _ S st hd => ?_⟩ q
    · obtain ⟨xs', h1, rn'⟩ := look F' H' L' S st
      exact ⟨xs', h1, by have := Paired.len rn'; omega⟩
    · obtain ⟨xs', h1, rn'⟩ := look F' H' L' S st
      have hl := Paired.len rn'
      have hlt := (List.getElem?_eq_some_iff.mp hd).1
      refine ⟨⟨xs', h1, by omega⟩, fun x H2 ⟨e2, h2⟩ => ?_⟩
      subst e2
      obtain ⟨kk, a, v, hx, rfl⟩ := h2 xs' h1
      obtain ⟨b, hb, hr⟩ := paired_get rn' hd
      rw [hx] at hb
      cases hb
      exact ⟨F', Same.refl _, S, hr.2.2.2.1⟩
/-- a dict is walked over while it is locked -/
theorem ws_lockN {p : Addr} {ks : List D} {f : Co → Sto} (ht : At p (.dN ks) L f) (h : ∀ ob u, WS P w K E ts Γ (f (.dL ob u ks)) { nx := fun Γ' L' => ∃ g, At p (.dL ob u ks) L' g ∧ A.nx Γ' (g (.dN ks)), rt := fun d L' => ∃ g, At p (.dL ob u ks) L' g ∧ A.rt d (g (.dN ks)), bk := fun _ _ => False, ct := fun _ _ => False, ex := A.ex }) : WS P w K E (tLock ts) Γ L A := fun σ F H De sl S lk k => by
  obtain ⟨np, o, ho, xs, rfl, rn, hsys⟩ := S.look ht
  refine ⟨p, _, ho, trivial, fun od => ?_⟩
  have S2 := S.put (c' := .dL od (.ext (dnPhi P w p xs)) ks) ht ⟨rfl, xs, rfl, rn, hsys⟩
  refine h od _ σ F _ _ sl S2 lk ⟨fun σ2 Γ2 F2 H2 L2 e2 s2 S3 ⟨g, hg, q⟩ => ?_, fun v d F2 H2 L2 e2 S3 r3 ⟨g, hg, q⟩ => ?_, fun _ _ _ _ _ _ _ _ q => q.elim, fun _ _ _ _ _ _ _ _ q => q.elim⟩
  · obtain ⟨np2, o2, ho2, rfl, xs2, eu, rn2, _⟩ := S3.look hg
    exact ⟨ho2, k.nx _ _ F2 _ _ e2 s2 (S3.put (c' := .dN ks) hg ⟨xs2, eu, rn2, hsys⟩) q⟩
  · obtain ⟨np2, o2, ho2, rfl, xs2, eu, rn2, _⟩ := S3.look hg
    exact ⟨ho2, k.rt _ _ F2 _ _ e2 (S3.put (c' := .dN ks) hg ⟨xs2, eu, rn2, hsys⟩) r3 q⟩
end
end Cl
set_option Elab.async false
set_option linter.all false
set_option maxRecDepth 100000
set_option maxHeartbeats 4000000
/-! Plain: what a deed keeps. -/
namespace Cl
open PySem PySem.Spec PyProof.Rows L2
/-- all amounts are at most V -/
structure Am (V : Int) (s : CtS) : Prop where
  bag : ∀ e ∈ s.bags, e.2 ≤ V
  fl : ∀ r ∈ s.lanes, r.first.l ≤ V ∧ r.first.r ≤ V
  sl : ∀ r ∈ s.lanes, r.st.l ≤ V ∧ r.st.r ≤ V ∧ ∀ l ∈ r.st.locks, l.am ≤ V
  kp : ∀ e ∈ s.kept, e.2.am ≤ V
structure StOk (N : Nat) (V : Int) (la : List Addr) (s : CtS) : Prop where
  ct : CtOk N la s
  ks : s.kept.Pairwise fun a b => kle a b = true
  rw : RwOk s
  am : Am V s
theorem Am.mono {V W : Int} {s : CtS} (h : Am V s) (e : V ≤ W) : Am W s :=
  ⟨fun x hx => Int.le_trans (h.bag x hx) e, fun r hr => ⟨Int.le_trans (h.fl r hr).1 e, Int.le_trans (h.fl r hr).2 e⟩, fun r hr => ⟨Int.le_trans (h.sl r hr).1 e, Int.le_trans (h.sl r hr).2.1 e, fun l hl => Int.le_trans ((h.sl r hr).2.2 l hl) e⟩, fun x hx => Int.le_trans (h.kp x hx) e⟩
theorem CtOk.mono {N M : Nat} {la la' : List Addr} {s : CtS} (h : CtOk N la s) (e : N ≤ M) (b : M ≤ 1000) (hl : la'.length = s.lanes.length) : CtOk M la' s :=
  ⟨b, hl, Nat.le_trans h.nl e, Nat.le_trans h.nr e, Nat.le_trans h.ns e, h.nk, h.bg, h.rd, h.rw, h.kp, h.ck⟩
theorem bput_mem {bs : List (Str × Int)} {h : Str} {v : Int} {e : Str × Int} (he : e ∈ bput bs h v) : ∃ e0 ∈ bs, e.1 = e0.1 ∧ (e.2 = e0.2 ∨ e.2 = v) := by
  unfold bput at he
  obtain ⟨e0, h0, rfl⟩ := List.mem_map.mp he
  by_cases c : e0.1 = h
  · rw [if_pos c]; exact ⟨e0, h0, rfl, .inr rfl⟩
  · rw [if_neg c]; exact ⟨e0, h0, rfl, .inl rfl⟩
theorem bput_keys (bs : List (Str × Int)) (h : Str) (v : Int) : (bput bs h v).map (·.1) = bs.map (·.1) := by
  unfold bput
  rw [List.map_map]
  refine List.map_congr_left fun e _ => ?_
  by_cases c : e.1 = h
  · simp [c]
  · simp [c]
theorem BgOk.put {bs : List (Str × Int)} (b : BgOk bs) {h : Str} {v : Int} (hv : 0 ≤ v) : BgOk (bput bs h v) := by
  refine ⟨by rw [bput_keys]; exact b.nd, fun e he => ?_, fun e he => ?_, by unfold bput; rw [List.length_map]; exact b.few⟩
  · obtain ⟨e0, h0, h1, _⟩ := bput_mem he
    rw [h1]; exact b.nm e0 h0
  · obtain ⟨e0, h0, _, h2 | h2⟩ := bput_mem he
    · rw [h2]; exact b.nn e0 h0
    · rw [h2]; exact hv
theorem bget_in {bs : List (Str × Int)} {h : Str} {v : Int} (e : bget bs h = some v) : (h, v) ∈ bs := by
  unfold bget at e
  obtain ⟨x, hx, rfl⟩ := Option.map_eq_some_iff.mp e
  have h1 := List.mem_of_find?_eq_some hx
  have h2 : x.1 = h := by simpa using List.find?_some hx
  rw [← h2]
  exact h1
theorem bget_le {bs : List (Str × Int)} {V : Int} (hV : 0 ≤ V) (h : ∀ e ∈ bs, e.2 ≤ V) (k : Str) : (bget bs k).getD 0 ≤ V := by
  cases e : bget bs k with
  | none => exact hV
  | some v => exact h _ (bget_in e)
theorem bget_nn {bs : List (Str × Int)} (h : BgOk bs) (k : Str) : 0 ≤ (bget bs k).getD 0 := by
  cases e : bget bs k with
  | none => exact Int.le_refl _
  | some v => exact h.nn _ (bget_in e)
theorem BgOk.add : ∀ {es : List (Str × Int)} {bs : List (Str × Int)}, (∀ e ∈ es, 0 ≤ e.2) → BgOk bs → BgOk (addB bs es)
  | [], bs, _, b => b
  | e :: es, bs, h, b => by
    rw [addB]
    exact BgOk.add (fun x hx => h x (List.mem_cons_of_mem _ hx)) (b.put (by have := bget_nn b e.1; have := h e List.mem_cons_self; omega))
theorem addB_le {V : Int} (hV : 0 ≤ V) : ∀ {es : List (Str × Int)} {bs : List (Str × Int)} {B : Int}, 0 ≤ B → (∀ e ∈ es, e.2 ≤ V) → (∀ e ∈ bs, e.2 ≤ B) → ∀ e ∈ addB bs es, e.2 ≤ B + es.length * V
  | [], bs, B, _, _, h, e, he => by
    have := h e he
    simp
    exact this
  | x :: es, bs, B, hB, h1, h2, e, he => by
    rw [addB] at he
    have hx := h1 x List.mem_cons_self
    have hg := bget_le hB h2 x.1
    have ih := addB_le hV (es := es) (bs := bput bs x.1 ((bget bs x.1).getD 0 + x.2)) (B := B + V) (by omega) (fun y hy => h1 y (List.mem_cons_of_mem _ hy)) (fun y hy => by
      obtain ⟨e0, h0, _, z | z⟩ := bput_mem hy
      · have := h2 e0 h0; omega
      · omega) e he
    rw [List.length_cons, Int.natCast_add, Int.add_mul]
    simp
    omega
theorem RdOk.bags {i : Nat} {bs bs' : List (Str × Int)} {r : Rd} (h : RdOk i bs r) (k : ∀ n, (bget bs n).isSome = true → (bget bs' n).isSome = true) : RdOk i bs' r :=
  ⟨h.l, h.r, k _ h.lb, k _ h.rb, h.f, h.s, h.fl, h.fn, h.fk, h.sl, h.md, h.op, h.cl⟩
theorem countP_set {α : Type} (p : α → Bool) : ∀ (l : List α) (i : Nat) (a b : α), l[i]? = some a → p a = false → p b = false → (l.set i b).countP p = l.countP p
  | [], _, _, _, h, _, _ => by simp at h
  | x :: l, 0, a, b, h, ha, hb => by
    have : x = a := by simpa using h
    subst this
    rw [List.set_cons_zero, List.countP_cons, List.countP_cons, ha, hb]
  | x :: l, i + 1, a, b, h, ha, hb => by
    rw [List.set_cons_succ, List.countP_cons, List.countP_cons, countP_set p l i a b (by simpa using h) ha hb]
theorem rows_snoc {s s' : CtS} (h : RwOk s) {dl : Dl} {ps : List (Str × Int)} (e : s'.rows = s.rows ++ [rowD dl.d (ps.map prD)]) (hd : dl.ok) (hl : ps.length ≤ 100000) (hn : ∀ e ∈ ps, isNm e.1) : RwOk s' := fun d hm => by
  rw [e] at hm
  rcases List.mem_append.mp hm with z | z
  · exact h d z
  · have : d = rowD dl.d (ps.map prD) := by simpa using z
    exact ⟨dl, ps, this, hd, hl, hn⟩
theorem row_form {l : List D} {x : D} {ys : List D} (h : ∀ d ∈ l, ∃ x ys, d = D.tup [x, .lst ys]) : ∀ d ∈ l ++ [rowD x ys], ∃ x ys, d = D.tup [x, .lst ys] := fun d hd => by
  rcases List.mem_append.mp hd with z | z
  · exact h d z
  · have : d = rowD x ys := by simpa using z
    exact ⟨x, ys, this⟩
theorem V_le {V : Int} (hV : 0 ≤ V) : V ≤ 65536 * V := by omega
/-! an opening -/
theorem open_ok {S : Str → D → Bool} {N : Nat} {V : Int} {la la' : List Addr} {s : CtS} {l r : Str} {m n : Int} (h : StOk N V la s) (hN : N < 1000) (hV : 0 ≤ V) (dok : Dl.ok (.op l r m n)) (hd : openDue S s l r m n = "") (hl : la'.length = (openS s l r m n).lanes.length) : StOk (N + 1) (65536 * V) la' (openS s l r m n) := by
  obtain ⟨x, y, hx, hy, hne, hmx, hny, hpos⟩ := openDue_ok hd
  obtain ⟨nl, nr, hm, hn⟩ := dok
  have hx0 := h.am.bag _ (bget_in hx)
  have hy0 := h.am.bag _ (bget_in hy)
  have hVV := V_le hV
  have c := h.ct
  have keep : ∀ k, (bget s.bags k).isSome = true → (bget (bput (bput s.bags l ((bget s.bags l).getD 0 - m)) r ((bget s.bags r).getD 0 - n)) k).isSome = true := fun k hk => bput_some (bput_some hk)
  have ex : (bget s.bags l).getD 0 = x := by rw [hx]; rfl
  have ey : (bget s.bags r).getD 0 = y := by rw [hy]; rfl
  have nmem : ∀ q, q ∈ s.lanes ++ [(⟨l, r, ⟨s.lanes.length, 0, m, n, []⟩, ⟨s.lanes.length, 0, m, n, []⟩, "open", none⟩ : Rd)] → q ∈ s.lanes ∨ q = ⟨l, r, ⟨s.lanes.length, 0, m, n, []⟩, ⟨s.lanes.length, 0, m, n, []⟩, "open", none⟩ := fun q hq => by
    rcases List.mem_append.mp hq with z | z
    · exact .inl z
    · exact .inr (by simpa using z)
  refine ⟨⟨by omega, hl, ?_, ?_, ?_, ?_, ?_, fun i q hq => ?_, ?_, fun e he => ?_, c.ck⟩, h.ks, rows_snoc h.rw (dl := .op l r m n) (ps := []) rfl ⟨nl, nr, hm, hn⟩ (by decide) (fun e he => nomatch he), ⟨fun e he => ?_, fun q hq => ?_, fun q hq => ?_, fun e he => Int.le_trans (h.am.kp e he) hVV⟩⟩
  · show (s.lanes ++ [_]).length ≤ N + 1
    rw [List.length_append]
    have := c.nl
    simp
    omega
  · show (s.rows ++ [_]).length ≤ N + 1
    rw [List.length_append]
    have := c.nr
    simp
    omega
  · have := c.ns
    show s.seen.length ≤ N + 1
    omega
  · show s.kept.length ≤ 30 * (s.lanes ++ [_]).countP _
    rw [List.countP_append]
    have := c.nk
    omega
  · refine (c.bg.put ?_).put ?_
    · rw [ex]; omega
    · rw [ey]; omega
  · have hq : (s.lanes ++ [_])[i]? = some q := hq
    by_cases hi : i < s.lanes.length
    · rw [List.getElem?_append_left hi] at hq
      exact (c.rd i q hq).bags keep
    · rw [List.getElem?_append_right (by omega)] at hq
      have hlt := (List.getElem?_eq_some_iff.mp hq).1
      have e : i = s.lanes.length := by simp at hlt; omega
      subst e
      rw [Nat.sub_self] at hq
      cases hq
      have so : Stt.ok ⟨s.lanes.length, 0, m, n, []⟩ := ⟨by show 0 ≤ (s.lanes.length : Int); omega, Int.le_refl _, hm, hn, by simp, fun k hk => (nomatch hk), .nil, fun k hk => (nomatch hk)⟩
      exact ⟨nl, nr, keep l (by rw [hx]; rfl), keep r (by rw [hy]; rfl), so, so, rfl, rfl, rfl, rfl, .inl rfl, fun _ => ⟨rfl, rfl⟩, fun z => absurd (show (("open" : Str)) = "closing" from z) (by decide)⟩
  · exact row_form c.rw
  · obtain ⟨k1, k2, k3⟩ := c.kp e he
    refine ⟨k1, k2, ?_⟩
    show _ < (s.lanes ++ [_]).length
    rw [List.length_append]
    omega
  · obtain ⟨e0, h0, _, z | z⟩ := bput_mem he
    · obtain ⟨e1, h1, _, z1 | z1⟩ := bput_mem h0
      · have := h.am.bag e1 h1; omega
      · omega
    · omega
  · rcases nmem q hq with z | rfl
    · have := h.am.fl q z; omega
    · dsimp only; omega
  · rcases nmem q hq with z | rfl
    · obtain ⟨z1, z2, z3⟩ := h.am.sl q z
      exact ⟨by omega, by omega, fun l hl => Int.le_trans (z3 l hl) hVV⟩
    · exact ⟨by dsimp only; omega, by dsimp only; omega, fun l hl => nomatch hl⟩
/-! a state told -/
theorem sum_le {ls : List Lck} (h : ∀ l ∈ ls, 0 ≤ l.am) {k : Lck} (hk : k ∈ ls) : k.am ≤ (ls.map (·.am)).sum ∧ 0 ≤ (ls.map (·.am)).sum := by
  induction ls with
  | nil => exact nomatch hk
  | cons a ls ih =>
    rw [List.map_cons, List.sum_cons]
    have ha := h a List.mem_cons_self
    have h0 : 0 ≤ (ls.map (·.am)).sum := by
      have : ∀ ls : List Lck, (∀ l ∈ ls, 0 ≤ l.am) → 0 ≤ (ls.map (·.am)).sum := fun ls => by
        induction ls with
        | nil => simp
        | cons b ls ih =>
          intro h
          rw [List.map_cons, List.sum_cons]
          have := h b List.mem_cons_self
          have := ih fun l hl => h l (List.mem_cons_of_mem _ hl)
          omega
      exact this ls fun l hl => h l (List.mem_cons_of_mem _ hl)
    rcases List.mem_cons.mp hk with rfl | hk
    · omega
    · have := (ih (fun l hl => h l (List.mem_cons_of_mem _ hl)) hk).1
      omega
theorem sum_nn (ls : List Lck) (h : ∀ l ∈ ls, 0 ≤ l.am) : 0 ≤ (ls.map (·.am)).sum := by
  cases ls with
  | nil => simp
  | cons a ls => exact (sum_le h List.mem_cons_self).2
theorem eqv_worth {t f : Stt} (hf : f.locks = []) (h : PyData.eqv t.d.py f.d.py = true) : t.worth = f.worth := by
  obtain ⟨a, b, c, d, ls⟩ := t
  obtain ⟨a2, b2, c2, d2, ls2⟩ := f
  dsimp only at hf
  subst hf
  cases ls with
  | nil =>
    simp [Stt.d, D.py, D.pys, PyData.eqv, PyData.eqvAll] at h
    simp [Stt.worth, h]
  | cons x xs => simp [Stt.d, D.py, D.pys, PyData.eqv, PyData.eqvAll] at h
theorem tell_ok {S : Str → D → Bool} {N : Nat} {V : Int} {la la' : List Addr} {s : CtS} {t : Stt} (h : StOk N V la s) (hN : N < 1000) (hV : 0 ≤ V) (dok : t.ok) (hd : tellDue S s t = "") (hl : la'.length = (tellS s t).lanes.length) : StOk (N + 1) (65536 * V) la' (tellS s t) := by
  obtain ⟨r, hr, hns, hw⟩ := tellDue_ok hd
  have c := h.ct
  have hVV := V_le hV
  have ro := c.rd _ _ hr
  have hrm := List.mem_of_getElem? hr
  have hlt := (List.getElem?_eq_some_iff.mp hr).1
  have tw : t.worth ≤ 2 * V := by
    have e : t.worth = r.first.worth := by
      rcases hw with z | z
      · exact eqv_worth ro.fk z
      · exact z
    have := h.am.fl r hrm
    rw [e]
    unfold Stt.worth
    rw [ro.fk]
    simp
    omega
  have tn : ∀ l ∈ t.locks, 0 ≤ l.am := fun l hl => by have := (dok.each l hl).am; omega
  have ts := sum_nn t.locks tn
  have tl := dok.l
  have tr := dok.r
  unfold Stt.worth at tw
  have e0 : tellS s t = { s with lanes := s.lanes.set t.lane.toNat (tellR s t r), rows := s.rows ++ [rowD (.tup [.str "tell", t.d]) []] } := by
    unfold tellS
    rw [hr]
  rw [e0] at hl ⊢
  have nmem : ∀ q, q ∈ s.lanes.set t.lane.toNat (tellR s t r) → q ∈ s.lanes ∨ q = tellR s t r := fun q hq => by
    rcases List.mem_or_eq_of_mem_set hq with z | z
    · exact .inl z
    · exact .inr z
  refine ⟨⟨by omega, hl, ?_, ?_, ?_, ?_, c.bg, fun i q hq => ?_, ?_, fun e he => ?_, c.ck⟩, h.ks, rows_snoc h.rw (dl := .tl t) (ps := []) rfl dok (by decide) (fun e he => nomatch he), ⟨fun e he => Int.le_trans (h.am.bag e he) hVV, fun q hq => ?_, fun q hq => ?_, fun e he => Int.le_trans (h.am.kp e he) hVV⟩⟩
  · show (s.lanes.set _ _).length ≤ N + 1
    rw [List.length_set]
    have := c.nl
    omega
  · show (s.rows ++ [_]).length ≤ N + 1
    rw [List.length_append]
    have := c.nr
    simp
    omega
  · have := c.ns
    show s.seen.length ≤ N + 1
    omega
  · show s.kept.length ≤ 30 * (s.lanes.set _ _).countP _
    rw [countP_set _ s.lanes _ r _ hr (by simpa using hns) (by show (("closing" : Str) == "settled") = false; decide)]
    exact c.nk
  · have hq : (s.lanes.set t.lane.toNat (tellR s t r))[i]? = some q := hq
    by_cases hi : t.lane.toNat = i
    · subst hi
      rw [List.getElem?_set_self hlt] at hq
      cases hq
      refine ⟨ro.l, ro.r, ro.lb, ro.rb, ro.f, dok, ro.fl, ro.fn, ro.fk, by have := dok.lane; show t.lane = _; omega, .inr (.inl rfl), fun z => absurd (show (("closing" : Str)) = "open" from z) (by decide), fun _ => ?_⟩
      show ∃ e, (if r.mood = "open" then some (s.clock + s.long) else r.en) = some e
      by_cases z : r.mood = "open"
      · rw [if_pos z]; exact ⟨_, rfl⟩
      · rw [if_neg z]
        rcases ro.md with y | y | y
        · exact absurd y z
        · exact ro.cl y
        · exact absurd y hns
    · rw [List.getElem?_set_ne hi] at hq
      exact c.rd i q hq
  · exact row_form c.rw
  · obtain ⟨k1, k2, k3⟩ := c.kp e he
    refine ⟨k1, k2, ?_⟩
    show _ < (s.lanes.set _ _).length
    rw [List.length_set]
    exact k3
  · rcases nmem q hq with z | rfl
    · have := h.am.fl q z; omega
    · have := h.am.fl r hrm
      show r.first.l ≤ _ ∧ r.first.r ≤ _
      omega
  · rcases nmem q hq with z | rfl
    · obtain ⟨z1, z2, z3⟩ := h.am.sl q z
      exact ⟨by omega, by omega, fun l hl => Int.le_trans (z3 l hl) hVV⟩
    · show t.l ≤ _ ∧ t.r ≤ _ ∧ ∀ l ∈ t.locks, l.am ≤ _
      exact ⟨by omega, by omega, fun l hl => by have := (sum_le tn hl).1; omega⟩
/-! a secret shown -/
theorem show_ok {N : Nat} {V : Int} {la la' : List Addr} {s : CtS} {x : Int} (h : StOk N V la s) (hN : N < 1000) (hV : 0 ≤ V) (dok : 0 ≤ x) (hl : la'.length = (showS s x).lanes.length) : StOk (N + 1) (65536 * V) la' (showS s x) := by
  have c := h.ct
  have am := h.am.mono (V_le hV)
  refine ⟨⟨by omega, hl, ?_, ?_, ?_, c.nk, c.bg, c.rd, row_form c.rw, c.kp, c.ck⟩, h.ks, rows_snoc h.rw (dl := .sh x) (ps := []) rfl dok (by decide) (fun e he => nomatch he), ⟨am.bag, am.fl, am.sl, am.kp⟩⟩
  · have := c.nl
    show s.lanes.length ≤ N + 1
    omega
  · show (s.rows ++ [_]).length ≤ N + 1
    rw [List.length_append]
    have := c.nr
    simp
    omega
  · show (sput s.seen _ _ _).length ≤ N + 1
    have := c.ns
    unfold sput
    split
    · omega
    · rw [List.length_append]; simp; omega
/-! a turn -/
theorem turn_ok {N : Nat} {V : Int} {la la' : List Addr} {s : CtS} (h : StOk N V la s) (hN : N < 1000) (hV : 0 ≤ V) (hl : la'.length = (turnS s).lanes.length) : StOk (N + 1) (65536 * V) la' (turnS s) := by
  have c := h.ct
  have hVV := V_le hV
  have c1 := ok_clock c
  have c2 := ok_settle c1
  have c3 := ok_decide c2
  have lmem : ∀ q ∈ (turn2 s).lanes, ∃ r ∈ s.lanes, q.first = r.first ∧ q.st = r.st := fun q hq => by
    obtain ⟨r, hr, rfl⟩ := List.mem_map.mp (show q ∈ (turn1 s).lanes.map (upd1 (turn1 s)) from hq)
    refine ⟨r, hr, ?_⟩
    unfold upd1
    split <;> exact ⟨rfl, rfl⟩
  have kmem : ∀ e ∈ (turn2 s).kept, e.2.am ≤ V := fun e he => by
    rcases keep1_mem (turn1 s) (turn1 s).lanes 0 (turn1 s).kept he with z | ⟨j, r, h1, h2⟩
    · exact h.am.kp e z
    · obtain ⟨l, hl, rfl⟩ := List.mem_map.mp h2
      exact (h.am.sl r (List.mem_of_getElem? h1)).2.2 l hl
  have pmem : ∀ e ∈ turnP s, e.2 ≤ V ∧ 0 ≤ e.2 ∧ isNm e.1 := fun e he => by
    have hin := turnP_in c he
    obtain ⟨v, hv⟩ := Option.isSome_iff_exists.mp hin
    have hnm := c.bg.nm _ (bget_in hv)
    unfold turnP at he
    obtain ⟨h1, h2⟩ := List.mem_filter.mp he
    have h2 : e.2 > 0 := of_decide_eq_true h2
    refine ⟨?_, by omega, hnm⟩
    rcases List.mem_append.mp h1 with z | z
    · obtain ⟨r, hr, y⟩ := paid1_mem z
      have := h.am.sl r hr
      rcases y with rfl | rfl
      · exact this.1
      · exact this.2.1
    · obtain ⟨x, hx, r, _, _, y⟩ := paid2_mem z
      rw [y]
      exact kmem x hx
  have plen : (turnP s).length ≤ 32000 := by
    unfold turnP
    have h1 := paid1_len (turn1 s) s.lanes
    have h2 := paid2_len (turn2 s) (turn2 s).kept
    have h3 : (turn2 s).kept.length ≤ 30 * (turn2 s).lanes.countP (fun r => r.mood == ("settled" : Str)) := c2.nk
    have h4 : (turn2 s).lanes.countP (fun r => r.mood == ("settled" : Str)) ≤ (turn2 s).lanes.length := List.countP_le_length
    have h5 : (turn2 s).lanes.length ≤ N := c2.nl
    have h6 := c.nl
    refine Nat.le_trans (List.length_filter_le _ _) ?_
    rw [List.length_append]
    omega
  have hsub : (left2 (turn2 s) (turn2 s).kept).Sublist (turn2 s).kept := left2_sub _ _
  refine ⟨⟨by omega, hl, ?_, ?_, ?_, c3.nk, ?_, fun i q hq => ?_, ?_, c3.kp, c3.ck⟩, ?_, rows_snoc h.rw (dl := .tn) (ps := turnP s) rfl trivial (by omega) (fun e he => (pmem e he).2.2), ⟨fun e he => ?_, fun q hq => ?_, fun q hq => ?_, fun e he => ?_⟩⟩
  · have := c3.nl
    show (decideS (turn2 s)).lanes.length ≤ N + 1
    have e : (decideS (turn2 s)).lanes.length ≤ N := this
    omega
  · show (s.rows ++ [_]).length ≤ N + 1
    rw [List.length_append]
    have := c.nr
    simp
    omega
  · have := c.ns
    show s.seen.length ≤ N + 1
    omega
  · exact BgOk.add (fun e he => (pmem e he).2.1) c.bg
  · exact (c3.rd i q hq).bags fun n hn => addB_some hn
  · exact row_form c.rw
  · show (left2 (turn2 s) (turn2 s).kept).Pairwise _
    exact List.Pairwise.sublist hsub (keep_pw (turn1 s) _ _ _ h.ks)
  · have hb := addB_le hV hV (fun e he => (pmem e he).1) h.am.bag e he
    have h1 : ((turnP s).length : Int) * V ≤ 32000 * V := Int.mul_le_mul_of_nonneg_right (by omega) hV
    omega
  · obtain ⟨r, hr, e1, e2⟩ := lmem q hq
    have := h.am.fl r hr
    rw [e1]
    omega
  · obtain ⟨r, hr, e1, e2⟩ := lmem q hq
    obtain ⟨z1, z2, z3⟩ := h.am.sl r hr
    rw [e2]
    exact ⟨by omega, by omega, fun l hl => Int.le_trans (z3 l hl) hVV⟩
  · exact Int.le_trans (kmem e (hsub.subset he)) hVV
theorem go_ok {S : Str → D → Bool} {N : Nat} {V : Int} {la la' : List Addr} {s : CtS} {dl : Dl} (h : StOk N V la s) (hN : N < 1000) (hV : 0 ≤ V) (dok : dl.ok) (hl : la'.length = (dl.go S s).lanes.length) : StOk (N + 1) (65536 * V) la' (dl.go S s) := by
  cases dl with
  | op l r m n =>
    dsimp only [Dl.go] at hl ⊢
    by_cases c : openDue S s l r m n = ""
    · rw [if_pos c] at hl ⊢
      exact open_ok h hN hV dok c hl
    · rw [if_neg c] at hl ⊢
      exact ⟨h.ct.mono (by omega) (by omega) hl, h.ks, h.rw, h.am.mono (V_le hV)⟩
  | tl t =>
    dsimp only [Dl.go] at hl ⊢
    by_cases c : tellDue S s t = ""
    · rw [if_pos c] at hl ⊢
      exact tell_ok h hN hV dok c hl
    · rw [if_neg c] at hl ⊢
      exact ⟨h.ct.mono (by omega) (by omega) hl, h.ks, h.rw, h.am.mono (V_le hV)⟩
  | sh x => exact show_ok h hN hV dok hl
  | tn => exact turn_ok h hN hV hl
end Cl
set_option Elab.async false
set_option linter.all false
set_option maxRecDepth 100000
set_option maxHeartbeats 4000000
namespace Cl
open PySem PySem.Spec PyProof.Rows L2
local macro_rules | `(tactic| walk_at "at") => `(tactic| first | assumption | repeat first | assumption | with_reducible exact At.here | with_reducible exact at_kb | with_reducible exact at_kn | with_reducible exact at_ko | with_reducible exact at_ks | with_reducible exact at_kr | with_reducible exact at_kd | with_reducible apply At.tail | (with_reducible apply At.in (by assumption)) | with_reducible apply At.right)
local macro_rules | `(tactic| walk_at "fact") => `(tactic| first | exact c_Court (by assumption) | exact c_Lane (by assumption) | exact c_Signs (by assumption) | exact n_Court_clock (by assumption) | exact n_Court_long (by assumption) | exact n_Court_bags (by assumption) | exact n_Court_book (by assumption) | exact n_Court_opened (by assumption) | exact n_Court_seen (by assumption) | exact n_Court_kept (by assumption) | exact n_Court_deeds (by assumption) | exact n_Lane_both (by assumption) | exact n_Lane_first (by assumption) | exact n_Lane_standing (by assumption) | exact n_Lane_mood (by assumption) | exact n_Lane_ending (by assumption) | exact n_Signs_by_hand (by assumption))
local macro_rules | `(tactic| walk_at "ge") => `(tactic| first
  | with_reducible refine we_var rfl ?_
  | with_reducible refine we_int ?_
  | with_reducible refine we_str ?_
  | with_reducible refine we_ty ?_
  | with_reducible refine we_bl ?_
  | with_reducible refine we_non ?_
  | with_reducible refine we_ref ?_
  | with_reducible refine we_op ?_
  | with_reducible refine we_cb ?_
  | with_reducible refine we_call0 ?_
  | with_reducible refine we_call ?_
  | with_reducible refine we_lst ?_
  | with_reducible refine we_tup ?_
  | with_reducible refine we_andV ?_
  | with_reducible refine we_orV ?_
  | with_reducible refine we_notV ?_
  | with_reducible refine we_if ?_
  | with_reducible refine we_chain ?_
  | with_reducible refine we_sl ?_
  | with_reducible refine we_lz ?_
  | with_reducible refine we_dnewK (fun _ => ?_)
  | with_reducible refine we_dnewN (fun _ => ?_)
  | with_reducible refine we_fld ?_
  | with_reducible refine we_dget ?_
  | with_reducible refine we_din ?_
  | with_reducible refine we_dnotIn ?_
  | with_reducible refine we_dget2 ?_
  | with_reducible refine we_dsetd ?_
  | with_reducible refine we_make ?_
  | with_reducible refine we_meth0 ?_
  | with_reducible refine we_meth ?_
  | with_reducible refine we_bm ?_)
local macro_rules | `(tactic| walk_at "gt") => `(tactic| first
  | with_reducible refine wt_B ?_
  | with_reducible refine wt_test ?_
  | with_reducible refine wt_not ?_
  | with_reducible refine wt_and ?_
  | with_reducible refine wt_or ?_
  | with_reducible refine wt_yes ?_)
local macro_rules | `(tactic| walk_at "gst") => `(tactic| first
  | with_reducible refine ws_ret ?_
  | with_reducible refine ws_retN ?_
  | with_reducible refine ws_seq ?_
  | with_reducible refine ws_set ?_
  | with_reducible refine ws_drop ?_
  | with_reducible refine ws_if ?_
  | with_reducible refine ws_next ?_
  | with_reducible refine ws_raise ?_
  | with_reducible refine ws_asgS ?_
  | with_reducible refine ws_setL ?_
  | with_reducible refine ws_setN ?_
  | with_reducible refine ws_asg ?_
  | with_reducible refine ws_fld ?_
  | with_reducible refine ws_fldaddI ?_
  | with_reducible refine ws_dput ?_)
local macro_rules | `(tactic| walk_at "gr") => `(tactic| first
  | with_reducible refine wr_ixT rfl ?_
  | with_reducible refine wr_ixL rfl ?_
  | with_reducible refine ix_t0 ?_
  | with_reducible refine ix_t1 ?_
  | with_reducible refine ix_t2 ?_
  | with_reducible refine ix_t3 ?_
  | with_reducible refine ix_t4 ?_
  | with_reducible refine ix_l0 ?_
  | with_reducible refine ix_l1 ?_
  | with_reducible refine ix_l2 ?_
  | with_reducible refine ix_l3 ?_
  | with_reducible refine ix_l4 ?_
  | with_reducible refine wr_int ?_
  | (with_reducible refine isPow ?_; with_reducible refine wr_powL (by decide) (by decide) (by decide) ?_)
  | with_reducible refine wr_bool ?_
  | with_reducible refine wr_eqI ?_
  | with_reducible refine wr_neI ?_
  | with_reducible refine wr_eqS ?_
  | with_reducible refine wr_neS ?_
  | with_reducible refine wr_eqB ?_
  | with_reducible refine wr_neB ?_
  | with_reducible refine wr_isN ?_
  | with_reducible refine wr_notN ?_
  | (with_reducible refine isIxC ?_; with_reducible refine wr_ixC (by walk_at "at") (by with_unfolding_all rfl) ?_))
local macro_rules | `(tactic| walk_at "gc") => `(tactic| first
  | with_reducible refine wc_isi rfl rfl ?_
  | with_reducible refine wc_isi (by decide) (by decide +kernel) ?_
  | (with_reducible refine isLen ?_; with_reducible refine wc_lenC (by walk_at "at") ?_)
  | with_reducible refine wc_lenT ?_
  | with_reducible refine wc_lenL ?_)
local macro_rules | `(tactic| walk_at "ga") => `(tactic| first
  | with_reducible refine wa_cons ?_
  | with_reducible refine wa_nil ?_)
local macro_rules | `(tactic| walk_at "gx") => `(tactic| first
  | (with_reducible refine isLn ?_; with_reducible refine lenAnd (by simp) ?_)
  | with_reducible refine wsl_tup ?_
  | with_reducible refine wo_none ?_
  | with_reducible refine wo_some ?_
  | with_reducible refine ex_bl ?_
  | with_reducible refine ex_int ?_
  | with_reducible refine ex_str ?_
  | with_reducible refine ex_tup ?_
  | with_reducible refine ex_lst ?_
  | with_reducible refine ex_etup ?_
  | with_reducible refine br_true ?_
  | with_reducible refine br_false ?_
  | (with_reducible refine isBr ?_; refine br_t rfl ?_)
  | (with_reducible refine isBr ?_; refine br_f rfl ?_)
  | (with_reducible refine isFld ?_; with_reducible refine ex_fld (by walk_at "at") (by walk_at "fact") (by walk_at "fact") (by with_unfolding_all rfl) ?_)
  | (with_reducible refine isPut ?_; with_reducible refine ex_put (by walk_at "at") (by walk_at "fact") (by walk_at "fact") (by with_unfolding_all exact of_decide_eq_true rfl) ?_)
  | (with_reducible refine isMeth ?_; with_reducible refine ex_meth (by walk_at "at") (by with_unfolding_all rfl) ?_)
  | (with_reducible refine isTy ?_; with_reducible refine And.intro (ty_cell (by walk_at "at")) ?_)
  | with_reducible refine k_whole ?_
  | with_reducible refine k_count ?_
  | with_reducible refine k_amount ?_)
local macro_rules | `(tactic| walk_at "s") => `(tactic| first
  | (with_reducible refine isWE ?_; walk_at "ge")
  | (with_reducible refine isWS ?_; walk_at "gst")
  | (with_reducible refine isWT ?_; walk_at "gt")
  | (with_reducible refine isWR ?_; walk_at "gr")
  | (with_reducible refine isWA ?_; walk_at "ga")
  | (with_reducible refine isWC ?_; walk_at "gc")
  | walk_at "gx")
local macro_rules | `(tactic| walk_at "w") => `(tactic| repeat walk_at "s")

section
variable {P : Program} {w : World} {K : PySem.W.Frag} {mg : Str → Option Value} {base : Heap}
theorem pow7 {n : Nat} (h : n ≤ 1000000000000) : n < 2 ^ 7000 := Nat.lt_of_le_of_lt h (Nat.lt_of_lt_of_le (show 1000000000000 < 2 ^ 64 by decide) (Nat.pow_le_pow_right (by decide) (by decide)))
def tellSel : D → Bool
  | .tup [.tup (.str x :: _), _] => decide (x = "tell")
  | _ => false
def tellF : D → D
  | .tup [.tup (_ :: x :: _), _] => x
  | d => d
def someSel (n : Int) : D → Bool
  | .tup [_, .tup (.int l :: _)] => decide (l = n)
  | _ => false
theorem olds_ok {s : CtS} (h : RwOk s) : ∀ d ∈ (s.rows.filter tellSel).map tellF, ∃ t : Stt, d = t.d ∧ t.ok := fun d hd => by
  obtain ⟨d0, h0, rfl⟩ := List.mem_map.mp hd
  obtain ⟨h1, h2⟩ := List.mem_filter.mp h0
  obtain ⟨dl, ps, rfl, hk, _, _⟩ := h d0 h1
  cases dl with
  | op l r m n => exact absurd h2 (by simp [rowD, Dl.d, tellSel]; decide)
  | tl t => exact ⟨t, rfl, hk⟩
  | sh x => exact absurd h2 (by simp [rowD, Dl.d, tellSel]; decide)
  | tn => exact absurd h2 (by simp [rowD, Dl.d, tellSel]; decide)
theorem some_ok {kk : Kk} {M : Nat} {sg : Sg} (h : SigOk M sg kk) (n : Int) : ∀ d ∈ ((kk.map keyD).filter (someSel n)).map sndD, ∃ t : Stt, d = t.d ∧ t.ok ∧ t.lane = n := fun d hd => by
  obtain ⟨d0, h0, rfl⟩ := List.mem_map.mp hd
  obtain ⟨h1, h2⟩ := List.mem_filter.mp h0
  obtain ⟨⟨hn, p⟩, he, rfl⟩ := List.mem_map.mp h1
  cases p with
  | o o => exact nomatch h2
  | t t => exact ⟨t, rfl, (h.kn _ he).2, of_decide_eq_true h2⟩
theorem wr_eqSI {x : Str} {i : Int} {L : Sto} {Φ : D → Sto → Prop} (q : Φ (.bl false) L) : WR P w K rEq (.str x) (.int i) L Φ := wr_eq (u := .str x) (v := .int i) rfl rfl rfl (by
  have e : decide (V.str x = V.int i) = false := by simp
  rw [e]
  exact q)
abbrev aTells (K : PySem.W.Frag) : ASp := A4 fun self sn bk ks L Φ _ => ∃ wa wg x a la s sg k ra kk f M N V ns, self = .ref wa ∧ sn = .ref (Ad.g a) ∧ bk = .ref (Bk.b k) ∧ Part (AllC K wa wg x a la s sg k ra kk) L f ∧ Wl.ok x ∧ x.c + 700 ≤ 1000000 ∧ SigOk M sg kk ∧ M + 2 < 90000 ∧ ra.length = s.lanes.length ∧ StOk N V la s ∧ 0 ≤ V ∧ (2 * V + 1).natAbs < 2 ^ 7000 ∧ 0 < s.lanes.length ∧ ks = .lst (List.map D.int ns) ∧ ns ≠ [] ∧ ns.length ≤ 100 ∧ (∀ n ∈ ns, 0 ≤ n) ∧
  ∀ x' sg' kk' dl, Wl.ok x' → x'.c ≤ x.c + 700 → SigOk (M + 2) sg' kk' → Dl.ok dl → Φ (Dl.d dl) (f (AllC K wa wg x' a la s sg' k ra kk'))
theorem sc_law_telling : FnScope ["_law_well_here", "_law_signs", "_law_book_here", "_law_keys", "_law_pick", "_law_number", "_law_olds", "_law_left", "_law_right", "_law_one", "_law_other", "_law_mood", "_law_standing", "_law_ending", "_law_some", "_law_state_here", "_law_ids", "_law_deed_here", "_law_paid", "_law_hand", "_law_paper", "_law_lock"] ["_law_well_here", "_law_signs", "_law_book_here", "_law_keys"] d_law_telling.scope := ⟨rfl, rfl, rfl, by decide +kernel, rfl, by decide +kernel, by decide +kernel⟩
theorem ok_law_telling (T : Tx K mg) : FOk P w K mg base 8 (He.fAd K d_law_telling.at_) ["_law_well_here", "_law_signs", "_law_book_here", "_law_keys"] (aTells K) := by
  refine fok_of (d := d_law_telling) T 64 (k := 7) rfl rfl rfl sc_law_telling (fun ds L Φ ex h => A4.len h) (fun _ _ _ _ _ _ us hl => match us, hl with | [_, _, _, _], _ => rfl) (fun cdv Ar outer s H E ds L Φ ex hr h => ?_)
  obtain ⟨well_here, signs, book_here, keys, rfl, h⟩ := h
  refine ⟨_, (pss_cons (ps_set (i := 4) sc_law_telling.nd rfl (Or.inl rfl) (pe_c (ok_law_take T) hr rfl (g_law_take T) (pa_cons (pv 0) (pa_cons pe_int pa_nil))))
    (pss_cons (ps_set (i := 5) sc_law_telling.nd rfl (Or.inr rfl) (pe_c (ok_law_take T) hr rfl (g_law_take T) (pa_cons (pv 0) (pa_cons (pe_op op_add (pe_callB call_len rfl (f_len T) (by decide +kernel) (pa_cons (pe_ix ix_list (pv 2) pe_int (fun _ _ => rfl)) pa_nil)) (pe_callTy call_int1 rfl (f_int T) (by decide +kernel) (pa_cons (pe_cmpR op_eq (pv 4) pe_int (nomark _)) pa_nil))) pa_nil))))
    (pss_cons (ps_setLc (i := 6) (own := [("_law_deed_here", 17), ("_law_paid", 18)]) rfl sc_law_telling.nd rfl rfl (sw_true rfl rfl rfl (by decide +kernel)) (pi_list (pe_ix ix_list (pv 2) pe_int (fun _ _ => rfl))) (blkOk_by (own := [("_law_deed_here", 17), ("_law_paid", 18)]) (N := ["_law_well_here", "_law_signs", "_law_book_here", "_law_keys", "_law_pick", "_law_number", "_law_olds", "_law_left", "_law_right", "_law_one", "_law_other", "_law_mood", "_law_standing", "_law_ending", "_law_some", "_law_state_here", "_law_ids", "_law_deed_here", "_law_paid", "_law_hand", "_law_paper", "_law_lock"]) (sc := d_law_telling.scope) (by decide +kernel)) (fun _ _ _ _ _ => by exact (pg_tupK (n := 2) (K := K) rfl rfl (pgs_cons (pg_name (i := 17) sc_law_telling.nd rfl (Or.inl rfl)) (pgs_cons (pg_name (i := 18) sc_law_telling.nd rfl (Or.inl rfl)) pgs_nil)))) (fun _ _ _ _ _ => by exact (pts_one (pt_cmpR op_eq (pe_ix (ix_tupK (K := K) rfl) (pv 17) pe_int (fun _ _ => rfl)) pe_str (nomark _)))) (fun _ _ _ _ _ => by exact (pe_ix (ix_tupK (K := K) rfl) (pv 17) pe_int (fun _ _ => rfl))))
    (pss_cons (ps_if (pt_cmpR op_eq (pv 5) (pe_callB call_len rfl (f_len T) (by decide +kernel) (pa_cons (pe_ix ix_list (pv 2) pe_int (fun _ _ => rfl)) pa_nil)) (nomark _)) (pss_one (ps_ret (pe_tup (pa_cons pe_str (pa_cons (pe_c (ok_law_state T) hr rfl (g_law_state T) (pa_cons (pv 0) (pa_cons (pv 5) (pa_cons (pe_c (ok_law_sum T) hr rfl (g_law_sum T) (pa_cons (pv 0) pa_nil)) (pa_cons (pv 3) (pa_cons (pe_ix ix_list (pv 2) pe_int (fun _ _ => rfl)) pa_nil)))))) pa_nil))))) pss_nil)
    (pss_cons (ps_asg (pe_ix ix_list (pe_ix ix_list (pv 2) pe_int (fun _ _ => rfl)) (pv 5) (fun _ _ => rfl)) (pg_lst (n := 7) rfl (pgs_cons (pg_name (i := 7) sc_law_telling.nd rfl (Or.inl rfl)) (pgs_cons (pg_name (i := 8) sc_law_telling.nd rfl (Or.inl rfl)) (pgs_cons (pg_name (i := 9) sc_law_telling.nd rfl (Or.inl rfl)) (pgs_cons (pg_name (i := 10) sc_law_telling.nd rfl (Or.inl rfl)) (pgs_cons (pg_name (i := 11) sc_law_telling.nd rfl (Or.inl rfl)) (pgs_cons (pg_name (i := 12) sc_law_telling.nd rfl (Or.inl rfl)) (pgs_cons (pg_name (i := 13) sc_law_telling.nd rfl (Or.inl rfl)) pgs_nil)))))))))
    (pss_cons (ps_if (pt_cmpR op_eq (pv 4) pe_int (nomark _)) (pss_one (ps_ret (pe_tup (pa_cons pe_str (pa_cons (pe_tup (pa_cons (pv 5) (pa_cons pe_int (pa_cons (pv 9) (pa_cons (pv 10) (pa_cons (pe_tup pa_nil) pa_nil)))))) pa_nil))))) pss_nil)
    (pss_cons (ps_if (PW.pt (pw_and (pt_cmpR op_eq (pv 4) pe_int (nomark _)) (pw_and1 (pt_cmpR (op_neD hr.units) (pv 6) (pe_lst pa_nil) (nomark _))))) (pss_one (ps_ret (pe_tup (pa_cons pe_str (pa_cons (pe_ix ix_list (pv 6) (pe_c (ok_law_take T) hr rfl (g_law_take T) (pa_cons (pv 0) (pa_cons (pe_callB call_len rfl (f_len T) (by decide +kernel) (pa_cons (pv 6) pa_nil)) pa_nil))) (fun _ _ => rfl)) pa_nil))))) pss_nil)
    (pss_cons (ps_lock (ps_setLc (i := 14) (own := [("_law_hand", 19), ("_law_paper", 20)]) rfl sc_law_telling.nd rfl rfl (sw_true rfl rfl rfl (by decide +kernel)) (pi_dN (pe_ix ix_list (pv 2) pe_int (fun _ _ => rfl))) (blkOk_by (own := [("_law_hand", 19), ("_law_paper", 20)]) (N := ["_law_well_here", "_law_signs", "_law_book_here", "_law_keys", "_law_pick", "_law_number", "_law_olds", "_law_left", "_law_right", "_law_one", "_law_other", "_law_mood", "_law_standing", "_law_ending", "_law_some", "_law_state_here", "_law_ids", "_law_deed_here", "_law_paid", "_law_hand", "_law_paper", "_law_lock"]) (sc := d_law_telling.scope) (by decide +kernel)) (fun _ _ _ _ _ => by exact (pg_tupK (n := 2) (K := K) rfl rfl (pgs_cons (pg_name (i := 19) sc_law_telling.nd rfl (Or.inl rfl)) (pgs_cons (pg_name (i := 20) sc_law_telling.nd rfl (Or.inl rfl)) pgs_nil)))) (fun _ _ _ _ _ => by exact (pts_one (pt_cmpR op_eq (pe_ix (ix_tupK (K := K) rfl) (pv 20) pe_int (fun _ _ => rfl)) (pv 5) (nomark _)))) (fun _ _ _ _ _ => by exact (pv 20))))
    (pss_cons (ps_if (PW.pt (pw_and (pt_cmpR op_eq (pv 4) pe_int (nomark _)) (pw_and1 (pt_cmpR (op_neD hr.units) (pv 14) (pe_lst pa_nil) (nomark _))))) (pss_cons (ps_set (i := 15) sc_law_telling.nd rfl (Or.inl rfl) (pe_ix ix_list (pv 14) (pe_c (ok_law_take T) hr rfl (g_law_take T) (pa_cons (pv 0) (pa_cons (pe_callB call_len rfl (f_len T) (by decide +kernel) (pa_cons (pv 14) pa_nil)) pa_nil))) (fun _ _ => rfl)))
    (pss_cons (ps_expr (pe_c (ok_law_signing T) hr rfl (g_law_signing T) (pa_cons (pv 0) (pa_cons (pv 1) (pa_cons (pv 2) (pa_cons (pv 15) (pa_cons (pe_lst (pa_cons (pv 7) (pa_cons (pv 8) pa_nil))) pa_nil)))))))
    (pss_one (ps_ret (pe_tup (pa_cons pe_str (pa_cons (pv 15) pa_nil))))))) pss_nil)
    (pss_cons (ps_set (i := 15) sc_law_telling.nd rfl (Or.inl rfl) (pe_c (ok_law_state T) hr rfl (g_law_state T) (pa_cons (pv 0) (pa_cons (pv 5) (pa_cons (pe_op op_add (pe_op op_add (pv 9) (pv 10)) (pe_callTy call_int1 rfl (f_int T) (by decide +kernel) (pa_cons (pe_cmpR op_eq (pv 4) pe_int (nomark _)) pa_nil))) (pa_cons (pv 3) (pa_cons (pe_ix ix_list (pv 2) pe_int (fun _ _ => rfl)) pa_nil)))))))
    (pss_cons (ps_if (PW.pt (pw_and (pt_cmpR op_eq (pv 11) pe_str (nomark _)) (pw_and1 (pt_cmpR op_gt (pv 4) pe_int (nomark _))))) (pss_cons (ps_setLc (i := 16) (own := [("_law_lock", 21)]) rfl sc_law_telling.nd rfl rfl (sw_true rfl rfl rfl (by decide +kernel)) (pi_tup (pe_ix ix_tup (pv 15) pe_int (fun _ _ => rfl))) (blkOk_by (own := [("_law_lock", 21)]) (N := ["_law_well_here", "_law_signs", "_law_book_here", "_law_keys", "_law_pick", "_law_number", "_law_olds", "_law_left", "_law_right", "_law_one", "_law_other", "_law_mood", "_law_standing", "_law_ending", "_law_some", "_law_state_here", "_law_ids", "_law_deed_here", "_law_paid", "_law_hand", "_law_paper", "_law_lock"]) (sc := d_law_telling.scope) (by decide +kernel)) (fun _ _ _ _ _ => by exact (pg_name (i := 21) sc_law_telling.nd rfl (Or.inl rfl))) (fun _ _ _ _ _ => by exact pts_nil) (fun _ _ _ _ _ => by exact (pe_ix (ix_tupK (K := K) rfl) (pv 21) pe_int (fun _ _ => rfl))))
    (pss_one (ps_set (i := 15) sc_law_telling.nd rfl (Or.inl rfl) (pe_op op_catA (pe_tup (pa_cons (pv 5) (pa_cons (pe_callB (cr_max rfl) rfl (f_max T) (by decide +kernel) (pa_cons (pe_op op_catX (pv 16) (pe_lst (pa_cons (pe_op op_add (pe_ix ix_tup (pv 12) pe_int (fun _ _ => rfl)) (pe_c (ok_law_take T) hr rfl (g_law_take T) (pa_cons (pv 0) (pa_cons pe_int pa_nil)))) pa_nil))) pa_nil)) pa_nil))) (pe_slice sl_tupA (pv 15) (po_some pe_int) po_none))))) pss_nil)
    (pss_cons (ps_expr (pe_c (ok_law_signing T) hr rfl (g_law_signing T) (pa_cons (pv 0) (pa_cons (pv 1) (pa_cons (pv 2) (pa_cons (pv 15) (pa_cons (pe_lst (pa_cons (pv 7) (pa_cons (pv 8) pa_nil))) pa_nil)))))))
    (pss_one (ps_ret (pe_tup (pa_cons pe_str (pa_cons (pv 15) pa_nil))))))))))))))))), ?_⟩
  obtain ⟨wa, wg, x, a, la, s, sg, k, ra, kk, f, M, N, V, ns, rfl, rfl, rfl, ⟨hf, rfl⟩, ok, hc, so, hM, hra, st, hV, hV2, hlen, rfl, hne, hnl, hnn, h⟩ := h
  dsimp only [cxOf]
  have ct := st.ct
  have hbig := ct.big
  have hNl := ct.nl
  have hw : ∀ {f : Sto → Sto}, Hole f → Hole (fun S => f (S ++ (MC K a la s sg ++ BkC k ra s kk))) := fun hf => hole_w hf
  walk_at "w"
  refine k_tk (m := 10) (hw hf) ok (by omega) (by decide) (by decide) fun x1 ok1 hc1 pk hp0 hp1 => ?_
  walk_at "w"
  rw [List.length_map, hra]
  walk_at "w"
  refine wc_intB ?_
  have hb01 : ∀ b : Bool, (0 : Int) ≤ (if b = true then 1 else 0) ∧ (if b = true then (1 : Int) else 0) ≤ 1 := fun b => by cases b <;> simp
  have hb1 := hb01 (decide (pk = 0))
  generalize (if decide (pk = 0) = true then (1 : Int) else 0) = b1 at hb1 ⊢
  walk_at "w"
  refine k_tk (m := (s.lanes.length : Int) + b1) (hw hf) ok1 (by omega) (by omega) (by omega) fun x2 ok2 hc2 nu hn0 hn1 => ?_
  walk_at "w"
  refine we_lcP (wi_listC ?_)
  walk_at "w"
  refine ⟨_, _, _, rfl, by walk_at "at", fun p acc => ⟨_, by walk_at "at"⟩, by have := ct.nr; omega, tellSel, tellF, fun d hd p acc => ?_, ?_⟩
  · obtain ⟨dl, ps, rfl, hk, _, _⟩ := st.rw d hd
    refine ⟨_, wg_tup (us := [(17, dl.d), (18, .lst (ps.map prD))]) rfl (wgs_cons wg_name (wgs_cons wg_name wgs_nil)), by simp, ?_⟩
    cases dl with
    | op l r m n =>
      dsimp only [Dl.d]
      walk_at "w"
      exact ⟨rfl, rfl⟩
    | tl t =>
      dsimp only [Dl.d]
      walk_at "w"
      exact ⟨rfl, rfl, rfl⟩
    | sh x =>
      dsimp only [Dl.d]
      walk_at "w"
      exact ⟨rfl, rfl⟩
    | tn =>
      dsimp only [Dl.d]
      walk_at "w"
      exact ⟨rfl, rfl⟩
  have hol := olds_ok st.rw
  have hoN : ((s.rows.filter tellSel).map tellF).length ≤ 1000 := by
    rw [List.length_map]
    exact Nat.le_trans (List.length_filter_le _ _) (by have := ct.nr; omega)
  generalize (s.rows.filter tellSel).map tellF = olds at hol hoN ⊢
  walk_at "w"
  rw [List.length_map, hra]
  walk_at "w"
  by_cases c1 : nu = (s.lanes.length : Int)
  · refine br_t (decide_eq_true c1) ?_
    walk_at "w"
    refine ⟨_, rfl, wa, wg, x2, fun S => f (S ++ (MC K a la s sg ++ BkC k ra s kk)), rfl, ⟨hw hf, rfl⟩, ok2, by omega, fun x3 ok3 hc3 su hs0 hs1 => ?_⟩
    walk_at "w"
    refine ⟨_, _, _, _, _, rfl, wa, wg, x3, fun S => f (S ++ (MC K a la s sg ++ BkC k ra s kk)), nu, su, s.clock, ns, rfl, ⟨hw hf, rfl⟩, ok3, rfl, hn0, rfl, hs0, pow7 (by omega), rfl, hne, hnl, hnn, rfl, ct.ck, by omega, fun x4 ok4 hc4 t tok _ _ => ?_⟩
    walk_at "w"
    exact h x4 sg kk (.tl t) ok4 (by omega) (so.mono (by omega)) tok
  refine br_f (decide_eq_false c1) ?_
  have hlt : nu.toNat < s.lanes.length := by omega
  obtain ⟨r, hr⟩ : ∃ r, s.lanes[nu.toNat]? = some r := ⟨_, List.getElem?_eq_getElem hlt⟩
  obtain ⟨ad, had⟩ : ∃ ad, ra[nu.toNat]? = some ad := ⟨_, List.getElem?_eq_getElem (by rw [hra]; exact hlt)⟩
  have ro := ct.rd _ _ hr
  have hrm := List.mem_of_getElem? hr
  have hf1 := (st.am.fl r hrm).1
  have hf2 := (st.am.fl r hrm).2
  have hfl := ro.f.l
  have hfr := ro.f.r
  obtain ⟨g, hA, _⟩ := at_krd (k := k) (kk := kk) (f := fun S => f (WlC wa wg x2 ++ (MC K a la s sg ++ S))) (hole_b hf) had hr
  walk_at "w"
  refine wr_ixC (by walk_at "at") (atI_int hn0 (by rw [List.getElem?_map, had]; rfl)) ?_
  refine ⟨_, wg_lstC (us := [(7, .str r.l), (8, .str r.r), (9, .int r.first.l), (10, .int r.first.r), (11, .str r.mood), (12, r.st.d), (13, oD r.en)]) rfl hA (wgs_cons wg_name (wgs_cons wg_name (wgs_cons wg_name (wgs_cons wg_name (wgs_cons wg_name (wgs_cons wg_name (wgs_cons wg_name wgs_nil))))))), ?_⟩
  dsimp only [setG]
  walk_at "w"
  by_cases c2 : pk = 1
  · refine br_t (decide_eq_true c2) ?_
    walk_at "w"
    exact h x2 sg kk (.tl ⟨nu, 0, r.first.l, r.first.r, []⟩) ok2 (by omega) (so.mono (by omega)) ⟨hn0, Int.le_refl _, hfl, hfr, by simp, fun k hk => (nomatch hk), .nil, fun k hk => (nomatch hk)⟩
  refine br_f (decide_eq_false c2) ?_
  refine ws_next ?_
  refine ws_cut (fun Γ' L' => L' = f (AllC K wa wg x2 a la s sg k ra kk) ∧ Γ' = [some (.ref wa), some (.ref a.g), some (.ref k.b), some (.lst (ns.map D.int)), some (.int pk), some (.int nu), some (.lst olds), some (.str r.l), some (.str r.r), some (.int r.first.l), some (.int r.first.r), some (.str r.mood), some r.st.d, some (oD r.en), none, none, none, none, none, none, none, none]) ?_ ?_
  · walk_at "w"
    by_cases c3 : pk = 2
    · refine br_t (decide_eq_true c3) ?_
      walk_at "w"
      have hos : (D.lst olds).sim 8 := ⟨by omega, fun d hd => by
        obtain ⟨t, rfl, tok⟩ := hol d hd
        exact stt_sim 3 tok⟩
      obtain ⟨o1, _, _⟩ := sim_all 8 _ hos
      have o1' : D.pures olds = true := by unfold D.pure at o1; exact o1
      have o2 := sim_shaped hos (by decide)
      have o2' : SeqAt.shaped (.list (D.pys olds)) = true := by unfold D.py at o2; exact o2
      refine wr_neNil (.inl rfl) o1' o2' ?_
      cases olds with
      | nil =>
        refine ⟨_, rfl, ?_⟩
        refine br_f rfl ?_
        walk_at "w"
        exact ⟨rfl, rfl⟩
      | cons od os =>
        refine ⟨_, rfl, ?_⟩
        refine br_t rfl ?_
        walk_at "w"
        have hm : (0 : Int) < ((od :: os).length : Int) := by rw [List.length_cons]; omega
        generalize od :: os = olds at hol hoN hm ⊢
        refine k_tk (m := (olds.length : Int)) (hw hf) ok2 (by omega) hm (by omega) fun x3 ok3 hc3 j hj0 hj1 => ?_
        have hlt : j.toNat < olds.length := by omega
        refine wr_ixL (atI_int hj0 (List.getElem?_eq_getElem hlt)) ?_
        obtain ⟨t, et, tok⟩ := hol _ (List.getElem_mem hlt)
        rw [et]
        walk_at "w"
        exact h x3 sg kk (.tl t) ok3 (by omega) (so.mono (by omega)) tok
    · refine br_f (decide_eq_false c3) ?_
      walk_at "w"
      exact ⟨rfl, rfl⟩
  rintro Γ' L' ⟨rfl, rfl⟩
  refine ws_cut (fun Γ' L' => ∃ y19 y20 som, L' = f (AllC K wa wg x2 a la s sg k ra kk) ∧ som.length ≤ 90000 ∧ (∀ d ∈ som, ∃ t : Stt, d = t.d ∧ t.ok ∧ t.lane = nu) ∧ Γ' = [some (.ref wa), some (.ref a.g), some (.ref k.b), some (.lst (ns.map D.int)), some (.int pk), some (.int nu), some (.lst olds), some (.str r.l), some (.str r.r), some (.int r.first.l), some (.int r.first.r), some (.str r.mood), some r.st.d, some (oD r.en), some (.lst som), none, none, none, none, y19, y20, none]) ?_ ?_
  · have hL := At.in hf (At.right (A := WlC wa wg x2) (At.right (A := MC K a la s sg) (At.tail (x := (k.b, .lst (bkL k s))) (At.here (p := k.n7) (c := .dN (kk.map keyD)) (B := (k.o6, .lst s.rows) :: (k.s4, .dK (seenK s.seen)) :: (k.r3, .lst (ra.map D.ref)) :: (k.d2, .dK (bagK s.bags)) :: rdC ra s.lanes)))))
    refine ws_lockN hL fun ob u => ?_
    have hK := fun c => At.in hf (At.right (A := WlC wa wg x2) (At.right (A := MC K a la s sg) (At.tail (x := (k.b, .lst (bkL k s))) (At.here (p := k.n7) (c := c) (B := (k.o6, .lst s.rows) :: (k.s4, .dK (seenK s.seen)) :: (k.r3, .lst (ra.map D.ref)) :: (k.d2, .dK (bagK s.bags)) :: rdC ra s.lanes)))))
    have hB := fun c => At.in hf (At.right (A := WlC wa wg x2) (At.right (A := MC K a la s sg) (At.here (p := k.b) (c := .lst (bkL k s)) (B := (k.n7, c) :: (k.o6, .lst s.rows) :: (k.s4, .dK (seenK s.seen)) :: (k.r3, .lst (ra.map D.ref)) :: (k.d2, .dK (bagK s.bags)) :: rdC ra s.lanes))))
    refine ws_asg ?_
    refine we_lcP (wi_dN ?_)
    walk_at "w"
    refine ⟨_, ob, u, _, _, rfl, hK _, fun p acc => ⟨_, At.tail (hK _)⟩, by have := so.kl; rw [List.length_map]; omega, someSel nu, sndD, fun d hd p acc => ?_, ?_⟩
    · obtain ⟨⟨hn, pp⟩, he, rfl⟩ := List.mem_map.mp hd
      refine ⟨_, wg_tup (us := [(19, .str hn), (20, Ppr.d pp)]) rfl (wgs_cons wg_name (wgs_cons wg_name wgs_nil)), by simp, ?_⟩
      cases pp with
      | o o =>
        dsimp only [Ppr.d, Opn.d]
        walk_at "w"
        refine wr_eqSI ?_
        walk_at "w"
        exact ⟨rfl, rfl⟩
      | t t =>
        dsimp only [Ppr.d, Stt.d]
        walk_at "w"
        refine ⟨fun e => ?_, fun e => ⟨e, rfl⟩⟩
        walk_at "w"
        exact ⟨e, rfl, rfl⟩
    have hso := some_ok so nu
    have hsN : (((kk.map keyD).filter (someSel nu)).map sndD).length ≤ 90000 := by
      rw [List.length_map]
      refine Nat.le_trans (List.length_filter_le _ _) ?_
      rw [List.length_map]
      have := so.kl
      omega
    generalize ((kk.map keyD).filter (someSel nu)).map sndD = som at hso hsN ⊢
    refine ⟨_, wg_name, ?_⟩
    dsimp only [setG]
    exact ⟨_, hK _, _, _, som, rfl, hsN, hso, rfl⟩
  rintro Γ' L' ⟨y19, y20, som, rfl, hsl, hsk, rfl⟩
  refine ws_cut (fun Γ' L' => L' = f (AllC K wa wg x2 a la s sg k ra kk) ∧ ∃ y15, Γ' = [some (.ref wa), some (.ref a.g), some (.ref k.b), some (.lst (ns.map D.int)), some (.int pk), some (.int nu), some (.lst olds), some (.str r.l), some (.str r.r), some (.int r.first.l), some (.int r.first.r), some (.str r.mood), some r.st.d, some (oD r.en), some (.lst som), y15, none, none, none, y19, y20, none]) ?_ ?_
  · walk_at "w"
    by_cases c4 : pk = 4
    · refine br_t (decide_eq_true c4) ?_
      walk_at "w"
      have hos : (D.lst som).sim 8 := ⟨by omega, fun d hd => by
        obtain ⟨t, rfl, tok, _⟩ := hsk d hd
        exact stt_sim 3 tok⟩
      obtain ⟨o1, _, _⟩ := sim_all 8 _ hos
      have o1' : D.pures som = true := by unfold D.pure at o1; exact o1
      have o2 := sim_shaped hos (by decide)
      have o2' : SeqAt.shaped (.list (D.pys som)) = true := by unfold D.py at o2; exact o2
      refine wr_neNil (.inl rfl) o1' o2' ?_
      cases som with
      | nil =>
        refine ⟨_, rfl, ?_⟩
        refine br_f rfl ?_
        walk_at "w"
        exact ⟨rfl, _, rfl⟩
      | cons od os =>
        refine ⟨_, rfl, ?_⟩
        refine br_t rfl ?_
        walk_at "w"
        have hm : (0 : Int) < ((od :: os).length : Int) := by rw [List.length_cons]; omega
        generalize od :: os = som at hsk hsl hm ⊢
        refine k_tk (m := (som.length : Int)) (hw hf) ok2 (by omega) hm (by omega) fun x3 ok3 hc3 j hj0 hj1 => ?_
        have hlt : j.toNat < som.length := by omega
        refine wr_ixL (atI_int hj0 (List.getElem?_eq_getElem hlt)) ?_
        obtain ⟨t, et, tok, _⟩ := hsk _ (List.getElem_mem hlt)
        rw [et]
        walk_at "w"
        refine ⟨_, _, _, _, _, rfl, wa, wg, x3, a, la, s, sg, k, ra, kk, f, M, .t t, r.l, r.r, rfl, rfl, rfl, ⟨hf, rfl⟩, ok3, by omega, so, hM, rfl, tok, rfl, ro.l, ro.r, fun x5 sg' kk' ok5 hc5 so' => ?_⟩
        walk_at "w"
        exact h x5 sg' kk' (.tl t) ok5 (by omega) so' tok
    · refine br_f (decide_eq_false c4) ?_
      walk_at "w"
      exact ⟨rfl, _, rfl⟩
  rintro Γ' L' ⟨rfl, y15, rfl⟩
  refine ws_cut (fun Γ' L' => ∃ (x4 : Wl) (t : Stt), Wl.ok x4 ∧ x4.c ≤ x2.c + 300 ∧ t.ok ∧ t.lane = nu ∧ L' = f (AllC K wa wg x4 a la s sg k ra kk) ∧ Γ' = [some (.ref wa), some (.ref a.g), some (.ref k.b), some (.lst (ns.map D.int)), some (.int pk), some (.int nu), some (.lst olds), some (.str r.l), some (.str r.r), some (.int r.first.l), some (.int r.first.r), some (.str r.mood), some r.st.d, some (oD r.en), some (.lst som), some t.d, none, none, none, y19, y20, none]) ?_ ?_
  · walk_at "w"
    refine wc_intB ?_
    have hb3 := hb01 (decide (pk = 3))
    generalize (if decide (pk = 3) = true then (1 : Int) else 0) = b3 at hb3 ⊢
    walk_at "w"
    refine ⟨_, _, _, _, _, rfl, wa, wg, x2, fun S => f (S ++ (MC K a la s sg ++ BkC k ra s kk)), nu, r.first.l + r.first.r + b3, s.clock, ns, rfl, ⟨hw hf, rfl⟩, ok2, rfl, hn0, rfl, by omega, Nat.lt_of_le_of_lt (by omega) hV2, rfl, hne, hnl, hnn, rfl, ct.ck, by omega, fun x4 ok4 hc4 t tok tl _ => ?_⟩
    walk_at "w"
    exact ⟨x4, t, ok4, hc4, tok, tl, rfl, rfl⟩
  rintro Γ' L' ⟨x4, t, ok4, hc4, tok, tl, rfl, rfl⟩
  refine ws_cut (fun Γ' L' => ∃ (x5 : Wl) (t : Stt), Wl.ok x5 ∧ x5.c ≤ x4.c + 1 ∧ t.ok ∧ L' = f (AllC K wa wg x5 a la s sg k ra kk) ∧ ∃ y16 y21, Γ' = [some (.ref wa), some (.ref a.g), some (.ref k.b), some (.lst (ns.map D.int)), some (.int pk), some (.int nu), some (.lst olds), some (.str r.l), some (.str r.r), some (.int r.first.l), some (.int r.first.r), some (.str r.mood), some r.st.d, some (oD r.en), some (.lst som), some t.d, y16, none, none, y19, y20, y21]) ?_ ?_
  · walk_at "w"
    by_cases c5 : r.mood = "closing"
    · refine br_t (decide_eq_true c5) ?_
      walk_at "w"
      by_cases c6 : pk > 6
      · refine br_t (decide_eq_true c6) ?_
        walk_at "w"
        refine we_lcM (wi_tup ?_)
        dsimp only [Stt.d]
        walk_at "w"
        refine ⟨fun _ _ => trivial, by rw [List.length_map]; exact Nat.le_trans tok.few (by decide), fun d => (match d with | .tup (x :: _) => x | d => d), fun d hd p acc => ?_, ?_⟩
        · obtain ⟨l, hl, rfl⟩ := List.mem_map.mp hd
          refine ⟨_, wg_name, by simp, ?_⟩
          dsimp only [Lck.d]
          walk_at "w"
          exact ⟨rfl, rfl⟩
        rw [show (t.locks.map Lck.d).map (fun d => (match d with | .tup (x :: _) => x | d => d : D)) = (t.locks.map (·.id)).map D.int from by rw [List.map_map, List.map_map]; rfl]
        have hid : ∀ i ∈ t.locks.map (·.id), 1 ≤ i := fun i hi => by
          obtain ⟨l, hl, rfl⟩ := List.mem_map.mp hi
          exact (tok.each l hl).id
        have hin : ∀ l ∈ t.locks, l.id ∈ t.locks.map (·.id) := fun l hl => List.mem_map.mpr ⟨l, hl, rfl⟩
        have hidl : (t.locks.map (·.id)).length ≤ 30 := by rw [List.length_map]; exact tok.few
        generalize t.locks.map (·.id) = ids at hid hin hidl ⊢
        have hsn := ro.s.num
        walk_at "w"
        refine k_tk (m := 3) (hw hf) ok4 (by omega) (by decide) (by decide) fun x5 ok5 hc5 j hj0 hj1 => ?_
        walk_at "w"
        refine wr_cat (.inl rfl) (.inl rfl) (by rw [List.length_map]; simp; omega) ?_
        rw [show ids.map D.int ++ [D.int (r.st.num + j)] = (ids ++ [r.st.num + j]).map D.int from by rw [List.map_append]; rfl]
        walk_at "w"
        refine wc_max (ns := ids ++ [r.st.num + j]) (by rw [List.length_append]; show 0 < ids.length + 1; omega) fun m hm1 hm2 => ?_
        walk_at "w"
        refine wr_catT (show 2 + 3 ≤ 100000 by decide) ?_
        have hm3 := hm2 _ (List.mem_append_right ids (List.mem_singleton.mpr rfl))
        exact ⟨x5, { t with num := m }, ok5, hc5, ⟨tok.lane, by show 0 ≤ m; omega, tok.l, tok.r, tok.few, tok.each, tok.asc, fun l hl => hm2 _ (List.mem_append_left _ (hin l hl))⟩, rfl, _, _, by rw [← tl]; rfl⟩
      · refine br_f (decide_eq_false c6) ?_
        walk_at "w"
        exact ⟨x4, t, ok4, by omega, tok, rfl, _, _, rfl⟩
    · refine br_f (decide_eq_false c5) ?_
      walk_at "w"
      exact ⟨x4, t, ok4, by omega, tok, rfl, _, _, rfl⟩
  rintro Γ' L' ⟨x5, t, ok5, hc5, tok, rfl, y16, y21, rfl⟩
  walk_at "w"
  refine ⟨_, _, _, _, _, rfl, wa, wg, x5, a, la, s, sg, k, ra, kk, f, M, .t t, r.l, r.r, rfl, rfl, rfl, ⟨hf, rfl⟩, ok5, by omega, so, hM, rfl, tok, rfl, ro.l, ro.r, fun x6 sg' kk' ok6 hc6 so' => ?_⟩
  walk_at "w"
  exact h x6 sg' kk' (.tl t) ok6 (by omega) so' tok
end
end Cl
set_option Elab.async false
set_option linter.all false
set_option maxRecDepth 100000
set_option maxHeartbeats 4000000
namespace Cl
open PySem PySem.Spec PyProof.Rows L2
local macro_rules | `(tactic| walk_at "at") => `(tactic| first | assumption | repeat first | assumption | with_reducible exact At.here | with_reducible exact at_kb | with_reducible exact at_kn | with_reducible exact at_ko | with_reducible exact at_ks | with_reducible exact at_kr | with_reducible exact at_kd | with_reducible apply At.tail | (with_reducible apply At.in (by assumption)) | with_reducible apply At.right)
local macro_rules | `(tactic| walk_at "fact") => `(tactic| first | exact c_Court (by assumption) | exact c_Lane (by assumption) | exact c_Signs (by assumption) | exact n_Court_clock (by assumption) | exact n_Court_long (by assumption) | exact n_Court_bags (by assumption) | exact n_Court_book (by assumption) | exact n_Court_opened (by assumption) | exact n_Court_seen (by assumption) | exact n_Court_kept (by assumption) | exact n_Court_deeds (by assumption) | exact n_Lane_both (by assumption) | exact n_Lane_first (by assumption) | exact n_Lane_standing (by assumption) | exact n_Lane_mood (by assumption) | exact n_Lane_ending (by assumption) | exact n_Signs_by_hand (by assumption))
local macro_rules | `(tactic| walk_at "ge") => `(tactic| first
  | with_reducible refine we_var rfl ?_
  | with_reducible refine we_int ?_
  | with_reducible refine we_str ?_
  | with_reducible refine we_ty ?_
  | with_reducible refine we_bl ?_
  | with_reducible refine we_non ?_
  | with_reducible refine we_ref ?_
  | with_reducible refine we_op ?_
  | with_reducible refine we_cb ?_
  | with_reducible refine we_call0 ?_
  | with_reducible refine we_call ?_
  | with_reducible refine we_lst ?_
  | with_reducible refine we_tup ?_
  | with_reducible refine we_andV ?_
  | with_reducible refine we_orV ?_
  | with_reducible refine we_notV ?_
  | with_reducible refine we_if ?_
  | with_reducible refine we_chain ?_
  | with_reducible refine we_sl ?_
  | with_reducible refine we_lz ?_
  | with_reducible refine we_dnewK (fun _ => ?_)
  | with_reducible refine we_dnewN (fun _ => ?_)
  | with_reducible refine we_fld ?_
  | with_reducible refine we_dget ?_
  | with_reducible refine we_din ?_
  | with_reducible refine we_dnotIn ?_
  | with_reducible refine we_dget2 ?_
  | with_reducible refine we_dsetd ?_
  | with_reducible refine we_make ?_
  | with_reducible refine we_meth0 ?_
  | with_reducible refine we_meth ?_
  | with_reducible refine we_bm ?_)
local macro_rules | `(tactic| walk_at "gt") => `(tactic| first
  | with_reducible refine wt_B ?_
  | with_reducible refine wt_test ?_
  | with_reducible refine wt_not ?_
  | with_reducible refine wt_and ?_
  | with_reducible refine wt_or ?_
  | with_reducible refine wt_yes ?_)
local macro_rules | `(tactic| walk_at "gst") => `(tactic| first
  | with_reducible refine ws_ret ?_
  | with_reducible refine ws_retN ?_
  | with_reducible refine ws_seq ?_
  | with_reducible refine ws_set ?_
  | with_reducible refine ws_drop ?_
  | with_reducible refine ws_if ?_
  | with_reducible refine ws_next ?_
  | with_reducible refine ws_raise ?_
  | with_reducible refine ws_asgS ?_
  | with_reducible refine ws_setL ?_
  | with_reducible refine ws_setN ?_
  | with_reducible refine ws_asg ?_
  | with_reducible refine ws_fld ?_
  | with_reducible refine ws_fldaddI ?_
  | with_reducible refine ws_dput ?_)
local macro_rules | `(tactic| walk_at "gr") => `(tactic| first
  | with_reducible refine wr_ixT rfl ?_
  | with_reducible refine wr_ixL rfl ?_
  | with_reducible refine ix_t0 ?_
  | with_reducible refine ix_t1 ?_
  | with_reducible refine ix_t2 ?_
  | with_reducible refine ix_t3 ?_
  | with_reducible refine ix_t4 ?_
  | with_reducible refine ix_l0 ?_
  | with_reducible refine ix_l1 ?_
  | with_reducible refine ix_l2 ?_
  | with_reducible refine ix_l3 ?_
  | with_reducible refine ix_l4 ?_
  | with_reducible refine wr_int ?_
  | (with_reducible refine isPow ?_; with_reducible refine wr_powL (by decide) (by decide) (by decide) ?_)
  | with_reducible refine wr_bool ?_
  | with_reducible refine wr_eqI ?_
  | with_reducible refine wr_neI ?_
  | with_reducible refine wr_eqS ?_
  | with_reducible refine wr_neS ?_
  | with_reducible refine wr_eqB ?_
  | with_reducible refine wr_neB ?_
  | with_reducible refine wr_isN ?_
  | with_reducible refine wr_notN ?_
  | (with_reducible refine isIxC ?_; with_reducible refine wr_ixC (by walk_at "at") (by with_unfolding_all rfl) ?_))
local macro_rules | `(tactic| walk_at "gc") => `(tactic| first
  | with_reducible refine wc_isi rfl rfl ?_
  | with_reducible refine wc_isi (by decide) (by decide +kernel) ?_
  | (with_reducible refine isLen ?_; with_reducible refine wc_lenC (by walk_at "at") ?_)
  | with_reducible refine wc_lenT ?_
  | with_reducible refine wc_lenL ?_)
local macro_rules | `(tactic| walk_at "ga") => `(tactic| first
  | with_reducible refine wa_cons ?_
  | with_reducible refine wa_nil ?_)
local macro_rules | `(tactic| walk_at "gx") => `(tactic| first
  | (with_reducible refine isLn ?_; with_reducible refine lenAnd (by simp) ?_)
  | with_reducible refine wsl_tup ?_
  | with_reducible refine wo_none ?_
  | with_reducible refine wo_some ?_
  | with_reducible refine ex_bl ?_
  | with_reducible refine ex_int ?_
  | with_reducible refine ex_str ?_
  | with_reducible refine ex_tup ?_
  | with_reducible refine ex_lst ?_
  | with_reducible refine ex_etup ?_
  | with_reducible refine br_true ?_
  | with_reducible refine br_false ?_
  | (with_reducible refine isBr ?_; refine br_t rfl ?_)
  | (with_reducible refine isBr ?_; refine br_f rfl ?_)
  | (with_reducible refine isFld ?_; with_reducible refine ex_fld (by walk_at "at") (by walk_at "fact") (by walk_at "fact") (by with_unfolding_all rfl) ?_)
  | (with_reducible refine isPut ?_; with_reducible refine ex_put (by walk_at "at") (by walk_at "fact") (by walk_at "fact") (by with_unfolding_all exact of_decide_eq_true rfl) ?_)
  | (with_reducible refine isMeth ?_; with_reducible refine ex_meth (by walk_at "at") (by with_unfolding_all rfl) ?_)
  | (with_reducible refine isTy ?_; with_reducible refine And.intro (ty_cell (by walk_at "at")) ?_)
  | with_reducible refine k_whole ?_
  | with_reducible refine k_count ?_
  | with_reducible refine k_amount ?_)
local macro_rules | `(tactic| walk_at "s") => `(tactic| first
  | (with_reducible refine isWE ?_; walk_at "ge")
  | (with_reducible refine isWS ?_; walk_at "gst")
  | (with_reducible refine isWT ?_; walk_at "gt")
  | (with_reducible refine isWR ?_; walk_at "gr")
  | (with_reducible refine isWA ?_; walk_at "ga")
  | (with_reducible refine isWC ?_; walk_at "gc")
  | walk_at "gx")
local macro_rules | `(tactic| walk_at "w") => `(tactic| repeat walk_at "s")

section
variable {P : Program} {w : World} {K : PySem.W.Frag} {mg : Str → Option Value} {base : Heap}
abbrev aDeed (K : PySem.W.Frag) : ASp := A5 fun self sn bk fo se L Φ _ => ∃ wa wg x a la s sg k ra kk f M N V ss ns, self = .ref wa ∧ sn = .ref (Ad.g a) ∧ bk = .ref (Bk.b k) ∧ Part (AllC K wa wg x a la s sg k ra kk) L f ∧ Wl.ok x ∧ x.c + 800 ≤ 1000000 ∧ SigOk M sg kk ∧ M + 2 < 90000 ∧ ra.length = s.lanes.length ∧ StOk N V la s ∧ 0 ≤ V ∧ (2 * V + 1).natAbs < 2 ^ 7000 ∧ fo = .lst (List.map D.str ss) ∧ ss.length ≤ 20 ∧ (∀ s ∈ ss, isNm s) ∧ se = .lst (List.map D.int ns) ∧ ns ≠ [] ∧ ns.length ≤ 100 ∧ (∀ n ∈ ns, 0 ≤ n) ∧
  ∀ x' sg' kk' dl, Wl.ok x' → x'.c ≤ x.c + 800 → SigOk (M + 2) sg' kk' → Dl.ok dl → Φ (Dl.d dl) (f (AllC K wa wg x' a la s sg' k ra kk'))
theorem sc_law_deed : FnScope ["_law_well_here", "_law_signs", "_law_book_here", "_law_folk_here", "_law_secrets_here", "_law_pick", "_law_one"] ["_law_well_here", "_law_signs", "_law_book_here", "_law_folk_here", "_law_secrets_here"] d_law_deed.scope := ⟨rfl, rfl, rfl, by decide +kernel, rfl, by decide +kernel, by decide +kernel⟩
theorem ok_law_deed (T : Tx K mg) : FOk P w K mg base 9 (He.fAd K d_law_deed.at_) ["_law_well_here", "_law_signs", "_law_book_here", "_law_folk_here", "_law_secrets_here"] (aDeed K) := by
  refine fok_of (d := d_law_deed) T 65 (k := 8) rfl rfl rfl sc_law_deed (fun ds L Φ ex h => A5.len h) (fun _ _ _ _ _ _ us hl => match us, hl with | [_, _, _, _, _], _ => rfl) (fun cdv Ar outer s H E ds L Φ ex hr h => ?_)
  obtain ⟨well_here, signs, book_here, folk_here, secrets_here, rfl, h⟩ := h
  refine ⟨_, (pss_cons (ps_set (i := 5) sc_law_deed.nd rfl (Or.inl rfl) (pe_c (ok_law_take T) hr rfl (g_law_take T) (pa_cons (pv 0) (pa_cons pe_int pa_nil))))
    (pss_cons (ps_if (PW.pt (pw_or (pt_cmpR op_lt (pv 5) pe_int (nomark _)) (pw_or1 (pt_cmpR (op_eqNil hr.units) (pe_ix ix_list (pv 2) pe_int (fun _ _ => rfl)) (pe_lst pa_nil) (nomark _))))) (pss_one (ps_ret (pe_c (ok_law_opening T) hr rfl (g_law_opening T) (pa_cons (pv 0) (pa_cons (pv 1) (pa_cons (pv 2) (pa_cons (pv 3) pa_nil))))))) pss_nil)
    (pss_cons (ps_if (pt_cmpR op_lt (pv 5) pe_int (nomark _)) (pss_one (ps_ret (pe_c (ok_law_telling T) hr rfl (g_law_telling T) (pa_cons (pv 0) (pa_cons (pv 1) (pa_cons (pv 2) (pa_cons (pe_lc (own := [("_law_one", 6)]) rfl sc_law_deed.nd (pi_list (pv 4)) (blkOk_by (own := [("_law_one", 6)]) (N := ["_law_well_here", "_law_signs", "_law_book_here", "_law_folk_here", "_law_secrets_here", "_law_pick", "_law_one"]) (sc := d_law_deed.scope) (by decide +kernel)) (fun _ _ _ _ _ => by exact (pg_name (i := 6) sc_law_deed.nd rfl (Or.inl rfl))) (fun _ _ _ _ _ => by exact pts_nil) (fun _ _ _ _ _ => by exact (pe_cK (P := P) (w := w) (K := K) (mg := mg) (base := base) rfl rfl rfl rfl rfl (ok_seal_of T) hr rfl (g_seal_of T) (pa_cons (pv 6) pa_nil)))) pa_nil))))))) pss_nil)
    (pss_cons (ps_if (pt_cmpR op_eq (pv 5) pe_int (nomark _)) (pss_one (ps_ret (pe_tup (pa_cons pe_str (pa_cons (pe_ix ix_list (pv 4) (pe_c (ok_law_take T) hr rfl (g_law_take T) (pa_cons (pv 0) (pa_cons (pe_callB call_len rfl (f_len T) (by decide +kernel) (pa_cons (pv 4) pa_nil)) pa_nil))) (fun _ _ => rfl)) pa_nil))))) pss_nil)
    (pss_one (ps_ret (pe_tup (pa_cons pe_str pa_nil)))))))), ?_⟩
  obtain ⟨wa, wg, x, a, la, s, sg, k, ra, kk, f, M, N, V, ss, ns, rfl, rfl, rfl, ⟨hf, rfl⟩, ok, hc, so, hM, hra, st, hV, hV2, rfl, hsl, hsn, rfl, hne, hnl, hnn, h⟩ := h
  dsimp only [cxOf]
  have ct := st.ct
  have hw : ∀ {f : Sto → Sto}, Hole f → Hole (fun S => f (S ++ (MC K a la s sg ++ BkC k ra s kk))) := fun hf => hole_w hf
  refine ws_cut (fun Γ' L' => ∃ (x1 : Wl) (pk : Int), Wl.ok x1 ∧ x1.c ≤ x.c + 1 ∧ 0 ≤ pk ∧ pk < 12 ∧ L' = f (AllC K wa wg x1 a la s sg k ra kk) ∧ Γ' = [some (.ref wa), some (.ref a.g), some (.ref k.b), some (.lst (ss.map D.str)), some (.lst (ns.map D.int)), some (.int pk), none]) ?_ ?_
  · walk_at "w"
    refine k_tk (m := 12) (hw hf) ok (by omega) (by decide) (by decide) fun x1 ok1 hc1 pk hp0 hp1 => ?_
    walk_at "w"
    exact ⟨x1, pk, ok1, hc1, hp0, hp1, rfl, rfl⟩
  rintro Γ' L' ⟨x1, pk, ok1, hc1, hp0, hp1, rfl, rfl⟩
  have opn : ∀ {Ψ : D → Sto → Prop} {ex : Ex}, (∀ d L, Φ d L → Ψ d L) → aOpens K [.ref wa, .ref a.g, .ref k.b, .lst (ss.map D.str)] (f (AllC K wa wg x1 a la s sg k ra kk)) Ψ ex := fun hΨ => ⟨_, _, _, _, rfl, wa, wg, x1, a, la, s, sg, k, ra, kk, f, M, ss, rfl, rfl, rfl, ⟨hf, rfl⟩, ok1, by omega, so, hM, hra, ct.bg, rfl, hsl, hsn, fun x' sg' kk' dl o1 o2 o3 o4 => hΨ _ _ (h x' sg' kk' dl o1 (by omega) o3 o4)⟩
  refine ws_cut (fun Γ' L' => L' = f (AllC K wa wg x1 a la s sg k ra kk) ∧ 0 < s.lanes.length ∧ Γ' = [some (.ref wa), some (.ref a.g), some (.ref k.b), some (.lst (ss.map D.str)), some (.lst (ns.map D.int)), some (.int pk), none]) ?_ ?_
  · walk_at "w"
    by_cases c1 : pk < 2
    · refine br_t (decide_eq_true c1) ?_
      refine br_t rfl ?_
      walk_at "w"
      exact opn fun _ _ z => z
    · refine br_f (decide_eq_false c1) ?_
      walk_at "w"
      refine wr_eqNil (.inr ⟨k.r3, _, rfl, by walk_at "at"⟩) (.inl rfl) ?_
      refine ⟨_, rfl, ?_⟩
      by_cases c4 : s.lanes.length = 0
      · refine br_t (by rw [List.isEmpty_iff, List.map_eq_nil_iff]; exact List.eq_nil_of_length_eq_zero (by omega)) ?_
        walk_at "w"
        exact opn fun _ _ z => z
      · refine br_f (by
          cases hra2 : ra with
          | nil => rw [hra2] at hra; exact absurd hra.symm c4
          | cons => rfl) ?_
        walk_at "w"
        exact ⟨rfl, by omega, rfl⟩
  rintro Γ' L' ⟨rfl, hlen, rfl⟩
  walk_at "w"
  by_cases c2 : pk < 6
  · refine br_t (decide_eq_true c2) ?_
    walk_at "w"
    refine we_lcM (wi_listD ?_)
    walk_at "w"
    refine ⟨fun _ _ => trivial, by rw [List.length_map]; omega, fun d => (match d with | .int n => .int (3 * n + 17) | d => d), fun d hd p acc => ?_, ?_⟩
    · obtain ⟨n, hn, rfl⟩ := List.mem_map.mp hd
      refine ⟨_, wg_name, by simp, ?_⟩
      walk_at "w"
      refine k_seal (hnn n hn) ?_
      walk_at "w"
      exact ⟨rfl, rfl⟩
    rw [show (ns.map D.int).map (fun d => (match d with | .int n => .int (3 * n + 17) | d => d : D)) = (ns.map fun n => 3 * n + 17).map D.int from by rw [List.map_map, List.map_map]; rfl]
    walk_at "w"
    refine ⟨_, _, _, _, rfl, wa, wg, x1, a, la, s, sg, k, ra, kk, f, M, N, V, ns.map fun n => 3 * n + 17, rfl, rfl, rfl, ⟨hf, rfl⟩, ok1, by omega, so, hM, hra, st, hV, hV2, hlen, rfl, fun e => hne (List.map_eq_nil_iff.mp e), by rw [List.length_map]; exact hnl, fun n hn => ?_, fun x' sg' kk' dl o1 o2 o3 o4 => h x' sg' kk' dl o1 (by omega) o3 o4⟩
    obtain ⟨n0, h0, rfl⟩ := List.mem_map.mp hn
    have := hnn n0 h0
    omega
  refine br_f (decide_eq_false c2) ?_
  walk_at "w"
  by_cases c3 : pk = 6
  · refine br_t (decide_eq_true c3) ?_
    walk_at "w"
    have hm : (0 : Int) < ((ns.map D.int).length : Int) := by
      rw [List.length_map]
      cases ns with
      | nil => exact absurd rfl hne
      | cons a l => rw [List.length_cons]; omega
    refine k_tk (m := ((ns.map D.int).length : Int)) (hw hf) ok1 (by omega) hm (by rw [List.length_map]; omega) fun x2 ok2 hc2 j hj0 hj1 => ?_
    obtain ⟨v, hv, e⟩ := pick_int (ns := ns) hj0 (by rw [List.length_map] at hj1; exact hj1)
    refine wr_ixL e ?_
    walk_at "w"
    exact h x2 sg kk (.sh v) ok2 (by omega) (so.mono (by omega)) (hnn v hv)
  · refine br_f (decide_eq_false c3) ?_
    walk_at "w"
    exact h x1 sg kk .tn ok1 (by omega) (so.mono (by omega)) trivial
end
end Cl
set_option Elab.async false
set_option linter.all false
set_option maxRecDepth 100000
set_option maxHeartbeats 4000000
/-! Plain: the start; what is told is simple; how big amounts grow. -/
namespace Cl
open PySem PySem.Spec PyProof.Rows L2
def vAt (i : Nat) : Int := ((4000000000000 * 65536 ^ i : Nat) : Int)
theorem vAt_nn (i : Nat) : 0 ≤ vAt i := Int.natCast_nonneg _
theorem vAt_succ (i : Nat) : vAt (i + 1) = 65536 * vAt i := by
  unfold vAt
  rw [Nat.pow_succ]
  omega
theorem big_ok : 2 * (4000000000000 * 65536 ^ 100) + 1 < 2 ^ 7000 := by decide +kernel
theorem vAt_big {i : Nat} (h : i ≤ 100) : (2 * vAt i + 1).natAbs < 2 ^ 7000 := by
  have h1 : 65536 ^ i ≤ 65536 ^ 100 := Nat.pow_le_pow_right (by decide) h
  refine Nat.lt_of_le_of_lt ?_ big_ok
  unfold vAt
  generalize 65536 ^ i = p at h1 ⊢
  generalize 65536 ^ 100 = q at h1 ⊢
  omega
theorem due_lay (S : Str → D → Bool) (s : CtS) (dl : Dl) : PyData.canLay0 (.str (dl.due S s)) = true := by
  cases dl with
  | op l r m n =>
    show PyData.canLay0 (.str (openDue S s l r m n)) = true
    unfold openDue
    split
    · split
      · exact lay_lit
      · split
        · exact lay_lit
        · split
          · exact lay_lit
          · exact lay_lit
    · exact lay_lit
  | tl t =>
    show PyData.canLay0 (.str (tellDue S s t)) = true
    unfold tellDue
    split
    · exact lay_lit
    · split
      · exact lay_lit
      · split
        · exact lay_lit
        · split
          · exact lay_lit
          · exact lay_lit
  | sh x => exact lay_lit (x := "")
  | tn => exact lay_lit (x := "")
theorem tells_sim {S : Str → D → Bool} {N : Nat} {V : Int} {la : List Addr} {s : CtS} {dl : Dl} (h : StOk N V la (dl.go S s)) : (dl.tells S s).sim 8 := by
  cases dl with
  | op l r m n =>
    show D.sim 8 (if openDue S s l r m n = "" then .int s.lanes.length else .non)
    split
    · trivial
    · trivial
  | tl t => trivial
  | sh x => trivial
  | tn =>
    have hm : rowD (.tup [.str "turn"]) ((turnP s).map prD) ∈ (turnS s).rows := List.mem_append_right _ (List.mem_singleton.mpr rfl)
    have hs := row_sim (s := turnS s) h.rw hm
    exact D.sim_mono (by decide) (hs.2 (.lst ((turnP s).map prD)) (by simp))
theorem out_sim {S : Str → D → Bool} {N : Nat} {V : Int} {la : List Addr} {s : CtS} {dl : Dl} (h : StOk N V la (dl.go S s)) : (D.tup [.str (dl.due S s), dl.tells S s]).sim 9 := by
  refine ⟨by simp, fun d hd => ?_⟩
  simp only [List.mem_cons, List.not_mem_nil, or_false] at hd
  rcases hd with rfl | rfl
  · exact due_lay S s dl
  · exact tells_sim h
theorem st_zero {bs : List (Str × Int)} {long : Int} (hb : BgOk bs) (hv : ∀ e ∈ bs, e.2 ≤ 4000000000000) : StOk 0 (vAt 0) [] { long := long, clock := 0, bags := bs, lanes := [], seen := [], kept := [], rows := [] } := by
  refine ⟨⟨by decide, rfl, Nat.le_refl _, Nat.le_refl _, Nat.le_refl _, Nat.zero_le _, hb, fun i q hq => ?_, fun d hd => (nomatch hd), fun e he => (nomatch he), Int.le_refl _⟩, .nil, fun d hd => (nomatch hd), ⟨fun e he => ?_, fun q hq => (nomatch hq), fun q hq => (nomatch hq), fun e he => (nomatch he)⟩⟩
  · have hq : ([] : List Rd)[i]? = some q := hq
    simp at hq
  · have := hv e he
    unfold vAt
    omega
end Cl
set_option Elab.async false
set_option linter.all false
set_option maxRecDepth 100000
set_option maxHeartbeats 4000000
namespace Cl
open PySem PySem.Spec PyProof.Rows L2
local macro_rules | `(tactic| walk_at "at") => `(tactic| first | assumption | repeat first | assumption | with_reducible exact At.here | with_reducible exact at_kb | with_reducible exact at_kn | with_reducible exact at_ko | with_reducible exact at_ks | with_reducible exact at_kr | with_reducible exact at_kd | with_reducible apply At.tail | (with_reducible apply At.in (by assumption)) | with_reducible apply At.right)
local macro_rules | `(tactic| walk_at "fact") => `(tactic| first | exact c_Court (by assumption) | exact c_Lane (by assumption) | exact c_Signs (by assumption) | exact n_Court_clock (by assumption) | exact n_Court_long (by assumption) | exact n_Court_bags (by assumption) | exact n_Court_book (by assumption) | exact n_Court_opened (by assumption) | exact n_Court_seen (by assumption) | exact n_Court_kept (by assumption) | exact n_Court_deeds (by assumption) | exact n_Lane_both (by assumption) | exact n_Lane_first (by assumption) | exact n_Lane_standing (by assumption) | exact n_Lane_mood (by assumption) | exact n_Lane_ending (by assumption) | exact n_Signs_by_hand (by assumption))
local macro_rules | `(tactic| walk_at "ge") => `(tactic| first
  | with_reducible refine we_var rfl ?_
  | with_reducible refine we_int ?_
  | with_reducible refine we_str ?_
  | with_reducible refine we_ty ?_
  | with_reducible refine we_bl ?_
  | with_reducible refine we_non ?_
  | with_reducible refine we_ref ?_
  | with_reducible refine we_op ?_
  | with_reducible refine we_cb ?_
  | with_reducible refine we_call0 ?_
  | with_reducible refine we_call ?_
  | with_reducible refine we_lst ?_
  | with_reducible refine we_tup ?_
  | with_reducible refine we_andV ?_
  | with_reducible refine we_orV ?_
  | with_reducible refine we_notV ?_
  | with_reducible refine we_if ?_
  | with_reducible refine we_chain ?_
  | with_reducible refine we_sl ?_
  | with_reducible refine we_lz ?_
  | with_reducible refine we_dnewK (fun _ => ?_)
  | with_reducible refine we_dnewN (fun _ => ?_)
  | with_reducible refine we_fld ?_
  | with_reducible refine we_dget ?_
  | with_reducible refine we_din ?_
  | with_reducible refine we_dnotIn ?_
  | with_reducible refine we_dget2 ?_
  | with_reducible refine we_dsetd ?_
  | with_reducible refine we_make ?_
  | with_reducible refine we_meth0 ?_
  | with_reducible refine we_meth ?_
  | with_reducible refine we_bm ?_)
local macro_rules | `(tactic| walk_at "gt") => `(tactic| first
  | with_reducible refine wt_B ?_
  | with_reducible refine wt_test ?_
  | with_reducible refine wt_not ?_
  | with_reducible refine wt_and ?_
  | with_reducible refine wt_or ?_
  | with_reducible refine wt_yes ?_)
local macro_rules | `(tactic| walk_at "gst") => `(tactic| first
  | with_reducible refine ws_ret ?_
  | with_reducible refine ws_retN ?_
  | with_reducible refine ws_seq ?_
  | with_reducible refine ws_set ?_
  | with_reducible refine ws_drop ?_
  | with_reducible refine ws_if ?_
  | with_reducible refine ws_next ?_
  | with_reducible refine ws_raise ?_
  | with_reducible refine ws_asgS ?_
  | with_reducible refine ws_setL ?_
  | with_reducible refine ws_setN ?_
  | with_reducible refine ws_asg ?_
  | with_reducible refine ws_fld ?_
  | with_reducible refine ws_fldaddI ?_
  | with_reducible refine ws_dput ?_)
local macro_rules | `(tactic| walk_at "gr") => `(tactic| first
  | with_reducible refine wr_ixT rfl ?_
  | with_reducible refine wr_ixL rfl ?_
  | with_reducible refine ix_t0 ?_
  | with_reducible refine ix_t1 ?_
  | with_reducible refine ix_t2 ?_
  | with_reducible refine ix_t3 ?_
  | with_reducible refine ix_t4 ?_
  | with_reducible refine ix_l0 ?_
  | with_reducible refine ix_l1 ?_
  | with_reducible refine ix_l2 ?_
  | with_reducible refine ix_l3 ?_
  | with_reducible refine ix_l4 ?_
  | with_reducible refine wr_int ?_
  | (with_reducible refine isPow ?_; with_reducible refine wr_powL (by decide) (by decide) (by decide) ?_)
  | with_reducible refine wr_bool ?_
  | with_reducible refine wr_eqI ?_
  | with_reducible refine wr_neI ?_
  | with_reducible refine wr_eqS ?_
  | with_reducible refine wr_neS ?_
  | with_reducible refine wr_eqB ?_
  | with_reducible refine wr_neB ?_
  | with_reducible refine wr_isN ?_
  | with_reducible refine wr_notN ?_
  | (with_reducible refine isIxC ?_; with_reducible refine wr_ixC (by walk_at "at") (by with_unfolding_all rfl) ?_))
local macro_rules | `(tactic| walk_at "gc") => `(tactic| first
  | with_reducible refine wc_isi rfl rfl ?_
  | with_reducible refine wc_isi (by decide) (by decide +kernel) ?_
  | (with_reducible refine isLen ?_; with_reducible refine wc_lenC (by walk_at "at") ?_)
  | with_reducible refine wc_lenT ?_
  | with_reducible refine wc_lenL ?_)
local macro_rules | `(tactic| walk_at "ga") => `(tactic| first
  | with_reducible refine wa_cons ?_
  | with_reducible refine wa_nil ?_)
local macro_rules | `(tactic| walk_at "gx") => `(tactic| first
  | (with_reducible refine isLn ?_; with_reducible refine lenAnd (by simp) ?_)
  | with_reducible refine wsl_tup ?_
  | with_reducible refine wo_none ?_
  | with_reducible refine wo_some ?_
  | with_reducible refine ex_bl ?_
  | with_reducible refine ex_int ?_
  | with_reducible refine ex_str ?_
  | with_reducible refine ex_tup ?_
  | with_reducible refine ex_lst ?_
  | with_reducible refine ex_etup ?_
  | with_reducible refine br_true ?_
  | with_reducible refine br_false ?_
  | (with_reducible refine isBr ?_; refine br_t rfl ?_)
  | (with_reducible refine isBr ?_; refine br_f rfl ?_)
  | (with_reducible refine isFld ?_; with_reducible refine ex_fld (by walk_at "at") (by walk_at "fact") (by walk_at "fact") (by with_unfolding_all rfl) ?_)
  | (with_reducible refine isPut ?_; with_reducible refine ex_put (by walk_at "at") (by walk_at "fact") (by walk_at "fact") (by with_unfolding_all exact of_decide_eq_true rfl) ?_)
  | (with_reducible refine isMeth ?_; with_reducible refine ex_meth (by walk_at "at") (by with_unfolding_all rfl) ?_)
  | (with_reducible refine isTy ?_; with_reducible refine And.intro (ty_cell (by walk_at "at")) ?_)
  | with_reducible refine k_whole ?_
  | with_reducible refine k_count ?_
  | with_reducible refine k_amount ?_)
local macro_rules | `(tactic| walk_at "s") => `(tactic| first
  | (with_reducible refine isWE ?_; walk_at "ge")
  | (with_reducible refine isWS ?_; walk_at "gst")
  | (with_reducible refine isWT ?_; walk_at "gt")
  | (with_reducible refine isWR ?_; walk_at "gr")
  | (with_reducible refine isWA ?_; walk_at "ga")
  | (with_reducible refine isWC ?_; walk_at "gc")
  | walk_at "gx")
local macro_rules | `(tactic| walk_at "w") => `(tactic| repeat walk_at "s")

section
variable {P : Program} {w : World} {K : PySem.W.Frag} {mg : Str → Option Value} {base : Heap}
theorem wc_lenScr {ns : List Int} {L : Sto} {Φ : D → Sto → Prop} (q : Φ (.int ns.length) L) : WC P w K (rLenV K) [.scr ns] L Φ := fun F H vs Q r S k => by
  obtain ⟨v, rfl, r1⟩ := rsa1 r
  obtain ⟨a, rfl, hs⟩ := r1.scr_inv
  exact ⟨_, ns.length, rfl, .inl ⟨_, S.same.seq hs, by rw [List.length_map]⟩, k.here S (.int _) q⟩
theorem WE.iceP {E : XK} {te : TE} {Γ : Gm} {L : Sto} {ex : Ex} {Φ : D → Sto → Prop} (h : WE P w K E te Γ L ex (fun d L' => ∃ p ds L2, d = .ref p ∧ ((p, .lst ds) :: L2).Perm L' ∧ Φ (.lst ds) L2)) : WE P w K E te Γ L ex Φ := fun σ F H Q sl S lk q =>
  h σ F H Q sl S lk fun v d F' H' L' e s r ⟨p, ds, L2, e1, e2, z⟩ => by
    subst e1
    obtain ⟨F2, e3, s2, r2⟩ := (s.perm e2).freeze
    have ev := r.ref_inv
    subst ev
    exact q _ _ F2 H' L2 (Same.tr e e3) s2 r2 z
theorem fok_ofF {d : He.DefD} {fd : FuncData} (F : FunD K d.name d.qual d.params d.body d.scope [] [] (He.fAd K d.at_) fd) {N ps : List Str} {k : Nat} {A : ASp} (S : FnScope N ps d.scope) (len : ∀ ds L Φ ex, A ds L Φ ex → ds.length = ps.length)
    (body : ∀ (cdv : Value) (Ar : Around) (outer : List Env) (s : Shared) (H : Hp) (E : XK) (ds : List D) (L : Sto) (Φ : D → Sto → Prop) (ex : Ex), Room k (Ar.deeper (envOfC d.qual d.scope s.heap.objs.size (He.fAd K d.at_) cdv)) → A ds L Φ ex →
      ∃ t, PSs (cxOf (L2.CX P w) P w K mg base N d.qual d.scope (He.fAd K d.at_) cdv Ar outer s H E) d.body t ∧ WS P w K E t (startG N ds) L { nx := fun _ L' => Φ .non L', rt := Φ, ex := ex }) :
    FnOk P w K mg base (L2.CX P w) (k + 1) (He.fAd K d.at_) fd ps (spOf P w K A) := by
  refine F.ok S (fun vs H Q E ⟨F0, ds, L, Φ, ex, r, _, a, _⟩ => by rw [r.length]; exact len _ _ _ _ a) fun cdv Ar outer s H vs Q E hr ⟨F0, ds, L, Φ, ex, r, S0, a, k1, lk⟩ => ?_
  obtain ⟨t, h1, h2⟩ := body cdv Ar outer s H E ds L Φ ex hr a
  exact ⟨t, h1, h2 _ F0 H _ (Sl.start r) S0 lk ⟨fun σ Γ F' H' L' e s sp q => k1 _ _ F' H' L' e sp .non q, k1, fun _ _ _ _ _ _ _ _ q => q.elim, fun _ _ _ _ _ _ _ _ q => q.elim⟩⟩
theorem At.out {p : Addr} {c : Co} {L : Sto} {f : Co → Sto} (h : At p c L f) : ∃ L2, ((p, c) :: L2).Perm L := by
  obtain ⟨A, B, h1, h2⟩ := h
  exact ⟨A ++ B, by rw [h2, h1]; exact List.perm_middle.symm⟩
theorem perm_set {W M B M' L : Sto} (h : M.Perm M') : ((W ++ (M ++ B)) ++ L).Perm (B ++ (M' ++ (W ++ L))) := by
  rw [List.append_assoc]
  refine List.perm_append_comm.trans ?_
  rw [List.append_assoc, List.append_assoc]
  rw [← List.append_assoc B M']
  rw [← List.append_assoc]
  exact List.Perm.append (List.perm_append_comm.trans (List.Perm.append_left B h)) List.perm_append_comm
theorem perm7 {c b o sn dd g h : Addr × Co} : [c, b, o, sn, dd, g, h].Perm [dd, sn, o, b, c, h, g] := by
  have h1 := (List.reverse_perm [c, b, o, sn, dd]).symm.append (List.reverse_perm [g, h]).symm
  exact h1
theorem RsA.rev {F : Hp} : ∀ {vs : List V} {ds : List D}, RsA K F vs ds → RsA K F vs.reverse ds.reverse
  | _, _, .nil => .nil
  | _, _, .cons r rs => by
    rw [List.reverse_cons, List.reverse_cons]
    exact RsA.append (RsA.rev rs) (.cons r .nil)
abbrev aLaw : ASp := A1 fun self L Φ _ => ∃ ns : List Int, self = .scr ns ∧ ns.length ≤ 63 ∧ ∀ L', Φ (.bl true) L'
theorem sc_law : FnScope ["_law_script", "_law_well_here", "_law_folk_here", "_law_bags_here", "_law_signs", "_law_long", "_law_court", "_law_book_here", "_law_secrets_here", "_law_keys", "_law_k", "_law_deed_here", "_law_one"] ["_law_script"] d_law.scope := ⟨rfl, rfl, rfl, by decide +kernel, rfl, by decide +kernel, by decide +kernel⟩
theorem ok_law (T : Tx K mg) {fd : FuncData} (F : FunD K d_law.name d_law.qual d_law.params d_law.body d_law.scope [] [] (He.fAd K d_law.at_) fd) : FnOk P w K mg base (L2.CX P w) 12 (He.fAd K d_law.at_) fd ["_law_script"] (spOf P w K aLaw) := by
  refine fok_ofF (d := d_law) F (k := 11) sc_law (fun ds L Φ ex h => A1.len h) (fun cdv Ar outer s H E ds L Φ ex hr h => ?_)
  obtain ⟨script, rfl, h⟩ := h
  refine ⟨_, (pss_cons (ps_set (i := 1) sc_law.nd rfl (Or.inl rfl) (pe_c (ok_law_well T) hr rfl (g_law_well T) (pa_cons (pv 0) pa_nil)))
    (pss_cons (ps_set (i := 2) sc_law.nd rfl (Or.inl rfl) (pe_c (ok_law_folk T) hr rfl (g_law_folk T) (pa_cons (pv 1) (pa_cons pe_int pa_nil))))
    (pss_cons (ps_set (i := 3) sc_law.nd rfl (Or.inl rfl) (pe_c (ok_law_bags T) hr rfl (g_law_bags T) (pa_cons (pv 1) (pa_cons (pv 2) pa_nil))))
    (pss_cons (ps_set (i := 4) sc_law.nd rfl (Or.inl rfl) (pe_mk0 (k_Signs T) (ok_Signs_init T) hr rfl (g_Signs T)))
    (pss_cons (ps_set (i := 5) sc_law.nd rfl (Or.inl rfl) (pe_op op_add pe_int (pe_c (ok_law_take T) hr rfl (g_law_take T) (pa_cons (pv 1) (pa_cons pe_int pa_nil)))))
    (pss_cons (ps_set (i := 6) sc_law.nd rfl (Or.inl rfl) (pe_mkK (k_Court T) (ok_Court_init T) hr rfl (g_Court T) (pa_cons (pv 4) pa_nil) (pk_cons (pv 3) (pk_cons (pv 5) pk_nil))))
    (pss_cons (ps_set (i := 7) sc_law.nd rfl (Or.inl rfl) (pe_c (ok_law_book T) hr rfl (g_law_book T) (pa_cons (pv 3) (pa_cons (pv 5) pa_nil))))
    (pss_cons (ps_set (i := 8) sc_law.nd rfl (Or.inl rfl) (pe_c (ok_law_secrets T) hr rfl (g_law_secrets T) (pa_cons (pv 1) pa_nil)))
    (pss_cons (ps_setLc (i := 9) (own := [("_law_one", 12)]) rfl sc_law.nd rfl rfl (sw_true rfl rfl rfl (by decide +kernel)) (pi_list (pv 8)) (blkOk_by (own := [("_law_one", 12)]) (N := ["_law_script", "_law_well_here", "_law_folk_here", "_law_bags_here", "_law_signs", "_law_long", "_law_court", "_law_book_here", "_law_secrets_here", "_law_keys", "_law_k", "_law_deed_here", "_law_one"]) (sc := d_law.scope) (by decide +kernel)) (fun _ _ _ _ _ => by exact (pg_name (i := 12) sc_law.nd rfl (Or.inl rfl))) (fun _ _ _ _ _ => by exact pts_nil) (fun _ _ _ _ _ => by exact (pe_cK (P := P) (w := w) (K := K) (mg := mg) (base := base) rfl rfl rfl rfl rfl (ok_seal_of T) hr rfl (g_seal_of T) (pa_cons (pv 12) pa_nil))))
    (pss_cons (ps_for (passes_of rfl) rfl (pi_range1 rfl (f_range T) (pa_cons (pe_op op_add pe_int (pe_callB (call_min2 rfl) rfl (f_min T) (by decide +kernel) (pa_cons pe_int (pa_cons (pe_callB call_len rfl (f_len T) (by decide +kernel) (pa_cons (pv 0) pa_nil)) pa_nil)))) pa_nil)) (pg_name (i := 10) sc_law.nd rfl (Or.inl rfl)) (pss_cons (ps_set (i := 11) sc_law.nd rfl (Or.inl rfl) (pe_c (ok_law_deed T) hr rfl (g_law_deed T) (pa_cons (pv 1) (pa_cons (pv 4) (pa_cons (pv 7) (pa_cons (pv 2) (pa_cons (pv 8) pa_nil)))))))
    (pss_cons (ps_if (pt_not (pt_val (pe_c (ok_law_same T) hr rfl (g_law_same T) (pa_cons (pe_c (ok_law_asked T) hr rfl (g_law_asked T) (pa_cons (pv 6) (pa_cons (pv 11) pa_nil))) (pa_cons (pe_c (ok_law_done T) hr rfl (g_law_done T) (pa_cons (pv 7) (pa_cons (pv 11) pa_nil))) pa_nil))))) (pss_one (ps_ret pe_bl)) pss_nil)
    (pss_one (ps_if (pt_not (pt_val (pe_c (ok_law_looked T) hr rfl (g_law_looked T) (pa_cons (pv 6) (pa_cons (pv 7) (pa_cons (pv 9) pa_nil)))))) (pss_one (ps_ret pe_bl)) pss_nil)))))
    (pss_one (ps_ret (pe_c (ok_law_same T) hr rfl (g_law_same T) (pa_cons (pe_m0 (pv 6) (c_Court T) (m_Court_rows T) (ok_Court_rows T) hr) (pa_cons (pe_ix ix_list (pv 7) pe_int (fun _ _ => rfl)) pa_nil))))))))))))))), ?_⟩
  obtain ⟨ns, rfl, hnl, h⟩ := h
  dsimp only [cxOf]
  walk_at "w"
  refine ⟨_, rfl, ns, rfl, fun wa wg x0 ok0 hx0 => ?_⟩
  walk_at "w"
  refine ⟨_, _, rfl, wa, wg, x0, fun S => S ++ L, rfl, ⟨Hole.id.left, rfl⟩, ok0, by omega, rfl, fun x1 ok1 hc1 ss hs0 hs1 hs2 hs3 => ?_⟩
  walk_at "w"
  refine ⟨_, _, rfl, wa, wg, x1, fun S => S ++ L, ss, rfl, ⟨Hole.id.left, rfl⟩, ok1, by omega, rfl, hs1, hs2, hs3, fun x2 ok2 hc2 bs hb hb2 => ?_⟩
  walk_at "w"
  intro cg
  refine ⟨_, rfl, cg, _, rfl, rfl, fun ch => ⟨rfl, ?_⟩⟩
  dsimp only
  walk_at "w"
  refine k_tk (m := 8) (f := fun S => (ch, .dK []) :: (cg, .ins (He.ga K "Signs") [("by_hand", .ref ch)]) :: (S ++ L)) Hole.id.left.tail.tail ok2 (by omega) (by decide) (by decide) fun x3 ok3 hc3 j hj0 hj1 => ?_
  walk_at "w"
  refine we_makeK (gD := fun ds es => ds ++ es.reverse) (fun r1 r2 => RsA.append r1 (RsA.rev r2)) ?_
  walk_at "w"
  refine ⟨rfl, rfl, fun cc => ?_⟩
  refine ⟨_, _, _, _, rfl, cc, cg, 1 + j, bs, _, rfl, rfl, rfl, rfl, by omega, by omega, rfl, hb, fun cb co csn cdd => ⟨rfl, ?_⟩⟩
  walk_at "w"
  refine ⟨_, _, rfl, bs, 1 + j, rfl, hb, rfl, fun k => ?_⟩
  obtain ⟨s0, hs0⟩ : ∃ s0 : CtS, s0 = { long := 1 + j, clock := 0, bags := bs, lanes := [], seen := [], kept := [], rows := [] } := ⟨_, rfl⟩
  obtain ⟨a, ha⟩ : ∃ a : Ad, a = ⟨cc, cg, ch, cb, co, csn, cdd⟩ := ⟨_, rfl⟩
  have st0 : StOk 0 (vAt 0) [] s0 := by rw [hs0]; exact st_zero hb hb2
  have so0 : SigOk 0 [] [] := ⟨⟨.nil, Nat.le_refl _, fun x hx => (nomatch hx)⟩, Nat.le_refl _, fun e he => (nomatch he), fun h p => ⟨fun ⟨e, he, _⟩ => (nomatch he), fun z => (nomatch z)⟩⟩
  have hra0 : ([] : List Addr).length = s0.lanes.length := by rw [hs0]; rfl
  refine WS.perm (L' := AllC K wa wg x3 a [] s0 [] k [] [] ++ L) (by rw [hs0, ha]; exact perm_set perm7) ?_
  rw [show (cg : Addr) = a.g from by rw [ha], show (cc : Addr) = a.c from by rw [ha]]
  walk_at "w"
  refine ⟨_, rfl, wa, wg, x3, fun S => (S ++ (MC K a [] s0 [] ++ BkC k [] s0 [])) ++ L, rfl, ⟨Hole.id.left.left, rfl⟩, ok3, by omega, fun x4 ok4 hc4 se he0 he1 he2 => ?_⟩
  walk_at "w"
  refine we_lcM (wi_listD ?_)
  walk_at "w"
  refine ⟨fun _ _ => trivial, by rw [List.length_map]; omega, fun d => (match d with | .int n => .int (3 * n + 17) | d => d), fun d hd p acc => ?_, ?_⟩
  · obtain ⟨n, hn, rfl⟩ := List.mem_map.mp hd
    refine ⟨_, wg_name, by simp, ?_⟩
    walk_at "w"
    refine k_seal (he2 n hn) ?_
    walk_at "w"
    exact ⟨rfl, rfl⟩
  rw [show (se.map D.int).map (fun d => (match d with | .int n => .int (3 * n + 17) | d => d : D)) = (se.map fun n => 3 * n + 17).map D.int from by rw [List.map_map, List.map_map]; rfl]
  have hk0 : ∀ n ∈ se.map (fun n => 3 * n + 17), 0 ≤ n := fun n hn => by
    obtain ⟨n0, h0, rfl⟩ := List.mem_map.mp hn
    have := he2 n0 h0
    omega
  have hk1 : (se.map fun n => 3 * n + 17).length ≤ 100 := by rw [List.length_map]; omega
  generalize (se.map fun n => 3 * n + 17) = keys at hk0 hk1 ⊢
  refine ws_seq (ws_for (wi_rng (n := 0) ?_))
  walk_at "w"
  refine wc_lenScr ?_
  walk_at "w"
  refine wc_min2 ?_
  walk_at "w"
  have hcc : x4.c ≤ 1000 := by omega
  have hmn : 0 ≤ (if (ns.length : Int) < 60 then (ns.length : Int) else 60) ∧ (if (ns.length : Int) < 60 then (ns.length : Int) else 60) ≤ 60 := by split <;> omega
  generalize (if (ns.length : Int) < 60 then (ns.length : Int) else 60) = mn at hmn ⊢
  refine ⟨30 + mn, rfl, by omega, by omega, fun i Γ' L' => i ≤ (30 + mn).toNat ∧ ∃ (x : Wl) (la : List Addr) (s : CtS) (sg : Sg) (ra : List Addr) (kk : Kk), Wl.ok x ∧ x.c ≤ 1000 + 1000 * (i : Int) ∧ SigOk (2 * i) sg kk ∧ ra.length = s.lanes.length ∧ StOk i (vAt i) la s ∧ L' = AllC K wa wg x a la s sg k ra kk ++ L ∧ ∃ y10 y11 y12, Γ' = [some (.scr ns), some (.ref wa), some (.lst (ss.map D.str)), some (.etup (bs.map prD)), some (.ref a.g), some (.int (1 + j)), some (.ref a.c), some (.ref k.b), some (.lst (se.map D.int)), some (.lst (keys.map D.int)), y10, y11, y12], ⟨Nat.zero_le _, x4, [], s0, [], [], [], ok4, by omega, so0, hra0, st0, rfl, _, _, _, rfl⟩, fun i Γ' L' hI => trivial, fun i d Γ' L' hd hI => ?_, fun Γ' L' hI => ?_⟩
  · obtain ⟨hi, x, la, s, sg, ra, kk, ok, hc, so, hra, st, rfl, y10, y11, y12, rfl⟩ := hI
    have hlt := (List.getElem?_eq_some_iff.mp hd).1
    rw [rangeD_len] at hlt
    have hi90 : i < 90 := by omega
    refine ⟨_, wg_name, ?_⟩
    dsimp only [setG]
    walk_at "w"
    refine ⟨_, _, _, _, _, rfl, wa, wg, x, a, la, s, sg, k, ra, kk, fun S => S ++ L, 2 * i, i, vAt i, ss, se, rfl, rfl, rfl, ⟨Hole.id.left, rfl⟩, ok, by omega, so, by omega, hra, st, vAt_nn i, vAt_big (by omega), rfl, hs1, hs3, rfl, he0, by omega, he2, fun x' sg' kk' dl ok' hc' so' dok => ?_⟩
    walk_at "w"
    obtain ⟨S, hS⟩ : ∃ S : Str → D → Bool, ∀ h d, S h d = true ↔ sgd sg' h d := ⟨fun h d => @decide (sgd sg' h d) (Classical.propDecidable _), fun h d => @decide_eq_true_iff _ (Classical.propDecidable _)⟩
    have hSK : SK S kk' := fun h p => (hS h p.d).trans (so'.eq h p)
    refine ⟨_, _, rfl, a, la, s, sg', fun Q => (WlC wa wg x' ++ (Q ++ BkC k ra s kk')) ++ L, i, 2 * i + 2, S, dl, rfl, ⟨hole_m (f := fun S => S ++ L) Hole.id.left, rfl⟩, st.ct, by omega, so'.so, hS, rfl, dok, fun la' hla => ?_⟩
    dsimp only
    walk_at "w"
    refine ⟨_, _, rfl, k, ra, s, kk', S, fun Q => (WlC wa wg x' ++ (MC K a la' (dl.go S s) sg' ++ Q)) ++ L, i, dl, rfl, ⟨hole_b (f := fun S => S ++ L) Hole.id.left, rfl⟩, ⟨hra, la, st.ct⟩, st.ks, hSK, rfl, dok, fun ra' hra' => ?_⟩
    dsimp only
    have st' := go_ok (S := S) (la' := la') st (by omega) (vAt_nn i) dok hla
    rw [← vAt_succ] at st'
    have hsim := out_sim (S := S) (s := s) (dl := dl) st'
    generalize dl.due S s = du at hsim ⊢
    generalize dl.tells S s = te at hsim ⊢
    generalize dl.go S s = s' at hla hra' st' ⊢
    walk_at "w"
    refine ⟨_, _, rfl, rfl, hsim, ?_⟩
    walk_at "w"
    refine ⟨_, _, _, rfl, a, la', s', sg', k, ra', kk', fun Q => (WlC wa wg x' ++ Q) ++ L, i + 1, keys, rfl, rfl, ⟨Hole.left (Hole.right Hole.id), rfl⟩, st'.ct, hra', st'.rw, rfl, hk0, hk1, ?_⟩
    dsimp only
    walk_at "w"
    exact ⟨hlt, x', la', s', sg', ra', kk', ok', by rw [Int.natCast_add]; omega, so'.mono (by omega), hra', st', rfl, _, _, _, rfl⟩
  · obtain ⟨hi, x, la, s, sg, ra, kk, ok, hc, so, hra, st, rfl, y10, y11, y12, rfl⟩ := hI
    refine ws_ret (we_call0 ?_)
    walk_at "w"
    obtain ⟨L2, hp⟩ := At.out (At.left (B := L) (At.right (A := WlC wa wg x) (At.right (A := MC K a la s sg) (At.tail (x := (k.b, .lst (bkL k s))) (At.tail (x := (k.n7, .dN (kk.map keyD))) (At.here (p := k.o6) (c := .lst s.rows) (B := (k.s4, .dK (seenK s.seen)) :: (k.r3, .lst (ra.map D.ref)) :: (k.d2, .dK (bagK s.bags)) :: rdC ra s.lanes)))))))
    refine ⟨_, _, _, rfl, At.left (At.right (At.left At.here)), by with_unfolding_all rfl, ?_⟩
    refine wa_nil ?_
    refine ⟨_, rfl, a, la, s, sg, fun Q => (WlC wa wg x ++ (Q ++ BkC k ra s kk)) ++ L, _, rfl, ⟨hole_m (f := fun S => S ++ L) Hole.id.left, rfl⟩, st.ct, ?_⟩
    refine wa_cons (WE.iceP ?_)
    dsimp only
    walk_at "w"
    refine wr_ixC (At.left (At.right (At.right At.here))) rfl ?_
    refine ⟨k.o6, s.rows, L2, rfl, hp, ?_⟩
    refine wa_nil ?_
    have hN := st.ct.nr
    have hB := st.ct.big
    exact ⟨_, _, rfl, rfl, D.sim_mono (by decide) (rows_sim st.rw (by omega)), h _⟩
end
end Cl
set_option Elab.async false
set_option linter.all false
set_option maxRecDepth 100000
set_option maxHeartbeats 0
namespace Cl
open PySem PySem.Spec PyProof.Rows L2
/-- what the law's call could let out, whatever the world -/
def CXA (P : Program) : CXT := fun outer H s E u s' => ∃ w, L2.CX P w outer H s E u s'
theorem fn_up {P : Program} {w : World} {K : PySem.W.Frag} {mg : Str → Option Value} {base : Heap} {CX CX' : CXT} {k : Nat} {f : Addr} {fd : FuncData} {ps : List Str} {sp : Sp} (F : FnOk P w K mg base CX k f fd ps sp)
    (h : ∀ o H s E u s', CX o H s E u s' → CX' o H s E u s') : FnOk P w K mg base CX' k f fd ps sp :=
  ⟨F.len, fun A outer s H args us vs Q E hr he hb hv hs => codeAny_mono (F.run A outer s H args us vs Q E hr he hb hv hs) fun r s' hq => by
    cases r with
    | error e => exact h _ _ _ _ _ _ hq
    | ok fl => cases fl <;> exact hq⟩
theorem law_facts {P : Program} {w : World} {K : PySem.W.Frag} {h : Heap} {mg : Str → Option Value} {f : Addr} (X : K.In h) (G : h.Ns mainGlobals mg) (hfa : mg ("law" : Str) = some (.ref f)) (c : He.SaysD fas fns K) (e : ex K = true) :
    ∃ fd : FuncData, (∀ (s : Shared) (v : Value), BindsTo s fd ⟨[v], []⟩ [("_law_script", v)]) ∧ ∀ base : Heap, K.In base → base.Ns mainGlobals mg → FnOk P w K mg base (CXA P) 12 f fd ["_law_script"] (spOf P w K aLaw) := by
  have T : Tx K mg := ⟨c, e, h, X, G⟩
  obtain ⟨fd, F⟩ := c.def_ 66 (d := d_law) rfl
  have ef := hfa.symm.trans (g_law T)
  cases ef
  have b := FunD.bindsA (ps := ["_law_script"]) F fun _ _ _ _ _ _ us hl => match us, hl with | [_], _ => rfl
  exact ⟨fd, fun s v => b s [v] rfl, fun base _ _ => fn_up (ok_law T F) fun _ _ _ _ _ _ z => ⟨w, z⟩⟩
theorem law_sp {P : Program} {w : World} {K : PySem.W.Frag} (H : Hp) (a : Addr) (ns : List Int) (hl : ns.length ≤ 63) (hS : SqL K H a (ns.map V.int)) : spOf P w K aLaw [.ref a] H (fun v _ => v = .bl true) fun _ _ _ => False := by
  refine ⟨H, [.scr ns], [], fun d _ => d = .bl true, Ex0, .cons (.scr hS) .nil, ⟨Same.refl H, .nil, fun c hc => nomatch hc⟩, ⟨_, rfl, ns, rfl, hl, fun _ => rfl⟩, fun v d F' H' L' _ _ r e => ?_, Lk0⟩
  subst e
  exact r.bl_inv
end Cl
open PySem PySem.W PySem.Calls PyProof.Rows
theorem PySem.Challenge.cw_coinlanes_k19_whole_any_deeds_holds : PySem.Challenge.rw_coinlanes_k19_whole_any_deeds.Holds := by
  w_on; o_law
  refine HandSHeadRun.head_any (r := Cl.R) (q := Cl.qv) (H := Cl.hk) (ob := Cl.ob) (M := 6000) (loose := Cl.looses) (d := HandSHeadRun.topDef Cl.R.prog 73) (kwd := []) Cl.ob_eq
    (by kernel_rfl) (fun s => by kernel_rfl) Cl.run (by kernel_rfl) (by kernel_rfl) (by kernel_rfl) (by rfl) (by first | assumption | decide +kernel) (by decide +kernel) ⟨rfl, rfl, rfl, rfl, rfl, by decide +kernel⟩ ?hw ?hc
  case hw => w_witness2
  case hc =>
    refine L2.walk_ofE (l := PySem.Challenge.rw_coinlanes_k19_whole_any_deeds) (n := 63) (k := 12) (x := "_law_script") (CX := Cl.CXA PySem.Challenge.rw_coinlanes_k19_whole_any_deeds.prog) rfl (by decide) (by kernel_rfl) ⟨rfl, by decide, by decide⟩ ?F (fun _ _ _ _ z => let ⟨_, _, _, _, _, _, _, _, _, _, _, _, _, z⟩ := z; z)
    intro w mg fa h Y G hmg0
    obtain ⟨K, KX, c⟩ := Y
    have hmg : mg ("law" : PySem.Str) = some (.ref fa) := by
      have e : (HandSHeadRun.topDef Cl.R.prog 73).name = ("law" : PySem.Str) := by kernel_rfl
      rw [← e]
      exact hmg0
    obtain ⟨fd, hb, hF⟩ := Cl.law_facts (P := (PySem.Challenge.rw_coinlanes_k19_whole_any_deeds).prog) (w := w) KX G hmg c.t.d c.more
    exact ⟨K, fd, _, KX, hb, fun H a ns hl _ hS => Cl.law_sp H a ns hl hS, hF⟩
