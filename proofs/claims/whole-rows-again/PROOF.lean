import PyProof.Rows.All
import Wide.All
import OpenK.AllK
import Wide.FinOn
import KE.KStateDown
import Lean
import HandS.ForMost
import HandS.Exc
import HandS.TryOnly
import HandS.ExcOwn
import HandS.WordsExc
import HandS.More
import HandS.Defaults
import HandS.MakeKwOnly
import HandS.IsInst
import HandS.ExcValue
import HandS.ExcIs
import HandS.DictComp
import HandS.Conv
import HandS.Wide
import HandS.Zip
import HandS.SetKeys
import HandS.Strs
import HandS.SortInts
import HandS.TupAny
import HandS.Flow
import HandS.Head0
import HandS.Head1
import HandS.Head2
import HandS.HeadEnd
import HandS.HeadHook1
import HandS.HeadHook2
import HandS.HeadHook3
import HandS.HeadHook4
import KE.KeyNested
import KE.KDictKeyed
import KE.KDictWalk
import KE.KDictZip
import KE.SortData
import PySem.Challenge.RW_coinlanes_k21_whole_rows_again
import HandS.SetFor
import HandS.Walk
import KE.KDictPairs
import KE.KDictList
set_option Elab.async false
set_option linter.all false
set_option maxRecDepth 100000
set_option maxHeartbeats 4000000
/-! The text by places, and what the head tells of it. Printed by a small program (wip/gen0.py). -/
namespace Cn
open PySem PySem.Spec PyProof.Rows L2
def top (i : Nat) : Stmt := PySem.Challenge.pw_coinlanes_k21_whole_rows_again.main.body.getD i (.Pass ⟨0, 0, 0, 0⟩)
abbrev s_is_whole : Stmt := top 19
abbrev s_is_count_seals : Stmt := top 20
abbrev s_is_amount : Stmt := top 22
abbrev s_is_name : Stmt := top 23
abbrev s_seal_of : Stmt := top 24
abbrev s_is_side : Stmt := top 29
abbrev s_is_lock : Stmt := top 30
abbrev s_is_state : Stmt := top 31
abbrev s_need_state : Stmt := top 32
abbrev s_worth : Stmt := top 33
abbrev s_first_state : Stmt := top 34
abbrev s_is_count_signs : Stmt := top 36
abbrev s_is_opening : Stmt := top 38
abbrev s_look_name : Stmt := top 39
abbrev s_look_paper : Stmt := top 40
abbrev s_Signs_init : Stmt := inClass (top 41) 0
abbrev s_Signs_sign : Stmt := inClass (top 41) 1
abbrev s_Signs_signed : Stmt := inClass (top 41) 2
abbrev s_Signs_papers : Stmt := inClass (top 41) 3
abbrev s_look_purses : Stmt := top 44
abbrev s_Lane_init : Stmt := inClass (top 45) 0
abbrev s_Lane_gets : Stmt := inClass (top 45) 1
abbrev s_Court_init : Stmt := inClass (top 46) 0
abbrev s_Court_lane : Stmt := inClass (top 46) 1
abbrev s_Court_look_coins : Stmt := inClass (top 46) 2
abbrev s_Court_road : Stmt := inClass (top 46) 3
abbrev s_Court_tell : Stmt := inClass (top 46) 4
abbrev s_Court_show : Stmt := inClass (top 46) 5
abbrev s_Court_settled_now : Stmt := inClass (top 46) 6
abbrev s_Court_decided_now : Stmt := inClass (top 46) 7
abbrev s_Court_turn : Stmt := inClass (top 46) 8
abbrev s_Court_now : Stmt := inClass (top 46) 9
abbrev s_Court_patience : Stmt := inClass (top 46) 10
abbrev s_Court_purse : Stmt := inClass (top 46) 11
abbrev s_Court_hands : Stmt := inClass (top 46) 12
abbrev s_Court_lanes : Stmt := inClass (top 46) 13
abbrev s_Court_stand : Stmt := inClass (top 46) 14
abbrev s_Court_seen_of : Stmt := inClass (top 46) 15
abbrev s_Court_shown : Stmt := inClass (top 46) 16
abbrev s_Court_secret : Stmt := inClass (top 46) 17
abbrev s_Court_held : Stmt := inClass (top 46) 18
abbrev s_Court_coins : Stmt := inClass (top 46) 19
abbrev s_Court_rows : Stmt := inClass (top 46) 20
abbrev s_law_well : Stmt := top 48
abbrev s_law_take : Stmt := top 49
abbrev s_law_name : Stmt := top 50
abbrev s_law_folk : Stmt := top 51
abbrev s_law_sum : Stmt := top 52
abbrev s_law_parts : Stmt := top 53
abbrev s_law_locks : Stmt := top 54
abbrev s_law_state : Stmt := top 55
abbrev s_law_whole : Stmt := top 56
abbrev s_law_bags : Stmt := top 57
abbrev s_law_book : Stmt := top 58
abbrev s_law_is_coins : Stmt := top 59
abbrev s_law_open_due : Stmt := top 60
abbrev s_law_tell_due : Stmt := top 61
abbrev s_law_turned : Stmt := top 62
abbrev s_law_done : Stmt := top 63
abbrev s_law_kind : Stmt := top 64
abbrev s_law_asked : Stmt := top 65
abbrev s_law_same : Stmt := top 66
abbrev s_law_secrets : Stmt := top 67
abbrev s_law_signing : Stmt := top 68
abbrev s_law_opening : Stmt := top 69
abbrev s_law_telling : Stmt := top 70
abbrev s_law_deed : Stmt := top 71
abbrev s_law_all : Stmt := top 72
abbrev s_law_spoil : Stmt := top 73
abbrev s_law : Stmt := top 74
def d_is_whole : He.DefD := ⟨("is_whole", none), "is_whole", "is_whole", defArgs s_is_whole, defBody s_is_whole, defScope s_is_whole, [], []⟩
def d_is_count_seals : He.DefD := ⟨("is_count_seals", none), "is_count", "is_count", defArgs s_is_count_seals, defBody s_is_count_seals, defScope s_is_count_seals, [], []⟩
def d_is_amount : He.DefD := ⟨("is_amount", none), "is_amount", "is_amount", defArgs s_is_amount, defBody s_is_amount, defScope s_is_amount, [], []⟩
def d_is_name : He.DefD := ⟨("is_name", none), "is_name", "is_name", defArgs s_is_name, defBody s_is_name, defScope s_is_name, [], []⟩
def d_seal_of : He.DefD := ⟨("seal_of", none), "seal_of", "seal_of", defArgs s_seal_of, defBody s_seal_of, defScope s_seal_of, [], []⟩
def d_is_side : He.DefD := ⟨("is_side", none), "is_side", "is_side", defArgs s_is_side, defBody s_is_side, defScope s_is_side, [], []⟩
def d_is_lock : He.DefD := ⟨("is_lock", none), "is_lock", "is_lock", defArgs s_is_lock, defBody s_is_lock, defScope s_is_lock, [], []⟩
def d_is_state : He.DefD := ⟨("is_state", none), "is_state", "is_state", defArgs s_is_state, defBody s_is_state, defScope s_is_state, [], []⟩
def d_need_state : He.DefD := ⟨("need_state", none), "need_state", "need_state", defArgs s_need_state, defBody s_need_state, defScope s_need_state, [], []⟩
def d_worth : He.DefD := ⟨("worth", none), "worth", "worth", defArgs s_worth, defBody s_worth, defScope s_worth, [], []⟩
def d_first_state : He.DefD := ⟨("first_state", none), "first_state", "first_state", defArgs s_first_state, defBody s_first_state, defScope s_first_state, [], []⟩
def d_is_count_signs : He.DefD := ⟨("is_count_signs", none), "is_count", "is_count", defArgs s_is_count_signs, defBody s_is_count_signs, defScope s_is_count_signs, [], []⟩
def d_is_opening : He.DefD := ⟨("is_opening", none), "is_opening", "is_opening", defArgs s_is_opening, defBody s_is_opening, defScope s_is_opening, [], []⟩
def d_look_name : He.DefD := ⟨("look_name", none), "look_name", "look_name", defArgs s_look_name, defBody s_look_name, defScope s_look_name, [], []⟩
def d_look_paper : He.DefD := ⟨("look_paper", none), "look_paper", "look_paper", defArgs s_look_paper, defBody s_look_paper, defScope s_look_paper, [], []⟩
def d_Signs_init : He.DefD := ⟨("Signs", some "__init__"), "__init__", "Signs.__init__", defArgs s_Signs_init, defBody s_Signs_init, defScope s_Signs_init, [], []⟩
def d_Signs_sign : He.DefD := ⟨("Signs", some "sign"), "sign", "Signs.sign", defArgs s_Signs_sign, defBody s_Signs_sign, defScope s_Signs_sign, [], []⟩
def d_Signs_signed : He.DefD := ⟨("Signs", some "signed"), "signed", "Signs.signed", defArgs s_Signs_signed, defBody s_Signs_signed, defScope s_Signs_signed, [], []⟩
def d_Signs_papers : He.DefD := ⟨("Signs", some "papers"), "papers", "Signs.papers", defArgs s_Signs_papers, defBody s_Signs_papers, defScope s_Signs_papers, [], []⟩
def d_look_purses : He.DefD := ⟨("look_purses", none), "look_purses", "look_purses", defArgs s_look_purses, defBody s_look_purses, defScope s_look_purses, [], []⟩
def d_Lane_init : He.DefD := ⟨("Lane", some "__init__"), "__init__", "Lane.__init__", defArgs s_Lane_init, defBody s_Lane_init, defScope s_Lane_init, [], []⟩
def d_Lane_gets : He.DefD := ⟨("Lane", some "gets"), "gets", "Lane.gets", defArgs s_Lane_gets, defBody s_Lane_gets, defScope s_Lane_gets, [], []⟩
def d_Court_init : He.DefD := ⟨("Court", some "__init__"), "__init__", "Court.__init__", defArgs s_Court_init, defBody s_Court_init, defScope s_Court_init, [], [("wait", .int 6)]⟩
def d_Court_lane : He.DefD := ⟨("Court", some "lane"), "lane", "Court.lane", defArgs s_Court_lane, defBody s_Court_lane, defScope s_Court_lane, [], [("left_coins", .int 0), ("right_coins", .int 0)]⟩
def d_Court_look_coins : He.DefD := ⟨("Court", some "look_coins"), "look_coins", "Court.look_coins", defArgs s_Court_look_coins, defBody s_Court_look_coins, defScope s_Court_look_coins, [], []⟩
def d_Court_road : He.DefD := ⟨("Court", some "road"), "road", "Court.road", defArgs s_Court_road, defBody s_Court_road, defScope s_Court_road, [], []⟩
def d_Court_tell : He.DefD := ⟨("Court", some "tell"), "tell", "Court.tell", defArgs s_Court_tell, defBody s_Court_tell, defScope s_Court_tell, [], []⟩
def d_Court_show : He.DefD := ⟨("Court", some "show"), "show", "Court.show", defArgs s_Court_show, defBody s_Court_show, defScope s_Court_show, [], []⟩
def d_Court_settled_now : He.DefD := ⟨("Court", some "settled_now"), "settled_now", "Court.settled_now", defArgs s_Court_settled_now, defBody s_Court_settled_now, defScope s_Court_settled_now, [], []⟩
def d_Court_decided_now : He.DefD := ⟨("Court", some "decided_now"), "decided_now", "Court.decided_now", defArgs s_Court_decided_now, defBody s_Court_decided_now, defScope s_Court_decided_now, [], []⟩
def d_Court_turn : He.DefD := ⟨("Court", some "turn"), "turn", "Court.turn", defArgs s_Court_turn, defBody s_Court_turn, defScope s_Court_turn, [], []⟩
def d_Court_now : He.DefD := ⟨("Court", some "now"), "now", "Court.now", defArgs s_Court_now, defBody s_Court_now, defScope s_Court_now, [], []⟩
def d_Court_patience : He.DefD := ⟨("Court", some "patience"), "patience", "Court.patience", defArgs s_Court_patience, defBody s_Court_patience, defScope s_Court_patience, [], []⟩
def d_Court_purse : He.DefD := ⟨("Court", some "purse"), "purse", "Court.purse", defArgs s_Court_purse, defBody s_Court_purse, defScope s_Court_purse, [], []⟩
def d_Court_hands : He.DefD := ⟨("Court", some "hands"), "hands", "Court.hands", defArgs s_Court_hands, defBody s_Court_hands, defScope s_Court_hands, [], []⟩
def d_Court_lanes : He.DefD := ⟨("Court", some "lanes"), "lanes", "Court.lanes", defArgs s_Court_lanes, defBody s_Court_lanes, defScope s_Court_lanes, [], []⟩
def d_Court_stand : He.DefD := ⟨("Court", some "stand"), "stand", "Court.stand", defArgs s_Court_stand, defBody s_Court_stand, defScope s_Court_stand, [], []⟩
def d_Court_seen_of : He.DefD := ⟨("Court", some "seen_of"), "seen_of", "Court.seen_of", defArgs s_Court_seen_of, defBody s_Court_seen_of, defScope s_Court_seen_of, [], []⟩
def d_Court_shown : He.DefD := ⟨("Court", some "shown"), "shown", "Court.shown", defArgs s_Court_shown, defBody s_Court_shown, defScope s_Court_shown, [], []⟩
def d_Court_secret : He.DefD := ⟨("Court", some "secret"), "secret", "Court.secret", defArgs s_Court_secret, defBody s_Court_secret, defScope s_Court_secret, [], []⟩
def d_Court_held : He.DefD := ⟨("Court", some "held"), "held", "Court.held", defArgs s_Court_held, defBody s_Court_held, defScope s_Court_held, [], []⟩
def d_Court_coins : He.DefD := ⟨("Court", some "coins"), "coins", "Court.coins", defArgs s_Court_coins, defBody s_Court_coins, defScope s_Court_coins, [], []⟩
def d_Court_rows : He.DefD := ⟨("Court", some "rows"), "rows", "Court.rows", defArgs s_Court_rows, defBody s_Court_rows, defScope s_Court_rows, [], []⟩
def d_law_well : He.DefD := ⟨("_law_well", none), "_law_well", "_law_well", defArgs s_law_well, defBody s_law_well, defScope s_law_well, [], []⟩
def d_law_take : He.DefD := ⟨("_law_take", none), "_law_take", "_law_take", defArgs s_law_take, defBody s_law_take, defScope s_law_take, [], []⟩
def d_law_name : He.DefD := ⟨("_law_name", none), "_law_name", "_law_name", defArgs s_law_name, defBody s_law_name, defScope s_law_name, [], []⟩
def d_law_folk : He.DefD := ⟨("_law_folk", none), "_law_folk", "_law_folk", defArgs s_law_folk, defBody s_law_folk, defScope s_law_folk, [], []⟩
def d_law_sum : He.DefD := ⟨("_law_sum", none), "_law_sum", "_law_sum", defArgs s_law_sum, defBody s_law_sum, defScope s_law_sum, [], []⟩
def d_law_parts : He.DefD := ⟨("_law_parts", none), "_law_parts", "_law_parts", defArgs s_law_parts, defBody s_law_parts, defScope s_law_parts, [], []⟩
def d_law_locks : He.DefD := ⟨("_law_locks", none), "_law_locks", "_law_locks", defArgs s_law_locks, defBody s_law_locks, defScope s_law_locks, [], []⟩
def d_law_state : He.DefD := ⟨("_law_state", none), "_law_state", "_law_state", defArgs s_law_state, defBody s_law_state, defScope s_law_state, [], []⟩
def d_law_whole : He.DefD := ⟨("_law_whole", none), "_law_whole", "_law_whole", defArgs s_law_whole, defBody s_law_whole, defScope s_law_whole, [], []⟩
def d_law_bags : He.DefD := ⟨("_law_bags", none), "_law_bags", "_law_bags", defArgs s_law_bags, defBody s_law_bags, defScope s_law_bags, [], []⟩
def d_law_book : He.DefD := ⟨("_law_book", none), "_law_book", "_law_book", defArgs s_law_book, defBody s_law_book, defScope s_law_book, [], []⟩
def d_law_is_coins : He.DefD := ⟨("_law_is_coins", none), "_law_is_coins", "_law_is_coins", defArgs s_law_is_coins, defBody s_law_is_coins, defScope s_law_is_coins, [], []⟩
def d_law_open_due : He.DefD := ⟨("_law_open_due", none), "_law_open_due", "_law_open_due", defArgs s_law_open_due, defBody s_law_open_due, defScope s_law_open_due, [], []⟩
def d_law_tell_due : He.DefD := ⟨("_law_tell_due", none), "_law_tell_due", "_law_tell_due", defArgs s_law_tell_due, defBody s_law_tell_due, defScope s_law_tell_due, [], []⟩
def d_law_turned : He.DefD := ⟨("_law_turned", none), "_law_turned", "_law_turned", defArgs s_law_turned, defBody s_law_turned, defScope s_law_turned, [], []⟩
def d_law_done : He.DefD := ⟨("_law_done", none), "_law_done", "_law_done", defArgs s_law_done, defBody s_law_done, defScope s_law_done, [], []⟩
def d_law_kind : He.DefD := ⟨("_law_kind", none), "_law_kind", "_law_kind", defArgs s_law_kind, defBody s_law_kind, defScope s_law_kind, [], []⟩
def d_law_asked : He.DefD := ⟨("_law_asked", none), "_law_asked", "_law_asked", defArgs s_law_asked, defBody s_law_asked, defScope s_law_asked, [], []⟩
def d_law_same : He.DefD := ⟨("_law_same", none), "_law_same", "_law_same", defArgs s_law_same, defBody s_law_same, defScope s_law_same, [], []⟩
def d_law_secrets : He.DefD := ⟨("_law_secrets", none), "_law_secrets", "_law_secrets", defArgs s_law_secrets, defBody s_law_secrets, defScope s_law_secrets, [], []⟩
def d_law_signing : He.DefD := ⟨("_law_signing", none), "_law_signing", "_law_signing", defArgs s_law_signing, defBody s_law_signing, defScope s_law_signing, [], []⟩
def d_law_opening : He.DefD := ⟨("_law_opening", none), "_law_opening", "_law_opening", defArgs s_law_opening, defBody s_law_opening, defScope s_law_opening, [], []⟩
def d_law_telling : He.DefD := ⟨("_law_telling", none), "_law_telling", "_law_telling", defArgs s_law_telling, defBody s_law_telling, defScope s_law_telling, [], []⟩
def d_law_deed : He.DefD := ⟨("_law_deed", none), "_law_deed", "_law_deed", defArgs s_law_deed, defBody s_law_deed, defScope s_law_deed, [], []⟩
def d_law_all : He.DefD := ⟨("_law_all", none), "_law_all", "_law_all", defArgs s_law_all, defBody s_law_all, defScope s_law_all, [], []⟩
def d_law_spoil : He.DefD := ⟨("_law_spoil", none), "_law_spoil", "_law_spoil", defArgs s_law_spoil, defBody s_law_spoil, defScope s_law_spoil, [], []⟩
def d_law : He.DefD := ⟨("law", none), "law", "law", defArgs s_law, defBody s_law, defScope s_law, [], []⟩
def fnL : List He.DefD := [d_is_whole, d_is_count_seals, d_is_amount, d_is_name, d_seal_of, d_is_side, d_is_lock, d_is_state, d_need_state, d_worth, d_first_state, d_is_count_signs, d_is_opening, d_look_name, d_look_paper, d_Signs_init, d_Signs_sign, d_Signs_signed, d_Signs_papers, d_look_purses, d_Lane_init, d_Lane_gets, d_Court_init, d_Court_lane, d_Court_look_coins, d_Court_road, d_Court_tell, d_Court_show, d_Court_settled_now, d_Court_decided_now, d_Court_turn, d_Court_now, d_Court_patience, d_Court_purse, d_Court_hands, d_Court_lanes, d_Court_stand, d_Court_seen_of, d_Court_shown, d_Court_secret, d_Court_held, d_Court_coins, d_Court_rows, d_law_well, d_law_take, d_law_name, d_law_folk, d_law_sum, d_law_parts, d_law_locks, d_law_state, d_law_whole, d_law_bags, d_law_book, d_law_is_coins, d_law_open_due, d_law_tell_due, d_law_turned, d_law_done, d_law_kind, d_law_asked, d_law_same, d_law_secrets, d_law_signing, d_law_opening, d_law_telling, d_law_deed, d_law_all, d_law_spoil, d_law]
def faL : List He.Fa := [.glo "is_whole", .glo "is_count_seals", .glo "is_amount", .glo "is_name", .glo "seal_of", .glo "is_side", .glo "is_lock", .glo "is_state", .glo "need_state", .glo "worth", .glo "first_state", .glo "is_count_signs", .glo "is_opening", .glo "look_name", .glo "look_paper", .glo "look_purses", .glo "_law_well", .glo "_law_take", .glo "_law_name", .glo "_law_folk", .glo "_law_sum", .glo "_law_parts", .glo "_law_locks", .glo "_law_state", .glo "_law_whole", .glo "_law_bags", .glo "_law_book", .glo "_law_is_coins", .glo "_law_open_due", .glo "_law_tell_due", .glo "_law_turned", .glo "_law_done", .glo "_law_kind", .glo "_law_asked", .glo "_law_same", .glo "_law_secrets", .glo "_law_signing", .glo "_law_opening", .glo "_law_telling", .glo "_law_deed", .glo "_law_all", .glo "_law_spoil", .glo "law", .glo "Signs", .glo "Lane", .glo "Court", .glo "CoinError", .glo "NoName", .glo "NoSecret", .glo "NoNumber", .glo "NoCoins", .glo "NoState", .glo "NoPaper", .glo "NoHand", .glo "NoLane", .glo "NotSigned", .glo "Settled", .glo "Old", .free "isinstance", .free "int", .free "bool", .free "str", .free "tuple", .free "list", .free "len", .free "all", .free "sum", .free "sorted", .free "enumerate", .free "range", .free "zip", .free "dict", .free "set", .free "max", .free "min", .free "abs", .free "ValueError", .int "LONGEST" 8, .int "FIRST_SEAL" 17, .int "STRETCH" 3, .int "MOST_LOCKS" 30, .int "MOST_WAIT" 100, .str "LETTERS" "abcdefghijklmnopqrstuvwxyz", .str "LEFT" "left", .str "RIGHT" "right", .cls "Signs", .cls "Lane", .cls "Court", .noat "Signs" "by_hand", .noat "Lane" "both", .noat "Lane" "first", .noat "Lane" "standing", .noat "Lane" "mood", .noat "Lane" "ending", .noat "Court" "book", .noat "Court" "long", .noat "Court" "clock", .noat "Court" "bags", .noat "Court" "opened", .noat "Court" "seen", .noat "Court" "kept", .noat "Court" "deeds", .meth "Signs" "sign", .meth "Signs" "signed", .meth "Signs" "papers", .meth "Lane" "gets", .meth "Court" "lane", .meth "Court" "look_coins", .meth "Court" "road", .meth "Court" "tell", .meth "Court" "show", .meth "Court" "settled_now", .meth "Court" "decided_now", .meth "Court" "turn", .meth "Court" "now", .meth "Court" "patience", .meth "Court" "purse", .meth "Court" "hands", .meth "Court" "lanes", .meth "Court" "stand", .meth "Court" "seen_of", .meth "Court" "shown", .meth "Court" "secret", .meth "Court" "held", .meth "Court" "coins", .meth "Court" "rows", .mkr "Signs", .mkr "Lane", .mkr "Court", .exc "NoHand", .exc "NoCoins", .exc "NotSigned", .exc "NoLane", .exc "Settled", .exc "Old", .exm "NoHand" "CoinError" true, .exm "NoCoins" "CoinError" true, .exm "NotSigned" "CoinError" true, .exm "NoLane" "CoinError" true, .exm "Settled" "CoinError" true, .exm "Old" "CoinError" true]
/-- of an error's class: what isinstance asks -/
def excB (K : PySem.W.Frag) (D : Addr) : Bool := decide (PySem.W.findIn K (.ref D) "__getattribute__" = some (some (.builtin "BaseException.__getattribute__"))) && (decide (PySem.W.findIn K (.ref D) "__getattr__" = some none) && (decide (PySem.W.subIn K (.ref D) (.type "BaseException") = some true) && (PySem.W.hasDictIn K D && (decide (PySem.W.findIn K (.ref D) "__class__" = some (some (.builtin "object.__class__"))) && (decide (PySem.W.specialIn K (.builtin "object.__class__") "__get__" = some (some (.builtin "getset_descriptor.__get__"))) && (decide (PySem.W.takesIn K (.builtin "object.__class__") = some true) && decide (PySem.W.mroIn K D (.type "object") = some true)))))))
def exNames : List Str := ["CoinError", "NoName", "NoSecret", "NoNumber", "NoCoins", "NoState", "NoPaper", "NoHand", "NoLane", "NotSigned", "Settled", "Old"]
def raisedNames : List Str := ["NoHand", "NoCoins", "NotSigned", "NoLane", "Settled", "Old"]
def exB (K : PySem.W.Frag) : Bool := raisedNames.all fun x => excB K (He.ga K x) && ((PySem.W.kitOne K (.ref (He.ga K x)) (.type "ValueError")).isSome && exNames.all fun y => (PySem.W.kitOne K (.ref (He.ga K x)) (.ref (He.ga K y))).isSome)
abbrev hk : PySem.W.Hook := He.hookX 5 faL fnL [] [] exB
def ob (s : PySem.W.SharedT) : He.AlX := He.obsX 5 faL fnL [] [] exB (HandSHeadRun.getT s)
theorem ob_eq (s : PySem.W.SharedT) : ob s = hk.obs s.abs := He.obsX_eq (HandSHeadRun.getT_eq s)
abbrev R : PySem.W.OpenRow := PySem.W.OpenLaw.row PySem.Challenge.rw_coinlanes_k21_whole_rows_again
def lo0 : List PySem.Str := [("WAIT" : PySem.Str), ("__name__" : PySem.Str), ("CoinError" : PySem.Str), ("NoName" : PySem.Str), ("NoSecret" : PySem.Str), ("NoNumber" : PySem.Str), ("NoCoins" : PySem.Str), ("NoState" : PySem.Str), ("NoPaper" : PySem.Str), ("NoHand" : PySem.Str), ("NoLane" : PySem.Str), ("NotSigned" : PySem.Str), ("Settled" : PySem.Str), ("Old" : PySem.Str), ("LETTERS" : PySem.Str), ("LONGEST" : PySem.Str), ("FIRST_SEAL" : PySem.Str), ("STRETCH" : PySem.Str), ("is_whole" : PySem.Str), ("is_count" : PySem.Str)]
def lo1 : List PySem.Str := [("is_count_seals" : PySem.Str), ("is_amount" : PySem.Str), ("is_name" : PySem.Str), ("seal_of" : PySem.Str), ("LEFT" : PySem.Str), ("RIGHT" : PySem.Str), ("MOST_LOCKS" : PySem.Str), ("is_side" : PySem.Str), ("is_lock" : PySem.Str), ("is_state" : PySem.Str), ("need_state" : PySem.Str), ("worth" : PySem.Str), ("first_state" : PySem.Str), ("is_count_signs" : PySem.Str), ("is_opening" : PySem.Str), ("look_name" : PySem.Str), ("look_paper" : PySem.Str), ("Signs" : PySem.Str), ("MOST_WAIT" : PySem.Str), ("look_purses" : PySem.Str)]
def lo2 : List PySem.Str := [("Lane" : PySem.Str), ("Court" : PySem.Str), ("_law_well" : PySem.Str), ("_law_take" : PySem.Str), ("_law_name" : PySem.Str), ("_law_folk" : PySem.Str), ("_law_sum" : PySem.Str), ("_law_parts" : PySem.Str), ("_law_locks" : PySem.Str), ("_law_state" : PySem.Str), ("_law_whole" : PySem.Str), ("_law_bags" : PySem.Str), ("_law_book" : PySem.Str), ("_law_is_coins" : PySem.Str), ("_law_open_due" : PySem.Str), ("_law_tell_due" : PySem.Str), ("_law_turned" : PySem.Str), ("_law_done" : PySem.Str), ("_law_kind" : PySem.Str), ("_law_asked" : PySem.Str)]
def lo3 : List PySem.Str := [("_law_same" : PySem.Str), ("_law_secrets" : PySem.Str), ("_law_signing" : PySem.Str), ("_law_opening" : PySem.Str), ("_law_telling" : PySem.Str), ("_law_deed" : PySem.Str), ("_law_all" : PySem.Str), ("_law_spoil" : PySem.Str)]
end Cn
/-! What the walk asks of the written part, by names. Printed by a small program (wip/genT.py). -/
namespace Cn
open PySem PySem.Spec PyProof.Rows L2
abbrev FnD (K : PySem.W.Frag) (d : He.DefD) (fd : FuncData) : Prop := FunD K d.name d.qual d.params d.body d.scope (d.dvs K) (d.kws K) (He.fAd K d.at_) fd
/-- what stands behind the top -/
structure Tx (K : PySem.W.Frag) (mg : Str → Option Value) : Prop where
  fn : ∀ d ∈ fnL, ∃ fd, FnD K d fd
  fa : ∀ f ∈ faL, f.ok K = true
  ex : exB K = true
  glo : ∀ x : Str, (He.Fa.glo x).ok K = true → mg x = some (.ref (He.ga K x))
  free : ∀ x : Str, (He.Fa.free x).ok K = true → mg x = none
  int : ∀ (x : Str) (i : Int), (He.Fa.int x i).ok K = true → ∃ t, mg x = some (.int i t)
  str : ∀ (x z : Str), (He.Fa.str x z).ok K = true → ∃ t, mg x = some (.str z t)
theorem tx_of {w : World} {h : Heap} {K : PySem.W.Frag} {mg : Str → Option Value} (X : K.In h) (G : h.Ns mainGlobals mg) (c : He.SaysX faL fnL [] [] exB w h K) : Tx K mg :=
  ⟨fun d hd => c.t.d.defs hd, fun f hf => c.t.d.facts hf, c.more, fun x h => He.glo_ok X G h, fun x h => He.free_ok X G h, fun x i h => He.int_ok X G h, fun x z h => He.str_ok X G h⟩
section
variable {K : PySem.W.Frag} {mg : Str → Option Value} (T : Tx K mg)
include T
theorem Tx.g_is_whole : mg "is_whole" = some (.ref (He.ga K "is_whole")) := T.glo _ (T.fa _ (List.mem_of_getElem? (i := 0) (by rfl)))
theorem Tx.g_is_count_seals : mg "is_count_seals" = some (.ref (He.ga K "is_count_seals")) := T.glo _ (T.fa _ (List.mem_of_getElem? (i := 1) (by rfl)))
theorem Tx.g_is_amount : mg "is_amount" = some (.ref (He.ga K "is_amount")) := T.glo _ (T.fa _ (List.mem_of_getElem? (i := 2) (by rfl)))
theorem Tx.g_is_name : mg "is_name" = some (.ref (He.ga K "is_name")) := T.glo _ (T.fa _ (List.mem_of_getElem? (i := 3) (by rfl)))
theorem Tx.g_seal_of : mg "seal_of" = some (.ref (He.ga K "seal_of")) := T.glo _ (T.fa _ (List.mem_of_getElem? (i := 4) (by rfl)))
theorem Tx.g_is_side : mg "is_side" = some (.ref (He.ga K "is_side")) := T.glo _ (T.fa _ (List.mem_of_getElem? (i := 5) (by rfl)))
theorem Tx.g_is_lock : mg "is_lock" = some (.ref (He.ga K "is_lock")) := T.glo _ (T.fa _ (List.mem_of_getElem? (i := 6) (by rfl)))
theorem Tx.g_is_state : mg "is_state" = some (.ref (He.ga K "is_state")) := T.glo _ (T.fa _ (List.mem_of_getElem? (i := 7) (by rfl)))
theorem Tx.g_need_state : mg "need_state" = some (.ref (He.ga K "need_state")) := T.glo _ (T.fa _ (List.mem_of_getElem? (i := 8) (by rfl)))
theorem Tx.g_worth : mg "worth" = some (.ref (He.ga K "worth")) := T.glo _ (T.fa _ (List.mem_of_getElem? (i := 9) (by rfl)))
theorem Tx.g_first_state : mg "first_state" = some (.ref (He.ga K "first_state")) := T.glo _ (T.fa _ (List.mem_of_getElem? (i := 10) (by rfl)))
theorem Tx.g_is_count_signs : mg "is_count_signs" = some (.ref (He.ga K "is_count_signs")) := T.glo _ (T.fa _ (List.mem_of_getElem? (i := 11) (by rfl)))
theorem Tx.g_is_opening : mg "is_opening" = some (.ref (He.ga K "is_opening")) := T.glo _ (T.fa _ (List.mem_of_getElem? (i := 12) (by rfl)))
theorem Tx.g_look_name : mg "look_name" = some (.ref (He.ga K "look_name")) := T.glo _ (T.fa _ (List.mem_of_getElem? (i := 13) (by rfl)))
theorem Tx.g_look_paper : mg "look_paper" = some (.ref (He.ga K "look_paper")) := T.glo _ (T.fa _ (List.mem_of_getElem? (i := 14) (by rfl)))
theorem Tx.g_look_purses : mg "look_purses" = some (.ref (He.ga K "look_purses")) := T.glo _ (T.fa _ (List.mem_of_getElem? (i := 15) (by rfl)))
theorem Tx.g_law_well : mg "_law_well" = some (.ref (He.ga K "_law_well")) := T.glo _ (T.fa _ (List.mem_of_getElem? (i := 16) (by rfl)))
theorem Tx.g_law_take : mg "_law_take" = some (.ref (He.ga K "_law_take")) := T.glo _ (T.fa _ (List.mem_of_getElem? (i := 17) (by rfl)))
theorem Tx.g_law_name : mg "_law_name" = some (.ref (He.ga K "_law_name")) := T.glo _ (T.fa _ (List.mem_of_getElem? (i := 18) (by rfl)))
theorem Tx.g_law_folk : mg "_law_folk" = some (.ref (He.ga K "_law_folk")) := T.glo _ (T.fa _ (List.mem_of_getElem? (i := 19) (by rfl)))
theorem Tx.g_law_sum : mg "_law_sum" = some (.ref (He.ga K "_law_sum")) := T.glo _ (T.fa _ (List.mem_of_getElem? (i := 20) (by rfl)))
theorem Tx.g_law_parts : mg "_law_parts" = some (.ref (He.ga K "_law_parts")) := T.glo _ (T.fa _ (List.mem_of_getElem? (i := 21) (by rfl)))
theorem Tx.g_law_locks : mg "_law_locks" = some (.ref (He.ga K "_law_locks")) := T.glo _ (T.fa _ (List.mem_of_getElem? (i := 22) (by rfl)))
theorem Tx.g_law_state : mg "_law_state" = some (.ref (He.ga K "_law_state")) := T.glo _ (T.fa _ (List.mem_of_getElem? (i := 23) (by rfl)))
theorem Tx.g_law_whole : mg "_law_whole" = some (.ref (He.ga K "_law_whole")) := T.glo _ (T.fa _ (List.mem_of_getElem? (i := 24) (by rfl)))
theorem Tx.g_law_bags : mg "_law_bags" = some (.ref (He.ga K "_law_bags")) := T.glo _ (T.fa _ (List.mem_of_getElem? (i := 25) (by rfl)))
theorem Tx.g_law_book : mg "_law_book" = some (.ref (He.ga K "_law_book")) := T.glo _ (T.fa _ (List.mem_of_getElem? (i := 26) (by rfl)))
theorem Tx.g_law_is_coins : mg "_law_is_coins" = some (.ref (He.ga K "_law_is_coins")) := T.glo _ (T.fa _ (List.mem_of_getElem? (i := 27) (by rfl)))
theorem Tx.g_law_open_due : mg "_law_open_due" = some (.ref (He.ga K "_law_open_due")) := T.glo _ (T.fa _ (List.mem_of_getElem? (i := 28) (by rfl)))
theorem Tx.g_law_tell_due : mg "_law_tell_due" = some (.ref (He.ga K "_law_tell_due")) := T.glo _ (T.fa _ (List.mem_of_getElem? (i := 29) (by rfl)))
theorem Tx.g_law_turned : mg "_law_turned" = some (.ref (He.ga K "_law_turned")) := T.glo _ (T.fa _ (List.mem_of_getElem? (i := 30) (by rfl)))
theorem Tx.g_law_done : mg "_law_done" = some (.ref (He.ga K "_law_done")) := T.glo _ (T.fa _ (List.mem_of_getElem? (i := 31) (by rfl)))
theorem Tx.g_law_kind : mg "_law_kind" = some (.ref (He.ga K "_law_kind")) := T.glo _ (T.fa _ (List.mem_of_getElem? (i := 32) (by rfl)))
theorem Tx.g_law_asked : mg "_law_asked" = some (.ref (He.ga K "_law_asked")) := T.glo _ (T.fa _ (List.mem_of_getElem? (i := 33) (by rfl)))
theorem Tx.g_law_same : mg "_law_same" = some (.ref (He.ga K "_law_same")) := T.glo _ (T.fa _ (List.mem_of_getElem? (i := 34) (by rfl)))
theorem Tx.g_law_secrets : mg "_law_secrets" = some (.ref (He.ga K "_law_secrets")) := T.glo _ (T.fa _ (List.mem_of_getElem? (i := 35) (by rfl)))
theorem Tx.g_law_signing : mg "_law_signing" = some (.ref (He.ga K "_law_signing")) := T.glo _ (T.fa _ (List.mem_of_getElem? (i := 36) (by rfl)))
theorem Tx.g_law_opening : mg "_law_opening" = some (.ref (He.ga K "_law_opening")) := T.glo _ (T.fa _ (List.mem_of_getElem? (i := 37) (by rfl)))
theorem Tx.g_law_telling : mg "_law_telling" = some (.ref (He.ga K "_law_telling")) := T.glo _ (T.fa _ (List.mem_of_getElem? (i := 38) (by rfl)))
theorem Tx.g_law_deed : mg "_law_deed" = some (.ref (He.ga K "_law_deed")) := T.glo _ (T.fa _ (List.mem_of_getElem? (i := 39) (by rfl)))
theorem Tx.g_law_all : mg "_law_all" = some (.ref (He.ga K "_law_all")) := T.glo _ (T.fa _ (List.mem_of_getElem? (i := 40) (by rfl)))
theorem Tx.g_law_spoil : mg "_law_spoil" = some (.ref (He.ga K "_law_spoil")) := T.glo _ (T.fa _ (List.mem_of_getElem? (i := 41) (by rfl)))
theorem Tx.g_law : mg "law" = some (.ref (He.ga K "law")) := T.glo _ (T.fa _ (List.mem_of_getElem? (i := 42) (by rfl)))
theorem Tx.g_Signs : mg "Signs" = some (.ref (He.ga K "Signs")) := T.glo _ (T.fa _ (List.mem_of_getElem? (i := 43) (by rfl)))
theorem Tx.g_Lane : mg "Lane" = some (.ref (He.ga K "Lane")) := T.glo _ (T.fa _ (List.mem_of_getElem? (i := 44) (by rfl)))
theorem Tx.g_Court : mg "Court" = some (.ref (He.ga K "Court")) := T.glo _ (T.fa _ (List.mem_of_getElem? (i := 45) (by rfl)))
theorem Tx.g_CoinError : mg "CoinError" = some (.ref (He.ga K "CoinError")) := T.glo _ (T.fa _ (List.mem_of_getElem? (i := 46) (by rfl)))
theorem Tx.g_NoName : mg "NoName" = some (.ref (He.ga K "NoName")) := T.glo _ (T.fa _ (List.mem_of_getElem? (i := 47) (by rfl)))
theorem Tx.g_NoSecret : mg "NoSecret" = some (.ref (He.ga K "NoSecret")) := T.glo _ (T.fa _ (List.mem_of_getElem? (i := 48) (by rfl)))
theorem Tx.g_NoNumber : mg "NoNumber" = some (.ref (He.ga K "NoNumber")) := T.glo _ (T.fa _ (List.mem_of_getElem? (i := 49) (by rfl)))
theorem Tx.g_NoCoins : mg "NoCoins" = some (.ref (He.ga K "NoCoins")) := T.glo _ (T.fa _ (List.mem_of_getElem? (i := 50) (by rfl)))
theorem Tx.g_NoState : mg "NoState" = some (.ref (He.ga K "NoState")) := T.glo _ (T.fa _ (List.mem_of_getElem? (i := 51) (by rfl)))
theorem Tx.g_NoPaper : mg "NoPaper" = some (.ref (He.ga K "NoPaper")) := T.glo _ (T.fa _ (List.mem_of_getElem? (i := 52) (by rfl)))
theorem Tx.g_NoHand : mg "NoHand" = some (.ref (He.ga K "NoHand")) := T.glo _ (T.fa _ (List.mem_of_getElem? (i := 53) (by rfl)))
theorem Tx.g_NoLane : mg "NoLane" = some (.ref (He.ga K "NoLane")) := T.glo _ (T.fa _ (List.mem_of_getElem? (i := 54) (by rfl)))
theorem Tx.g_NotSigned : mg "NotSigned" = some (.ref (He.ga K "NotSigned")) := T.glo _ (T.fa _ (List.mem_of_getElem? (i := 55) (by rfl)))
theorem Tx.g_Settled : mg "Settled" = some (.ref (He.ga K "Settled")) := T.glo _ (T.fa _ (List.mem_of_getElem? (i := 56) (by rfl)))
theorem Tx.g_Old : mg "Old" = some (.ref (He.ga K "Old")) := T.glo _ (T.fa _ (List.mem_of_getElem? (i := 57) (by rfl)))
theorem Tx.b_isinstance : mg "isinstance" = none := T.free _ (T.fa _ (List.mem_of_getElem? (i := 58) (by rfl)))
theorem Tx.b_int : mg "int" = none := T.free _ (T.fa _ (List.mem_of_getElem? (i := 59) (by rfl)))
theorem Tx.b_bool : mg "bool" = none := T.free _ (T.fa _ (List.mem_of_getElem? (i := 60) (by rfl)))
theorem Tx.b_str : mg "str" = none := T.free _ (T.fa _ (List.mem_of_getElem? (i := 61) (by rfl)))
theorem Tx.b_tuple : mg "tuple" = none := T.free _ (T.fa _ (List.mem_of_getElem? (i := 62) (by rfl)))
theorem Tx.b_list : mg "list" = none := T.free _ (T.fa _ (List.mem_of_getElem? (i := 63) (by rfl)))
theorem Tx.b_len : mg "len" = none := T.free _ (T.fa _ (List.mem_of_getElem? (i := 64) (by rfl)))
theorem Tx.b_all : mg "all" = none := T.free _ (T.fa _ (List.mem_of_getElem? (i := 65) (by rfl)))
theorem Tx.b_sum : mg "sum" = none := T.free _ (T.fa _ (List.mem_of_getElem? (i := 66) (by rfl)))
theorem Tx.b_sorted : mg "sorted" = none := T.free _ (T.fa _ (List.mem_of_getElem? (i := 67) (by rfl)))
theorem Tx.b_enumerate : mg "enumerate" = none := T.free _ (T.fa _ (List.mem_of_getElem? (i := 68) (by rfl)))
theorem Tx.b_range : mg "range" = none := T.free _ (T.fa _ (List.mem_of_getElem? (i := 69) (by rfl)))
theorem Tx.b_zip : mg "zip" = none := T.free _ (T.fa _ (List.mem_of_getElem? (i := 70) (by rfl)))
theorem Tx.b_dict : mg "dict" = none := T.free _ (T.fa _ (List.mem_of_getElem? (i := 71) (by rfl)))
theorem Tx.b_set : mg "set" = none := T.free _ (T.fa _ (List.mem_of_getElem? (i := 72) (by rfl)))
theorem Tx.b_max : mg "max" = none := T.free _ (T.fa _ (List.mem_of_getElem? (i := 73) (by rfl)))
theorem Tx.b_min : mg "min" = none := T.free _ (T.fa _ (List.mem_of_getElem? (i := 74) (by rfl)))
theorem Tx.b_abs : mg "abs" = none := T.free _ (T.fa _ (List.mem_of_getElem? (i := 75) (by rfl)))
theorem Tx.b_ValueError : mg "ValueError" = none := T.free _ (T.fa _ (List.mem_of_getElem? (i := 76) (by rfl)))
theorem Tx.i_LONGEST : ∃ t, mg "LONGEST" = some (.int 8 t) := T.int _ _ (T.fa _ (List.mem_of_getElem? (i := 77) (by rfl)))
theorem Tx.i_FIRST_SEAL : ∃ t, mg "FIRST_SEAL" = some (.int 17 t) := T.int _ _ (T.fa _ (List.mem_of_getElem? (i := 78) (by rfl)))
theorem Tx.i_STRETCH : ∃ t, mg "STRETCH" = some (.int 3 t) := T.int _ _ (T.fa _ (List.mem_of_getElem? (i := 79) (by rfl)))
theorem Tx.i_MOST_LOCKS : ∃ t, mg "MOST_LOCKS" = some (.int 30 t) := T.int _ _ (T.fa _ (List.mem_of_getElem? (i := 80) (by rfl)))
theorem Tx.i_MOST_WAIT : ∃ t, mg "MOST_WAIT" = some (.int 100 t) := T.int _ _ (T.fa _ (List.mem_of_getElem? (i := 81) (by rfl)))
theorem Tx.s_LETTERS : ∃ t, mg "LETTERS" = some (.str "abcdefghijklmnopqrstuvwxyz" t) := T.str _ _ (T.fa _ (List.mem_of_getElem? (i := 82) (by rfl)))
theorem Tx.s_LEFT : ∃ t, mg "LEFT" = some (.str "left" t) := T.str _ _ (T.fa _ (List.mem_of_getElem? (i := 83) (by rfl)))
theorem Tx.s_RIGHT : ∃ t, mg "RIGHT" = some (.str "right" t) := T.str _ _ (T.fa _ (List.mem_of_getElem? (i := 84) (by rfl)))
theorem Tx.c_Signs : Cls K (He.ga K "Signs") := He.cls_ok (T.fa _ (List.mem_of_getElem? (i := 85) (by rfl)))
theorem Tx.c_Lane : Cls K (He.ga K "Lane") := He.cls_ok (T.fa _ (List.mem_of_getElem? (i := 86) (by rfl)))
theorem Tx.c_Court : Cls K (He.ga K "Court") := He.cls_ok (T.fa _ (List.mem_of_getElem? (i := 87) (by rfl)))
theorem Tx.n_Signs_by_hand : NoAttr K (He.ga K "Signs") "by_hand" := He.noat_ok (T.fa _ (List.mem_of_getElem? (i := 88) (by rfl)))
theorem Tx.n_Lane_both : NoAttr K (He.ga K "Lane") "both" := He.noat_ok (T.fa _ (List.mem_of_getElem? (i := 89) (by rfl)))
theorem Tx.n_Lane_first : NoAttr K (He.ga K "Lane") "first" := He.noat_ok (T.fa _ (List.mem_of_getElem? (i := 90) (by rfl)))
theorem Tx.n_Lane_standing : NoAttr K (He.ga K "Lane") "standing" := He.noat_ok (T.fa _ (List.mem_of_getElem? (i := 91) (by rfl)))
theorem Tx.n_Lane_mood : NoAttr K (He.ga K "Lane") "mood" := He.noat_ok (T.fa _ (List.mem_of_getElem? (i := 92) (by rfl)))
theorem Tx.n_Lane_ending : NoAttr K (He.ga K "Lane") "ending" := He.noat_ok (T.fa _ (List.mem_of_getElem? (i := 93) (by rfl)))
theorem Tx.n_Court_book : NoAttr K (He.ga K "Court") "book" := He.noat_ok (T.fa _ (List.mem_of_getElem? (i := 94) (by rfl)))
theorem Tx.n_Court_long : NoAttr K (He.ga K "Court") "long" := He.noat_ok (T.fa _ (List.mem_of_getElem? (i := 95) (by rfl)))
theorem Tx.n_Court_clock : NoAttr K (He.ga K "Court") "clock" := He.noat_ok (T.fa _ (List.mem_of_getElem? (i := 96) (by rfl)))
theorem Tx.n_Court_bags : NoAttr K (He.ga K "Court") "bags" := He.noat_ok (T.fa _ (List.mem_of_getElem? (i := 97) (by rfl)))
theorem Tx.n_Court_opened : NoAttr K (He.ga K "Court") "opened" := He.noat_ok (T.fa _ (List.mem_of_getElem? (i := 98) (by rfl)))
theorem Tx.n_Court_seen : NoAttr K (He.ga K "Court") "seen" := He.noat_ok (T.fa _ (List.mem_of_getElem? (i := 99) (by rfl)))
theorem Tx.n_Court_kept : NoAttr K (He.ga K "Court") "kept" := He.noat_ok (T.fa _ (List.mem_of_getElem? (i := 100) (by rfl)))
theorem Tx.n_Court_deeds : NoAttr K (He.ga K "Court") "deeds" := He.noat_ok (T.fa _ (List.mem_of_getElem? (i := 101) (by rfl)))
theorem Tx.m_Signs_sign : Meth K (He.ga K "Signs") "sign" (He.ma K (He.ga K "Signs") "sign") := He.meth_ok (T.fa _ (List.mem_of_getElem? (i := 102) (by rfl)))
theorem Tx.m_Signs_signed : Meth K (He.ga K "Signs") "signed" (He.ma K (He.ga K "Signs") "signed") := He.meth_ok (T.fa _ (List.mem_of_getElem? (i := 103) (by rfl)))
theorem Tx.m_Signs_papers : Meth K (He.ga K "Signs") "papers" (He.ma K (He.ga K "Signs") "papers") := He.meth_ok (T.fa _ (List.mem_of_getElem? (i := 104) (by rfl)))
theorem Tx.m_Lane_gets : Meth K (He.ga K "Lane") "gets" (He.ma K (He.ga K "Lane") "gets") := He.meth_ok (T.fa _ (List.mem_of_getElem? (i := 105) (by rfl)))
theorem Tx.m_Court_lane : Meth K (He.ga K "Court") "lane" (He.ma K (He.ga K "Court") "lane") := He.meth_ok (T.fa _ (List.mem_of_getElem? (i := 106) (by rfl)))
theorem Tx.m_Court_look_coins : Meth K (He.ga K "Court") "look_coins" (He.ma K (He.ga K "Court") "look_coins") := He.meth_ok (T.fa _ (List.mem_of_getElem? (i := 107) (by rfl)))
theorem Tx.m_Court_road : Meth K (He.ga K "Court") "road" (He.ma K (He.ga K "Court") "road") := He.meth_ok (T.fa _ (List.mem_of_getElem? (i := 108) (by rfl)))
theorem Tx.m_Court_tell : Meth K (He.ga K "Court") "tell" (He.ma K (He.ga K "Court") "tell") := He.meth_ok (T.fa _ (List.mem_of_getElem? (i := 109) (by rfl)))
theorem Tx.m_Court_show : Meth K (He.ga K "Court") "show" (He.ma K (He.ga K "Court") "show") := He.meth_ok (T.fa _ (List.mem_of_getElem? (i := 110) (by rfl)))
theorem Tx.m_Court_settled_now : Meth K (He.ga K "Court") "settled_now" (He.ma K (He.ga K "Court") "settled_now") := He.meth_ok (T.fa _ (List.mem_of_getElem? (i := 111) (by rfl)))
theorem Tx.m_Court_decided_now : Meth K (He.ga K "Court") "decided_now" (He.ma K (He.ga K "Court") "decided_now") := He.meth_ok (T.fa _ (List.mem_of_getElem? (i := 112) (by rfl)))
theorem Tx.m_Court_turn : Meth K (He.ga K "Court") "turn" (He.ma K (He.ga K "Court") "turn") := He.meth_ok (T.fa _ (List.mem_of_getElem? (i := 113) (by rfl)))
theorem Tx.m_Court_now : Meth K (He.ga K "Court") "now" (He.ma K (He.ga K "Court") "now") := He.meth_ok (T.fa _ (List.mem_of_getElem? (i := 114) (by rfl)))
theorem Tx.m_Court_patience : Meth K (He.ga K "Court") "patience" (He.ma K (He.ga K "Court") "patience") := He.meth_ok (T.fa _ (List.mem_of_getElem? (i := 115) (by rfl)))
theorem Tx.m_Court_purse : Meth K (He.ga K "Court") "purse" (He.ma K (He.ga K "Court") "purse") := He.meth_ok (T.fa _ (List.mem_of_getElem? (i := 116) (by rfl)))
theorem Tx.m_Court_hands : Meth K (He.ga K "Court") "hands" (He.ma K (He.ga K "Court") "hands") := He.meth_ok (T.fa _ (List.mem_of_getElem? (i := 117) (by rfl)))
theorem Tx.m_Court_lanes : Meth K (He.ga K "Court") "lanes" (He.ma K (He.ga K "Court") "lanes") := He.meth_ok (T.fa _ (List.mem_of_getElem? (i := 118) (by rfl)))
theorem Tx.m_Court_stand : Meth K (He.ga K "Court") "stand" (He.ma K (He.ga K "Court") "stand") := He.meth_ok (T.fa _ (List.mem_of_getElem? (i := 119) (by rfl)))
theorem Tx.m_Court_seen_of : Meth K (He.ga K "Court") "seen_of" (He.ma K (He.ga K "Court") "seen_of") := He.meth_ok (T.fa _ (List.mem_of_getElem? (i := 120) (by rfl)))
theorem Tx.m_Court_shown : Meth K (He.ga K "Court") "shown" (He.ma K (He.ga K "Court") "shown") := He.meth_ok (T.fa _ (List.mem_of_getElem? (i := 121) (by rfl)))
theorem Tx.m_Court_secret : Meth K (He.ga K "Court") "secret" (He.ma K (He.ga K "Court") "secret") := He.meth_ok (T.fa _ (List.mem_of_getElem? (i := 122) (by rfl)))
theorem Tx.m_Court_held : Meth K (He.ga K "Court") "held" (He.ma K (He.ga K "Court") "held") := He.meth_ok (T.fa _ (List.mem_of_getElem? (i := 123) (by rfl)))
theorem Tx.m_Court_coins : Meth K (He.ga K "Court") "coins" (He.ma K (He.ga K "Court") "coins") := He.meth_ok (T.fa _ (List.mem_of_getElem? (i := 124) (by rfl)))
theorem Tx.m_Court_rows : Meth K (He.ga K "Court") "rows" (He.ma K (He.ga K "Court") "rows") := He.meth_ok (T.fa _ (List.mem_of_getElem? (i := 125) (by rfl)))
theorem Tx.k_Signs : Mk K (He.ga K "Signs") (He.ma K (He.ga K "Signs") "__init__") := He.mkr_ok (T.fa _ (List.mem_of_getElem? (i := 126) (by rfl)))
theorem Tx.k_Lane : Mk K (He.ga K "Lane") (He.ma K (He.ga K "Lane") "__init__") := He.mkr_ok (T.fa _ (List.mem_of_getElem? (i := 127) (by rfl)))
theorem Tx.k_Court : Mk K (He.ga K "Court") (He.ma K (He.ga K "Court") "__init__") := He.mkr_ok (T.fa _ (List.mem_of_getElem? (i := 128) (by rfl)))
theorem Tx.x_NoHand : PySem.W.excIn K (He.ga K "NoHand") He.veBase "ValueError.__new__" = true ∧ PySem.W.keepIn K (.ref (He.ga K "NoHand")) = true ∧ PySem.W.subIn K (.ref (He.ga K "NoHand")) (.type "BaseException") = some true ∧ PySem.W.typeIn K (.ref (He.ga K "NoHand")) = some (.type "type") := He.exc_ok (T.fa _ (List.mem_of_getElem? (i := 129) (by rfl)))
theorem Tx.x_NoCoins : PySem.W.excIn K (He.ga K "NoCoins") He.veBase "ValueError.__new__" = true ∧ PySem.W.keepIn K (.ref (He.ga K "NoCoins")) = true ∧ PySem.W.subIn K (.ref (He.ga K "NoCoins")) (.type "BaseException") = some true ∧ PySem.W.typeIn K (.ref (He.ga K "NoCoins")) = some (.type "type") := He.exc_ok (T.fa _ (List.mem_of_getElem? (i := 130) (by rfl)))
theorem Tx.x_NotSigned : PySem.W.excIn K (He.ga K "NotSigned") He.veBase "ValueError.__new__" = true ∧ PySem.W.keepIn K (.ref (He.ga K "NotSigned")) = true ∧ PySem.W.subIn K (.ref (He.ga K "NotSigned")) (.type "BaseException") = some true ∧ PySem.W.typeIn K (.ref (He.ga K "NotSigned")) = some (.type "type") := He.exc_ok (T.fa _ (List.mem_of_getElem? (i := 131) (by rfl)))
theorem Tx.x_NoLane : PySem.W.excIn K (He.ga K "NoLane") He.veBase "ValueError.__new__" = true ∧ PySem.W.keepIn K (.ref (He.ga K "NoLane")) = true ∧ PySem.W.subIn K (.ref (He.ga K "NoLane")) (.type "BaseException") = some true ∧ PySem.W.typeIn K (.ref (He.ga K "NoLane")) = some (.type "type") := He.exc_ok (T.fa _ (List.mem_of_getElem? (i := 132) (by rfl)))
theorem Tx.x_Settled : PySem.W.excIn K (He.ga K "Settled") He.veBase "ValueError.__new__" = true ∧ PySem.W.keepIn K (.ref (He.ga K "Settled")) = true ∧ PySem.W.subIn K (.ref (He.ga K "Settled")) (.type "BaseException") = some true ∧ PySem.W.typeIn K (.ref (He.ga K "Settled")) = some (.type "type") := He.exc_ok (T.fa _ (List.mem_of_getElem? (i := 133) (by rfl)))
theorem Tx.x_Old : PySem.W.excIn K (He.ga K "Old") He.veBase "ValueError.__new__" = true ∧ PySem.W.keepIn K (.ref (He.ga K "Old")) = true ∧ PySem.W.subIn K (.ref (He.ga K "Old")) (.type "BaseException") = some true ∧ PySem.W.typeIn K (.ref (He.ga K "Old")) = some (.type "type") := He.exc_ok (T.fa _ (List.mem_of_getElem? (i := 134) (by rfl)))
theorem Tx.e_NoHand : PySem.W.exmOne K (.ref (He.ga K "NoHand")) (.ref (He.ga K "CoinError")) = some true := He.exm_ok (T.fa _ (List.mem_of_getElem? (i := 135) (by rfl)))
theorem Tx.e_NoCoins : PySem.W.exmOne K (.ref (He.ga K "NoCoins")) (.ref (He.ga K "CoinError")) = some true := He.exm_ok (T.fa _ (List.mem_of_getElem? (i := 136) (by rfl)))
theorem Tx.e_NotSigned : PySem.W.exmOne K (.ref (He.ga K "NotSigned")) (.ref (He.ga K "CoinError")) = some true := He.exm_ok (T.fa _ (List.mem_of_getElem? (i := 137) (by rfl)))
theorem Tx.e_NoLane : PySem.W.exmOne K (.ref (He.ga K "NoLane")) (.ref (He.ga K "CoinError")) = some true := He.exm_ok (T.fa _ (List.mem_of_getElem? (i := 138) (by rfl)))
theorem Tx.e_Settled : PySem.W.exmOne K (.ref (He.ga K "Settled")) (.ref (He.ga K "CoinError")) = some true := He.exm_ok (T.fa _ (List.mem_of_getElem? (i := 139) (by rfl)))
theorem Tx.e_Old : PySem.W.exmOne K (.ref (He.ga K "Old")) (.ref (He.ga K "CoinError")) = some true := He.exm_ok (T.fa _ (List.mem_of_getElem? (i := 140) (by rfl)))
theorem Tx.f_is_whole : ∃ fd, FnD K d_is_whole fd := T.fn _ (List.mem_of_getElem? (i := 0) (by rfl))
theorem Tx.f_is_count_seals : ∃ fd, FnD K d_is_count_seals fd := T.fn _ (List.mem_of_getElem? (i := 1) (by rfl))
theorem Tx.f_is_amount : ∃ fd, FnD K d_is_amount fd := T.fn _ (List.mem_of_getElem? (i := 2) (by rfl))
theorem Tx.f_is_name : ∃ fd, FnD K d_is_name fd := T.fn _ (List.mem_of_getElem? (i := 3) (by rfl))
theorem Tx.f_seal_of : ∃ fd, FnD K d_seal_of fd := T.fn _ (List.mem_of_getElem? (i := 4) (by rfl))
theorem Tx.f_is_side : ∃ fd, FnD K d_is_side fd := T.fn _ (List.mem_of_getElem? (i := 5) (by rfl))
theorem Tx.f_is_lock : ∃ fd, FnD K d_is_lock fd := T.fn _ (List.mem_of_getElem? (i := 6) (by rfl))
theorem Tx.f_is_state : ∃ fd, FnD K d_is_state fd := T.fn _ (List.mem_of_getElem? (i := 7) (by rfl))
theorem Tx.f_need_state : ∃ fd, FnD K d_need_state fd := T.fn _ (List.mem_of_getElem? (i := 8) (by rfl))
theorem Tx.f_worth : ∃ fd, FnD K d_worth fd := T.fn _ (List.mem_of_getElem? (i := 9) (by rfl))
theorem Tx.f_first_state : ∃ fd, FnD K d_first_state fd := T.fn _ (List.mem_of_getElem? (i := 10) (by rfl))
theorem Tx.f_is_count_signs : ∃ fd, FnD K d_is_count_signs fd := T.fn _ (List.mem_of_getElem? (i := 11) (by rfl))
theorem Tx.f_is_opening : ∃ fd, FnD K d_is_opening fd := T.fn _ (List.mem_of_getElem? (i := 12) (by rfl))
theorem Tx.f_look_name : ∃ fd, FnD K d_look_name fd := T.fn _ (List.mem_of_getElem? (i := 13) (by rfl))
theorem Tx.f_look_paper : ∃ fd, FnD K d_look_paper fd := T.fn _ (List.mem_of_getElem? (i := 14) (by rfl))
theorem Tx.f_Signs_init : ∃ fd, FnD K d_Signs_init fd := T.fn _ (List.mem_of_getElem? (i := 15) (by rfl))
theorem Tx.f_Signs_sign : ∃ fd, FnD K d_Signs_sign fd := T.fn _ (List.mem_of_getElem? (i := 16) (by rfl))
theorem Tx.f_Signs_signed : ∃ fd, FnD K d_Signs_signed fd := T.fn _ (List.mem_of_getElem? (i := 17) (by rfl))
theorem Tx.f_Signs_papers : ∃ fd, FnD K d_Signs_papers fd := T.fn _ (List.mem_of_getElem? (i := 18) (by rfl))
theorem Tx.f_look_purses : ∃ fd, FnD K d_look_purses fd := T.fn _ (List.mem_of_getElem? (i := 19) (by rfl))
theorem Tx.f_Lane_init : ∃ fd, FnD K d_Lane_init fd := T.fn _ (List.mem_of_getElem? (i := 20) (by rfl))
theorem Tx.f_Lane_gets : ∃ fd, FnD K d_Lane_gets fd := T.fn _ (List.mem_of_getElem? (i := 21) (by rfl))
theorem Tx.f_Court_init : ∃ fd, FnD K d_Court_init fd := T.fn _ (List.mem_of_getElem? (i := 22) (by rfl))
theorem Tx.f_Court_lane : ∃ fd, FnD K d_Court_lane fd := T.fn _ (List.mem_of_getElem? (i := 23) (by rfl))
theorem Tx.f_Court_look_coins : ∃ fd, FnD K d_Court_look_coins fd := T.fn _ (List.mem_of_getElem? (i := 24) (by rfl))
theorem Tx.f_Court_road : ∃ fd, FnD K d_Court_road fd := T.fn _ (List.mem_of_getElem? (i := 25) (by rfl))
theorem Tx.f_Court_tell : ∃ fd, FnD K d_Court_tell fd := T.fn _ (List.mem_of_getElem? (i := 26) (by rfl))
theorem Tx.f_Court_show : ∃ fd, FnD K d_Court_show fd := T.fn _ (List.mem_of_getElem? (i := 27) (by rfl))
theorem Tx.f_Court_settled_now : ∃ fd, FnD K d_Court_settled_now fd := T.fn _ (List.mem_of_getElem? (i := 28) (by rfl))
theorem Tx.f_Court_decided_now : ∃ fd, FnD K d_Court_decided_now fd := T.fn _ (List.mem_of_getElem? (i := 29) (by rfl))
theorem Tx.f_Court_turn : ∃ fd, FnD K d_Court_turn fd := T.fn _ (List.mem_of_getElem? (i := 30) (by rfl))
theorem Tx.f_Court_now : ∃ fd, FnD K d_Court_now fd := T.fn _ (List.mem_of_getElem? (i := 31) (by rfl))
theorem Tx.f_Court_patience : ∃ fd, FnD K d_Court_patience fd := T.fn _ (List.mem_of_getElem? (i := 32) (by rfl))
theorem Tx.f_Court_purse : ∃ fd, FnD K d_Court_purse fd := T.fn _ (List.mem_of_getElem? (i := 33) (by rfl))
theorem Tx.f_Court_hands : ∃ fd, FnD K d_Court_hands fd := T.fn _ (List.mem_of_getElem? (i := 34) (by rfl))
theorem Tx.f_Court_lanes : ∃ fd, FnD K d_Court_lanes fd := T.fn _ (List.mem_of_getElem? (i := 35) (by rfl))
theorem Tx.f_Court_stand : ∃ fd, FnD K d_Court_stand fd := T.fn _ (List.mem_of_getElem? (i := 36) (by rfl))
theorem Tx.f_Court_seen_of : ∃ fd, FnD K d_Court_seen_of fd := T.fn _ (List.mem_of_getElem? (i := 37) (by rfl))
theorem Tx.f_Court_shown : ∃ fd, FnD K d_Court_shown fd := T.fn _ (List.mem_of_getElem? (i := 38) (by rfl))
theorem Tx.f_Court_secret : ∃ fd, FnD K d_Court_secret fd := T.fn _ (List.mem_of_getElem? (i := 39) (by rfl))
theorem Tx.f_Court_held : ∃ fd, FnD K d_Court_held fd := T.fn _ (List.mem_of_getElem? (i := 40) (by rfl))
theorem Tx.f_Court_coins : ∃ fd, FnD K d_Court_coins fd := T.fn _ (List.mem_of_getElem? (i := 41) (by rfl))
theorem Tx.f_Court_rows : ∃ fd, FnD K d_Court_rows fd := T.fn _ (List.mem_of_getElem? (i := 42) (by rfl))
theorem Tx.f_law_well : ∃ fd, FnD K d_law_well fd := T.fn _ (List.mem_of_getElem? (i := 43) (by rfl))
theorem Tx.f_law_take : ∃ fd, FnD K d_law_take fd := T.fn _ (List.mem_of_getElem? (i := 44) (by rfl))
theorem Tx.f_law_name : ∃ fd, FnD K d_law_name fd := T.fn _ (List.mem_of_getElem? (i := 45) (by rfl))
theorem Tx.f_law_folk : ∃ fd, FnD K d_law_folk fd := T.fn _ (List.mem_of_getElem? (i := 46) (by rfl))
theorem Tx.f_law_sum : ∃ fd, FnD K d_law_sum fd := T.fn _ (List.mem_of_getElem? (i := 47) (by rfl))
theorem Tx.f_law_parts : ∃ fd, FnD K d_law_parts fd := T.fn _ (List.mem_of_getElem? (i := 48) (by rfl))
theorem Tx.f_law_locks : ∃ fd, FnD K d_law_locks fd := T.fn _ (List.mem_of_getElem? (i := 49) (by rfl))
theorem Tx.f_law_state : ∃ fd, FnD K d_law_state fd := T.fn _ (List.mem_of_getElem? (i := 50) (by rfl))
theorem Tx.f_law_whole : ∃ fd, FnD K d_law_whole fd := T.fn _ (List.mem_of_getElem? (i := 51) (by rfl))
theorem Tx.f_law_bags : ∃ fd, FnD K d_law_bags fd := T.fn _ (List.mem_of_getElem? (i := 52) (by rfl))
theorem Tx.f_law_book : ∃ fd, FnD K d_law_book fd := T.fn _ (List.mem_of_getElem? (i := 53) (by rfl))
theorem Tx.f_law_is_coins : ∃ fd, FnD K d_law_is_coins fd := T.fn _ (List.mem_of_getElem? (i := 54) (by rfl))
theorem Tx.f_law_open_due : ∃ fd, FnD K d_law_open_due fd := T.fn _ (List.mem_of_getElem? (i := 55) (by rfl))
theorem Tx.f_law_tell_due : ∃ fd, FnD K d_law_tell_due fd := T.fn _ (List.mem_of_getElem? (i := 56) (by rfl))
theorem Tx.f_law_turned : ∃ fd, FnD K d_law_turned fd := T.fn _ (List.mem_of_getElem? (i := 57) (by rfl))
theorem Tx.f_law_done : ∃ fd, FnD K d_law_done fd := T.fn _ (List.mem_of_getElem? (i := 58) (by rfl))
theorem Tx.f_law_kind : ∃ fd, FnD K d_law_kind fd := T.fn _ (List.mem_of_getElem? (i := 59) (by rfl))
theorem Tx.f_law_asked : ∃ fd, FnD K d_law_asked fd := T.fn _ (List.mem_of_getElem? (i := 60) (by rfl))
theorem Tx.f_law_same : ∃ fd, FnD K d_law_same fd := T.fn _ (List.mem_of_getElem? (i := 61) (by rfl))
theorem Tx.f_law_secrets : ∃ fd, FnD K d_law_secrets fd := T.fn _ (List.mem_of_getElem? (i := 62) (by rfl))
theorem Tx.f_law_signing : ∃ fd, FnD K d_law_signing fd := T.fn _ (List.mem_of_getElem? (i := 63) (by rfl))
theorem Tx.f_law_opening : ∃ fd, FnD K d_law_opening fd := T.fn _ (List.mem_of_getElem? (i := 64) (by rfl))
theorem Tx.f_law_telling : ∃ fd, FnD K d_law_telling fd := T.fn _ (List.mem_of_getElem? (i := 65) (by rfl))
theorem Tx.f_law_deed : ∃ fd, FnD K d_law_deed fd := T.fn _ (List.mem_of_getElem? (i := 66) (by rfl))
theorem Tx.f_law_all : ∃ fd, FnD K d_law_all fd := T.fn _ (List.mem_of_getElem? (i := 67) (by rfl))
theorem Tx.f_law_spoil : ∃ fd, FnD K d_law_spoil fd := T.fn _ (List.mem_of_getElem? (i := 68) (by rfl))
theorem Tx.f_law : ∃ fd, FnD K d_law fd := T.fn _ (List.mem_of_getElem? (i := 69) (by rfl))
end
end Cn
namespace Cn
open PySem PySem.Spec PyProof.Rows L2
theorem run (w : World) : HandSHeadRun.RunEq R (PySem.W.view R.prog [74]) hk ob 30000 (lo0 ++ lo1 ++ lo2 ++ lo3) w := by
  intro os
  kernel_rfl
end Cn
namespace Cn
open PySem PySem.Spec PyProof.Rows L2
/-- a def that keeps its promise, as its callers take it -/
def DefOk (P : Program) (w : World) (K : PySem.W.Frag) (mg : Str → Option Value) (base : Heap) (CX : CXT) (k : Nat) (f : Addr) (ps : List Str) (sp : Sp) : Prop :=
  ∃ fd, FnOk P w K mg base CX k f fd ps sp ∧ Binds K fd ps [] ∧ PySem.W.keepIn K (.ref f) = true
section
variable {P : Program} {w : World} {K : PySem.W.Frag} {mg : Str → Option Value} {base : Heap}
theorem mk0 {d : He.DefD} {N ps : List Str} {k : Nat} {sp : Sp} (hF : ∃ fd, FnD K d fd) (h0 : d.dfl = [])
    (hb : ∀ (kV doc pm : Value) (an : Option Addr) (cdv ct : Value) (us : List Value), us.length = ps.length → bindArgs (PySem.W.fnOf d.name d.qual d.params d.body d.scope .none kV doc pm an cdv ct) ⟨us, []⟩ = pure (ps.zip us))
    (S : FnScope N ps d.scope) (len : ∀ vs H Q E, sp vs H Q E → vs.length = ps.length)
    (hbody : ∀ (cdv : Value) (A : Around) (outer : List Env) (s : Shared) (H : Hp) (vs : List V) (Q : VK) (E : XK), Room k (A.deeper (envOfC d.qual d.scope s.heap.objs.size (He.fAd K d.at_) cdv)) → sp vs H Q E →
      ∃ t, PSs (cxOf CX0 P w K mg base N d.qual d.scope (He.fAd K d.at_) cdv A outer s H E).nox d.body t ∧ t { nx := fun _ H' => Q .non H', rt := Q } (start N vs) H) : DefOk P w K mg base CX0 (k + 1) (He.fAd K d.at_) ps sp := by
  obtain ⟨fd, F⟩ := hF
  have e : d.dvs K = [] := by unfold He.DefD.dvs; rw [h0]; rfl
  have F' : FunD K d.name d.qual d.params d.body d.scope [] (d.kws K) (He.fAd K d.at_) fd := e ▸ F
  refine ⟨fd, F.ok S len fun cdv A outer s H vs Q E hr h => ?_, F'.bindsN hb, F.kp⟩
  obtain ⟨t, h1, h2⟩ := hbody cdv A outer s H vs Q E hr h
  exact ⟨t, h1.nox, h2⟩
theorem mkX {d : He.DefD} {N ps : List Str} {k : Nat} {sp : Sp} (hF : ∃ fd, FnD K d fd) (h0 : d.dfl = [])
    (hb : ∀ (kV doc pm : Value) (an : Option Addr) (cdv ct : Value) (us : List Value), us.length = ps.length → bindArgs (PySem.W.fnOf d.name d.qual d.params d.body d.scope .none kV doc pm an cdv ct) ⟨us, []⟩ = pure (ps.zip us))
    (S : FnScope N ps d.scope) (len : ∀ vs H Q E, sp vs H Q E → vs.length = ps.length)
    (hbody : ∀ (cdv : Value) (A : Around) (outer : List Env) (s : Shared) (H : Hp) (vs : List V) (Q : VK) (E : XK), Room k (A.deeper (envOfC d.qual d.scope s.heap.objs.size (He.fAd K d.at_) cdv)) → sp vs H Q E →
      ∃ t, PSs (cxOf (L2.CX P w) P w K mg base N d.qual d.scope (He.fAd K d.at_) cdv A outer s H E) d.body t ∧ t { nx := fun _ H' => Q .non H', rt := Q } (start N vs) H) : DefOk P w K mg base (L2.CX P w) (k + 1) (He.fAd K d.at_) ps sp := by
  obtain ⟨fd, F⟩ := hF
  have e : d.dvs K = [] := by unfold He.DefD.dvs; rw [h0]; rfl
  have F' : FunD K d.name d.qual d.params d.body d.scope [] (d.kws K) (He.fAd K d.at_) fd := e ▸ F
  exact ⟨fd, F.ok S len hbody, F'.bindsN hb, F.kp⟩
end
/-! ### calls -/
section
variable {X : Cx} {k j : Nat} {f C : Addr} {ps : List Str} {sp : Sp} {x m : Str} {p pos apos : Pos} {e o : Expr} {es : List Expr} {ta : TE} {t : TA}
theorem cD (D : DefOk X.prog X.w X.K X.mg X.base CX0 k f ps sp) (hm : X.mg x = some (.ref f)) (hr : Room j X.A) (ha : PA X (e :: es) t) (hk : k ≤ j := by decide) (hg : Gl X x := by rfl)
    (hdb : (x == ("__debug__" : Str)) = false := by decide) (he : starEach (e :: es) X.env = (false, eval e X.env) :: starEach es X.env := by rfl) (hpl : (backTo pos (starEach es X.env)).any (·.1) = false := by rfl) :
    PE X (.Call (.Name x p) (e :: es) [] pos) (tCall sp [] E0 t) := by
  obtain ⟨fd, F, b, kp⟩ := D
  exact pe_call F (hr.mono hk) hg hm kp b .nil pass0 ha hdb he hpl
end
end Cn
namespace Cn
open PySem PySem.Spec PyProof.Rows L2
/-! ### data: locks, states -/
structure LK where
  id : Int
  gv : Str
  am : Int
  se : Int
  la : Int
structure ST where
  ln : Int
  nu : Int
  l : Int
  r : Int
  lks : List LK
def LK.vs (k : LK) : List V := [.int k.id, .str k.gv, .int k.am, .int k.se, .int k.la]
def LK.ok (k : LK) : Prop := 1 ≤ k.id ∧ (k.gv = "left" ∨ k.gv = "right") ∧ 1 ≤ k.am ∧ 0 ≤ k.se ∧ 0 ≤ k.la
structure ST.ok (s : ST) : Prop where
  ln : 0 ≤ s.ln
  nu : 0 ≤ s.nu
  l : 0 ≤ s.l
  r : 0 ≤ s.r
  len : s.lks.length ≤ 30
  lk : ∀ k ∈ s.lks, k.ok
  up : (s.lks.map LK.id).Pairwise (· < ·)
  top : ∀ k ∈ s.lks, k.id ≤ s.nu
/-- a lock stands as a tuple -/
def IsLK (K : PySem.W.Frag) (H : Hp) (v : V) (k : LK) : Prop := ∃ a, v = .ref a ∧ SqT K H a k.vs
/-- a state stands as a tuple -/
def IsST (K : PySem.W.Frag) (H : Hp) (v : V) (s : ST) : Prop := ∃ a b xs, v = .ref a ∧ SqT K H a [.int s.ln, .int s.nu, .int s.l, .int s.r, .ref b] ∧ SqT K H b xs ∧ Paired (IsLK K H) xs s.lks
theorem sqt_ty {K : PySem.W.Frag} {H : Hp} {a : Addr} {xs : List V} (h : SqT K H a xs) : TyX K H (.ref a) (.type "tuple") := by
  rcases h with (h | ⟨o, h⟩) | h
  · exact .base (.tup h)
  · exact .fTuple h
  · obtain ⟨o, its, n, e, c, _⟩ := h
    exact .kTuple e c
/-! ### what is said of ints and texts -/
def NameOk (z : Str) : Prop := 1 ≤ z.length ∧ z.length ≤ 8 ∧ ∀ c ∈ z.cps.toList, c ∈ ("abcdefghijklmnopqrstuvwxyz" : Str).cps.toList
def spWhole : Sp := fun vs H Q _ => ∃ i : Int, vs = [.int i] ∧ Q (.bl true) H
def spCount : Sp := fun vs H Q _ => ∃ i : Int, vs = [.int i] ∧ Q (.bl (decide (0 ≤ i))) H
def spAmount : Sp := fun vs H Q _ => ∃ i : Int, vs = [.int i] ∧ Q (.bl (decide (1 ≤ i))) H
def spName : Sp := fun vs H Q _ => ∃ z : Str, vs = [.str z] ∧ NameOk z ∧ ∀ H', Same H H' → Q (.bl true) H'
section
variable {P : Program} {w : World} {K : PySem.W.Frag} {mg : Str → Option Value} {base : Heap}
theorem sc_is_whole : FnScope ["thing"] ["thing"] (defScope s_is_whole) := ⟨rfl, rfl, rfl, by decide +kernel, rfl, by decide +kernel, by decide +kernel⟩
theorem ok_is_whole (T : Tx K mg) : DefOk P w K mg base CX0 1 (He.ga K "is_whole") ["thing"] spWhole := by
  refine mk0 (d := d_is_whole) T.f_is_whole rfl (fun _ _ _ _ _ _ us hl => match us, hl with | [_], _ => rfl) sc_is_whole (fun vs H Q E h => ?_) (fun cdv A outer s H vs Q E hr h => ?_)
  · obtain ⟨i, rfl, _⟩ := h
    rfl
  · obtain ⟨i, rfl, h⟩ := h
    refine ⟨_, pss_one (ps_ret (pe_and (pe_callB call_isi (by rfl) T.b_isinstance boot_isinstance (pa_cons (pv 0) (pa_cons (pe_bltn (v := .ty "int") (by rfl) T.b_int PyProof.Rows.boot_int rfl) pa_nil)))
      (pe_one (pe_not (pe_callB call_isi (by rfl) T.b_isinstance boot_isinstance (pa_cons (pv 0) (pa_cons (pe_bltn (v := .ty "bool") (by rfl) T.b_bool PyProof.Rows.boot_bool rfl) pa_nil))))))), ?_⟩
    refine ⟨_, rfl, _, _, _, _, true, rfl, .ty _, .base (.int _), kit_ty (by decide +kernel), true, rfl, iteT ?_⟩
    refine ⟨_, rfl, _, _, _, _, false, rfl, .ty _, .base (.int _), kit_ty (by decide +kernel), false, rfl, ?_⟩
    exact h
theorem sc_is_count_seals : FnScope ["thing"] ["thing"] (defScope s_is_count_seals) := ⟨rfl, rfl, rfl, by decide +kernel, rfl, by decide +kernel, by decide +kernel⟩
theorem ok_is_count_seals (T : Tx K mg) : DefOk P w K mg base CX0 2 (He.ga K "is_count_seals") ["thing"] spCount := by
  refine mk0 (d := d_is_count_seals) T.f_is_count_seals rfl (fun _ _ _ _ _ _ us hl => match us, hl with | [_], _ => rfl) sc_is_count_seals (fun vs H Q E h => ?_) (fun cdv A outer s H vs Q E hr h => ?_)
  · obtain ⟨i, rfl, _⟩ := h
    rfl
  · obtain ⟨i, rfl, h⟩ := h
    refine ⟨_, pss_one (ps_ret (pe_and (cD (ok_is_whole T) T.g_is_whole hr (pa_cons (pv 0) pa_nil)) (pe_one (pe_cmpR op_ge (pv 0) pe_int (nomark _))))), ?_⟩
    exact ⟨_, rfl, _, rfl, true, rfl, iteT ⟨_, rfl, _, _, rfl, rfl, h⟩⟩
end
end Cn
namespace Cn
open PySem PySem.Spec PyProof.Rows L2
/-! ### a, .., *b, .., c = t (t a tuple) -/
theorem walks_from {prog : Program} {w : World} {A : Around} (hh : A.handled = none) (I ax : Addr) (hne : ax ≠ I) (items : Array Value) (i : Nat) (hi : i ≤ items.size) :
    Walks prog w A I [I, ax] [I] (items.size - i) (fun j v => items[i + j]? = some v) (fun j h => h.IsTupleIter I ax (i + j) ∧ h.IsTuple ax items) := by
  have W := Walks.tuple (prog := prog) (w := w) hh I ax hne items
  refine ⟨W.sub, fun j h h' st hk => W.frame (i + j) h h' st hk, fun j s Q E hj st hQ => ?_, fun s Q E st hQ => ?_, fun j s Q E st hQ => W.self (i + j) s Q E st hQ⟩
  · exact W.item (i + j) s Q E (by omega) st fun v h' tk p st' k => hQ v h' tk p st' k
  · have e : i + (items.size - i) = items.size := by omega
    rw [e] at st
    exact W.done s Q E st hQ
theorem itemsOf_from {items : Array Value} {i : Nat} (hi : i ≤ items.size) {acc : Array Value} (h : ItemsOf (fun j v => items[i + j]? = some v) acc (items.size - i)) : acc.toList = items.toList.drop i := by
  refine List.ext_getElem? fun j => ?_
  rw [List.getElem?_drop, Array.getElem?_toList, Array.getElem?_toList]
  by_cases hj : j < acc.size
  · have e : acc[j]? = some acc[j] := Array.getElem?_eq_getElem hj
    rw [e]
    exact (h.2 j _ e).symm
  · have h1 : acc[j]? = none := Array.getElem?_eq_none (by omega)
    have h2 : items[i + j]? = none := Array.getElem?_eq_none (by have := h.1; omega)
    rw [h1, h2]
section
variable {prog : Program} {w : World} {A : Around} {E : Value → Shared → Prop} {s : Shared}
theorem unpackItems_star {t : Addr} {items : Array Value} {n i : Nat} {Q : List Value → Shared → Prop} (hh : A.handled = none) (ht : IsTup s.heap t items) (hz : items.size ≤ sizeLine) (hi : i < n) (hn : n ≤ items.size + 1)
    (hQ : ∀ (h' : Heap) (tk : Nat) (p : Addr), (∀ b o, s.heap.get? b = some o → h'.get? b = some o) → s.heap.get? p = none → h'.get? p = some { cls := .type "list", data := .seq ((items.toList.drop i).take (items.size + 1 - n)).toArray } →
      Q (items.toList.take i ++ [.ref p] ++ items.toList.drop (i + (items.size + 1 - n))) { s with heap := h', toks := tk }) : wpAny (model prog w) A (unpackItems (.ref t) n (some i)) Q E s := by
  have hlt : t ≠ s.heap.objs.size := by obtain ⟨o, ho, _⟩ := ht; exact Nat.ne_of_lt (Heap.lt_size ho)
  unfold unpackItems
  refine wpAny_bind ?_
  unfold notIterableAtAll
  refine wpAny_bind (wpAny_specialOf ht.typeIs slot_tuple_iter.lookup ?_)
  refine wpAny_pure ?_
  simp only [Bool.false_eq_true, if_false]
  refine wpAny_bind (wpAny_holding (iter_tuple ht ?_))
  refine wpAny_bind (wpAny_holding (draw_tuple hlt i 0 _ _ ⟨_, Heap.get?_push_size _ rfl, rfl, rfl⟩ (ht.push _) (by omega) fun h₁ hit₁ hs₁ => ?_))
  rw [List.drop_zero, Nat.zero_add] at *
  have hl : (items.toList.take i).length = i := by rw [List.length_take, Array.length_toList]; omega
  rw [if_neg (by rw [hl]; omega)]
  have ht₁ : IsTup h₁ t items := (ht.push _).extBut hs₁.extBut hlt
  have W := (walks_from (prog := prog) (w := w) (A := A.in1) hh s.heap.objs.size t hlt items i (by omega)).toS
  obtain ⟨oI, hoI, _⟩ := id hit₁
  obtain ⟨oT, hoT, _⟩ := id ht₁
  refine wpAny_bind (wpAny_holding (wpAny_collect_iter (.inr (.inr (.inr rfl))) W (fun _ _ st => let ⟨o, ho, hc, _⟩ := st.1; ⟨o, ho, hc⟩) ⟨hit₁, ht₁⟩ (fun b hb => ?_) List.mem_cons_self (fun s' acc hm hacc => ?_) (by omega)))
  · rcases List.mem_cons.mp hb with e | hb
    · rw [e]; exact Heap.lt_size hoI
    · rw [List.mem_singleton.mp hb]; exact Heap.lt_size hoT
  · rw [itemsOf_from (by omega) hacc]
    have hd : (items.toList.drop i).length = items.size - i := by rw [List.length_drop, Array.length_toList]
    rw [if_neg (by rw [hd]; omega), hd]
    have e : items.size - i - (n - 1 - i) = items.size + 1 - n := by omega
    rw [e, List.drop_drop]
    refine wpAny_bind (wpAny_newList ?_ (by rw [List.length_take, hd]; omega))
    refine wpAny_pure ?_
    have k : ∀ b o, s.heap.get? b = some o → s'.heap.get? b = some o := fun b o hb => by
      have nb : b ≠ s.heap.objs.size := Nat.ne_of_lt (Heap.lt_size hb)
      exact hm.heap b o (by simpa using nb) (hs₁.extBut b o nb (Heap.get?_push_of_some _ hb))
    have np : s.heap.get? s'.heap.objs.size = none := by
      cases q : s.heap.get? s'.heap.objs.size with
      | none => rfl
      | some o => exact absurd (Heap.lt_size (k _ o q)) (Nat.lt_irrefl _)
    have e2 := Moved.eq_with hm
    rw [e2]
    exact hQ _ s'.toks s'.heap.objs.size (fun b o hb => Heap.get?_push_of_some _ (k b o hb)) np (Heap.get?_push_size _ rfl)
end
/-- b in *b -/
def gStar (K : PySem.W.Frag) (n i : Nat) (t : TGs) : TG := fun v σ H Q => ∃ a xs, v = .ref a ∧ SqT K H a xs ∧ n ≤ xs.length + 1 ∧ i < n ∧
  ∀ p, H p = none → t (xs.take i ++ [.ref p] ++ xs.drop (i + (xs.length + 1 - n))) σ (upd H p (.lst ((xs.drop i).take (xs.length + 1 - n)))) Q
section
variable {X : Cx} {pos : Pos}
theorem pgs_star {e : Expr} {es : List Expr} {p : Pos} {t : TG} {u : TGs} (h1 : PG X e t) (h2 : PGs X es u)
    (hs : (assignEach (.Starred e p :: es) X.env).map (·.2) = assign e X.env :: (assignEach es X.env).map (·.2) := by rfl) : PGs X (.Starred e p :: es) (gCons t u) := by
  refine ⟨fun pins s σ H vs us Q I r h => ?_⟩
  obtain ⟨v, vr, rfl, h⟩ := h
  cases r with
  | cons r rr =>
    rw [hs]
    exact assignInOrder_cons (thn (h1.run pins s σ H v _ _ I r h) fun _ s1 ⟨σ1, H1, I1, q1⟩ => h2.run pins s1 σ1 H1 vr _ Q I1 rr q1)
theorem pg_star {es : List Expr} {k : Nat} {t : TGs} {n i : Nat} (hc : X.calm = true) (h : PGs X es t)
    (hn : (assignEach es X.env).length = n := by rfl) (hst : (assignEach es X.env).findIdx? (·.1) = some i := by rfl) : PG X (.Tuple es k pos) (gStar X.K n i t) := by
  refine ⟨fun pins s σ H v u Q I r hw => ?_⟩
  obtain ⟨a, xs, rfl, hq, hl, hi, hw⟩ := hw
  obtain rfl : u = Value.ref a := r
  obtain ⟨its, rv, ht, hz⟩ := I.tuple hq
  have el : its.length = xs.length := rv.length.symm
  rw [assign_Tuple]
  refine wpAny_bind (wpAny_standAt ?_)
  unfold unpack
  rw [hn, hst]
  refine wpAny_bind (wpAny_holding (unpackItems_star (I.ok.hd hc) ht (by simpa [el] using hz) hi (by simpa [el] using hl) fun h' tk p k np hp => ?_))
  have es' : its.toArray.size = xs.length := by simp [el]
  rw [es'] at hp ⊢
  have nH : H p = none := I.hok.gone np
  have ob : ObjOk X.prog X.w (upd H p (.lst ((xs.drop i).take (xs.length + 1 - n)))) h' p (.lst ((xs.drop i).take (xs.length + 1 - n))) :=
    ⟨by rw [List.length_take, List.length_drop]; omega, _, 0, (rv.drop i).take _, hp⟩
  have I1 := I.laidN (t' := tk) k np nH ob
  exact h.run pins _ σ _ _ _ Q I1 (((rv.take i).append (Paired.cons (show RelV (V.ref p) (Value.ref p) from rfl) .nil)).append (rv.drop _)) (hw p nH)
end
/-! ### // by any number, ** 5 of a number of few bits -/
def CDivS (i j : Int) : Prop := 0 < j ∧ i.natAbs.log2 < 9000
def CPowL (i j : Int) : Prop := 0 ≤ j ∧ (Builtin.Int.intBits i : Int) * j ≤ 2 ^ 27
theorem noPy_small {x y : Int} (h : x.natAbs.log2 < 9000) : Builtin.divisionGoesByPylong x y = false := by
  have k : (if x == 0 then 0 else x.natAbs.log2 / 30 + 1) ≤ 301 := by
    split <;> omega
  show (decide ((if y == 0 then 0 else y.natAbs.log2 / 30 + 1) > 300) && decide ((if x == 0 then 0 else x.natAbs.log2 / 30 + 1) > (if y == 0 then 0 else y.natAbs.log2 / 30 + 1) + 150)) = false
  rw [Bool.and_eq_false_iff]
  by_cases c : (if y == 0 then 0 else y.natAbs.log2 / 30 + 1) > 300
  · exact .inr (decide_eq_false (by omega))
  · exact .inl (decide_eq_false c)
section
variable {X : Cx}
theorem op_fdivS : OpR X (binaryOp .FloorDiv) (rI CDivS fun i j => .int (i / j)) := opI fun i j _ _ _ _ _ hc q => by
  have h1 : (0 : Int) < j := hc.1
  exact floordiv_int (by omega) (by rw [Int.fdiv_eq_ediv_of_nonneg i (by omega)]; exact q) (.inl (noPy_small hc.2))
theorem op_powL : OpR X (binaryOp .Pow) (rI CPowL fun i j => .int (i ^ j.toNat)) := opI fun _ _ _ _ _ _ _ hc q => PyProof.Rows.pow_int hc.1 hc.2 q
end
theorem bits_lt {i : Int} {n : Nat} (h0 : 0 < n) (h : i.natAbs < 2 ^ n) : Builtin.Int.intBits i ≤ n := by
  unfold Builtin.Int.intBits
  have x := PySem.Flt.log2_lt_of h0 h
  split <;> omega
/-! ### o.m(e, .., k = v, ..) -/
def tMethK (C : Addr) (m : Str) (n j : Nat) (sp : Sp) (gV : List V → List V → List V) (E : XK) (ta : TE) (t tk : TA) : TE := fun σ H Q => ta σ H fun x H1 => ∃ a dx fs, x = .ref a ∧ H1 a = some (.ins C dx fs) ∧ fs.lookup m = none ∧
  t σ H1 fun vs H2 => tk σ H2 fun zs H3 => vs.length = n ∧ zs.length = j ∧ sp (gV (x :: vs) zs) H3 Q E
section
variable {X : Cx} {CX : CXT} {k n : Nat} {f C : Addr} {fd : FuncData} {ps ks : List Str} {sp : Sp} {E : XK} {m : Str} {apos pos : Pos} {e o : Expr} {es : List Expr} {kws : List Keyword} {ta : TE} {t tk : TA} {g : List Value → List Value → List Value} {gV : List V → List V → List V}
theorem pe_methK {pl : Sem Bool} (he : PE X o ta) (c : Cls X.K C) (hm : Meth X.K C m f) (F : FnOk X.prog X.w X.K X.mg X.base CX k f fd ps sp) (hr : Room k X.A) (hb : KBn X.K fd ps (n + 1) ks g gV) (hx : Passes CX X E)
    (ha : PA X (e :: es) t) (hkw : PK X kws tk) (hall : (backToKw pos (keywordEach kws X.env)).all (·.1.isSome) = true := by rfl) (hks : (backToKw pos (keywordEach kws X.env)).filterMap (·.1) = ks := by rfl)
    (hst : starEach (e :: es) X.env = (false, eval e X.env) :: starEach es X.env := by rfl) (hpl : ((backTo pos (starEach (e :: es) X.env)).any (·.1) || (backToKw pos (keywordEach kws X.env)).any (·.1.isNone)) = false := by rfl)
    (ht : eval (.Call (.Attribute o m apos) (e :: es) kws pos) X.env = (do
      let ov ← eval o X.env
      standAt apos.atName
      let (f, first) ← holding [ov] (getMethod ov m pl)
      callWith pos f first (backTo pos (starEach (e :: es) X.env)) (backToKw pos (keywordEach kws X.env))) := by rfl) :
    PE X (.Call (.Attribute o m apos) (e :: es) kws pos) (tMethK C m n ks.length sp gV E ta t tk) := by
  refine ⟨fun pins s σ H Q I h => ?_⟩
  refine PySem.W.methodCall_KW (pl := pl) (thn (he.run pins s σ H _ I h) fun u s1 hh => ?_) ht
  obtain ⟨x, H1, I1, rx, a, dx, fs, rfl, ea, l, q⟩ := hh
  obtain rfl : u = Value.ref a := rx
  refine getmeth_ok I1 ea c hm l ?_
  refine PySem.W.callWith_KW (first := [.ref a]) (h₀ := X.base) I.ok.mod.kin hm.kp hall (thn (ha.run pos pins s1 σ H1 _ I1 q) fun us s2 h2 => ?_) hpl hst
  obtain ⟨vs, H2, I2, r2, q2⟩ := h2
  refine thn (hkw.run pos pins s2 σ H2 _ I2 q2) fun ws s3 h3 => ?_
  obtain ⟨zs, H3, I3, r3, l1, l2, q3⟩ := h3
  refine ⟨I3.kIn, ?_⟩
  rw [hks]
  exact run_fnN (us := .ref a :: us) (vs := .ref a :: vs) F hr hb hx I3 (.cons rfl r2) r3 (congrArg Nat.succ l1) l2 q3
end
end Cn
namespace Cn
open PySem PySem.Spec PyProof.Rows L2
/-! ### set(xs), xs a list of ints -/
/-- a set that was just made -/
abbrev newSetO (w : World) : Obj := { cls := .type "set", dict := none, data := .set #[] 0 (.fresh 0 0 (!w.params.followText "set-order")) }
section
variable {P : Program} {w : World} {A : Around} {E : Value → Shared → Prop} {s : Shared}
set_option maxHeartbeats 8000000 in
theorem set_of_list {l : Addr} {items : Array Value} (ns : List Int) {Q : Value → Shared → Prop} (hh : A.handled = none) (hl : s.heap.IsList l items) (hi : IntsAre items.toList ns) (hb : ns.length + 1 < scanBound)
    (h : ∀ (h' : Heap) (tk c : Nat), SetR w h' s.heap.objs.size (fun j => decide (j ∈ ns)) c → c ≤ ns.length → (∀ b o, s.heap.get? b = some o → h'.get? b = some o) → Q (.ref s.heap.objs.size) { s with heap := h', toks := tk }) :
    wpAny (model P w) A (call (.type "set") [.ref l]) Q E s := by
  have hsz : items.size = ns.length := by simpa using IntsAre.length hi
  obtain ⟨c, tl, m1⟩ := F.called_set.mro
  have m2 := F.called_set.made
  have m3 := F.called_set.sub
  refine wpAny_call (codeAny_of_tree (show wpAny _ _ (callAny (.type "set") _) _ _ _ from ?_))
  refine wpAny_pure ⟨Code.quiet_builtin _ (by decide +kernel), codeAny_builtin F.entry_type_call ?_⟩
  rw [Around.under_plain (weight_type_call_type "set" [.ref l] []) rfl]
  have m4 := F.called_set.notType
  have m5 := F.called_set.canCreate
  have m6 := F.typeCall_set_1 (.ref l)
  repeat (any_goals (first | assumption | wp_step))
  refine codeAny_mono (code_set_led1 (.ref l) (E := E) (Q₁ := fun x s1 => x = .ref s.heap.objs.size ∧ s1 = { s with heap := s.heap.push (newSetO w) }) ⟨rfl, rfl⟩) fun r s1 hr => ?_
  cases r with
  | error e => exact hr
  | ok fl =>
    cases fl with
    | ret x =>
      obtain ⟨rfl, rfl⟩ := hr
      have gS : (s.heap.push (newSetO w)).get? s.heap.objs.size = some (newSetO w) := Heap.get?_push_size _ rfl
      have tS : Shared.TypeIs { s with heap := s.heap.push (newSetO w) } (.ref s.heap.objs.size) "set" := ⟨_, gS, rfl⟩
      have i1 := F.called_set.init.lookup
      have i2 := F.called_set.init.bind (.ref s.heap.objs.size)
      repeat (any_goals (first | assumption | wp_step))
      refine codeAny_mono (codeAny_call_builtin (R := wants (fun r s2 => r = .none ∧ ∃ h' tk c, s2 = { s with heap := h', toks := tk } ∧ SetR w h' s.heap.objs.size (fun j => decide (j ∈ ns)) c ∧ c ≤ ns.length ∧
          ∀ b o, s.heap.get? b = some o → h'.get? b = some o) E) F.called_set.init.plain F.entry_set_init (check_set_init_1 tS ?_)) fun r2 s2 hr2 => ?_
      · obtain ⟨⟨oc, od, dt, osl⟩, gl, hc, nl, hd⟩ := hl
        dsimp only at hc hd
        subst hc hd
        have gl' : (s.heap.push (newSetO w)).get? l = some { cls := .type "list", dict := od, data := .seq items nl, slots := osl } := Heap.get?_push_of_some _ gl
        have n1 := F.sub_list_set
        have n2 := F.sub_list_frozenset
        have n3 : (Value.type "list" == Value.type "dict") = false := by decide
        have lL : (s.heap.push (newSetO w)).IsList l items := ⟨_, gl', rfl, nl, rfl⟩
        unfold Builtin.«set.__init__» noKeywords Builtin.Frozenset.updateFrom
        generalize hPI : pyIter = PI
        wp_walk
        subst hPI
        refine wpAny_pyIter_list lL (wpAny_bind (wpAny_runValue ?_))
        have lS : l < s.heap.objs.size := Heap.lt_size gl
        have z1 : (s.heap.push (newSetO w)).objs.size = s.heap.objs.size + 1 := Heap.size_push ..
        have d1 : l ≠ (s.heap.push (newSetO w)).objs.size := by rw [z1]; exact Nat.ne_of_lt (Nat.lt_succ_of_lt lS)
        have d2 : s.heap.objs.size ∉ [(s.heap.push (newSetO w)).objs.size, l] := by
          rw [z1]
          simp only [List.mem_cons, List.not_mem_nil, or_false, not_or]
          exact ⟨Nat.ne_of_lt (Nat.lt_succ_self _), Nat.ne_of_gt lS⟩
        have vals : ∀ (i : Nat) (v : Value), items[i]? = some v → ∃ k t, ns[i]? = some k ∧ v = .int k t := fun i v hv => by
          have q : i < ns.length := by rw [← hsz]; exact (Array.getElem?_eq_some_iff.mp hv).1
          obtain ⟨t, e⟩ := PyProof.Rows.IntsAre.int_at hi i v (by rw [Array.getElem?_toList]; exact hv)
          exact ⟨ns[i], t, List.getElem?_eq_getElem q, by rw [e, List.getD_eq_getElem?_getD, List.getElem?_eq_getElem q] <;> rfl⟩
        refine set_update_ints ((Walks.list (by simp [hh]) _ l d1 items).toS) s.heap.objs.size d2 ns hsz hb vals (items.size - 0) 0 _ (by omega) (Nat.zero_le _) ⟨⟨_, Heap.get?_push_size _ rfl, rfl, rfl⟩, lL.push _⟩ ?st ?fin
        case st => exact ⟨0, Nat.le_refl 0, setR_new_at (Heap.get?_push_of_some _ gS)⟩
        case fin =>
          intro s' c' hm hc' hS'
          rw [Moved.eq_with hm]
          refine wpAny_pure (show wpAny _ _ (ret Value.none) _ _ _ from ?_)
          refine wpAny_pure ⟨rfl, _, _, c', rfl, hS', by omega, fun b o e => ?_⟩
          have q0 : b < s.heap.objs.size := Heap.lt_size e
          have q2 : b ∉ [s.heap.objs.size, (s.heap.push (newSetO w)).objs.size] := by
            rw [z1]
            simp only [List.mem_cons, List.not_mem_nil, or_false, not_or]
            exact ⟨Nat.ne_of_lt q0, Nat.ne_of_lt (Nat.lt_succ_of_lt q0)⟩
          exact hm.heap b o q2 (Heap.get?_push_of_some _ (Heap.get?_push_of_some _ e))
      · cases r2 with
        | error e => exact hr2
        | ok f2 =>
          cases f2 with
          | ret r =>
            obtain ⟨rfl, h', tk, c2, rfl, h1, h2, h3⟩ := hr2
            repeat (any_goals (first | assumption | wp_step))
            exact h _ _ _ h1 h2 h3
          | _ => exact hr2.elim
    | _ => exact hr.elim
end
/-- set(xs), a list of ints -/
def rSetI (K : PySem.W.Frag) (w : World) : List V → Hp → VK → Prop := fun vs H Q => ∃ (a : Addr) (ns : List Int), vs = [V.ref a] ∧ SqL K H a (ns.map V.int) ∧ ns.length < 1000 ∧ ∀ p c, H p = none → c ≤ ns.length → Q (.ref p) (upd H p (SetO w p (fun j => decide (j ∈ ns)) c))
theorem cr_setI {X : Cx} (hc : X.calm = true) : CallR X (.type "set") (rSetI X.K X.w) := by
  intro pins s σ H vs us Q I r h
  obtain ⟨a, ns, rfl, hs, hn, q⟩ := h
  obtain ⟨its, rv, hl, hz⟩ := I.list hs
  rw [Vals.ref1 r]
  refine set_of_list ns (I.ok.hd hc) hl.isList rv.ints (by unfold scanBound; omega) fun h' tk c hS hc' kp => ?_
  exact ⟨.ref _, upd H s.heap.objs.size _, I.laid (t' := tk) kp (Nat.le_refl _) (setO_new hS), rfl, q _ _ (I.hok.fresh (Nat.le_refl _)) hc'⟩
end Cn
namespace Cn
open PySem PySem.Spec PyProof.Rows L2
/-! ### dicts whose keys are nested tuples, every value True -/
mutual
/-- v stands for the key k -/
inductive NKAt (K : PySem.W.Frag) (H : Hp) : V → NestedKey → Prop
  | num (i : Int) : NKAt K H (.int i) (.num i)
  | text (z : Str) : NKAt K H (.str z) (.text z)
  | tup {a : Addr} {xs : List V} {ks : List NestedKey} : SqT K H a xs → NKAll K H xs ks → NKAt K H (.ref a) (.tup ks)
inductive NKAll (K : PySem.W.Frag) (H : Hp) : List V → List NestedKey → Prop
  | nil : NKAll K H [] []
  | cons {x : V} {xs : List V} {k : NestedKey} {ks : List NestedKey} : NKAt K H x k → NKAll K H xs ks → NKAll K H (x :: xs) (k :: ks)
end
mutual
theorem NKAt.mono {K : PySem.W.Frag} {H H' : Hp} (h : ∀ a xs, SqT K H a xs → SqT K H' a xs) : ∀ {v : V} {k : NestedKey}, NKAt K H v k → NKAt K H' v k
  | _, .num _, .num i => .num i
  | _, .text _, .text z => .text z
  | _, .tup _, .tup s r => .tup (h _ _ s) (NKAll.mono h r)
theorem NKAll.mono {K : PySem.W.Frag} {H H' : Hp} (h : ∀ a xs, SqT K H a xs → SqT K H' a xs) : ∀ {vs : List V} {ks : List NestedKey}, NKAll K H vs ks → NKAll K H' vs ks
  | _, [], .nil => .nil
  | _, _ :: _, .cons a r => .cons (NKAt.mono h a) (NKAll.mono h r)
end
section
variable {X : Cx} {pins : List (Addr × Obj)} {σ : L2.St} {H : Hp} {s : Shared}
mutual
theorem NKAt.is (I : Inv X pins σ H s) : ∀ {k : NestedKey} {v : V} {u : Value}, NKAt X.K H v k → RelV v u → NestedIs s.heap k u
  | .num i, _, u, .num _, r => by
    obtain ⟨t, rfl⟩ := (show ∃ t, u = Value.int i t from r)
    exact .int i t
  | .text z, _, u, .text _, r => by
    obtain ⟨t, rfl⟩ := (show ∃ t, u = Value.str z t from r)
    exact .text z t
  | .tup ks, _, u, .tup (a := a) hs hk, r => by
    obtain rfl := (show u = Value.ref a from r)
    obtain ⟨its, rv, ⟨o, h1, h2, n, h3⟩, _⟩ := I.tuple hs
    exact .tup h1 h2 h3 (by simpa using NKAll.is I hk rv)
theorem NKAll.is (I : Inv X pins σ H s) : ∀ {ks : List NestedKey} {vs : List V} {us : List Value}, NKAll X.K H vs ks → Vals vs us → NestedAll s.heap ks us
  | [], _, _, .nil, r => by
    cases r
    exact .nil
  | k :: ks, _, _, .cons a b, r => by
    cases r with
    | cons r1 r2 => exact .cons (NKAt.is I a r1) (NKAll.is I b r2)
end
end
/-- as the library's dicts have it -/
def entN (xs : List (NestedKey × Addr)) : List (NestedKey × Addr × Value) := xs.map fun p => (p.1, p.2, Value.bool true)
def DNh (P : Program) (w : World) (d : Addr) (xs : List (NestedKey × Addr)) (h : Heap) : Prop := (d == sysModules) = false ∧ xs.length ≤ sizeLine ∧
  ∃ o es ep, h.get? d = some o ∧ o.ExactDict ∧ o.data = .dict es ep ∧ es.toList = (entN xs).map (entryOfKey (nestedKind P w)) ∧ (xs.map (·.1)).Nodup
def DN (P : Program) (w : World) (d : Addr) (xs : List (NestedKey × Addr)) : HO := .ext (DNh P w d xs)
/-- a dict of such keys stands at d (an empty one is as any empty dict) -/
def IsDN (P : Program) (w : World) (H : Hp) (d : Addr) (xs : List (NestedKey × Addr)) : Prop := H d = some (DN P w d xs) ∨ (xs = [] ∧ H d = some (.dK []))
/-- its keys stand as tuples -/
def KeysAt (K : PySem.W.Frag) (H : Hp) (xs : List (NestedKey × Addr)) : Prop := ∀ p ∈ xs, NKAt K H (.ref p.2) p.1 ∧ p.1.depth ≤ 8
theorem keysAt_mono {K : PySem.W.Frag} {H H' : Hp} {xs : List (NestedKey × Addr)} (h : ∀ a xs, SqT K H a xs → SqT K H' a xs) (k : KeysAt K H xs) : KeysAt K H' xs := fun p hp => ⟨(k p hp).1.mono h, (k p hp).2⟩
theorem entN_fst (xs : List (NestedKey × Addr)) : (entN xs).map (·.1) = xs.map (·.1) := by unfold entN; rw [List.map_map]; rfl
theorem dN_ok {P : Program} {w : World} {H : Hp} {h : Heap} {d : Addr} {xs : List (NestedKey × Addr)} (hd : (d == sysModules) = false) (hz : xs.length ≤ sizeLine) (m : h.DictOfH (nestedKind P w) d (entN xs)) : ObjOk P w H h d (DN P w d xs) := by
  obtain ⟨o, es, ep, h1, h2, h3, h4, _, h6⟩ := m
  rw [entN_fst] at h6
  refine ⟨⟨hd, hz, o, es, ep, h1, h2, h3, h4, h6⟩, ⟨o, h1⟩, fun a b p k => ?_⟩
  obtain ⟨p1, p2, o, es, ep, q1, q⟩ := p
  exact ⟨p1, p2, o, es, ep, k o q1, q⟩
/-- what is stored -/
def stN (xs : List (NestedKey × Addr)) (k : NestedKey) (a : Addr) : List (NestedKey × Addr) := if k ∈ xs.map (·.1) then xs else xs ++ [(k, a)]
theorem atKey_entN (k : NestedKey) : ∀ xs : List (NestedKey × Addr), (atKey (entN xs) k).isSome = decide (k ∈ xs.map (·.1))
  | [] => by simp [entN, atKey]
  | x :: r => by
    have ih := atKey_entN k r
    unfold atKey entN at ih ⊢
    rw [List.map_cons, List.find?_cons]
    by_cases e : x.1 = k
    · simp [e]
    · simp only [e, decide_false, List.map_cons, List.mem_cons] at ih ⊢
      rw [ih]
      have ne : ¬ k = x.1 := fun z => e z.symm
      simp [ne]
theorem stored_entN (xs : List (NestedKey × Addr)) (k : NestedKey) (a : Addr) : storedH (entN xs) k a (.bool true) = entN (stN xs k a) := by
  unfold storedH stN
  rw [atKey_entN]
  by_cases h : k ∈ xs.map (·.1)
  · rw [if_pos (decide_eq_true h), if_pos h]
    unfold entN
    rw [List.map_map]
    refine List.map_congr_left fun x _ => ?_
    show putAt k (.bool true) (x.1, x.2, Value.bool true) = _
    unfold putAt
    split <;> rfl
  · rw [if_neg (by simpa using h), if_neg h]
    simp [entN]
section
variable {X : Cx} {pins : List (Addr × Obj)} {σ : L2.St} {H : Hp} {s : Shared}
theorem dN_get (I : Inv X pins σ H s) {d : Addr} {xs : List (NestedKey × Addr)} (h : IsDN X.prog X.w H d xs) (hk : KeysAt X.K H xs) : (d == sysModules) = false ∧ xs.length ≤ sizeLine ∧ s.heap.DictOfH (nestedKind X.prog X.w) d (entN xs) ∧ Mut (H d) := by
  rcases h with h | ⟨rfl, h⟩
  · obtain ⟨⟨h0, hz, o, es, ep, h1, h2, h3, h4, h5⟩, _⟩ := I.hok d _ h
    refine ⟨h0, hz, ⟨o, es, ep, h1, h2, h3, h4, fun x hx => ?_, by rw [entN_fst]; exact h5⟩, by rw [h]; trivial⟩
    obtain ⟨p, hp, rfl⟩ := List.mem_map.mp hx
    exact ⟨NKAt.is I (hk p hp).1 rfl, (hk p hp).2⟩
  · obtain ⟨hz, h0, vs, kv, o, es, ep, h1, h2, h3, _, h5, _⟩ := I.hok d _ h
    cases kv
    have e : es.toList = [] := by
      generalize es.toList = l at h5
      cases h5
      rfl
    exact ⟨h0, Nat.zero_le _, ⟨o, es, ep, h1, h2, h3, by rw [e]; rfl, fun x hx => by simp [entN] at hx, by simp [entN]⟩, by rw [h]; trivial⟩
end
/-- k in d -/
def rInN (P : Program) (w : World) (K : PySem.W.Frag) : R2 := fun x y H Q => ∃ (a d : Addr) (xs : List (NestedKey × Addr)) (k : NestedKey), x = .ref a ∧ y = .ref d ∧ IsDN P w H d xs ∧ KeysAt K H xs ∧ NKAt K H (.ref a) k ∧ k.depth ≤ 8 ∧ Q (.bl (decide (k ∈ xs.map (·.1)))) H
def rNotInN (P : Program) (w : World) (K : PySem.W.Frag) : R2 := fun x y H Q => ∃ (a d : Addr) (xs : List (NestedKey × Addr)) (k : NestedKey), x = .ref a ∧ y = .ref d ∧ IsDN P w H d xs ∧ KeysAt K H xs ∧ NKAt K H (.ref a) k ∧ k.depth ≤ 8 ∧ Q (.bl (!decide (k ∈ xs.map (·.1)))) H
/-- d[k] = True -/
def setN (P : Program) (w : World) (K : PySem.W.Frag) : TSet := fun o i v H Q => ∃ (a d : Addr) (xs : List (NestedKey × Addr)) (k : NestedKey), o = .ref d ∧ i = .ref a ∧ v = .bl true ∧ IsDN P w H d xs ∧ KeysAt K H xs ∧ NKAt K H (.ref a) k ∧ k.depth ≤ 8 ∧ xs.length + 1 ≤ sizeLine ∧ Q (upd H d (DN P w d (stN xs k a)))
section
variable {X : Cx}
theorem op_inN (hu : X.A.units + 64 < cLine) : OpR X (compareOp .In) (rInN X.prog X.w X.K) := by
  intro pins s σ H x y v u Q I rx ry h
  obtain ⟨a, d, xs, k, rfl, rfl, hd, hk, hx, h8, q⟩ := h
  obtain rfl := (show v = Value.ref a from rx)
  obtain rfl := (show u = Value.ref d from ry)
  obtain ⟨d0, hz, m, _⟩ := dN_get I hd hk
  refine wpAny_in_heap (knd := nestedKind X.prog X.w) (by show X.A.in1.units + 8 < cLine; rw [Around.in1_units]; omega) ⟨NKAt.is I hx rfl, h8⟩ d0 m ?_
  rw [atKey_entN]
  exact ⟨.bl _, H, I.tok _, rfl, q⟩
theorem op_notInN (hu : X.A.units + 64 < cLine) : OpR X (compareOp .NotIn) (rNotInN X.prog X.w X.K) := by
  intro pins s σ H x y v u Q I rx ry h
  obtain ⟨a, d, xs, k, rfl, rfl, hd, hk, hx, h8, q⟩ := h
  obtain rfl := (show v = Value.ref a from rx)
  obtain rfl := (show u = Value.ref d from ry)
  obtain ⟨d0, hz, m, _⟩ := dN_get I hd hk
  refine wpAny_notIn_heap (knd := nestedKind X.prog X.w) (by show X.A.in1.units + 8 < cLine; rw [Around.in1_units]; omega) ⟨NKAt.is I hx rfl, h8⟩ d0 m ?_
  rw [atKey_entN]
  exact ⟨.bl _, H, I.tok _, rfl, q⟩
theorem set_dN (hu : X.A.units + 64 < cLine) : PSet X (setN X.prog X.w X.K) := by
  intro pins s σ H x y z v u r Q I rx ry rz h
  obtain ⟨a, d, xs, k, rfl, rfl, rfl, hd, hk, hx, h8, hz1, q⟩ := h
  obtain rfl := (show v = Value.ref d from rx)
  obtain rfl := (show u = Value.ref a from ry)
  obtain rfl := (show r = Value.bool true from rz)
  obtain ⟨d0, hz, m, mu⟩ := dN_get I hd hk
  refine wpAny_setItem_heap (knd := nestedKind X.prog X.w) (by show X.A.in1.units + 8 < cLine; rw [Around.in1_units]; omega) ⟨NKAt.is I hx rfl, h8⟩ m (fun h' m' sb => ?_) (by unfold entN; rw [List.length_map]; exact hz)
  rw [stored_entN] at m'
  have hl : (stN xs k a).length ≤ sizeLine := by
    unfold stN
    split
    · exact hz
    · simpa using hz1
  obtain ⟨o', _, _, g, _⟩ := id m'
  exact ⟨_, I.write (e := d) (t' := s.toks + _) mu (.inl rfl) (fun b ob hb e => (sb.2 b hb).trans e) ⟨o', g⟩ (dN_ok d0 hl m'), q⟩
end
/-! ### for k in d -/
/-- the keys' own tuples, in order; the dict is locked -/
def DNf (P : Program) (w : World) (H : Hp) (d : Addr) (o : Obj) (xs : List (NestedKey × Addr)) : Prop := H d = some (.frz o (DN P w d xs)) ∨ (xs = [] ∧ H d = some (.frz o (.dK [])))
def Itn (P : Program) (w : World) (d : Addr) (o : Obj) (xs : List (NestedKey × Addr)) : It :=
  ⟨fun i H => DNf P w H d o xs ∧ i < xs.length, fun i H x H' => H' = H ∧ ∃ k q, xs[i]? = some (k, q) ∧ x = .ref q, fun i H => DNf P w H d o xs ∧ xs.length ≤ i⟩
section
variable {X : Cx} {pins : List (Addr × Obj)} {σ : L2.St} {H : Hp} {s : Shared}
theorem dNf_get (I : Inv X pins σ H s) {d : Addr} {o : Obj} {xs : List (NestedKey × Addr)} (h : DNf X.prog X.w H d o xs) :
    (d == sysModules) = false ∧ s.heap.get? d = some o ∧ o.ExactDict ∧ ∃ (es : Array DictEntry) (ep : Nat), o.data = .dict es ep ∧ es.size = xs.length ∧ ∀ (i : Nat) (k : NestedKey) (q : Addr), xs[i]? = some (k, q) → ∃ en : DictEntry, es[i]? = some en ∧ en.key = .ref q := by
  rcases h with h | ⟨rfl, h⟩
  · obtain ⟨hg, ⟨h0, hz, o', es, ep, h1, h2, h3, h4, h5⟩, _⟩ := I.hok d _ h
    rw [hg] at h1
    cases h1
    refine ⟨h0, hg, h2, es, ep, h3, ?_, fun i k q e => ?_⟩
    · rw [size_of_entries h4]
      simp [entN]
    · have z := entry_at h4 i
      unfold entN at z
      rw [List.getElem?_map, e] at z
      exact ⟨_, z, rfl⟩
  · obtain ⟨hg, hz, h0, vs, kv, o', es, ep, h1, h2, h3, _, h5, _⟩ := I.hok d _ h
    rw [hg] at h1
    cases h1
    cases kv
    have e : es.toList = [] := by
      generalize es.toList = l at h5
      cases h5
      rfl
    refine ⟨h0, hg, h2, es, ep, h3, ?_, fun i k q e => by simp at e⟩
    rw [← Array.length_toList, e]
    rfl
end
section
variable {P : Program} {w : World} {K : PySem.W.Frag} {tg : Expr} {d : Addr} {o : Obj} {es : Array DictEntry} {ep : Nat}
theorem turn_keysN {xs : List (NestedKey × Addr)} (it : Addr) (hod : o.data = .dict es ep) : Turn P w K tg (Itn P w d o xs) [it] it (fun i h => h.IsKeyIter it d i xs.length ep) where
  mem := List.mem_singleton.mpr rfl
  obj := fun i h st b hb => by
    obtain rfl := List.mem_singleton.mp hb
    obtain ⟨oi, e, _, dd⟩ := st
    exact ⟨oi, e, fun v z => by rw [dd] at z; cases z⟩
  keep := fun i h h' st k => st.at fun oi e => k it (List.mem_singleton.mpr rfl) oi e
  item := by
    intro X hP hw hK hc i pins s σ H E I hf st hg
    subst hP hw hK
    obtain ⟨hd, hi⟩ := hg
    obtain ⟨f0, f1, f2, f3, f4, f5⟩ := hf it (List.mem_singleton.mpr rfl)
    obtain ⟨_, hgd, _, es', ep', hdt, hsz, ent⟩ := dNf_get I hd
    obtain ⟨rfl, rfl⟩ := dict_ep hod hdt
    obtain ⟨⟨k, q⟩, hkv⟩ : ∃ p, xs[i]? = some p := ⟨xs[i], List.getElem?_eq_getElem hi⟩
    obtain ⟨en, hen, hkey⟩ := ent i k q hkv
    refine next_key_item st hgd hdt hsz hen fun h' st' sb => ?_
    have I1 : Inv X pins σ H { s with heap := h' } := I.turned (t' := s.toks) (fun b ob hb e => (sb.2 b hb).trans e) f0 f1 f3 f4 f5
    obtain ⟨oi, e, c, dd⟩ := id st'
    exact ⟨en.key, rfl, go_of (s := { s with heap := h' }) e c dd (by decide) ⟨.ref q, H, I1, hkey, ⟨rfl, k, q, hkv, rfl⟩, st', fun b hb => (hf b hb).1⟩⟩
  done := by
    intro X hP hw hK hc i pins s σ H E I hf st hg
    subst hP hw hK
    obtain ⟨hd, hi⟩ := hg
    obtain ⟨f0, f1, f2, f3, f4, f5⟩ := hf it (List.mem_singleton.mpr rfl)
    obtain ⟨_, hgd, _, es', ep', hdt, hsz, _⟩ := dNf_get I hd
    obtain ⟨rfl, rfl⟩ := dict_ep hod hdt
    exact next_key_end (I.ok.hd hc) st hgd hdt hsz hi fun h' eb => ⟨rfl, I.turned (t' := s.toks) (fun b ob hb e => eb b ob hb e) f0 f1 f3 f4 f5⟩
  self := fun A i s Q E st h => wpAny_pyIter_slot st.typeIs F.slot_dict_keyiterator_iter (wpAny_call_entry F.slot_dict_keyiterator_iter st.typeIs F.entry_dict_keyiterator_iter
    (show wpAny _ _ (ret (.ref it)) _ _ s from wpAny_pure ⟨_, rfl, "dict_keyiterator", _, st.typeIs, F.slot_dict_keyiterator_next.lookup, h⟩) (F.args_dict_keyiterator_iter_1 _))
end
def iKeysN (P : Program) (w : World) (td : TE) : TI := fun σ H R => td σ H fun x H1 => ∃ d o xs, x = .ref d ∧ DNf P w H1 d o xs ∧ R (Itn P w d o xs) H1
theorem pi_keysN {X : Cx} {tg e : Expr} {td : TE} (he : PE X e td) : PI X tg e (iKeysN X.prog X.w td) := by
  refine ⟨fun pins s σ H R I h => ?_⟩
  refine thn (he.run pins s σ H _ I h) fun u s1 hh => ?_
  obtain ⟨x, H1, I1, rx, d, o, xs, rfl, hd, q⟩ := hh
  obtain rfl : u = Value.ref d := rx
  obtain ⟨hs, hgd, hx, es, ep, hdt, hsz, _⟩ := dNf_get I1 hd
  refine iter_keys hs hgd hx hdt (pi_one (tk := s1.toks) I1 _ (turn_keysN _ hdt) ⟨_, Heap.get?_push_size _ rfl, rfl, ?_⟩ q)
  rw [hsz] <;> rfl
theorem walk_keysN {P : Program} {w : World} {d : Addr} {o : Obj} {xs : List (NestedKey × Addr)} : Walk (Itn P w d o xs) xs.length (fun H => DNf P w H d o xs) (fun i H x H' => H' = H ∧ ∃ k q, xs[i]? = some (k, q) ∧ x = .ref q) :=
  ⟨fun _ _ hi q => ⟨q, hi⟩, fun _ q => ⟨q, Nat.le_refl _⟩, fun _ _ _ _ _ _ y => y⟩
end Cn
namespace Cn
open PySem PySem.Spec PyProof.Rows L2
/-! ### sorted(xs), xs a list of pairs (number, lock) -/
abbrev HL : Type := Int × LK
def LK.data (k : LK) : PyData := .tuple [.int k.id, .str k.gv, .int k.am, .int k.se, .int k.la]
def encH (b : HL) : PyData := .tuple [.int b.1, b.2.data]
def hle : HL → HL → Bool := PySem.W.dataLe false encH
/-- a held lock stands as a pair -/
def IsHL (K : PySem.W.Frag) (H : Hp) (v : V) (b : HL) : Prop := ∃ p a, v = .ref p ∧ SqT K H p [.int b.1, .ref a] ∧ SqT K H a b.2.vs
theorem isHL_dp {K : PySem.W.Frag} {H : Hp} {v : V} {b : HL} (h : IsHL K H v b) : Dp K H v (encH b) := by
  obtain ⟨p, a, rfl, h1, h2⟩ := h
  exact .tup h1 (.cons (.int _) (.cons (.tup h2 (.cons (.int _) (.cons (.str _) (.cons (.int _) (.cons (.int _) (.cons (.int _) .nil)))))) .nil))
theorem isHL_mono {K : PySem.W.Frag} {H H' : Hp} (m : ∀ a xs, SqT K H a xs → SqT K H' a xs) {v : V} {b : HL} (h : IsHL K H v b) : IsHL K H' v b := by
  obtain ⟨p, a, e, h1, h2⟩ := h
  exact ⟨p, a, e, m _ _ h1, m _ _ h2⟩
def rSortH (K : PySem.W.Frag) : List V → Hp → VK → Prop := fun vs H Q => ∃ (a : Addr) (xs : List V) (bs : List HL), vs = [V.ref a] ∧ SqL K H a xs ∧ Paired (IsHL K H) xs bs ∧
  ∀ ys p, Paired (IsHL K H) ys (bs.mergeSort hle) → H p = none → Q (.ref p) (upd H p (.lst ys))
theorem enc_alike (b c : HL) : PySem.W.alike (encH b) (encH c) = true := by
  simp [encH, LK.data, PySem.W.alike, PySem.W.alikeAll]
theorem each_of {R : V → HL → Prop} : ∀ {xs : List V} {us : List Value} {bs : List HL}, Vals xs us → Paired R xs bs → PySem.W.EachIs (fun u b => ∃ v, RelV v u ∧ R v b) us bs
  | _, _, _, .nil, .nil => .nil
  | _, _, _, .cons r rs, .cons p ps => .cons ⟨_, r, p⟩ (each_of rs ps)
theorem of_each {R : V → HL → Prop} : ∀ {us : List Value} {bs : List HL}, PySem.W.EachIs (fun u b => ∃ v, RelV v u ∧ R v b) us bs → ∃ xs, Vals xs us ∧ Paired R xs bs
  | _, _, .nil => ⟨[], .nil, .nil⟩
  | _, _, .cons h t => by
    obtain ⟨v, r, p⟩ := h
    obtain ⟨xs, rs, ps⟩ := of_each t
    exact ⟨v :: xs, .cons r rs, .cons p ps⟩
section
variable {X : Cx}
theorem cr_sortH (hu : X.A.units + 64 < cLine) : CallR X (.builtin "sorted") (rSortH X.K) := by
  intro pins s σ H vs us Q I r h
  obtain ⟨a, xs, bs, rfl, hs, hp, q⟩ := h
  obtain ⟨its, rv, hl, hz⟩ := I.list hs
  rw [Vals.ref1 r]
  have e1 := each_of rv hp
  have lb : bs.length = xs.length := (Paired.length hp).symm
  refine PySem.W.sorted_data (enc := encH) hl.isList e1 (e1.mono fun u b hb => ?_) (PySem.W.AllAlike.of enc_alike) (PySem.W.Sortable.tuples fun b => ⟨_, _, rfl⟩) (by rw [lb]; exact hz) (fun b _ => ?_) fun out hlen ho => ?_
  · obtain ⟨v, r, p⟩ := hb
    exact Dp.reads I _ _ _ (isHL_dp p) r
  · have d : (encH b).depth = 2 := by simp [encH, LK.data, PyData.depth, PyData.depthAll]
    rw [d]
    omega
  · obtain ⟨ys, ry, py⟩ := of_each ho
    obtain ⟨n, he⟩ := PyProof.Rows.sortedAll_at s.heap its (List.toArray out)
    have l1 : ys.length ≤ sizeLine := by rw [ry.length, hlen, lb]; exact hz
    exact ⟨.ref _, upd H (s.heap.objs.size + 1) (.lst ys), I.laid (t' := s.toks) (fun _ _ => PyProof.Rows.sortedAll_old) (Nat.le_succ _) ⟨l1, out, n, ry, he⟩, rfl, q _ _ py (I.hok.fresh (Nat.le_succ _))⟩
end
end Cn
namespace Cn
open PySem PySem.Spec PyProof.Rows L2
/-! ### try: .. except X as n: m = n, the error held on behind the clause -/
/-- an error of the class cls, held -/
def ExK (cls : Value) (a : Addr) : HO := .ext fun h => ∃ (oe : Obj) (vs : Array Value), h.get? a = some oe ∧ Zc cls none oe ∧ oe.data = .fields vs
section
variable {X : Cx} {pins : List (Addr × Obj)} {σ : L2.St} {H : Hp} {s : Shared}
/-- a pinned error that is newer than the entry may be tracked -/
theorem keep_pinned {a : Addr} {oe : Obj} {vs : Array Value} {cls : Value} (I : Inv X ((a, oe) :: pins) σ H s) (hz : Zc cls none oe) (hd : oe.data = .fields vs) (n0 : X.s_0.heap.get? a = none) (np : ∀ p ∈ X.pn ++ pins, p.1 ≠ a) : Inv X pins σ (upd H a (ExK cls a)) s := by
  obtain ⟨ga, na, nL, nF, nc⟩ := I.pin (a, oe) (List.mem_append_right _ List.mem_cons_self)
  have neN : ∀ b u, H b = some u → b ≠ a := fun b u e z => by rw [z, na] at e; cases e
  have ne0 : ∀ b o, X.s_0.heap.get? b = some o → b ≠ a := fun b o e z => by rw [z, n0] at e; cases e
  refine ⟨I.ok, I.os, I.bare, ⟨I.base.keep, I.base.slot, fun b o e n hx => ?_, I.base.there, fun b xs e => ?_, fun b o u e => ?_, fun b ps e => ?_⟩, I.loc, I.cell, ?_, fun x c e => ?_, fun p hp => ?_, fun b u e => ?_, I.len⟩
  · rw [upd_ne (ne0 b o e)]
    exact I.base.free b o e n hx
  · have q := I.base.tups b xs e
    rw [upd_ne (neN b _ q)]
    exact q
  · have q := I.base.frzs b o u e
    rw [upd_ne (neN b _ q)]
    exact q
  · obtain ⟨m, q⟩ := I.base.tbls b ps e
    exact ⟨m, by rw [upd_ne (neN b _ q)]; exact q⟩
  · rw [upd_ne (Ne.symm nL)]
    exact I.free
  · have hc : c ≠ a := fun z => by
      obtain ⟨v, o, ho, hdc⟩ := I.cell x c e
      rw [z, ga] at ho
      cases ho
      exact nc v hdc
    rw [upd_ne hc]
    exact I.freeC x c e
  · obtain ⟨q1, q2, q⟩ := I.pin p (by
      rcases List.mem_append.mp hp with z | z
      · exact List.mem_append_left _ z
      · exact List.mem_append_right _ (List.mem_cons_of_mem _ z))
    exact ⟨q1, by rw [upd_ne (np p hp)]; exact q2, q⟩
  · by_cases hb : b = a
    · subst hb
      rw [upd_same] at e
      cases e
      exact ⟨⟨oe, vs, ga, hz, hd⟩, ⟨oe, ga⟩, fun h1 h2 p k => by
        obtain ⟨o, v, x1, x2⟩ := p
        exact ⟨o, v, k o x1, x2⟩⟩
    · rw [upd_ne hb] at e
      exact (I.hok b u e).stay (fun c v _ q => q) (fun c q => by rw [upd_ne (neN c _ q)]; exact q) fun c xs q => by rw [upd_ne (neN c _ q)]; exact q
end
/-- what the clause wishes of an error of the body: slot i is n's -/
def wKeep (K : PySem.W.Frag) (c : Value) (i : Nat) (ts : Addr → TS) (D : Ends) : WX := fun cls d σ H => d = none ∧ PySem.W.exmOne K cls c = some true ∧
  ∀ a, H a = none → ts a { nx := fun σ' H' => D.nx (σ'.set i none) (upd H' a (ExK cls a)), rt := fun _ _ => False } (σ.set i (some (.ref a))) H
section
variable {X : Cx} {x n : Str} {c : Value} {i : Nat} {body suite : List Stmt} {b0 : Stmt} {np pos pos' : Pos} {tb : WX → TS} {ts : Addr → TS}
theorem ps_try_keep (hs : X.stack = X.env :: X.outer) (hf : X.env.frame = some X.env.locals) (hex : X.ex = []) (hN : X.N.Nodup) (hi : X.N[i]? = some n) (hln : X.env.kindOf n = some .local) (hc : Names X x c)
    (hb : ∀ (W : WX) (pn : List (Addr × Obj)) (xe : Value → Shared → Prop), Takes (X.tr pn xe) W → PassesOwn (model X.prog X.w) X.A X.env xe → PSs (X.tr pn xe) body (tb W))
    (hsu : ∀ (a : Addr) (oe : Obj) (pn : List (Addr × Obj)), (∃ vs, oe.data = .fields vs) → PSs (X.suite a ((a, oe) :: pn)) (b0 :: suite) (ts a)) :
    PS X (.Try body [.ExceptHandler (some (.Name x np)) (some n) (b0 :: suite) pos'] [] [] pos) (fun D σ H => tb (wKeep X.K c i ts D) D σ H) := by
  refine ⟨fun pins s σ H D I h => ?_⟩
  have ok := I.ok
  have hfr : X.A.frames = some (X.env :: X.outer) := by rw [ok.frames, hs]
  refine wpAny_Try_except (wpAny_mono ((hb (wKeep X.K c i ts D) (X.pn ++ pins) (fun e s1 => wpAny (model X.prog X.w) X.A (noteFrame e X.env) (fun _ s2 => wpAny (model X.prog X.w) X.A (setFlight e none) (fun _ s3 =>
    wpAny (model X.prog X.w) X.A (handleBy e X.env [.ExceptHandler (some (.Name x np)) (some n) (b0 :: suite) pos']) (SP X pins D) X.xe s3) X.xe s2) X.xe s1) (fun u s' hx => ?_) PassesOwn.looking).run [] s σ H D (I.toTry _) h) (fun f s1 hsp => ?_) (fun _ _ z => z))
  · obtain ⟨a, B, sI, pins', σ1, H1, cls, d, rfl, J0, nb, up, sky, na, os, ag, rfl, hm, hyes⟩ := hx
    have J : Inv X pins σ1 H1 sI := J0.ofTry ok
    rw [hs] at sky
    refine Sky.land Zc.steady hfr hf sky fun h3 fl3 up3 => ?_
    have J3 : Inv X pins σ1 H1 { s' with heap := h3 } := J.landed nb fl3.1 (up.trans up3) os ag
    obtain ⟨o3, v3, g3, z3, d3⟩ := fl3.there
    have nfr : a ∉ frs (X.env :: X.outer) := fun hm => by
      obtain ⟨_, o', e', hnf⟩ := fl3.2.2.1.mem hm
      rw [g3] at e'
      cases e'
      exact hnf _ d3
    have nL : a ≠ X.env.locals := fun z => nfr (List.mem_filterMap.mpr ⟨X.env, List.mem_cons_self, by rw [hf, z]⟩)
    have nF : a ∉ X.fs := fun hm => by
      obtain ⟨e, he, q⟩ := List.mem_filterMap.mp hm
      exact nfr (List.mem_filterMap.mpr ⟨e, List.mem_cons_of_mem _ he, q⟩)
    have nI : sI.heap.get? a = none := by
      cases q : sI.heap.get? a with
      | none => rfl
      | some o =>
        have z := nb a o q (by rw [hs]; exact nfr)
        rw [fl3.2.1] at z
        cases z
    have n0 : X.s_0.heap.get? a = none := by
      cases q : X.s_0.heap.get? a with
      | none => rfl
      | some o =>
        obtain ⟨o', z⟩ := J.base.there a o q (by rw [hex]; exact fun z => nomatch z)
        rw [nI] at z
        cases z
    have npin : ∀ p ∈ X.pn ++ pins, p.1 ≠ a := fun p hp z => by
      have q := (J.pin p hp).1
      rw [z, nI] at q
      cases q
    have S3 := J3.suite g3 d3 na nL nF
    show wpAny (model X.prog X.w) X.A (handleBy (.ref a) X.env _) _ _ _
    refine wpAny_handleBy_cons (codeAny_handlers_test ?_) (by intro q; cases q)
    have LT : PySem.W.Looks (model X.prog X.w) h3 (typeOf (.ref a)) cls := fun A Q E s k q => wpAny_typeOf_ref (k _ _ g3) (by rw [z3.1]; exact q)
    have LM := PySem.W.exm_one (M := model X.prog X.w) J3.kIn LT hm
    have named : ∀ {Q : Value → Shared → Prop} {E : Value → Shared → Prop}, Q c { s' with heap := h3 } → wpAny (model X.prog X.w) (X.A.mark (some (.ref a))) (eval (.Name x np) X.env) Q E { s' with heap := h3 } := fun {Q E} q => by
      obtain ⟨hg, hdb, hm | ⟨hm, hv, hnn⟩⟩ := hc
      · exact ld_glob (X := X.suite a ((a, o3) :: (X.pn ++ pins))) S3 hg hm q hdb
      · exact ld_blt (X := X.suite a ((a, o3) :: (X.pn ++ pins))) S3 hg hm hv q hnn hdb
    refine named (LM.here (codeAny_handlers_suite_as (HandSPX.lands_againZ fl3 fun h4 fl4 up4 => ?_)))
    have J4 : Inv X pins σ1 H1 { s' with heap := h4 } := J.landed nb fl4.1 ((up.trans up3).trans up4) os ag
    obtain ⟨o4, v4, g4, z4, d4⟩ := fl4.there
    have S4 := J4.suite g4 d4 na nL nF
    refine store_ok (X := X.suite a ((a, o4) :: (X.pn ++ pins))) (v := .ref a) S4 hN hi (.inl hln) rfl (fun s5 S5 => ?_) (.inr hln)
    refine wpAny_mono ((hsu a o4 (X.pn ++ pins) ⟨_, d4⟩).run [] s5 _ H1 _ S5 (hyes a na)) (fun f s6 hsp => ?_) (fun _ _ z => False.elim z)
    cases f with
    | next =>
      obtain ⟨σ6, H6, S6, q6⟩ := hsp
      have J6 := S6.unsuite ok
      have J6' : Inv X ((a, o4) :: pins) σ6 H6 s6 := J6.pins_of fun p hp => by
        rcases List.mem_cons.mp hp with e | hp
        · rw [e]
          exact S6.pin (a, o4) (List.mem_append_left _ List.mem_cons_self)
        · exact J6.pin p (List.mem_append_right _ hp)
      exact gone_ok J6' hN hi hln fun s7 J7 => ⟨_, _, keep_pinned J7 z4 d4 n0 npin, q6⟩
    | brk =>
      obtain ⟨_, _, _, q6⟩ := hsp
      exact q6.elim
    | cont =>
      obtain ⟨_, _, _, q6⟩ := hsp
      exact q6.elim
    | ret u =>
      obtain ⟨_, _, _, _, _, q6⟩ := hsp
      exact q6.elim
  · cases f with
    | next =>
      obtain ⟨σ', H', J', q⟩ := hsp
      exact wpAny_execs_nil ⟨σ', H', J'.ofTry ok, q⟩
    | brk =>
      obtain ⟨σ', H', J', q⟩ := hsp
      exact ⟨σ', H', J'.ofTry ok, q⟩
    | cont =>
      obtain ⟨σ', H', J', q⟩ := hsp
      exact ⟨σ', H', J'.ofTry ok, q⟩
    | ret u =>
      obtain ⟨v, σ', H', J', r, q⟩ := hsp
      exact ⟨v, σ', H', J'.ofTry ok, r, q⟩
end
/-! ### isinstance of such an error -/
def rIsK (K : PySem.W.Frag) : List V → Hp → VK → Prop := fun xs H Q => ∃ (a D : Addr) (c : V) (cv : Value) (b : Bool), xs = [.ref a, c] ∧ H a = some (ExK (.ref D) a) ∧ ExcC K D ∧ (∀ u, RelV c u → u = cv) ∧ PySem.W.kitOne K (.ref D) cv = some b ∧ Q (.bl b) H
theorem call_isK {X : Cx} : CallR X (.builtin "isinstance") (rIsK X.K) := by
  intro pins s σ H xs us Q I r h
  obtain ⟨a, D, c, cv, b, rfl, ha, C, hcv, e, q⟩ := h
  obtain ⟨u1, u2, rfl, r1, r2⟩ := vals2 r
  obtain rfl : u1 = Value.ref a := r1
  obtain rfl := hcv _ r2
  obtain ⟨⟨oe, vs, g, hz, hd⟩, _⟩ := I.hok a _ ha
  have J : PySem.W.InstAt s.heap a oe D none := by
    obtain ⟨oc, od, oda, osl⟩ := oe
    obtain ⟨h1, h2⟩ := hz
    dsimp only at h1 h2 hd
    subst h1 h2 hd
    exact ⟨g, rfl, rfl, trivial⟩
  exact PySem.W.kia_one (PySem.W.handS_kitx_exc C.hg C.hk C.hs C.hd C.ha C.hn C.ht C.hm) I.kIn J e (fun z => nomatch z) fun tk => ⟨.bl b, H, I.kept (t' := tk) fun _ _ z => z, rfl, q⟩
end Cn
namespace Cn
open PySem PySem.Spec PyProof.Rows L2 PySem.W
/-! ### list(zip(t, u)), t and u two pairs -/
theorem nolen_zip : typeLookup (.type "zip") "__len__" = pure none := by rw [typeLookup_type, builtinLookup_eq_fast]; kernel_rfl
theorem nohint_zip : typeLookup (.type "zip") "__length_hint__" = pure none := by rw [typeLookup_type, builtinLookup_eq_fast]; kernel_rfl
section
variable {prog : Program} {w : World} {A : Around} {E : Value → Shared → Prop} {s : Shared} {z TI TO T i1 i2 l1 l2 : Addr} {f : Bool} {oT : Obj} {k1 k2 : Nat} {xs ys : Array Value} {x y : Value}
/-- the next pair while the last one is still held -/
theorem zipT_held {Q : Option Value → Shared → Prop} (D : ZipApart z TI TO i1 i2 l1 l2) (hz : IsZipHeld s.heap z TI TO T f) (hT : s.heap.get? T = some oT) (hTI : IsPair s.heap TI (.ref i1) (.ref i2))
    (h1 : s.heap.IsTupleIter i1 l1 k1) (h2 : s.heap.IsTupleIter i2 l2 k2) (hl1 : s.heap.IsTuple l1 xs) (hl2 : s.heap.IsTuple l2 ys) (hx : xs[k1]? = some x) (hy : ys[k2]? = some y)
    (hQ : ∀ h', IsZipHeld h' z TI TO T true → h'.IsTupleIter i1 l1 (k1 + 1) → h'.IsTupleIter i2 l2 (k2 + 1) → IsPair h' s.heap.objs.size x y → h'.objs.size = s.heap.objs.size + 1 →
      (∀ c o, c ≠ z → c ≠ i1 → c ≠ i2 → s.heap.get? c = some o → h'.get? c = some o) → Q (some (.ref s.heap.objs.size)) { s with heap := h' }) :
    wpAny (model prog w) A (pyNext (.ref z)) Q E s := by
  have ty : s.TypeIs (.ref z) "zip" := ⟨_, hz, rfl⟩
  unfold pyNext
  refine wpAny_bind (wpAny_attempt (wpAny_callSpecial?_slot (name := Str.ofString "__next__") ty F.slot_zip_next (wpAny_call_entry F.slot_zip_next ty F.entry_zip_next ?_ (F.args_zip_next_1 _))))
  show wpAny _ _ (field (.ref z) 2 >>= _) _ _ _
  refine wpAny_bind (wpAny_field hz rfl (x := .bool false) rfl (show wpAny _ _ (field (.ref z) 3 >>= _) _ _ _ from ?_))
  refine wpAny_bind (wpAny_field hz rfl (x := .ref TI) rfl (wpAny_bind (wpAny_seqItems hTI rfl (show wpAny _ _ (Builtin.SmallTypes.ownedTupleIsFree (.ref z) >>= _) _ _ _ from ?_))))
  refine wpAny_bind (wpAny_tupleHeld_zip hz hT fun g1 z1 b1 => ?_)
  simp only [Bool.false_eq_true, if_false]
  refine wpAny_bind ?_
  rw [← Array.forIn_toList]
  simp only [List.forIn_cons, List.forIn_nil]
  refine wpAny_bind (wpAny_bind (wpAny_holding (show wpAny _ _ (Builtin.SmallTypes.nextOf (.ref i1) >>= _) _ _ _ from ?_)))
  refine wpAny_bind (RZ.nextOf_tuple_item (s := { s with heap := g1 }) (h1.extBut b1.extBut D.i1z) (hl1.extBut b1.extBut D.l1z) hx fun g2 q2 b2 => wpAny_pure (wpAny_pure ?_))
  refine wpAny_bind (wpAny_bind (wpAny_holding (show wpAny _ _ (Builtin.SmallTypes.nextOf (.ref i2) >>= _) _ _ _ from ?_)))
  refine wpAny_bind (RZ.nextOf_tuple_item (s := { s with heap := g2 }) ((h2.extBut b1.extBut D.i2z).extBut b2.extBut D.i12.symm) ((hl2.extBut b1.extBut D.l2z).extBut b2.extBut D.l2i1) hy fun g3 q3 b3 => wpAny_pure (wpAny_pure (wpAny_pure ?_)))
  show wpAny _ _ (newTuple [x, y] >>= _) _ _ _
  refine wpAny_bind (wpAny_newTuple ?_)
  have hsz : g3.objs.size = s.heap.objs.size := by rw [b3.1, b2.1, b1.1]
  have z3 : IsZipHeld g3 z TI TO T true := b3.extBut _ _ D.i2z.symm (b2.extBut _ _ D.i1z.symm z1)
  have kp : ∀ c o, c ≠ z → c ≠ i1 → c ≠ i2 → s.heap.get? c = some o → g3.get? c = some o := fun c o c1 c2 c3 e => b3.extBut _ _ c3 (b2.extBut _ _ c2 (b1.extBut _ _ c1 e))
  have q2' : g3.IsTupleIter i1 l1 (k1 + 1) := q2.extBut b3.extBut D.i12
  have hp : IsPair (g3.push { cls := .type "tuple", data := .seq #[x, y] }) g3.objs.size x y := Heap.get?_push_size _ rfl
  have sz : (g3.push { cls := .type "tuple", data := .seq #[x, y] }).objs.size = g3.objs.size + 1 := Heap.size_push ..
  refine wpAny_pure ⟨_, rfl, wpAny_pure (show Q (some (.ref g3.objs.size)) _ from ?_)⟩
  rw [hsz] at hp sz ⊢
  exact hQ _ (Heap.get?_push_of_some _ z3) (q2'.at fun o e => Heap.get?_push_of_some _ e) (q3.at fun o e => Heap.get?_push_of_some _ e) hp sz fun c o c1 c2 c3 e => Heap.get?_push_of_some _ (kp c o c1 c2 c3 e)
/-- no more, while the last one is still held -/
theorem zipT_held_end {Q : Option Value → Shared → Prop} (hh : A.handled = none) (D : ZipApart z TI TO i1 i2 l1 l2) (hz : IsZipHeld s.heap z TI TO T f) (hT : s.heap.get? T = some oT) (hTI : IsPair s.heap TI (.ref i1) (.ref i2))
    (h1 : s.heap.IsTupleIter i1 l1 k1) (hl1 : s.heap.IsTuple l1 xs) (hx : xs[k1]? = none)
    (hQ : ∀ h', (∀ c o, c ≠ z → c ≠ i1 → s.heap.get? c = some o → h'.get? c = some o) → Q none { s with heap := h' }) : wpAny (model prog w) A (pyNext (.ref z)) Q E s := by
  have ty : s.TypeIs (.ref z) "zip" := ⟨_, hz, rfl⟩
  unfold pyNext
  refine wpAny_bind (wpAny_attempt (wpAny_callSpecial?_slot (name := Str.ofString "__next__") ty F.slot_zip_next (wpAny_call_entry F.slot_zip_next ty F.entry_zip_next ?_ (F.args_zip_next_1 _))))
  show wpAny _ _ (field (.ref z) 2 >>= _) _ _ _
  refine wpAny_bind (wpAny_field hz rfl (x := .bool false) rfl (show wpAny _ _ (field (.ref z) 3 >>= _) _ _ _ from ?_))
  refine wpAny_bind (wpAny_field hz rfl (x := .ref TI) rfl (wpAny_bind (wpAny_seqItems hTI rfl (show wpAny _ _ (Builtin.SmallTypes.ownedTupleIsFree (.ref z) >>= _) _ _ _ from ?_))))
  refine wpAny_bind (wpAny_tupleHeld_zip hz hT fun g1 z1 b1 => ?_)
  simp only [Bool.false_eq_true, if_false]
  refine wpAny_bind ?_
  rw [← Array.forIn_toList]
  simp only [List.forIn_cons, List.forIn_nil]
  refine wpAny_bind (wpAny_bind (wpAny_holding (show wpAny _ _ (Builtin.SmallTypes.nextOf (.ref i1) >>= _) _ _ _ from ?_)))
  refine wpAny_bind (RZ.nextOf_tuple_end (s := { s with heap := g1 }) hh (h1.extBut b1.extBut D.i1z) (hl1.extBut b1.extBut D.l1z) hx fun g2 e b2 he => ?_)
  obtain ⟨o, ho, hc⟩ := he
  refine wpAny_bind (wpAny_isInstance (T := "StopIteration") (b := true) ⟨o, ho, hc⟩ isSubtype_stop ?_)
  exact wpAny_pure (hQ _ fun c o c1 c2 x => b2 _ _ c2 (b1.extBut _ _ c1 x))
end
section
variable {prog : Program} {w : World} {A : Around} {s : Shared} {z TI TO i1 i2 l1 l2 S : Addr} {a1 a2 b1 b2 : Value}
/-- S.extend of such a zip, S an empty list -/
theorem zipT_loop {R : Result → Shared → Prop} {res : Value} {c0 : Nat} (hh : A.handled = none) (D : ZipApart z TI TO i1 i2 l1 l2) (hz : IsZip s.heap z TI TO .none) (hTI : IsPair s.heap TI (.ref i1) (.ref i2)) (hTO : IsPair s.heap TO .none .none)
    (h1 : s.heap.IsTupleIter i1 l1 0) (h2 : s.heap.IsTupleIter i2 l2 0) (hl1 : s.heap.IsTuple l1 #[a1, a2]) (hl2 : s.heap.IsTuple l2 #[b1, b2]) (hS : s.heap.get? S = some { cls := .type "list", dict := none, data := .seq #[] c0, slots := #[] })
    (nS : S ≠ z ∧ S ≠ TI ∧ S ≠ TO ∧ S ≠ i1 ∧ S ≠ i2 ∧ S ≠ l1 ∧ S ≠ l2)
    (hR : ∀ h' c p q, (∀ b o, b ≠ S → b ≠ z → b ≠ TO → b ≠ i1 → b ≠ i2 → s.heap.get? b = some o → h'.get? b = some o) → s.heap.objs.size ≤ p → p < q → IsPair h' p a1 b1 → IsPair h' q a2 b2 →
      h'.get? S = some { cls := .type "list", dict := none, data := .seq #[.ref p, .ref q] c, slots := #[] } → R (.ok (.ret res)) { s with heap := h' }) :
    codeAny (model prog w) A (.builtin "list.extend.loop" ⟨[.ref S, .ref z, res], []⟩) R s := by
  obtain ⟨nz, nTI, nTO, n1, n2, m1, m2⟩ := nS
  have hSlt : S < s.heap.objs.size := Heap.lt_size hS
  refine codeAny_builtin F.entry_extend_loop ?_
  rw [Around.under_plainId F.plain_extend_loop _]
  show wpAny _ A.in1 (pyNext (.ref z) >>= _) _ _ s
  refine wpAny_bind (RZ.pyNext_zipT_item D hz hTI hTO h1 h2 hl1 hl2 (x := a1) (y := b1) rfl rfl fun g1 z1 t1 p1 p2 q1 e1 k1 => ?_)
  have S1 := k1 S _ nz nTO n1 n2 hS
  show wpAny _ A.in1 (updateSeq S (·.push _) >>= _) _ _ _
  refine wpAny_bind (wpAny_updateSeq S1 rfl (wpAny_pure ⟨plainId_quiet F.plain_extend_loop _, ?_⟩) (by simp [sizeLine_eq]) (by simp [sizeLine_eq]))
  have up1 : ∀ b o, b ≠ S → g1.get? b = some o → (g1.update S (Obj.mapSeq (·.push (.ref s.heap.objs.size)))).get? b = some o := fun b o hb e => (Heap.get?_update_other _ _ (Ne.symm hb)).trans e
  have S2 : (g1.update S (Obj.mapSeq (·.push (.ref s.heap.objs.size)))).get? S = some { cls := .type "list", dict := none, data := .seq #[.ref s.heap.objs.size] (c0 + 1), slots := #[] } := Heap.get?_update_self _ S1 rfl
  have sz1 : (g1.update S (Obj.mapSeq (·.push (.ref s.heap.objs.size)))).objs.size = s.heap.objs.size + 1 := by rw [Heap.size_update, e1]
  refine codeAny_builtin F.entry_extend_loop ?_
  rw [Around.under_plainId F.plain_extend_loop _]
  show wpAny _ A.in1 (pyNext (.ref z) >>= _) _ _ _
  have ne : ∀ {b : Addr} {o : Obj}, s.heap.get? b = some o → b ≠ s.heap.objs.size := fun e => Nat.ne_of_lt (Heap.lt_size e)
  have T1 := k1 TI _ D.TIz D.TITO D.TIi1 D.TIi2 hTI
  obtain ⟨ol1, gl1, cl1⟩ := id hl1
  obtain ⟨ol2, gl2, cl2⟩ := id hl2
  have L1 : g1.IsTuple l1 #[a1, a2] := ⟨ol1, k1 _ _ D.l1z D.l1TO D.l1i1 D.l1i2 gl1, cl1⟩
  have L2' : g1.IsTuple l2 #[b1, b2] := ⟨ol2, k1 _ _ D.l2z D.l2TO D.l2i1 D.l2i2 gl2, cl2⟩
  refine wpAny_bind (zipT_held D (up1 z _ nz.symm z1) (up1 _ _ (Nat.ne_of_gt hSlt) q1) (up1 TI _ nTI.symm T1) (p1.at fun o e => up1 _ o n1.symm e) (p2.at fun o e => up1 _ o n2.symm e)
    (let ⟨o, e, r⟩ := L1; ⟨o, up1 _ o m1.symm e, r⟩) (let ⟨o, e, r⟩ := L2'; ⟨o, up1 _ o m2.symm e, r⟩) (x := a2) (y := b2) rfl rfl fun g2 z2 p3 p4 q2 e2 k2 => ?_)
  dsimp only at q2 e2 k2 ⊢
  rw [sz1] at q2 e2 ⊢
  have S3 := k2 S _ nz n1 n2 S2
  show wpAny _ A.in1 (updateSeq S (·.push _) >>= _) _ _ _
  refine wpAny_bind (wpAny_updateSeq S3 rfl (wpAny_pure ⟨plainId_quiet F.plain_extend_loop _, ?_⟩) (by simp [sizeLine_eq]) (by simp [sizeLine_eq]))
  have up2 : ∀ b o, b ≠ S → g2.get? b = some o → (g2.update S (Obj.mapSeq (·.push (.ref (s.heap.objs.size + 1))))).get? b = some o := fun b o hb e => (Heap.get?_update_other _ _ (Ne.symm hb)).trans e
  have S4 : (g2.update S (Obj.mapSeq (·.push (.ref (s.heap.objs.size + 1))))).get? S = some { cls := .type "list", dict := none, data := .seq #[.ref s.heap.objs.size, .ref (s.heap.objs.size + 1)] (c0 + 1 + 1), slots := #[] } := Heap.get?_update_self _ S3 rfl
  refine codeAny_builtin F.entry_extend_loop ?_
  rw [Around.under_plainId F.plain_extend_loop _]
  show wpAny _ A.in1 (pyNext (.ref z) >>= _) _ _ _
  have zlt : z < s.heap.objs.size := Heap.lt_size hz
  have i1lt : i1 < s.heap.objs.size := by obtain ⟨_, e, _⟩ := h1; exact Heap.lt_size e
  have i2lt : i2 < s.heap.objs.size := by obtain ⟨_, e, _⟩ := h2; exact Heap.lt_size e
  have P1 : IsPair g2 s.heap.objs.size a1 b1 := k2 _ _ (Nat.ne_of_gt zlt) (Nat.ne_of_gt i1lt) (Nat.ne_of_gt i2lt) (up1 _ _ (Nat.ne_of_gt hSlt) q1)
  have T2 := k2 TI _ D.TIz D.TIi1 D.TIi2 (up1 TI _ nTI.symm T1)
  have L3 : g2.IsTuple l1 #[a1, a2] := let ⟨o, e, r⟩ := L1; ⟨o, k2 _ o D.l1z D.l1i1 D.l1i2 (up1 _ o m1.symm e), r⟩
  refine wpAny_bind (zipT_held_end (k1 := 2) hh D (up2 z _ nz.symm z2) (up2 _ _ (Nat.ne_of_gt hSlt) P1) (up2 TI _ nTI.symm T2) (p3.at fun o e => up2 _ o n1.symm e) (let ⟨o, e, r⟩ := L3; ⟨o, up2 _ o m1.symm e, r⟩) rfl fun g3 k3 => ?_)
  refine wpAny_pure (hR g3 _ s.heap.objs.size (s.heap.objs.size + 1) (fun b o c1 c2 c3 c4 c5 e => ?_) (Nat.le_refl _) (Nat.lt_succ_self _) ?_ ?_ (k3 _ _ nz n1 S4))
  · exact k3 _ _ c2 c4 (up2 _ _ c1 (k2 _ _ c2 c4 c5 (up1 _ _ c1 (k1 _ _ c2 c3 c4 c5 e))))
  · exact k3 _ _ (Nat.ne_of_gt zlt) (Nat.ne_of_gt i1lt) (up2 _ _ (Nat.ne_of_gt hSlt) P1)
  · exact k3 _ _ (Nat.ne_of_gt (Nat.lt_succ_of_lt zlt)) (Nat.ne_of_gt (Nat.lt_succ_of_lt i1lt)) (up2 _ _ (Nat.ne_of_gt (Nat.lt_succ_of_lt hSlt)) q2)
set_option maxHeartbeats 8000000 in
theorem call_list_zip {E : Value → Shared → Prop} {Q : Value → Shared → Prop} (hh : A.handled = none) (D : ZipApart z TI TO i1 i2 l1 l2) (hz : IsZip s.heap z TI TO .none) (hTI : IsPair s.heap TI (.ref i1) (.ref i2)) (hTO : IsPair s.heap TO .none .none)
    (h1 : s.heap.IsTupleIter i1 l1 0) (h2 : s.heap.IsTupleIter i2 l2 0) (hl1 : s.heap.IsTuple l1 #[a1, a2]) (hl2 : s.heap.IsTuple l2 #[b1, b2])
    (hQ : ∀ h' c p q, (∀ b o, b ≠ z → b ≠ TO → b ≠ i1 → b ≠ i2 → s.heap.get? b = some o → h'.get? b = some o) → s.heap.objs.size < p → p < q → IsPair h' p a1 b1 → IsPair h' q a2 b2 →
      h'.get? s.heap.objs.size = some { cls := .type "list", dict := none, data := .seq #[.ref p, .ref q] c, slots := #[] } → Q (.ref s.heap.objs.size) { s with heap := h' }) :
    wpAny (model prog w) A (call (.type "list") [.ref z]) Q E s := by
  have lt : ∀ {b : Addr} {o : Obj}, s.heap.get? b = some o → s.heap.objs.size ≠ b := fun e => Nat.ne_of_gt (Heap.lt_size e)
  have g1 := (let ⟨o, e, _⟩ := h1; ⟨o, e⟩ : ∃ o, s.heap.get? i1 = some o)
  have g2 := (let ⟨o, e, _⟩ := h2; ⟨o, e⟩ : ∃ o, s.heap.get? i2 = some o)
  have g3 := (let ⟨o, e, _⟩ := hl1; ⟨o, e⟩ : ∃ o, s.heap.get? l1 = some o)
  have g4 := (let ⟨o, e, _⟩ := hl2; ⟨o, e⟩ : ∃ o, s.heap.get? l2 = some o)
  obtain ⟨_, e1⟩ := g1
  obtain ⟨_, e2⟩ := g2
  obtain ⟨_, e3⟩ := g3
  obtain ⟨_, e4⟩ := g4
  refine callType_codes (Q₁ := fun obj s1 => obj = .ref s.heap.objs.size ∧ s1 = { s with heap := s.heap.push { cls := .type "list", data := .seq #[] } }) PySem.F.called_list (PySem.F.typeCall_list_1 _) PySem.F.entry_list_init
    (code_list_new _ ⟨rfl, rfl⟩) fun obj s1 hs1 => ?_
  obtain ⟨rfl, rfl⟩ := hs1
  have hS : (s.heap.push { cls := .type "list", data := .seq #[] }).get? s.heap.objs.size = some { cls := .type "list", data := .seq #[] } := Heap.get?_push_size _ rfl
  have kp : ∀ b o, s.heap.get? b = some o → (s.heap.push { cls := .type "list", data := .seq #[] }).get? b = some o := fun b o e => Heap.get?_push_of_some _ e
  refine ⟨⟨_, hS, rfl⟩, PySem.F.args_list_init_2 _ _, ?_⟩
  show wpAny _ _ (do let old ← Builtin.List.listItems (.ref s.heap.objs.size); Builtin.List.listUpdate (.ref s.heap.objs.size) (fun _ => #[]); letGo old.toList.reverse; Builtin.List.listExtendWith (.ref s.heap.objs.size) (.ref z) .none) _ _ _
  refine wpAny_bind ?_
  unfold Builtin.List.listItems
  refine wpAny_bind (wpAny_seqItems hS rfl (wpAny_pure ?_))
  show wpAny _ _ (updateSeq s.heap.objs.size (fun _ => #[]) >>= fun _ => letGo (#[] : Array Value).toList.reverse >>= fun _ => Builtin.List.listExtendWith (.ref s.heap.objs.size) (.ref z) .none) _ _ _
  refine wpAny_bind (wpAny_updateSeq hS rfl ?_)
  have hS2 := Heap.get?_update_self (Obj.mapSeq (fun _ => (#[] : Array Value))) hS rfl
  have kp2 : ∀ b o, s.heap.get? b = some o → ((s.heap.push { cls := .type "list", data := .seq #[] }).update s.heap.objs.size (Obj.mapSeq (fun _ => (#[] : Array Value)))).get? b = some o := fun b o e => (Heap.get?_update_other _ _ (lt e)).trans (kp b o e)
  refine wpAny_bind (wpAny_letGo ?_)
  unfold Builtin.List.listExtendWith
  have tz : Shared.TypeIs { s with heap := (s.heap.push { cls := .type "list", data := .seq #[] }).update s.heap.objs.size (Obj.mapSeq (fun _ => (#[] : Array Value))) } (.ref z) "zip" := ⟨_, kp2 _ _ hz, rfl⟩
  refine wpAny_bind (wpAny_typeOf tz ?_)
  have c1 : Builtin.List.listSameRef (.ref s.heap.objs.size) (.ref z) = false := by simp [Builtin.List.listSameRef, lt hz]
  have c2 : (Value.type "zip" == Value.type "list") = false := by decide
  have c3 : (Value.type "zip" == Value.type "tuple") = false := by decide
  simp only [c1, c2, c3, Bool.or_false, Bool.false_eq_true, if_false]
  refine wpAny_bind (wpAny_pyIter_zip (kp2 _ _ hz) ?_)
  refine wpAny_bind (wpAny_holding ?_)
  unfold Builtin.List.listLengthHint
  refine wpAny_bind (wpAny_specialOf tz nolen_zip ?_)
  show wpAny _ _ (specialOf (Value.ref z) (Str.ofString "__length_hint__") >>= _) _ _ _
  refine wpAny_bind (wpAny_specialOf tz nohint_zip (wpAny_pure ?_))
  show wpAny _ _ (rule "list.extend.makes-room" >>= fun _ => Builtin.List.listTouch (.ref s.heap.objs.size) >>= fun _ => again (.builtin "list.extend.loop" ⟨[.ref s.heap.objs.size, .ref z, .none], []⟩)) _ _ _
  refine wpAny_bind (wpAny_rule (wpAny_bind (show wpAny _ _ (updateSeq s.heap.objs.size (·.push .none) >>= fun _ => updateSeq s.heap.objs.size (·.pop)) _ _ _ from ?_)))
  refine wpAny_bind (wpAny_updateSeq hS2 rfl ?_)
  have hS3 := Heap.get?_update_self (Obj.mapSeq (·.push Value.none)) hS2 rfl
  refine wpAny_updateSeq hS3 rfl ?_
  have hS4 := Heap.get?_update_self (Obj.mapSeq (·.pop)) hS3 rfl
  generalize hg : Heap.update (Heap.update ((s.heap.push { cls := .type "list", data := .seq #[] }).update s.heap.objs.size (Obj.mapSeq (fun _ => (#[] : Array Value)))) s.heap.objs.size (Obj.mapSeq (·.push Value.none))) s.heap.objs.size (Obj.mapSeq (·.pop)) = g at hS4 ⊢
  have kp4 : ∀ b o, s.heap.get? b = some o → g.get? b = some o := fun b o e => by
    rw [← hg]
    exact (Heap.get?_update_other _ _ (lt e)).trans ((Heap.get?_update_other _ _ (lt e)).trans (kp2 b o e))
  have sg : g.objs.size = s.heap.objs.size + 1 := by rw [← hg, Heap.size_update, Heap.size_update, Heap.size_update, Heap.size_push]
  refine wpAny_pure ⟨plainId_quiet F.plain_extend_loop _, zipT_loop (s := { s with heap := g }) (by simp [hh]) D (kp4 _ _ hz) (kp4 _ _ hTI) (kp4 _ _ hTO) (h1.at fun o e => kp4 _ o e) (h2.at fun o e => kp4 _ o e) (let ⟨o, e, r⟩ := hl1; ⟨o, kp4 _ o e, r⟩) (let ⟨o, e, r⟩ := hl2; ⟨o, kp4 _ o e, r⟩) hS4
    ⟨lt hz, lt hTI, lt hTO, lt e1, lt e2, lt e3, lt e4⟩ fun h' c p q k r1 r2 q1 q2 gS => ?_⟩
  dsimp only at k r1
  rw [sg] at r1
  exact ⟨rfl, hQ h' c p q (fun b o d1 d2 d3 d4 e => k b o (lt e).symm d1 d2 d3 d4 (kp4 b o e)) r1 r2 q1 q2 gS⟩
end
/-- list(zip(t, u)), pairs -/
def tLZip (K : PySem.W.Frag) (ta : TA) : TE := fun σ H Q => ta σ H fun vs H1 => ∃ a b x1 x2 y1 y2, vs = [.ref a, .ref b] ∧ SqT K H1 a [x1, x2] ∧ SqT K H1 b [y1, y2] ∧
  ∀ l p q, H1 l = none → H1 p = none → H1 q = none → l ≠ p → l ≠ q → p ≠ q → Q (.ref l) (upd (upd (upd H1 p (.tup [x1, y1])) q (.tup [x2, y2])) l (.lst [.ref p, .ref q]))
theorem pe_lzip {X : Cx} {e e2 : Expr} {ta : TA} {p p2 pos pos2 : Pos} (hc : X.calm = true) (hg : Gl X "list") (hm : X.mg "list" = none) (hg2 : Gl X "zip") (hm2 : X.mg "zip" = none) (ha : PA X [e, e2] ta)
    (hs : starEach [e, e2] X.env = (false, eval e X.env) :: starEach [e2] X.env := by rfl) (hpl : (backTo pos2 (starEach [e2] X.env)).any (·.1) = false := by rfl)
    (hs1 : starEach [.Call (.Name "zip" p2) [e, e2] [] pos2] X.env = (false, eval (.Call (.Name "zip" p2) [e, e2] [] pos2) X.env) :: starEach [] X.env := by rfl) :
    PE X (.Call (.Name "list" p) [.Call (.Name "zip" p2) [e, e2] [] pos2] [] pos) (tLZip X.K ta) := by
  refine ⟨fun pins s σ H Q I h => ?_⟩
  refine wpAny_Call_Name_kw (ld_blt I hg hm PyProof.Rows.boot_list (callWith_type1 ?_ hs1 rfl))
  rw [hs1]
  show wpAny _ _ (spliced ((false, eval (.Call (.Name "zip" p2) [e, e2] [] pos2) X.env) :: backTo pos (starEach [] X.env))) _ _ s
  refine Calls.spliced_cons ?_
  refine Call_ (ld_blt I hg2 hm2 PyProof.Rows.boot_zip (callWith_type1 (thn (ha.run pos2 pins s σ H _ I h) fun us s1 hh => ?_) hs hpl))
  obtain ⟨vs, H1, I1, r1, a, b, x1, x2, y1, y2, rfl, ta', tb, q⟩ := hh
  obtain ⟨u1, u2, rfl, ra, rb⟩ := vals2 r1
  obtain rfl : u1 = Value.ref a := ra
  obtain rfl : u2 = Value.ref b := rb
  obtain ⟨its, rv, t1, _⟩ := I1.tuple ta'
  obtain ⟨its2, rv2, t2, _⟩ := I1.tuple tb
  obtain ⟨v1, v2, rfl, rv1, rv2'⟩ := vals2 rv
  obtain ⟨w1, w2, rfl, rw1, rw2⟩ := vals2 rv2
  obtain ⟨o1, ho1, _⟩ := id t1
  obtain ⟨o2, ho2, _⟩ := id t2
  refine RZ.call_zipT (show s1.heap.IsTuple a _ from t1) (show s1.heap.IsTuple b _ from t2) fun h' hz hTI hTO h1 h2 hsz hk => Calls.spliced_nil ?_
  refine call_list_zip (s := { s1 with heap := h' }) (I1.ok.hd hc) (PySem.W.ktu_apart s1.heap.objs.size a b (Heap.lt_size ho1) (Heap.lt_size ho2)) hz hTI hTO h1 h2 (let ⟨o, e, r⟩ := t1; ⟨o, hk _ o e, r⟩) (let ⟨o, e, r⟩ := t2; ⟨o, hk _ o e, r⟩)
    fun g c p q' k l1 l2 gp gq gS => ?_
  dsimp only at k l1 gS ⊢
  have z0 : s1.heap.objs.size ≤ h'.objs.size := by rw [hsz]; exact Nat.le_add_right _ _
  have kp : ∀ c o, s1.heap.get? c = some o → g.get? c = some o := fun c o e => by
    have lt := Heap.lt_size e
    exact k c o (Nat.ne_of_lt (Nat.lt_of_lt_of_le lt (Nat.le_add_right _ _))) (Nat.ne_of_lt (Nat.lt_of_lt_of_le lt (Nat.le_add_right _ _))) (Nat.ne_of_lt lt) (Nat.ne_of_lt (Nat.lt_of_lt_of_le lt (Nat.le_add_right _ _))) (hk c o e)
  have fl : H1 h'.objs.size = none := I1.hok.fresh z0
  have fp : H1 p = none := I1.hok.fresh (Nat.le_trans z0 (Nat.le_of_lt l1))
  have fq : H1 q' = none := I1.hok.fresh (Nat.le_trans z0 (Nat.le_of_lt (Nat.lt_trans l1 l2)))
  have n1 : h'.objs.size ≠ p := Nat.ne_of_lt l1
  have n2 : h'.objs.size ≠ q' := Nat.ne_of_lt (Nat.lt_trans l1 l2)
  have n3 : p ≠ q' := Nat.ne_of_lt l2
  have two : 2 ≤ sizeLine := by show 2 ≤ sizeLine; decide
  have kpH : ∀ b u, H1 b = some u → (upd (upd (upd H1 p (.tup [x1, y1])) q' (.tup [x2, y2])) h'.objs.size (.lst [.ref p, .ref q'])) b = some u := fun b u e => by
    rw [upd_ne (fun z => by rw [z, fl] at e; cases e), upd_ne (fun z => by rw [z, fq] at e; cases e), upd_ne (fun z => by rw [z, fp] at e; cases e)]
    exact e
  have lowB : ∀ b o, s1.heap.get? b = some o → b ≠ p ∧ b ≠ q' ∧ b ≠ h'.objs.size := fun b o e => by
    have lt := Heap.lt_size e
    exact ⟨Nat.ne_of_lt (Nat.lt_of_lt_of_le lt (Nat.le_trans z0 (Nat.le_of_lt l1))), Nat.ne_of_lt (Nat.lt_of_lt_of_le lt (Nat.le_trans z0 (Nat.le_of_lt (Nat.lt_trans l1 l2)))), Nat.ne_of_lt (Nat.lt_of_lt_of_le lt z0)⟩
  refine ⟨.ref h'.objs.size, _, I1.call' (ch := []) (s' := { s1 with heap := g, toks := s1.toks }) (H' := upd (upd (upd H1 p (.tup [x1, y1])) q' (.tup [x2, y2])) h'.objs.size (.lst [.ref p, .ref q'])) rfl
    ⟨fun b o e _ _ _ => kp b o e, fun b o e _ _ _ => ⟨o.slots, kp b o e⟩, fun b o e n _ => ?_, fun b o e _ => ⟨o, kp b o e⟩, fun b xs e => kpH b _ e, fun b o u e => kpH b _ e, fun b ps e => ⟨#[], by rw [kpH b _ e]; simp⟩⟩ (fun b u e => ?_) I1.bare (fun b z => by simp at z), rfl, q _ _ _ fl fp fq n1 n2 n3⟩
  · obtain ⟨m1, m2, m3⟩ := lowB b o e
    rw [upd_ne m3, upd_ne m2, upd_ne m1]
    exact n
  · by_cases c1 : b = h'.objs.size
    · rw [c1, upd_same] at e
      cases e
      rw [c1]
      exact ⟨two, _, c, .cons rfl (.cons rfl .nil), gS⟩
    · rw [upd_ne c1] at e
      by_cases c2 : b = q'
      · rw [c2, upd_same] at e
        cases e
        rw [c2]
        exact ⟨two, [v2, w2], .cons rv2' (.cons rw2 .nil), _, gq, rfl, _, rfl⟩
      · rw [upd_ne c2] at e
        by_cases c3 : b = p
        · rw [c3, upd_same] at e
          cases e
          rw [c3]
          exact ⟨two, [v1, w1], .cons rv1 (.cons rw1 .nil), _, gp, rfl, _, rfl⟩
        · rw [upd_ne c3] at e
          exact (I1.hok b u e).stay (fun d v _ y => kp d v y) (fun d y => kpH d _ y) fun d xs y => kpH d _ y
end Cn
namespace Cn
open PySem PySem.Spec PyProof.Rows L2
/-! ### tuple(xs) whose object is known; dict(t) of it -/
section
variable {X : Cx}
theorem call_tuple_new : CallR X (.type "tuple") (fun xs H Q => ∃ p ys, xs = [.ref p] ∧ SqL X.K H p ys ∧ ∀ l o, H l = none → o.cls = .type "tuple" → o.dict = none → Q (.ref l) (upd H l (.frz o (.tup ys)))) := by
  intro pins s σ H xs us Q I r h
  obtain ⟨p, ys, rfl, seq, want⟩ := h
  obtain ⟨u, rfl, rx⟩ := vals1 r
  cases rx
  obtain ⟨its, rel, pl, short⟩ := I.list seq
  have same := rel.length
  refine call_tuple_list pl.isList (fun h1 kp => ?_) (by simp only [List.size_toArray] <;> omega)
  have J : Inv X pins σ H { s with heap := h1 } := I.kept (t' := s.toks) kp
  have at1 : (h1.push { cls := .type "tuple", data := .seq its.toArray }).get? h1.objs.size = some { cls := .type "tuple", data := .seq its.toArray } := Heap.get?_push_size _ rfl
  have J2 : Inv X pins σ (upd H h1.objs.size (.frz { cls := .type "tuple", data := .seq its.toArray } (.tup ys))) { s with heap := h1.push { cls := .type "tuple", data := .seq its.toArray } } :=
    J.laid (t' := s.toks) (fun b o e => Heap.get?_push_of_some _ e) (Nat.le_refl _) ⟨at1, short, its, rel, IsTup.new _ _⟩
  exact ⟨.ref h1.objs.size, _, J2, rfl, want _ _ (J.hok.fresh (Nat.le_refl _)) rfl rfl⟩
theorem pairs_at {pins : List (Addr × Obj)} {σ : L2.St} {H : Hp} {s : Shared} (I : Inv X pins σ H s) : ∀ {ps : List Addr} {kvs : List (Key × V)}, Paired (fun p kv => SqT X.K H p [kV kv.1, kv.2]) ps kvs →
    ∃ (prs : List (Key × Value)) (pvs : List (Value × Value)), KV kvs prs ∧ prs.length = ps.length ∧ pvs.length = ps.length ∧ ∀ (j : Nat) (k v : Value), pvs[j]? = some (k, v) → ∃ (b : Addr) (key : Key), ps[j]? = some b ∧ prs[j]? = some (key, v) ∧ IsTup s.heap b #[k, v] ∧ keyIs key k = true
  | _, _, .nil => ⟨[], [], .nil, rfl, rfl, fun j k v e => by simp at e⟩
  | _, _, .cons (a := p) (b := kv) h t => by
    obtain ⟨prs, pvs, r, l1, l2, q⟩ := pairs_at I t
    obtain ⟨its, rv, tp, _⟩ := I.tuple h
    obtain ⟨u, y, rfl, ru, ry⟩ := vals2 rv
    refine ⟨(kv.1, y) :: prs, (u, y) :: pvs, .cons ⟨rfl, ry⟩ r, congrArg Nat.succ l1, congrArg Nat.succ l2, fun j k v e => ?_⟩
    cases j with
    | zero =>
      have z : (u, y) = (k, v) := Option.some.inj e
      cases z
      exact ⟨p, kv.1, rfl, rfl, tp, kV_is (P := X.prog) (w := X.w) ru⟩
    | succ j => exact q j k v e
theorem call_dictT (hcalm : X.calm = true) : CallR X (.type "dict") (fun xs H Q => ∃ (a : Addr) (ps : List Addr) (kvs : List (Key × V)) (ob : Obj), xs = [.ref a] ∧ H a = some (.frz ob (.tup (ps.map V.ref))) ∧ ob.cls = .type "tuple" ∧ ob.dict = none ∧
    Paired (fun p kv => SqT X.K H p [kV kv.1, kv.2]) ps kvs ∧ ∀ p, H p = none → Q (.ref p) (upd H p (.dK (mergeK [] kvs)))) := by
  intro pins s σ H xs us Q I r h
  obtain ⟨a, ps, kvs, ob, rfl, ha, hc, hd, hp, want⟩ := h
  obtain ⟨u, rfl, rx⟩ := vals1 r
  cases rx
  obtain ⟨g1, short, its, rel, tp⟩ := I.hok a _ ha
  obtain ⟨ob', g2, _, n, dat⟩ := tp
  obtain rfl : ob = ob' := Option.some.inj (g1.symm.trans g2)
  have ei := refs_at rel
  subst ei
  rw [List.length_map] at short
  obtain ⟨prs, pvs, kv, l1, l2, q⟩ := pairs_at I hp
  have P := PairArg.tuple (prog := X.prog) (w := X.w) a (ps.map Value.ref).toArray (fun j => ps.getD j 0) pvs
  refine PySem.call_dict_pairs (knd := mixKind X.prog X.w) (kvs := prs) P (I.ok.hd hcalm) ⟨⟨ob, n, g1, hc, hd, dat⟩, by simp [l2], fun j k v e => ?_⟩ ⟨l1.trans l2.symm, fun j k v e => ?_⟩ (by rw [l2]; exact short) fun h' tk made keep => ?_
  · obtain ⟨b, key, e1, e2, e3, e4⟩ := q j k v e
    refine ⟨?_, ?_⟩
    · simp [e1]
    · have z : ps.getD j 0 = b := by rw [List.getD_eq_getElem?_getD, e1]; rfl
      show PairAt s.heap (ps.getD j 0) k v
      rw [z]
      exact .inl e3
  · obtain ⟨b, key, e1, e2, e3, e4⟩ := q j k v e
    exact ⟨key, e2, e4⟩
  · have hm : (s.heap.objs.size == sysModules) = false := beq_eq_false_iff_ne.mpr (Nat.ne_of_gt I.big)
    have hlen : (mergeK [] kvs).length ≤ sizeLine := by
      have := length_mergeK kvs []
      have := kv.length
      simp only [List.length_nil, Nat.zero_add] at *
      omega
    exact ⟨.ref s.heap.objs.size, upd H s.heap.objs.size (.dK (mergeK [] kvs)), I.laid (t' := tk) (fun b o e => keep b o (fun z => nomatch z) e) (Nat.le_refl _) (show ObjOk X.prog X.w _ _ _ (.dK (mergeK [] kvs)) from ⟨hlen, hm, merged [] prs, KV.merge kv .nil, made⟩), rfl, want _ (I.hok.fresh (Nat.le_refl _))⟩
end
end Cn
namespace Cn
open PySem PySem.Spec PyProof.Rows L2
/-! ### list(d.values()) -/
def tListVals (te : TE) : TE := fun σ H Q => te σ H fun x H1 => ∃ (d : Addr) (kvs : List (Key × V)), x = .ref d ∧ H1 d = some (.dK kvs) ∧ ∀ p, H1 p = none → Q (.ref p) (upd H1 p (.lst (kvs.map (·.2))))
theorem vals_snd : ∀ {kvs : List (Key × V)} {vs : List (Key × Value)}, KV kvs vs → Vals (kvs.map (·.2)) (vs.map (·.2))
  | _, _, .nil => .nil
  | _, _, .cons h r => .cons h.2 (vals_snd r)
theorem pe_listVals {X : Cx} {e : Expr} {te : TE} {p apos cpos pos : Pos} (hc : X.calm = true) (he : PE X e te) (hg : Gl X "list") (hm : X.mg "list" = none) (hbase : attributeBase e "values" X.env (eval e X.env) = eval e X.env := by rfl) (hline : (apos.endLine == cpos.line) = true := by rfl)
    (hs : starEach [.Call (.Attribute e "values" apos) [] [] cpos] X.env = (false, eval (.Call (.Attribute e "values" apos) [] [] cpos) X.env) :: starEach [] X.env := by rfl) :
    PE X (.Call (.Name "list" p) [.Call (.Attribute e "values" apos) [] [] cpos] [] pos) (tListVals te) := by
  refine ⟨fun pins s σ H Q I hq => wpAny_Call_Name_kw (ld_blt I hg hm PyProof.Rows.boot_list (PyProof.Rows.callWith_type1 ?_ hs rfl))⟩
  rw [hs]
  show wpAny _ _ (spliced ((false, eval (.Call (.Attribute e "values" apos) [] [] cpos) X.env) :: backTo pos (starEach [] X.env))) _ _ s
  refine Calls.spliced_cons (wpAny_Call_method (T := "dict") (id := "dict.values") hbase rfl hline F.plainAttrs_dict F.slot_dict_values F.type_dict_values (thn (he.run pins s σ H _ I hq) fun u s1 hh => ?_))
  obtain ⟨x, H1, I1, rx, d, kvs, rfl, hd, q⟩ := hh
  obtain rfl : u = Value.ref d := rx
  obtain ⟨short, lo, vs, kv, dk⟩ := I1.hok d _ hd
  obtain ⟨ep, tab⟩ := dk.dictAt
  have same : kvs.length = vs.length := Paired.length kv
  have J : Inv X pins σ H1 { s1 with heap := s1.heap.push { cls := .type "dict_values", data := .fields #[.ref d] } } := I1.kept (t' := s1.toks) fun b ob z => Heap.get?_push_of_some _ z
  refine ⟨dk.typeIs, dk.mapOf.noDict, (show wpAny _ _ (callWith cpos (.builtin "dict.values") [.ref d] [] []) _ X.xe s1 from ?_)⟩
  refine method_meetsIn F.slot_dict_values F.entry_dict_values rfl (PySem.evalArgs_none ⟨rfl, dk.typeIs, F.args_dict_values_1 _, _, meets_dict_values (mixKind X.prog X.w) d lo, ⟨vs, dk⟩, Calls.spliced_nil ?_⟩)
  refine PySem.W.kdl_call (PySem.W.kdl_values (knd := mixKind X.prog X.w) (kvs := vs) (ep := ep)) (I1.ok.hd hc) ⟨⟨_, Heap.get?_push_size _ rfl, rfl, rfl⟩, tab.push _⟩ (by omega) fun g tk acc c keep at1 its => ?_
  have eq : acc.toList = vs.map (·.2) := PySem.W.kdl_vals_eq acc.toList (by rw [Array.length_toList]; exact its.1) fun j v z => its.2 j v (by rw [← Array.getElem?_toList]; exact z)
  refine ⟨.ref _, _, J.laid (t' := tk) keep (Nat.le_refl _) (o := .lst (kvs.map (·.2))) ⟨by rw [List.length_map]; exact short, acc.toList, c, by rw [eq]; exact vals_snd kv, ?_⟩, rfl, q _ (J.hok.fresh (Nat.le_refl _))⟩
  rw [Array.toArray_toList]
  exact at1
end Cn
namespace Cn
open PySem PySem.Spec PyProof.Rows L2
theorem hu1 {n : Nat} (h : n + 1 < cLine) : n + 1 < cLine := h
/-! ### methods' calls -/
section
variable {X : Cx} {CX : CXT} {k j : Nat} {f C : Addr} {ps ks : List Str} {sp : Sp} {x m : Str} {p pos apos : Pos} {e o : Expr} {es : List Expr} {kws : List Keyword} {ta : TE} {t tk : TA} {n : Nat} {g : List Value → List Value → List Value} {gV : List V → List V → List V}
/-- o.m(e, ..), m raises nothing -/
theorem mD {pl : Sem Bool} (D : DefOk X.prog X.w X.K X.mg X.base CX0 k f ps sp) (c : Cls X.K C) (hm : Meth X.K C m f) (hr : Room j X.A) (ho : PE X o ta) (ha : PA X (e :: es) t) (hk : k ≤ j := by decide)
    (hst : starEach (e :: es) X.env = (false, eval e X.env) :: starEach es X.env := by rfl) (hpl : (backTo pos (starEach es X.env)).any (·.1) = false := by rfl)
    (ht : eval (.Call (.Attribute o m apos) (e :: es) [] pos) X.env = (do
      let ov ← eval o X.env
      standAt apos.atName
      let (f, first) ← holding [ov] (getMethod ov m pl)
      callWith pos f first (backTo pos (starEach (e :: es) X.env)) (backToKw pos (keywordEach [] X.env))) := by rfl) :
    PE X (.Call (.Attribute o m apos) (e :: es) [] pos) (tMeth C m sp [] E0 ta t) := by
  obtain ⟨fd, F, b, kp⟩ := D
  exact pe_meth (pl := pl) ho c hm F (hr.mono hk) b .nil pass0 ha hst hpl ht
theorem mD0 {pl : Sem Bool} (D : DefOk X.prog X.w X.K X.mg X.base CX0 k f ps sp) (c : Cls X.K C) (hm : Meth X.K C m f) (hr : Room j X.A) (ho : PE X o ta) (hk : k ≤ j := by decide)
    (ht : eval (.Call (.Attribute o m apos) [] [] pos) X.env = (do
      let ov ← eval o X.env
      standAt apos.atName
      let (f, first) ← holding [ov] (getMethod ov m pl)
      callWith pos f first (backTo pos (starEach [] X.env)) (backToKw pos (keywordEach [] X.env))) := by rfl) :
    PE X (.Call (.Attribute o m apos) [] [] pos) (tMeth C m sp [] E0 ta tNil) := by
  obtain ⟨fd, F, b, kp⟩ := D
  exact pe_meth0 (pl := pl) ho c hm F (hr.mono hk) b .nil pass0 ht
/-- f(e, ..), f may raise -/
theorem cS {W : WX} (D : DefOk X.prog X.w X.K X.mg X.base (L2.CX X.prog X.w) k f ps sp) (tk : Takes X W) (hm : X.mg x = some (.ref f)) (hr : Room j X.A) (ha : PA X (e :: es) t) (hk : k ≤ j := by decide) (hg : Gl X x := by rfl)
    (hdb : (x == ("__debug__" : Str)) = false := by decide) (he : starEach (e :: es) X.env = (false, eval e X.env) :: starEach es X.env := by rfl) (hpl : (backTo pos (starEach es X.env)).any (·.1) = false := by rfl) :
    PE X (.Call (.Name x p) (e :: es) [] pos) (tCallS sp (WE W) t) := by
  obtain ⟨fd, F, b, kp⟩ := D
  exact pe_callS F (hr.mono hk) hg hm kp b (fun σ => passAt tk σ) ha hdb he hpl
def tMethS (C : Addr) (m : Str) (sp : Sp) (E : L2.St → XK) (ta : TE) (t : TA) : TE := fun σ H Q => ta σ H fun x H1 => ∃ a dx fs, x = .ref a ∧ H1 a = some (.ins C dx fs) ∧ fs.lookup m = none ∧
  t σ H1 fun vs H2 => sp (x :: vs) H2 Q (E σ)
/-- o.m(e, ..), m may raise -/
theorem mS {W : WX} {pl : Sem Bool} (D : DefOk X.prog X.w X.K X.mg X.base (L2.CX X.prog X.w) k f ps sp) (tk : Takes X W) (c : Cls X.K C) (hm : Meth X.K C m f) (hr : Room j X.A) (ho : PE X o ta) (ha : PA X (e :: es) t) (hk : k ≤ j := by decide)
    (hst : starEach (e :: es) X.env = (false, eval e X.env) :: starEach es X.env := by rfl) (hpl : (backTo pos (starEach es X.env)).any (·.1) = false := by rfl)
    (ht : eval (.Call (.Attribute o m apos) (e :: es) [] pos) X.env = (do
      let ov ← eval o X.env
      standAt apos.atName
      let (f, first) ← holding [ov] (getMethod ov m pl)
      callWith pos f first (backTo pos (starEach (e :: es) X.env)) (backToKw pos (keywordEach [] X.env))) := by rfl) :
    PE X (.Call (.Attribute o m apos) (e :: es) [] pos) (tMethS C m sp (WE W) ta t) := by
  obtain ⟨fd, F, b, kp⟩ := D
  refine ⟨fun pins s σ H Q I h => ?_⟩
  refine PySem.W.methodCall_KW (pl := pl) (thn (ho.run pins s σ H _ I h) fun u s1 hh => ?_) ht
  obtain ⟨x, H1, I1, rx, a, dx, fs, rfl, ea, l, q⟩ := hh
  obtain rfl : u = Value.ref a := rx
  refine getmeth_ok I1 ea c hm l ?_
  refine PySem.W.callWith_K (first := [.ref a]) (h₀ := X.base) I.ok.mod.kin hm.kp (thn (ha.run pos pins s1 σ H1 _ I1 q) fun us s2 h2 => ?_) hst hpl
  obtain ⟨vs, H2, I2, r, q2⟩ := h2
  exact ⟨I2.kIn, run_fnS (us := .ref a :: us) (vs := .ref a :: vs) F (hr.mono hk) b (passAt tk σ) I2 (.cons rfl r) q2⟩
def tMethKS (C : Addr) (m : Str) (n j : Nat) (sp : Sp) (gV : List V → List V → List V) (E : L2.St → XK) (ta : TE) (t tk : TA) : TE := fun σ H Q => ta σ H fun x H1 => ∃ a dx fs, x = .ref a ∧ H1 a = some (.ins C dx fs) ∧ fs.lookup m = none ∧
  t σ H1 fun vs H2 => tk σ H2 fun zs H3 => vs.length = n ∧ zs.length = j ∧ sp (gV (x :: vs) zs) H3 Q (E σ)
theorem mKS {W : WX} {pl : Sem Bool} {fd : FuncData} (he : PE X o ta) (c : Cls X.K C) (hm : Meth X.K C m f) (F : FnOk X.prog X.w X.K X.mg X.base (L2.CX X.prog X.w) k f fd ps sp) (hr : Room k X.A) (hb : KBn X.K fd ps (n + 1) ks g gV) (tkk : Takes X W)
    (ha : PA X (e :: es) t) (hkw : PK X kws tk) (hall : (backToKw pos (keywordEach kws X.env)).all (·.1.isSome) = true := by rfl) (hks : (backToKw pos (keywordEach kws X.env)).filterMap (·.1) = ks := by rfl)
    (hst : starEach (e :: es) X.env = (false, eval e X.env) :: starEach es X.env := by rfl) (hpl : ((backTo pos (starEach (e :: es) X.env)).any (·.1) || (backToKw pos (keywordEach kws X.env)).any (·.1.isNone)) = false := by rfl)
    (ht : eval (.Call (.Attribute o m apos) (e :: es) kws pos) X.env = (do
      let ov ← eval o X.env
      standAt apos.atName
      let (f, first) ← holding [ov] (getMethod ov m pl)
      callWith pos f first (backTo pos (starEach (e :: es) X.env)) (backToKw pos (keywordEach kws X.env))) := by rfl) :
    PE X (.Call (.Attribute o m apos) (e :: es) kws pos) (tMethKS C m n ks.length sp gV (WE W) ta t tk) := by
  refine ⟨fun pins s σ H Q I h => ?_⟩
  refine PySem.W.methodCall_KW (pl := pl) (thn (he.run pins s σ H _ I h) fun u s1 hh => ?_) ht
  obtain ⟨x, H1, I1, rx, a, dx, fs, rfl, ea, l, q⟩ := hh
  obtain rfl : u = Value.ref a := rx
  refine getmeth_ok I1 ea c hm l ?_
  refine PySem.W.callWith_KW (first := [.ref a]) (h₀ := X.base) I.ok.mod.kin hm.kp hall (thn (ha.run pos pins s1 σ H1 _ I1 q) fun us s2 h2 => ?_) hpl hst
  obtain ⟨vs, H2, I2, r2, q2⟩ := h2
  refine thn (hkw.run pos pins s2 σ H2 _ I2 q2) fun ws s3 h3 => ?_
  obtain ⟨zs, H3, I3, r3, l1, l2, q3⟩ := h3
  refine ⟨I3.kIn, ?_⟩
  rw [hks]
  have r2' : Vals (.ref a :: vs) (.ref a :: us) := .cons rfl r2
  have rr := hb.rel r2' r3
  refine wpAny_call (codeAny_mono (F.run X.A X.stack s3 H3 ⟨.ref a :: us, ks.zip ws⟩ (g (.ref a :: us) ws) (gV (.ref a :: vs) zs) Q (WE W σ) hr I3.env0 (hb.to s3 _ ws I3.kIn (r2'.length.symm.trans (congrArg Nat.succ l1)) (r3.length.symm.trans l2)) rr q3) fun r s' hq => ?_)
  cases r with
  | error e => exact passAt tkk σ pins H3 s3 e s' I3 hq
  | ok fl =>
    cases fl with
    | ret u => exact I3.after hq
    | next => exact False.elim hq
    | brk => exact False.elim hq
    | cont => exact False.elim hq
end
/-! ### who owns what -/
abbrev Own : Type := Addr → Option (Nat × Nat)
def Ks (K : PySem.W.Frag) (H H' : Hp) : Prop := ∀ a xs, SqT K H a xs → SqT K H' a xs
theorem Ks.refl {K : PySem.W.Frag} {H : Hp} : Ks K H H := fun _ _ h => h
theorem Ks.trans {K : PySem.W.Frag} {H H1 H2 : Hp} (a : Ks K H H1) (b : Ks K H1 H2) : Ks K H H2 := fun c xs h => b c xs (a c xs h)
theorem same_upd {H : Hp} {p : Addr} {o : HO} (h : H p = none) : Same H (upd H p o) := fun b x e => by
  rw [upd_ne (ne_of_none e h)]
  exact e
theorem rd_same {H H' : Hp} (s : Same H H') {a : Addr} {o : HO} (h : Rd H a o) : Rd H' a o := by
  rcases h with h | ⟨x, h⟩
  · exact .inl (s _ _ h)
  · exact .inr ⟨x, s _ _ h⟩
theorem Ks.same {K : PySem.W.Frag} {H H' : Hp} (s : Same H H') : Ks K H H' := fun a xs h => by
  rcases h with h | h
  · exact .inl (rd_same s h)
  · exact .inr h
/-- a store at what is no tuple -/
theorem Ks.upd {K : PySem.W.Frag} {H : Hp} {l : Addr} {o u : HO} (h : H l = some o) (n1 : ∀ xs, o ≠ .tup xs) (n2 : ∀ x xs, o ≠ .frz x (.tup xs)) : Ks K H (upd H l u) := fun a xs k => by
  rcases k with k | k
  · rcases k with k | ⟨x, k⟩
    · refine .inl (.inl ?_)
      rw [upd_ne (fun e => ?_)]
      · exact k
      · rw [e, h] at k
        exact n1 _ (Option.some.inj k)
    · refine .inl (.inr ⟨x, ?_⟩)
      rw [upd_ne (fun e => ?_)]
      · exact k
      · rw [e, h] at k
        exact n2 _ _ (Option.some.inj k)
  · exact .inr k
theorem Ks.updL {K : PySem.W.Frag} {H : Hp} {l : Addr} {xs : List V} {u : HO} (h : H l = some (.lst xs)) : Ks K H (L2.upd H l u) := Ks.upd h (fun _ e => nomatch e) (fun _ _ e => nomatch e)
theorem Ks.updD {K : PySem.W.Frag} {H : Hp} {l : Addr} {xs : List (Key × V)} {u : HO} (h : H l = some (.dK xs)) : Ks K H (L2.upd H l u) := Ks.upd h (fun _ e => nomatch e) (fun _ _ e => nomatch e)
theorem Ks.updI {K : PySem.W.Frag} {H : Hp} {l C dx : Addr} {fs : List (Str × V)} {u : HO} (h : H l = some (.ins C dx fs)) : Ks K H (L2.upd H l u) := Ks.upd h (fun _ e => nomatch e) (fun _ _ e => nomatch e)
/-- what is done by one who may change what t owns, and no more -/
structure Ef (K : PySem.W.Frag) (t : Nat) (o : Own) (H : Hp) (o' : Own) (H' : Hp) : Prop where
  le : ∀ b u, o b = some u → o' b = some u
  new : ∀ b u, o' b = some u → o b = some u ∨ (H b = none ∧ u.1 = t)
  keep : ∀ b x, H b = some x → (∀ i, o b ≠ some (t, i)) → H' b = some x
  live : ∀ b x, H b = some x → ∃ y, H' b = some y
  sq : Ks K H H'
/-- whoever is owned stands -/
def Dom (o : Own) (H : Hp) : Prop := ∀ b u, o b = some u → ∃ x, H b = some x
theorem Ef.refl {K : PySem.W.Frag} {t : Nat} {o : Own} {H : Hp} : Ef K t o H o H := ⟨fun _ _ h => h, fun _ _ h => .inl h, fun _ _ h _ => h, fun _ x h => ⟨x, h⟩, Ks.refl⟩
theorem Ef.trans {K : PySem.W.Frag} {t : Nat} {o o1 o2 : Own} {H H1 H2 : Hp} (a : Ef K t o H o1 H1) (b : Ef K t o1 H1 o2 H2) : Ef K t o H o2 H2 := by
  refine ⟨fun c u h => b.le c u (a.le c u h), fun c u h => ?_, fun c x h n => ?_, fun c x h => ?_, a.sq.trans b.sq⟩
  · rcases b.new c u h with h1 | ⟨h1, h2⟩
    · exact a.new c u h1
    · refine .inr ⟨?_, h2⟩
      cases q : H c with
      | none => rfl
      | some x =>
        obtain ⟨y, z⟩ := a.live c x q
        rw [z] at h1
        cases h1
  · refine b.keep c x (a.keep c x h n) fun i z => ?_
    rcases a.new c (t, i) z with h1 | ⟨h1, _⟩
    · exact n i h1
    · rw [h] at h1
      cases h1
  · obtain ⟨y, z⟩ := a.live c x h
    exact b.live c y z
theorem Ef.same {K : PySem.W.Frag} {t : Nat} {o : Own} {H H' : Hp} (s : Same H H') : Ef K t o H o H' := ⟨fun _ _ h => h, fun _ _ h => .inl h, fun b x h _ => s b x h, fun b x h => ⟨x, s b x h⟩, Ks.same s⟩
theorem Ef.new1 {K : PySem.W.Frag} {t : Nat} {o : Own} {H : Hp} {p : Addr} {x : HO} (h : H p = none) : Ef K t o H o (L2.upd H p x) := Ef.same (same_upd h)
theorem Ef.at {K : PySem.W.Frag} {t i : Nat} {o : Own} {H : Hp} {p : Addr} {u : HO} (h : o p = some (t, i)) (k : Ks K H (L2.upd H p u)) : Ef K t o H o (L2.upd H p u) := by
  refine ⟨fun _ _ h => h, fun _ _ h => .inl h, fun b x e n => ?_, fun b x e => ?_, k⟩
  · rw [upd_ne (fun z => n i (by rw [z]; exact h))]
    exact e
  · by_cases z : b = p
    · exact ⟨u, by rw [z, upd_same]⟩
    · exact ⟨x, by rw [upd_ne z]; exact e⟩
/-- a store at something new since H0 -/
theorem Ef.tmp {K : PySem.W.Frag} {t : Nat} {o o' : Own} {H0 H : Hp} {p : Addr} {u : HO} (e : Ef K t o H0 o' H) (h : H0 p = none) (k : Ks K H (L2.upd H p u)) : Ef K t o H0 o' (L2.upd H p u) := by
  refine ⟨e.le, e.new, fun b x q n => ?_, fun b x q => ?_, e.sq.trans k⟩
  · rw [upd_ne (ne_of_none q h)]
    exact e.keep b x q n
  · rw [upd_ne (ne_of_none q h)]
    exact e.live b x q
/-- something new is taken into what t owns -/
def take1 (o : Own) (p : Addr) (t : Nat × Nat) : Own := fun b => if b = p then some t else o b
theorem take1_same {o : Own} {p : Addr} {t : Nat × Nat} : take1 o p t p = some t := by unfold take1; rw [if_pos rfl]
theorem take1_ne {o : Own} {p b : Addr} {t : Nat × Nat} (h : b ≠ p) : take1 o p t b = o b := by unfold take1; rw [if_neg h]
theorem Ef.take {K : PySem.W.Frag} {t i : Nat} {o o' : Own} {H0 H : Hp} {p : Addr} (e : Ef K t o H0 o' H) (d : Dom o H0) (h : H0 p = none) : Ef K t o H0 (take1 o' p (t, i)) H := by
  refine ⟨fun b u q => ?_, fun b u q => ?_, e.keep, e.live, e.sq⟩
  · by_cases z : b = p
    · obtain ⟨x, hx⟩ := d b u q
      rw [z, h] at hx
      cases hx
    · rw [take1_ne z]
      exact e.le b u q
  · by_cases z : b = p
    · rw [z, take1_same] at q
      exact .inr ⟨z ▸ h, by rw [← Option.some.inj q]⟩
    · rw [take1_ne z] at q
      exact e.new b u q
theorem Dom.take {o : Own} {H : Hp} {p : Addr} {t : Nat × Nat} (d : Dom o H) {x : HO} (h : H p = some x) : Dom (take1 o p t) H := fun b u q => by
  by_cases z : b = p
  · exact ⟨x, z ▸ h⟩
  · rw [take1_ne z] at q
    exact d b u q
theorem Dom.ef {K : PySem.W.Frag} {t : Nat} {o : Own} {H H' : Hp} (d : Dom o H) (e : Ef K t o H o H') : Dom o H' := fun b u q => by
  obtain ⟨x, h⟩ := d b u q
  exact e.live b x h
theorem Dom.same {o : Own} {H H' : Hp} (d : Dom o H) (e : Same H H') : Dom o H' := fun b u q => by
  obtain ⟨x, h⟩ := d b u q
  exact ⟨x, e _ _ h⟩
theorem Dom.upd {o : Own} {H : Hp} {p : Addr} {x : HO} (d : Dom o H) : Dom o (L2.upd H p x) := fun b u q => by
  by_cases z : b = p
  · exact ⟨x, by rw [z, upd_same]⟩
  · rw [upd_ne z]
    exact d b u q
theorem Dom.free {o : Own} {H : Hp} (d : Dom o H) {p : Addr} (h : H p = none) : o p = none := by
  cases q : o p with
  | none => rfl
  | some u =>
    obtain ⟨x, e⟩ := d p u q
    rw [h] at e
    cases e
/-- something that stands and that nobody owns stays -/
theorem Ef.mine {K : PySem.W.Frag} {t : Nat} {o o' : Own} {H H' : Hp} (e : Ef K t o H o' H') {p : Addr} {x : HO} (h : H p = some x) (n : o p = none) : H' p = some x ∧ o' p = none := by
  refine ⟨e.keep p x h (fun i => by rw [n]; intro z; cases z), ?_⟩
  cases q : o' p with
  | none => rfl
  | some u =>
    rcases e.new p u q with z | ⟨z, _⟩
    · rw [n] at z; cases z
    · rw [h] at z; cases z
/-- what u owns, u ≠ t, stays -/
def Pk (u : Nat × Nat) (o : Own) (H : Hp) (o' : Own) (H' : Hp) : Prop := ∀ b x, o b = some u → H b = some x → o' b = some u ∧ H' b = some x
def Fx (K : PySem.W.Frag) (u : Nat) (o : Own) (H : Hp) (o' : Own) (H' : Hp) : Prop := (∀ i, Pk (u, i) o H o' H') ∧ Ks K H H'
theorem Ef.fx {K : PySem.W.Frag} {t u : Nat} {o o' : Own} {H H' : Hp} (e : Ef K t o H o' H') (n : u ≠ t) : Fx K u o H o' H' :=
  ⟨fun i b x h k => ⟨e.le b _ h, e.keep b x k (fun j z => n (by rw [h] at z; exact congrArg Prod.fst (Option.some.inj z)))⟩, e.sq⟩
theorem Fx.same {K : PySem.W.Frag} {u : Nat} {o : Own} {H H' : Hp} (s : Same H H') : Fx K u o H o H' := ⟨fun _ b x h k => ⟨h, s b x k⟩, Ks.same s⟩
theorem Fx.refl {K : PySem.W.Frag} {u : Nat} {o : Own} {H : Hp} : Fx K u o H o H := Fx.same (Same.refl H)
theorem Fx.trans {K : PySem.W.Frag} {u : Nat} {o o1 o2 : Own} {H H1 H2 : Hp} (a : Fx K u o H o1 H1) (b : Fx K u o1 H1 o2 H2) : Fx K u o H o2 H2 :=
  ⟨fun i c x h k => let z := a.1 i c x h k; b.1 i c x z.1 z.2, a.2.trans b.2⟩
theorem Ef.free {K : PySem.W.Frag} {t : Nat} {o o' : Own} {H H' : Hp} (e : Ef K t o H o' H') {p : Addr} (h : H' p = none) : H p = none := by
  cases q : H p with
  | none => rfl
  | some x =>
    obtain ⟨y, z⟩ := e.live p x q
    rw [h] at z
    cases z
/-! ### the well -/
/-- the well stands at W: great ints, small ints, a stir, a counter of at most c -/
structure Well (K : PySem.W.Frag) (o : Own) (H : Hp) (W : Addr) (c : Nat) : Prop where
  dom : Dom o H
  is : ∃ (G S : Addr) (gs ss : List Int) (st : Int) (n : Nat), o W = some (0, 0) ∧ o G = some (0, 0) ∧ o S = some (0, 0) ∧ G ≠ S ∧ H W = some (.lst [.ref G, .ref S, .int st, .int n]) ∧ H G = some (.lst (gs.map V.int)) ∧ H S = some (.lst (ss.map V.int)) ∧
    (∀ g ∈ gs, 0 ≤ g ∧ g < 10 ^ 120) ∧ gs.length ≤ 63 ∧ (∀ x ∈ ss, 0 ≤ x ∧ x < 2147483563) ∧ ss.length ≤ 63 ∧ 0 ≤ st ∧ st < 2147483563 ∧ n ≤ c ∧ c ≤ 10000000
theorem Well.fx {K : PySem.W.Frag} {o o' : Own} {H H' : Hp} {W : Addr} {c : Nat} (w : Well K o H W c) (f : Fx K 0 o H o' H') (d : Dom o' H') : Well K o' H' W c := by
  obtain ⟨G, S, gs, ss, st, n, a1, a2, a3, a4, b1, b2, b3, r⟩ := w.is
  have x1 := f.1 _ _ _ a1 b1
  have x2 := f.1 _ _ _ a2 b2
  have x3 := f.1 _ _ _ a3 b3
  exact ⟨d, G, S, gs, ss, st, n, x1.1, x2.1, x3.1, a4, x1.2, x2.2, x3.2, r⟩
theorem Well.same {K : PySem.W.Frag} {o : Own} {H H' : Hp} {W : Addr} {c : Nat} (w : Well K o H W c) (s : Same H H') : Well K o H' W c := w.fx (Fx.same s) (w.dom.same s)
theorem Well.new {K : PySem.W.Frag} {o : Own} {H : Hp} {W p : Addr} {x : HO} {c : Nat} (w : Well K o H W c) (h : H p = none) : Well K o (L2.upd H p x) W c := w.same (same_upd h)
/-- a store at what nobody owns -/
theorem Fx.tmp {K : PySem.W.Frag} {u : Nat} {o : Own} {H : Hp} {p : Addr} {x : HO} (h : o p = none) (k : Ks K H (L2.upd H p x)) : Fx K u o H o (L2.upd H p x) := by
  refine ⟨fun i b y e q => ⟨e, ?_⟩, k⟩
  rw [upd_ne (fun z => ?_)]
  · exact q
  · rw [z, h] at e
    cases e
theorem Well.tmp {K : PySem.W.Frag} {o : Own} {H : Hp} {W p : Addr} {x : HO} {c : Nat} (w : Well K o H W c) (h : o p = none) (k : Ks K H (L2.upd H p x)) : Well K o (L2.upd H p x) W c := w.fx (Fx.tmp h k) w.dom.upd
theorem Well.mono {K : PySem.W.Frag} {o : Own} {H : Hp} {W : Addr} {c d : Nat} (w : Well K o H W c) (h : c ≤ d) (k : d ≤ 10000000) : Well K o H W d := by
  obtain ⟨G, S, gs, ss, st, n, a1, a2, a3, a4, b1, b2, b3, r1, r2, r3, r4, r5, r6, r7, _⟩ := w.is
  exact ⟨w.dom, G, S, gs, ss, st, n, a1, a2, a3, a4, b1, b2, b3, r1, r2, r3, r4, r5, r6, by omega, k⟩
/-! ### parts -/
theorem Pk.refl {u : Nat × Nat} {o : Own} {H : Hp} : Pk u o H o H := fun _ _ h k => ⟨h, k⟩
theorem Pk.trans {u : Nat × Nat} {o o1 o2 : Own} {H H1 H2 : Hp} (a : Pk u o H o1 H1) (b : Pk u o1 H1 o2 H2) : Pk u o H o2 H2 := fun c x h k => let z := a c x h k; b c x z.1 z.2
theorem Pk.same {u : Nat × Nat} {o : Own} {H H' : Hp} (s : Same H H') : Pk u o H o H' := fun b x h k => ⟨h, s b x k⟩
theorem Pk.new {u : Nat × Nat} {o : Own} {H : Hp} {p : Addr} {x : HO} (h : H p = none) : Pk u o H o (L2.upd H p x) := Pk.same (same_upd h)
theorem Pk.at {u v : Nat × Nat} {o : Own} {H : Hp} {p : Addr} {x : HO} (h : o p = some v) (n : v ≠ u) : Pk u o H o (L2.upd H p x) := fun b y e q => ⟨e, by
  rw [upd_ne (fun z => n (by rw [z, h] at e; exact Option.some.inj e))]
  exact q⟩
theorem Pk.tmp {u : Nat × Nat} {o : Own} {H : Hp} {p : Addr} {x : HO} (h : o p = none) : Pk u o H o (L2.upd H p x) := fun b y e q => ⟨e, by
  rw [upd_ne (fun z => by rw [z, h] at e; cases e)]
  exact q⟩
theorem Pk.take {u v : Nat × Nat} {o : Own} {H : Hp} {p : Addr} (h : o p = none) : Pk u o H (take1 o p v) H := fun b y e q => ⟨by
  rw [take1_ne (fun z => by rw [z, h] at e; cases e)]
  exact e, q⟩
theorem Fx.pk {K : PySem.W.Frag} {u i : Nat} {o o' : Own} {H H' : Hp} (f : Fx K u o H o' H') : Pk (u, i) o H o' H' := f.1 i
theorem own_ne {o : Own} {a b : Addr} {u v : Nat × Nat} (h : o a = some u) (k : o b = some v) (n : u ≠ v) : a ≠ b := fun e => n (by rw [e, k] at h; exact (Option.some.inj h).symm)
theorem own_ne_none {o : Own} {a b : Addr} {u : Nat × Nat} (h : o a = some u) (k : o b = none) : a ≠ b := fun e => by
  rw [e, k] at h
  cases h
end Cn
namespace Cn
open PySem PySem.Spec PyProof.Rows L2
theorem iTe {b : Bool} {A B : Prop} (e : b = true) (h : A) : if b = true then A else B := by
  rw [if_pos e]
  exact h
theorem iFe {b : Bool} {A B : Prop} (e : b = false) (h : B) : if b = true then A else B := by
  rw [if_neg (by rw [e]; exact Bool.false_ne_true)]
  exact h
theorem slt {n : Nat} (h : n ≤ 16000000) : n < sizeLine := by rw [sizeLine_eq]; omega
theorem sle {n : Nat} (h : n ≤ 16000000) : n ≤ sizeLine := by rw [sizeLine_eq]; omega
theorem paired_imp {A B : Type} {R R' : A → B → Prop} (h : ∀ a b, R a b → R' a b) : ∀ {xs : List A} {ys : List B}, Paired R xs ys → Paired R' xs ys
  | _, _, .nil => .nil
  | _, _, .cons a r => .cons (h _ _ a) (paired_imp h r)
theorem paired_get {A B : Type} {R : A → B → Prop} : ∀ {xs : List A} {ys : List B}, Paired R xs ys → ∀ {i : Nat} {x : A}, xs[i]? = some x → ∃ y, ys[i]? = some y ∧ R x y
  | _, _, .nil, _, _, h => by simp at h
  | _, _, .cons a r, 0, x, h => by
    obtain rfl := Option.some.inj h
    exact ⟨_, rfl, a⟩
  | _, _, .cons a r, i + 1, x, h => paired_get r (i := i) h
theorem paired_get' {A B : Type} {R : A → B → Prop} : ∀ {xs : List A} {ys : List B}, Paired R xs ys → ∀ {i : Nat} {y : B}, ys[i]? = some y → ∃ x, xs[i]? = some x ∧ R x y
  | _, _, .nil, _, _, h => by simp at h
  | _, _, .cons a r, 0, x, h => by
    obtain rfl := Option.some.inj h
    exact ⟨_, rfl, a⟩
  | _, _, .cons a r, i + 1, x, h => paired_get' r (i := i) h
theorem paired_app {A B : Type} {R : A → B → Prop} : ∀ {xs : List A} {ys : List B}, Paired R xs ys → ∀ {x : A} {y : B}, R x y → Paired R (xs ++ [x]) (ys ++ [y])
  | _, _, .nil, _, _, h => .cons h .nil
  | _, _, .cons a r, _, _, h => .cons a (paired_app r h)
theorem paired_append {A B : Type} {R : A → B → Prop} : ∀ {xs : List A} {ys : List B}, Paired R xs ys → ∀ {us : List A} {vs : List B}, Paired R us vs → Paired R (xs ++ us) (ys ++ vs)
  | _, _, .nil, _, _, h => h
  | _, _, .cons a r, _, _, h => .cons a (paired_append r h)
theorem paired_take {A B : Type} {R : A → B → Prop} : ∀ {xs : List A} {ys : List B}, Paired R xs ys → ∀ (n : Nat), Paired R (xs.take n) (ys.take n)
  | _, _, _, 0 => by simp; exact .nil
  | _, _, .nil, _ + 1 => .nil
  | _, _, .cons a r, n + 1 => .cons a (paired_take r n)
theorem paired_len {A B : Type} {R : A → B → Prop} : ∀ {xs : List A} {ys : List B}, Paired R xs ys → xs.length = ys.length
  | _, _, .nil => rfl
  | _, _, .cons _ r => congrArg Nat.succ (paired_len r)
theorem take_succ_of {A : Type} {xs : List A} {i : Nat} {x : A} (h : xs[i]? = some x) : xs.take (i + 1) = xs.take i ++ [x] := by
  rw [List.take_add_one, h]
  rfl
/-! ### papers, deeds -/
inductive Paper
  | op (n : Int) (l r : Str) (a b : Int)
  | st (s : ST)
inductive Deed
  | op (l r : Str) (a b : Int)
  | tell (s : ST)
  | shw (x : Int)
  | turn
def ST.data (s : ST) : PyData := .tuple [.int s.ln, .int s.nu, .int s.l, .int s.r, .tuple (s.lks.map LK.data)]
def Deed.data : Deed → PyData
  | .op l r a b => .tuple [.str "open", .str l, .str r, .int a, .int b]
  | .tell s => .tuple [.str "tell", s.data]
  | .shw x => .tuple [.str "show", .int x]
  | .turn => .tuple [.str "turn"]
def LK.nk (k : LK) : NestedKey := .tup [.num k.id, .text k.gv, .num k.am, .num k.se, .num k.la]
def ST.nk (s : ST) : NestedKey := .tup [.num s.ln, .num s.nu, .num s.l, .num s.r, .tup (s.lks.map LK.nk)]
def Paper.nk : Paper → NestedKey
  | .op n l r a b => .tup [.text "open", .num n, .text l, .text r, .num a, .num b]
  | .st s => s.nk
def IsPaper (K : PySem.W.Frag) (H : Hp) (v : V) : Paper → Prop
  | .op n l r a b => ∃ p, v = .ref p ∧ SqT K H p [.str "open", .int n, .str l, .str r, .int a, .int b]
  | .st s => IsST K H v s
def IsDeed (K : PySem.W.Frag) (H : Hp) (v : V) : Deed → Prop
  | .op l r a b => ∃ p, v = .ref p ∧ SqT K H p [.str "open", .str l, .str r, .int a, .int b]
  | .tell s => ∃ p g, v = .ref p ∧ SqT K H p [.str "tell", g] ∧ IsST K H g s
  | .shw x => ∃ p, v = .ref p ∧ SqT K H p [.str "show", .int x]
  | .turn => ∃ p, v = .ref p ∧ SqT K H p [.str "turn"]
def Paper.ok : Paper → Prop
  | .op n l r a b => 0 ≤ n ∧ NameOk l ∧ NameOk r ∧ l ≠ r ∧ 0 ≤ a ∧ 0 ≤ b ∧ 0 < a + b
  | .st s => s.ok
def Deed.ok : Deed → Prop
  | .op l r a b => NameOk l ∧ NameOk r ∧ 0 ≤ a ∧ 0 ≤ b
  | .tell s => s.ok
  | .shw x => 0 ≤ x
  | .turn => True
section
variable {K : PySem.W.Frag} {H H' : Hp}
theorem IsLK.mono (m : Ks K H H') {v : V} {k : LK} (h : IsLK K H v k) : IsLK K H' v k := by
  obtain ⟨a, e, q⟩ := h
  exact ⟨a, e, m _ _ q⟩
theorem IsST.mono (m : Ks K H H') {v : V} {k : ST} (h : IsST K H v k) : IsST K H' v k := by
  obtain ⟨a, b, xs, e, q, r, p⟩ := h
  exact ⟨a, b, xs, e, m _ _ q, m _ _ r, paired_imp (fun _ _ z => IsLK.mono m z) p⟩
theorem IsPaper.mono (m : Ks K H H') {v : V} {k : Paper} (h : IsPaper K H v k) : IsPaper K H' v k := by
  cases k with
  | op =>
    obtain ⟨a, e, q⟩ := h
    exact ⟨a, e, m _ _ q⟩
  | st s => exact IsST.mono m h
theorem IsDeed.mono (m : Ks K H H') {v : V} {k : Deed} (h : IsDeed K H v k) : IsDeed K H' v k := by
  cases k with
  | op =>
    obtain ⟨a, e, q⟩ := h
    exact ⟨a, e, m _ _ q⟩
  | tell s =>
    obtain ⟨a, g, e, q, r⟩ := h
    exact ⟨a, g, e, m _ _ q, IsST.mono m r⟩
  | shw s =>
    obtain ⟨a, e, q⟩ := h
    exact ⟨a, e, m _ _ q⟩
  | turn =>
    obtain ⟨a, e, q⟩ := h
    exact ⟨a, e, m _ _ q⟩
theorem IsLK.dp {v : V} {k : LK} (h : IsLK K H v k) : Dp K H v k.data := by
  obtain ⟨a, rfl, q⟩ := h
  exact .tup q (.cons (.int _) (.cons (.str _) (.cons (.int _) (.cons (.int _) (.cons (.int _) .nil)))))
theorem dpAll_of {A : Type} {R : V → A → Prop} {f : A → PyData} (h : ∀ v a, R v a → Dp K H v (f a)) : ∀ {xs : List V} {as : List A}, Paired R xs as → DpAll K H xs (as.map f)
  | _, _, .nil => .nil
  | _, _, .cons a r => .cons (h _ _ a) (dpAll_of h r)
theorem IsST.dp {v : V} {s : ST} (h : IsST K H v s) : Dp K H v s.data := by
  obtain ⟨a, b, xs, rfl, q, r, p⟩ := h
  exact .tup q (.cons (.int _) (.cons (.int _) (.cons (.int _) (.cons (.int _) (.cons (.tup r (dpAll_of (fun _ _ z => IsLK.dp z) p)) .nil)))))
theorem IsDeed.dp {v : V} {k : Deed} (h : IsDeed K H v k) : Dp K H v k.data := by
  cases k with
  | op =>
    obtain ⟨a, rfl, q⟩ := h
    exact .tup q (.cons (.str _) (.cons (.str _) (.cons (.str _) (.cons (.int _) (.cons (.int _) .nil)))))
  | tell s =>
    obtain ⟨a, g, rfl, q, r⟩ := h
    exact .tup q (.cons (.str _) (.cons r.dp .nil))
  | shw s =>
    obtain ⟨a, rfl, q⟩ := h
    exact .tup q (.cons (.str _) (.cons (.int _) .nil))
  | turn =>
    obtain ⟨a, rfl, q⟩ := h
    exact .tup q (.cons (.str _) .nil)
theorem IsLK.nk {v : V} {k : LK} (h : IsLK K H v k) : NKAt K H v k.nk := by
  obtain ⟨a, rfl, q⟩ := h
  exact .tup q (.cons (.num _) (.cons (.text _) (.cons (.num _) (.cons (.num _) (.cons (.num _) .nil)))))
theorem nkAll_of {A : Type} {R : V → A → Prop} {f : A → NestedKey} (h : ∀ v a, R v a → NKAt K H v (f a)) : ∀ {xs : List V} {as : List A}, Paired R xs as → NKAll K H xs (as.map f)
  | _, _, .nil => .nil
  | _, _, .cons a r => .cons (h _ _ a) (nkAll_of h r)
theorem IsST.nk {v : V} {s : ST} (h : IsST K H v s) : NKAt K H v s.nk := by
  obtain ⟨a, b, xs, rfl, q, r, p⟩ := h
  exact .tup q (.cons (.num _) (.cons (.num _) (.cons (.num _) (.cons (.num _) (.cons (.tup r (nkAll_of (fun _ _ z => IsLK.nk z) p)) .nil)))))
theorem IsPaper.nk {v : V} {k : Paper} (h : IsPaper K H v k) : NKAt K H v k.nk := by
  cases k with
  | op =>
    obtain ⟨a, rfl, q⟩ := h
    exact .tup q (.cons (.text _) (.cons (.num _) (.cons (.text _) (.cons (.text _) (.cons (.num _) (.cons (.num _) .nil))))))
  | st s => exact IsST.nk h
theorem IsPaper.ref {v : V} {k : Paper} (h : IsPaper K H v k) : ∃ a, v = .ref a := by
  cases k with
  | op =>
    obtain ⟨a, rfl, q⟩ := h
    exact ⟨a, rfl⟩
  | st s =>
    obtain ⟨a, b, xs, rfl, _⟩ := h
    exact ⟨a, rfl⟩
end
/-! ### what is said of the papers' looks -/
def spSide : Sp := fun vs H Q _ => ∃ z : Str, vs = [.str z] ∧ (z = "left" ∨ z = "right") ∧ ∀ H', Same H H' → Q (.bl true) H'
def spLock (K : PySem.W.Frag) : Sp := fun vs H Q _ => ∃ (v : V) (k : LK), vs = [v] ∧ IsLK K H v k ∧ k.ok ∧ ∀ H', Same H H' → Q (.bl true) H'
def spState (K : PySem.W.Frag) : Sp := fun vs H Q _ => ∃ (v : V) (k : ST), vs = [v] ∧ IsST K H v k ∧ k.ok ∧ ∀ H', Same H H' → Q (.bl true) H'
def spNeedState (K : PySem.W.Frag) : Sp := fun vs H Q _ => ∃ (v : V) (k : ST), vs = [v] ∧ IsST K H v k ∧ k.ok ∧ ∀ H', Same H H' → Q .non H'
def ST.worth (s : ST) : Int := s.l + s.r + (s.lks.map LK.am).sum
def spWorth (K : PySem.W.Frag) : Sp := fun vs H Q _ => ∃ (v : V) (k : ST), vs = [v] ∧ IsST K H v k ∧ k.ok ∧ ∀ H', Same H H' → Q (.int k.worth) H'
def ST.first (n a b : Int) : ST := ⟨n, 0, a, b, []⟩
def spFirst (K : PySem.W.Frag) : Sp := fun vs H Q _ => ∃ n a b : Int, vs = [.int n, .int a, .int b] ∧ ∀ H' v, Same H H' → IsST K H' v (ST.first n a b) → Q v H'
def Paper.isOp : Paper → Bool
  | .op .. => true
  | .st _ => false
def spOpening (K : PySem.W.Frag) : Sp := fun vs H Q _ => ∃ (v : V) (k : Paper), vs = [v] ∧ IsPaper K H v k ∧ k.ok ∧ ∀ H', Same H H' → Q (.bl k.isOp) H'
def spLookName : Sp := fun vs H Q _ => ∃ z : Str, vs = [.str z] ∧ NameOk z ∧ ∀ H', Same H H' → Q .non H'
def spLookPaper (K : PySem.W.Frag) : Sp := fun vs H Q _ => ∃ (z : Str) (v : V) (k : Paper), vs = [.str z, v] ∧ NameOk z ∧ IsPaper K H v k ∧ k.ok ∧ ∀ H', Same H H' → Q .non H'
def spSeal : Sp := fun vs H Q _ => ∃ i : Int, vs = [.int i] ∧ 0 ≤ i ∧ Q (.int (3 * i + 17)) H
theorem nameLen {z : Str} (h : NameOk z) : z.length ≤ sizeLine := sle (by have := h.2.1; omega)
theorem name_ne {z : Str} (h : NameOk z) : decide (V.str z = V.str "") = false := by
  refine decide_eq_false fun e => ?_
  have : z = "" := V.str.inj e
  have h1 := h.1
  rw [this] at h1
  exact absurd h1 (by decide)
section
variable {P : Program} {w : World} {K : PySem.W.Frag} {mg : Str → Option Value} {base : Heap}
abbrev n_is_amount : List Str := ["thing"]
theorem sc_is_amount : FnScope n_is_amount ["thing"] (defScope s_is_amount) := ⟨rfl, rfl, rfl, by decide +kernel, rfl, by decide +kernel, by decide +kernel⟩
theorem ok_is_amount (T : Tx K mg) : DefOk P w K mg base CX0 2 (He.fAd K d_is_amount.at_) ["thing"] spAmount := by
  refine mk0 (d := d_is_amount) T.f_is_amount rfl (fun _ _ _ _ _ _ us hl => match us, hl with | [_], _ => rfl) sc_is_amount (fun vs H Q E h => ?_) (fun cdv A outer s H vs Q E hr h => ?_)
  · obtain ⟨i, rfl, _⟩ := h
    rfl
  · obtain ⟨i, rfl, h⟩ := h
    refine ⟨_, (pss_one (ps_ret (pe_and (cD (ok_is_whole T) T.g_is_whole hr (pa_cons (pv 0) pa_nil)) (pe_one (pe_cmpR op_ge (pv 0) pe_int (nomark _)))))), ?_⟩
    exact ⟨_, rfl, _, rfl, true, rfl, iteT ⟨_, rfl, _, _, rfl, rfl, h⟩⟩
abbrev n_is_count_signs : List Str := ["thing"]
theorem sc_is_count_signs : FnScope n_is_count_signs ["thing"] (defScope s_is_count_signs) := ⟨rfl, rfl, rfl, by decide +kernel, rfl, by decide +kernel, by decide +kernel⟩
theorem ok_is_count_signs (T : Tx K mg) : DefOk P w K mg base CX0 1 (He.fAd K d_is_count_signs.at_) ["thing"] spCount := by
  refine mk0 (d := d_is_count_signs) T.f_is_count_signs rfl (fun _ _ _ _ _ _ us hl => match us, hl with | [_], _ => rfl) sc_is_count_signs (fun vs H Q E h => ?_) (fun cdv A outer s H vs Q E hr h => ?_)
  · obtain ⟨i, rfl, _⟩ := h
    rfl
  · obtain ⟨i, rfl, h⟩ := h
    refine ⟨_, (pss_one (ps_ret (pe_and (pe_callB call_isi (by rfl) T.b_isinstance boot_isinstance (pa_cons (pv 0) (pa_cons (pe_bltn (v := .ty "int") (by rfl) T.b_int PyProof.Rows.boot_int rfl) pa_nil))) (pe_and (pe_not (pe_callB call_isi (by rfl) T.b_isinstance boot_isinstance (pa_cons (pv 0) (pa_cons (pe_bltn (v := .ty "bool") (by rfl) T.b_bool PyProof.Rows.boot_bool rfl) pa_nil)))) (pe_one (pe_cmpR op_ge (pv 0) pe_int (nomark _))))))), ?_⟩
    refine ⟨_, rfl, _, _, _, _, true, rfl, .ty _, .base (.int _), kit_ty (by decide +kernel), true, rfl, iteT ?_⟩
    refine ⟨_, rfl, _, _, _, _, false, rfl, .ty _, .base (.int _), kit_ty (by decide +kernel), false, rfl, true, rfl, iteT ?_⟩
    exact ⟨_, rfl, _, _, rfl, rfl, h⟩
abbrev n_is_name : List Str := ["thing", "sign"]
theorem sc_is_name : FnScope n_is_name ["thing"] (defScope s_is_name) := ⟨rfl, rfl, rfl, by decide +kernel, rfl, by decide +kernel, by decide +kernel⟩
theorem ok_is_name (T : Tx K mg) : DefOk P w K mg base CX0 1 (He.fAd K d_is_name.at_) ["thing"] spName := by
  refine mk0 (d := d_is_name) T.f_is_name rfl (fun _ _ _ _ _ _ us hl => match us, hl with | [_], _ => rfl) sc_is_name (fun vs H Q E h => ?_) (fun cdv A outer s H vs Q E hr h => ?_)
  · obtain ⟨i, rfl, _⟩ := h
    rfl
  · obtain ⟨z, rfl, nz, h⟩ := h
    obtain ⟨_, h_LONGEST⟩ := T.i_LONGEST
    obtain ⟨_, h_LETTERS⟩ := T.s_LETTERS
    refine ⟨_, (pss_cons (ps_if (PW.pt (pw_or (pt_not (pt_val (pe_callB call_isi (by rfl) T.b_isinstance boot_isinstance (pa_cons (pv 0) (pa_cons (pe_bltn (v := .ty "str") (by rfl) T.b_str PyProof.Rows.boot_str rfl) pa_nil))))) (pw_or (pt_cmpR op_eq (pv 0) pe_str (nomark _)) (pw_or1 (pt_cmpR op_gt (pe_callB call_len_str (by rfl) T.b_len PySem.boot_len (pa_cons (pv 0) pa_nil)) (pe_glob (v := .int 8) rfl h_LONGEST ⟨_, rfl⟩) (nomark _)))))) (pss_one (ps_ret pe_bl)) pss_nil)
      (pss_one (ps_ret (pe_callB (cr_all rfl) (by rfl) T.b_all (by decide +kernel) (pa_cons (pe_lc (own := [("sign", 1)]) (tt := tYes) rfl sc_is_name.nd (pi_str (pv 0)) (blkOk_by (own := [("sign", 1)]) (N := n_is_name) (sc := defScope s_is_name) (by decide +kernel)) (fun _ _ _ _ _ => (pg_name (i := 1) sc_is_name.nd rfl (.inl rfl))) (fun _ _ _ _ _ => pts_nil) (fun _ _ _ _ _ => (pe_cmpR op_in_sign (pv 1) (pe_glob (v := .str "abcdefghijklmnopqrstuvwxyz") rfl h_LETTERS ⟨_, rfl⟩) (by rfl)))) pa_nil))))), ?_⟩
    refine ⟨_, rfl, _, _, _, _, true, rfl, .ty _, .base (.str _), kit_ty (by decide +kernel), true, rfl, iteF ?_⟩
    refine ⟨_, rfl, rfl, _, rfl, iFe (name_ne nz) ?_⟩
    refine ⟨_, rfl, _, rfl, nameLen nz, _, _, rfl, rfl, _, rfl, iFe (decide_eq_false (by have := nz.2.1; omega)) ?_⟩
    refine ⟨_, rfl, _, rfl, fun D hD => lc_it (walk_str (z := z)) (fun i H1 => Same H H1 ∧ H1 D = some (.lst (List.replicate i (V.bl true)))) ⟨same_upd hD, upd_same⟩ (fun _ _ _ _ => trivial) (fun i x H1 H2 hi hp hy => ?_) (fun H1 hp => ?_)⟩
    · obtain ⟨sm, hd⟩ := hp
      obtain ⟨rfl, c, hc, rfl⟩ := hy
      have hc' : decide (c ∈ ("abcdefghijklmnopqrstuvwxyz" : Str).cps.toList) = true := decide_eq_true (nz.2.2 c (by
        have e := Array.getElem?_toList (xs := z.cps) (i := i)
        rw [hc] at e
        exact List.mem_of_getElem? e))
      refine ⟨rfl, _, rfl, c, _, rfl, rfl, ?_⟩
      rw [hc']
      refine ⟨_, hd, slt ?_, fun b y e => ?_, ?_⟩
      · rw [List.length_replicate]
        have h1 : z.cps.size = z.length := rfl
        have := nz.2.1
        omega
      · rw [upd_ne (ne_of_none e hD)]
        exact sm _ _ e
      · rw [upd_same, List.replicate_succ']
    · obtain ⟨sm, hd⟩ := hp
      refine ⟨D, List.replicate z.cps.size true, rfl, SqL.of (by rw [hd, List.map_replicate]), ?_⟩
      have e : (List.replicate z.cps.size true).all id = true := by simp
      rw [e]
      exact h _ sm
abbrev n_seal_of : List Str := ["secret"]
theorem sc_seal_of : FnScope n_seal_of ["secret"] (defScope s_seal_of) := ⟨rfl, rfl, rfl, by decide +kernel, rfl, by decide +kernel, by decide +kernel⟩
theorem ok_seal_of (T : Tx K mg) : DefOk P w K mg base CX0 3 (He.fAd K d_seal_of.at_) ["secret"] spSeal := by
  refine mk0 (d := d_seal_of) T.f_seal_of rfl (fun _ _ _ _ _ _ us hl => match us, hl with | [_], _ => rfl) sc_seal_of (fun vs H Q E h => ?_) (fun cdv A outer s H vs Q E hr h => ?_)
  · obtain ⟨i, rfl, _⟩ := h
    rfl
  · obtain ⟨i, rfl, h0, h⟩ := h
    obtain ⟨_, h_STRETCH⟩ := T.i_STRETCH
    obtain ⟨_, h_FIRST_SEAL⟩ := T.i_FIRST_SEAL
    refine ⟨_, (pss_cons (ps_if (pt_not (pt_val (cD (ok_is_count_seals T) T.g_is_count_seals hr (pa_cons (pv 0) pa_nil)))) (pss_one ps_never) pss_nil)
      (pss_one (ps_ret (pe_op op_add (pe_op op_mul (pe_glob (v := .int 3) rfl h_STRETCH ⟨_, rfl⟩) (pv 0)) (pe_glob (v := .int 17) rfl h_FIRST_SEAL ⟨_, rfl⟩))))), ?_⟩
    refine ⟨_, rfl, _, rfl, true, ?_, ?_⟩
    · rw [decide_eq_true h0]
    · exact iteF ⟨_, rfl, _, _, rfl, rfl, .inl ⟨by decide, by decide⟩, _, _, rfl, rfl, h⟩
abbrev n_is_side : List Str := ["thing"]
theorem sc_is_side : FnScope n_is_side ["thing"] (defScope s_is_side) := ⟨rfl, rfl, rfl, by decide +kernel, rfl, by decide +kernel, by decide +kernel⟩
theorem ok_is_side (T : Tx K mg) : DefOk P w K mg base CX0 1 (He.fAd K d_is_side.at_) ["thing"] spSide := by
  refine mk0 (d := d_is_side) T.f_is_side rfl (fun _ _ _ _ _ _ us hl => match us, hl with | [_], _ => rfl) sc_is_side (fun vs H Q E h => ?_) (fun cdv A outer s H vs Q E hr h => ?_)
  · obtain ⟨i, rfl, _⟩ := h
    rfl
  · obtain ⟨z, rfl, hz, h⟩ := h
    obtain ⟨_, h_LEFT⟩ := T.s_LEFT
    obtain ⟨_, h_RIGHT⟩ := T.s_RIGHT
    refine ⟨_, (pss_one (ps_ret (pe_and (pe_callB call_isi (by rfl) T.b_isinstance boot_isinstance (pa_cons (pv 0) (pa_cons (pe_bltn (v := .ty "str") (by rfl) T.b_str PyProof.Rows.boot_str rfl) pa_nil))) (pe_one (pe_cmpR op_in_seq (pv 0) (pe_tup (pa_cons (pe_glob (v := .str "left") rfl h_LEFT ⟨_, rfl⟩) (pa_cons (pe_glob (v := .str "right") rfl h_RIGHT ⟨_, rfl⟩) pa_nil))) (by rfl)))))), ?_⟩
    refine ⟨_, rfl, _, _, _, _, true, rfl, .ty _, .base (.str _), kit_ty (by decide +kernel), true, rfl, iteT ?_⟩
    refine ⟨_, rfl, by decide, fun p hp => ⟨p, _, rfl, .inr (SqT.of upd_same), rfl, rfl, ?_⟩⟩
    have e : inV (V.str z) [V.str "left", V.str "right"] = true := by
      rcases hz with rfl | rfl <;> decide
    show Q (.bl (inV (V.str z) [V.str "left", V.str "right"])) _
    rw [e]
    exact h _ (same_upd hp)
end
end Cn
namespace Cn
open PySem PySem.Spec PyProof.Rows L2
theorem sl {n : Nat} (h : Nat.ble n 16000000 = true := by rfl) : n ≤ sizeLine := sle (Nat.le_of_ble_eq_true h)
theorem qbl {Q : VK} {b c : Bool} {H : Hp} (e : b = c) (h : Q (.bl c) H) : Q (.bl b) H := by
  rw [e]
  exact h
def leastAt (ks : List LK) : Int := match ks.getLast? with
  | none => 1
  | some k => k.id + 1
theorem leastAt_app (ks : List LK) (k : LK) : leastAt (ks ++ [k]) = k.id + 1 := by
  unfold leastAt
  rw [List.getLast?_concat]
theorem least_le {s : ST} (ok : s.ok) {i : Nat} {k : LK} (h : s.lks[i]? = some k) : leastAt (s.lks.take i) ≤ k.id := by
  unfold leastAt
  split
  · exact (ok.lk _ (List.mem_of_getElem? h)).1
  · rename_i j hj
    have hi := (List.getElem?_eq_some_iff.mp h).1
    have e : (s.lks.take i)[i - 1]? = some j := by
      rw [List.getLast?_eq_getElem?, List.length_take, Nat.min_eq_left (by omega)] at hj
      exact hj
    have hi0 : 0 < i := by
      rcases Nat.eq_zero_or_pos i with z | z
      · rw [z] at e
        simp at e
      · exact z
    have e2 : s.lks[i - 1]? = some j := by
      rw [List.getElem?_take] at e
      split at e
      · exact e
      · cases e
    have up := ok.up
    rw [List.pairwise_iff_getElem] at up
    have l1 : (s.lks.map LK.id).length = s.lks.length := List.length_map ..
    have := up (i - 1) i (by omega) (by omega) (by omega)
    obtain ⟨q1, q2⟩ := List.getElem?_eq_some_iff.mp h
    obtain ⟨q3, q4⟩ := List.getElem?_eq_some_iff.mp e2
    simp only [List.getElem_map, q2, q4] at this
    omega
theorem least_end {s : ST} (ok : s.ok) {n : Nat} (h : s.lks.length ≤ n) : leastAt (s.lks.take n) ≤ s.nu + 1 := by
  rw [List.take_of_length_le h]
  unfold leastAt
  split
  · have := ok.nu
    omega
  · rename_i j hj
    have := ok.top j (List.mem_of_getLast? hj)
    omega
section
variable {P : Program} {w : World} {K : PySem.W.Frag} {mg : Str → Option Value} {base : Heap}
abbrev n_is_lock : List Str := ["thing", "number", "giver", "amount", "seal", "last"]
theorem sc_is_lock : FnScope n_is_lock ["thing"] (defScope s_is_lock) := ⟨rfl, rfl, rfl, by decide +kernel, rfl, by decide +kernel, by decide +kernel⟩
theorem ok_is_lock (T : Tx K mg) : DefOk P w K mg base CX0 3 (He.fAd K d_is_lock.at_) ["thing"] (spLock K) := by
  refine mk0 (d := d_is_lock) T.f_is_lock rfl (fun _ _ _ _ _ _ us hl => match us, hl with | [_], _ => rfl) sc_is_lock (fun vs H Q E h => ?_) (fun cdv A outer s H vs Q E hr h => ?_)
  · obtain ⟨v, k, rfl, _⟩ := h
    rfl
  · obtain ⟨v, k, rfl, ⟨a, rfl, hq⟩, ok, h⟩ := h
    refine ⟨_, (pss_cons (ps_if (PW.pt (pw_or (pt_not (pt_val (pe_callB call_isi (by rfl) T.b_isinstance boot_isinstance (pa_cons (pv 0) (pa_cons (pe_bltn (v := .ty "tuple") (by rfl) T.b_tuple PyProof.Rows.boot_tuple rfl) pa_nil))))) (pw_or1 (pt_cmpR op_ne (pe_callB call_len_seq (by rfl) T.b_len PySem.boot_len (pa_cons (pv 0) pa_nil)) pe_int (nomark _))))) (pss_one (ps_ret pe_bl)) pss_nil)
      (pss_cons (ps_asg (pv 0) (pg_tup rfl (pgs_cons (pg_name (i := 1) sc_is_lock.nd rfl (.inl rfl)) (pgs_cons (pg_name (i := 2) sc_is_lock.nd rfl (.inl rfl)) (pgs_cons (pg_name (i := 3) sc_is_lock.nd rfl (.inl rfl)) (pgs_cons (pg_name (i := 4) sc_is_lock.nd rfl (.inl rfl)) (pgs_cons (pg_name (i := 5) sc_is_lock.nd rfl (.inl rfl)) pgs_nil)))))))
      (pss_one (ps_ret (pe_and (cD (ok_is_amount T) T.g_is_amount hr (pa_cons (pv 1) pa_nil)) (pe_and (cD (ok_is_side T) T.g_is_side hr (pa_cons (pv 2) pa_nil)) (pe_and (cD (ok_is_amount T) T.g_is_amount hr (pa_cons (pv 3) pa_nil)) (pe_and (cD (ok_is_count_seals T) T.g_is_count_seals hr (pa_cons (pv 4) pa_nil)) (pe_one (cD (ok_is_count_seals T) T.g_is_count_seals hr (pa_cons (pv 5) pa_nil))))))))))), ?_⟩
    refine ⟨_, rfl, _, _, _, _, true, rfl, .ty _, sqt_ty hq, kit_ty (by decide +kernel), true, rfl, iteF ?_⟩
    refine ⟨_, rfl, a, _, rfl, .inr hq, rfl, _, rfl, iFe rfl ?_⟩
    refine ⟨_, rfl, a, _, rfl, hq, rfl, _, _, rfl, _, _, rfl, _, _, rfl, _, _, rfl, _, _, rfl, rfl, ?_⟩
    refine ⟨_, rfl, _, rfl, _, rfl, iTe (decide_eq_true ok.1) ?_⟩
    refine ⟨_, rfl, _, rfl, ok.2.1, fun H1 s1 => ⟨true, rfl, iteT ?_⟩⟩
    refine ⟨_, rfl, _, rfl, _, rfl, iTe (decide_eq_true ok.2.2.1) ?_⟩
    refine ⟨_, rfl, _, rfl, _, rfl, iTe (decide_eq_true ok.2.2.2.1) ?_⟩
    refine ⟨_, rfl, _, rfl, ?_⟩
    rw [decide_eq_true ok.2.2.2.2]
    exact h _ s1
abbrev n_is_state : List Str := ["thing", "counts", "locks", "least", "lock", "count"]
theorem sc_is_state : FnScope n_is_state ["thing"] (defScope s_is_state) := ⟨rfl, rfl, rfl, by decide +kernel, rfl, by decide +kernel, by decide +kernel⟩
theorem ok_is_state (T : Tx K mg) : DefOk P w K mg base CX0 4 (He.fAd K d_is_state.at_) ["thing"] (spState K) := by
  refine mk0 (d := d_is_state) T.f_is_state rfl (fun _ _ _ _ _ _ us hl => match us, hl with | [_], _ => rfl) sc_is_state (fun vs H Q E h => ?_) (fun cdv A outer s H vs Q E hr h => ?_)
  · obtain ⟨v, k, rfl, _⟩ := h
    rfl
  · obtain ⟨v, k, rfl, ⟨a, b, xs, rfl, hq, hb, hp⟩, ok, h⟩ := h
    obtain ⟨_, h_MOST_LOCKS⟩ := T.i_MOST_LOCKS
    refine ⟨_, (pss_cons (ps_if (PW.pt (pw_or (pt_not (pt_val (pe_callB call_isi (by rfl) T.b_isinstance boot_isinstance (pa_cons (pv 0) (pa_cons (pe_bltn (v := .ty "tuple") (by rfl) T.b_tuple PyProof.Rows.boot_tuple rfl) pa_nil))))) (pw_or (pt_cmpR op_ne (pe_callB call_len_seq (by rfl) T.b_len PySem.boot_len (pa_cons (pv 0) pa_nil)) pe_int (nomark _)) (pw_or1 (pt_not (pt_val (pe_callB call_isi (by rfl) T.b_isinstance boot_isinstance (pa_cons (pe_ix ix_tup (pv 0) pe_int (fun _ _ => rfl)) (pa_cons (pe_bltn (v := .ty "tuple") (by rfl) T.b_tuple PyProof.Rows.boot_tuple rfl) pa_nil))))))))) (pss_one (ps_ret pe_bl)) pss_nil)
      (pss_cons (ps_asg (pv 0) (pg_star (n := 2) (i := 0) rfl (pgs_star (pg_name (i := 1) sc_is_state.nd rfl (.inl rfl)) (pgs_cons (pg_name (i := 2) sc_is_state.nd rfl (.inl rfl)) pgs_nil))))
      (pss_cons (ps_if (PW.pt (pw_or (pt_not (pt_val (pe_callB (cr_all rfl) (by rfl) T.b_all (by decide +kernel) (pa_cons (pe_lc (own := [("count", 5)]) (tt := tYes) rfl sc_is_state.nd (pi_list (pv 1)) (blkOk_by (own := [("count", 5)]) (N := n_is_state) (sc := defScope s_is_state) (by decide +kernel)) (fun _ _ _ _ _ => (pg_name (i := 5) sc_is_state.nd rfl (.inl rfl))) (fun _ _ _ _ _ => pts_nil) (fun _ _ _ _ _ => (cD (ok_is_count_seals (P := P) (w := w) (base := base) T) T.g_is_count_seals hr (pa_cons (pv 5) pa_nil)))) pa_nil)))) (pw_or1 (pt_cmpR op_gt (pe_callB call_len_seq (by rfl) T.b_len PySem.boot_len (pa_cons (pv 2) pa_nil)) (pe_glob (v := .int 30) rfl h_MOST_LOCKS ⟨_, rfl⟩) (nomark _))))) (pss_one (ps_ret pe_bl)) pss_nil)
      (pss_cons (ps_set (i := 3) sc_is_state.nd rfl (.inl rfl) pe_int)
      (pss_cons (ps_for PassesOwn.never rfl (pi_tup (pv 2)) (pg_name (i := 4) sc_is_state.nd rfl (.inl rfl)) (pss_cons (ps_if (PW.pt (pw_or (pt_not (pt_val (cD (ok_is_lock T) T.g_is_lock hr (pa_cons (pv 4) pa_nil)))) (pw_or1 (pt_cmpR op_lt (pe_ix ix_tup (pv 4) pe_int (fun _ _ => rfl)) (pv 3) (nomark _))))) (pss_one (ps_ret pe_bl)) pss_nil)
      (pss_one (ps_set (i := 3) sc_is_state.nd rfl (.inl rfl) (pe_op op_add (pe_ix ix_tup (pv 4) pe_int (fun _ _ => rfl)) pe_int)))))
      (pss_one (ps_ret (pe_cmpR op_le (pv 3) (pe_op op_add (pe_ix ix_list (pv 1) pe_int (fun _ _ => rfl)) pe_int) (nomark _))))))))), ?_⟩
    refine ⟨_, rfl, _, _, _, _, true, rfl, .ty _, sqt_ty hq, kit_ty (by decide +kernel), true, rfl, iteF ?_⟩
    refine ⟨_, rfl, a, _, rfl, .inr hq, rfl, _, rfl, iFe rfl ?_⟩
    refine ⟨_, rfl, a, _, _, _, rfl, rfl, hq, rfl, ?_⟩
    refine ⟨_, _, _, _, true, rfl, .ty _, sqt_ty hb, kit_ty (by decide +kernel), true, rfl, iteF ?_⟩
    refine ⟨_, rfl, a, _, rfl, hq, show (2 : Nat) ≤ 6 by decide, by decide, fun c hc => ?_⟩
    refine ⟨_, _, rfl, _, _, rfl, rfl, ?_⟩
    have hc0 := hc
    have s1 : Same H (upd H c (.lst [.int k.ln, .int k.nu, .int k.l, .int k.r])) := same_upd hc
    refine ⟨_, rfl, c, rfl, ⟨_, SqL.of upd_same⟩, fun D hD => lc_list (xs := [.int k.ln, .int k.nu, .int k.l, .int k.r]) (fun i H2 => Same H H2 ∧ H2 c = some (.lst [.int k.ln, .int k.nu, .int k.l, .int k.r]) ∧ H2 D = some (.lst (List.replicate i (V.bl true)))) ⟨s1.trans (same_upd hD), ?_, upd_same⟩ (fun i H2 _ h2 => SqL.of h2.2.1) (fun i x H2 hx h2 => ?_) (fun H2 h2 => ?_)⟩
    · rw [upd_ne (fun e => ?_)]
      · exact upd_same
      · rw [← e, upd_same] at hD
        cases hD
    · have hx' : ∃ n : Int, x = .int n ∧ 0 ≤ n := by
        have := List.mem_of_getElem? hx
        simp only [List.mem_cons, List.not_mem_nil, or_false] at this
        rcases this with e | e | e | e
        · exact ⟨_, e, ok.ln⟩
        · exact ⟨_, e, ok.nu⟩
        · exact ⟨_, e, ok.l⟩
        · exact ⟨_, e, ok.r⟩
      have hi : i < 4 := by
        have := List.getElem?_eq_some_iff.mp hx
        exact this.1
      obtain ⟨n, rfl, hn⟩ := hx'
      refine ⟨rfl, _, rfl, n, rfl, ?_⟩
      rw [decide_eq_true hn]
      refine ⟨_, h2.2.2, slt (by rw [List.length_replicate]; omega), fun b y e => ?_, ?_, ?_⟩
      · rw [upd_ne (ne_of_none e ?_)]
        · exact h2.1 _ _ e
        · exact s1.free hD
      · rw [upd_ne (fun e => ?_)]
        · exact h2.2.1
        · rw [e] at h2
          have := h2.2.1.symm.trans h2.2.2
          cases i <;> cases this
      · rw [upd_same, List.replicate_succ']
    · obtain ⟨s2, ec, ed⟩ := h2
      refine ⟨D, [true, true, true, true], rfl, SqL.of ed, true, rfl, iteF ?_⟩
      have hb2 := Ks.same s2 _ _ hb
      have lx : xs.length = k.lks.length := paired_len hp
      refine ⟨_, rfl, b, _, rfl, .inr hb2, _, _, rfl, rfl, _, rfl, iFe (decide_eq_false (by have := ok.len; omega)) ?_⟩
      have hp2 := paired_imp (fun v x (z : IsLK K H v x) => IsLK.mono (Ks.same s2) z) hp
      refine ⟨_, rfl, b, rfl, ⟨_, hb2⟩, for_tup (xs := xs) (fun i σ H3 => Same H2 H3 ∧ ∃ y z, σ = [some (.ref a), some (.ref c), some (.ref b), some (.int (leastAt (k.lks.take i))), y, z]) ⟨Same.refl _, none, none, rfl⟩ (fun i σ H3 _ h3 => Ks.same h3.1 _ _ hb2) (fun i x σ H3 hx h3 => ?_) (fun σ H3 h3 => ?_)⟩
      · obtain ⟨s3, y, z, rfl⟩ := h3
        obtain ⟨kk, hk, hl⟩ := paired_get hp2 hx
        have hl3 := IsLK.mono (Ks.same s3) hl
        have hm := List.mem_of_getElem? hk
        obtain ⟨p, e, hq3⟩ := id hl3
        subst e
        refine ⟨_, rfl, _, kk, rfl, hl3, ok.lk _ hm, fun H4 s4 => ⟨true, rfl, iteF ?_⟩⟩
        have hq4 := Ks.same s4 _ _ hq3
        refine ⟨_, rfl, p, _, _, _, rfl, rfl, hq4, rfl, _, rfl, _, _, rfl, rfl, _, rfl, iFe (decide_eq_false (by have := least_le ok hk; omega)) ?_⟩
        refine ⟨_, rfl, p, _, _, _, rfl, rfl, hq4, rfl, _, _, rfl, rfl, s3.trans s4, some (.ref p), z, ?_⟩
        rw [take_succ_of hk, leastAt_app]
        rfl
      · obtain ⟨s3, y, z, rfl⟩ := h3
        have ec3 := s3 _ _ ec
        refine ⟨_, rfl, _, rfl, c, _, _, _, rfl, rfl, SqL.of ec3, rfl, _, _, rfl, rfl, _, _, rfl, rfl, ?_⟩
        exact qbl (decide_eq_true (least_end ok (Nat.le_of_eq lx.symm))) (h _ (s2.trans s3))
abbrev n_need_state : List Str := ["thing"]
theorem sc_need_state : FnScope n_need_state ["thing"] (defScope s_need_state) := ⟨rfl, rfl, rfl, by decide +kernel, rfl, by decide +kernel, by decide +kernel⟩
theorem ok_need_state (T : Tx K mg) : DefOk P w K mg base CX0 5 (He.fAd K d_need_state.at_) ["thing"] (spNeedState K) := by
  refine mk0 (d := d_need_state) T.f_need_state rfl (fun _ _ _ _ _ _ us hl => match us, hl with | [_], _ => rfl) sc_need_state (fun vs H Q E h => ?_) (fun cdv A outer s H vs Q E hr h => ?_)
  · obtain ⟨v, k, rfl, _⟩ := h
    rfl
  · obtain ⟨v, k, rfl, hv, ok, h⟩ := h
    refine ⟨_, (pss_one (ps_if (pt_not (pt_val (cD (ok_is_state T) T.g_is_state hr (pa_cons (pv 0) pa_nil)))) (pss_one ps_never) pss_nil)), ?_⟩
    refine ⟨_, rfl, _, k, rfl, hv, ok, fun H1 s1 => ⟨true, rfl, iteF ?_⟩⟩
    exact h _ s1
abbrev n_worth : List Str := ["state", "lock"]
theorem sc_worth : FnScope n_worth ["state"] (defScope s_worth) := ⟨rfl, rfl, rfl, by decide +kernel, rfl, by decide +kernel, by decide +kernel⟩
theorem ok_worth (T : Tx K mg) : DefOk P w K mg base CX0 6 (He.fAd K d_worth.at_) ["state"] (spWorth K) := by
  refine mk0 (d := d_worth) T.f_worth rfl (fun _ _ _ _ _ _ us hl => match us, hl with | [_], _ => rfl) sc_worth (fun vs H Q E h => ?_) (fun cdv A outer s H vs Q E hr h => ?_)
  · obtain ⟨v, k, rfl, _⟩ := h
    rfl
  · obtain ⟨v, k, rfl, hv, ok, h⟩ := h
    refine ⟨_, (pss_cons (ps_expr (cD (ok_need_state T) T.g_need_state hr (pa_cons (pv 0) pa_nil)))
      (pss_one (ps_ret (pe_op op_add (pe_op op_add (pe_ix ix_tup (pv 0) pe_int (fun _ _ => rfl)) (pe_ix ix_tup (pv 0) pe_int (fun _ _ => rfl))) (pe_callB (cr_sum rfl) (by rfl) T.b_sum (by decide +kernel) (pa_cons (pe_lc (own := [("lock", 1)]) (tt := tYes) rfl sc_worth.nd (pi_tup (pe_ix ix_tup (pv 0) pe_int (fun _ _ => rfl))) (blkOk_by (own := [("lock", 1)]) (N := n_worth) (sc := defScope s_worth) (by decide +kernel)) (fun _ _ _ _ _ => (pg_name (i := 1) sc_worth.nd rfl (.inl rfl))) (fun _ _ _ _ _ => pts_nil) (fun _ _ _ _ _ => (pe_ix (r := rIxT K) ix_tup (pv 1) pe_int (fun _ _ => rfl)))) pa_nil)))))), ?_⟩
    refine ⟨_, rfl, _, k, rfl, hv, ok, fun H1 s1 => ?_⟩
    obtain ⟨a, b, xs, rfl, hq, hb, hp⟩ := IsST.mono (Ks.same s1) hv
    refine ⟨_, rfl, a, _, _, _, rfl, rfl, hq, rfl, _, rfl, a, _, _, _, rfl, rfl, hq, rfl, _, _, rfl, rfl, ?_⟩
    refine ⟨_, rfl, a, _, _, _, rfl, rfl, hq, rfl, b, rfl, ⟨_, hb⟩, fun D hD => lc_tup (xs := xs) (fun i H2 => Same H1 H2 ∧ H2 D = some (.lst (((k.lks.take i).map LK.am).map V.int))) ⟨same_upd hD, upd_same⟩ (fun i H2 _ h2 => Ks.same h2.1 _ _ hb) (fun i x H2 hx h2 => ?_) (fun H2 h2 => ?_)⟩
    · obtain ⟨s2, hd⟩ := h2
      obtain ⟨kk, hk, p, rfl, hq2⟩ := paired_get hp hx
      refine ⟨rfl, _, rfl, p, _, _, _, rfl, rfl, Ks.same s2 _ _ hq2, rfl, _, hd, slt ?_, fun b y e => ?_, ?_⟩
      · have := ok.len
        rw [List.length_map, List.length_map, List.length_take]
        omega
      · rw [upd_ne (ne_of_none e hD)]
        exact s2 _ _ e
      · rw [upd_same, take_succ_of hk, List.map_append, List.map_append]
        rfl
    · obtain ⟨s2, hd⟩ := h2
      refine ⟨D, _, rfl, SqL.of hd, _, _, rfl, rfl, ?_⟩
      rw [paired_len hp, List.take_length]
      exact h _ (s1.trans s2)
abbrev n_first_state : List Str := ["lane", "left", "right"]
theorem sc_first_state : FnScope n_first_state ["lane", "left", "right"] (defScope s_first_state) := ⟨rfl, rfl, rfl, by decide +kernel, rfl, by decide +kernel, by decide +kernel⟩
theorem ok_first_state (T : Tx K mg) : DefOk P w K mg base CX0 1 (He.fAd K d_first_state.at_) ["lane", "left", "right"] (spFirst K) := by
  refine mk0 (d := d_first_state) T.f_first_state rfl (fun _ _ _ _ _ _ us hl => match us, hl with | [_, _, _], _ => rfl) sc_first_state (fun vs H Q E h => ?_) (fun cdv A outer s H vs Q E hr h => ?_)
  · obtain ⟨v, k, kk, rfl, _⟩ := h
    rfl
  · obtain ⟨n, a, b, rfl, h⟩ := h
    refine ⟨_, (pss_one (ps_ret (pe_tup (pa_cons (pv 0) (pa_cons pe_int (pa_cons (pv 1) (pa_cons (pv 2) (pa_cons (pe_tup pa_nil) pa_nil)))))))), ?_⟩
    refine ⟨_, rfl, _, rfl, _, rfl, sl, fun p hp => ⟨sl, fun q hq => ?_⟩⟩
    refine h _ _ ((same_upd hp).trans (same_upd hq)) ⟨q, p, [], rfl, SqT.of upd_same, SqT.of ?_, .nil⟩
    rw [upd_ne (fun e => ?_)]
    · exact upd_same
    · rw [← e, upd_same] at hq
      cases hq
abbrev n_is_opening : List Str := ["thing", "word", "lane", "hands", "one", "other", "hand"]
theorem sc_is_opening : FnScope n_is_opening ["thing"] (defScope s_is_opening) := ⟨rfl, rfl, rfl, by decide +kernel, rfl, by decide +kernel, by decide +kernel⟩
theorem ok_is_opening (T : Tx K mg) : DefOk P w K mg base CX0 2 (He.fAd K d_is_opening.at_) ["thing"] (spOpening K) := by
  refine mk0 (d := d_is_opening) T.f_is_opening rfl (fun _ _ _ _ _ _ us hl => match us, hl with | [_], _ => rfl) sc_is_opening (fun vs H Q E h => ?_) (fun cdv A outer s H vs Q E hr h => ?_)
  · obtain ⟨v, k, rfl, _⟩ := h
    rfl
  · obtain ⟨v, k, rfl, hv, ok, h⟩ := h
    refine ⟨_, (pss_cons (ps_if (PW.pt (pw_or (pt_not (pt_val (pe_callB call_isi (by rfl) T.b_isinstance boot_isinstance (pa_cons (pv 0) (pa_cons (pe_bltn (v := .ty "tuple") (by rfl) T.b_tuple PyProof.Rows.boot_tuple rfl) pa_nil))))) (pw_or (pt_cmpR op_ne (pe_callB call_len_seq (by rfl) T.b_len PySem.boot_len (pa_cons (pv 0) pa_nil)) pe_int (nomark _)) (pw_or (pt_not (pt_val (pe_callB call_isi (by rfl) T.b_isinstance boot_isinstance (pa_cons (pe_ix ix_tup (pv 0) pe_int (fun _ _ => rfl)) (pa_cons (pe_bltn (v := .ty "str") (by rfl) T.b_str PyProof.Rows.boot_str rfl) pa_nil))))) (pw_or1 (pt_cmpR op_ne (pe_ix ix_tup (pv 0) pe_int (fun _ _ => rfl)) pe_str (nomark _))))))) (pss_one (ps_ret pe_bl)) pss_nil)
      (pss_cons (ps_asg (pv 0) (pg_star (n := 5) (i := 2) rfl (pgs_cons (pg_name (i := 1) sc_is_opening.nd rfl (.inl rfl)) (pgs_cons (pg_name (i := 2) sc_is_opening.nd rfl (.inl rfl)) (pgs_star (pg_name (i := 3) sc_is_opening.nd rfl (.inl rfl)) (pgs_cons (pg_name (i := 4) sc_is_opening.nd rfl (.inl rfl)) (pgs_cons (pg_name (i := 5) sc_is_opening.nd rfl (.inl rfl)) pgs_nil)))))))
      (pss_cons (ps_if (PW.pt (pw_or (pt_not (pt_val (pe_callB (cr_all rfl) (by rfl) T.b_all (by decide +kernel) (pa_cons (pe_lc (own := [("hand", 6)]) (tt := tYes) rfl sc_is_opening.nd (pi_list (pv 3)) (blkOk_by (own := [("hand", 6)]) (N := n_is_opening) (sc := defScope s_is_opening) (by decide +kernel)) (fun _ _ _ _ _ => (pg_name (i := 6) sc_is_opening.nd rfl (.inl rfl))) (fun _ _ _ _ _ => pts_nil) (fun _ _ _ _ _ => (cD (ok_is_name (P := P) (w := w) (base := base) T) T.g_is_name hr (pa_cons (pv 6) pa_nil)))) pa_nil)))) (pw_or1 (pt_cmpR op_eq (pe_ix ix_list (pv 3) pe_int (fun _ _ => rfl)) (pe_ix ix_list (pv 3) pe_int (fun _ _ => rfl)) (nomark _))))) (pss_one (ps_ret pe_bl)) pss_nil)
      (pss_one (ps_ret (pe_and (cD (ok_is_count_signs T) T.g_is_count_signs hr (pa_cons (pv 2) pa_nil)) (pe_and (cD (ok_is_count_signs T) T.g_is_count_signs hr (pa_cons (pv 4) pa_nil)) (pe_and (cD (ok_is_count_signs T) T.g_is_count_signs hr (pa_cons (pv 5) pa_nil)) (pe_one (pe_cmpR op_gt (pe_op op_add (pv 4) (pv 5)) pe_int (nomark _))))))))))), ?_⟩
    cases k with
    | st s =>
      obtain ⟨a, b, xs, rfl, hq, hb, hp⟩ := hv
      refine ⟨_, rfl, _, _, _, _, true, rfl, .ty _, sqt_ty hq, kit_ty (by decide +kernel), true, rfl, iteF ?_⟩
      refine ⟨_, rfl, a, _, rfl, .inr hq, rfl, _, rfl, iTe rfl ?_⟩
      exact h _ (Same.refl _)
    | op n l r x y =>
      obtain ⟨a, rfl, hq⟩ := hv
      obtain ⟨o1, o2, o3, o4, o5, o6, o7⟩ := ok
      refine ⟨_, rfl, _, _, _, _, true, rfl, .ty _, sqt_ty hq, kit_ty (by decide +kernel), true, rfl, iteF ?_⟩
      refine ⟨_, rfl, a, _, rfl, .inr hq, rfl, _, rfl, iFe rfl ?_⟩
      refine ⟨_, rfl, a, _, _, _, rfl, rfl, hq, rfl, _, _, _, _, true, rfl, .ty _, .base (.str _), kit_ty (by decide +kernel), true, rfl, iteF ?_⟩
      refine ⟨_, rfl, a, _, _, _, rfl, rfl, hq, rfl, rfl, _, rfl, iFe rfl ?_⟩
      refine ⟨_, rfl, a, _, rfl, hq, show (5 : Nat) ≤ 7 by decide, by decide, fun c hc => ?_⟩
      refine ⟨_, _, rfl, _, _, rfl, _, _, rfl, _, _, rfl, _, _, rfl, rfl, ?_⟩
      have s1 : Same H (upd H c (.lst [.str l, .str r])) := same_upd hc
      refine ⟨_, rfl, c, rfl, ⟨_, SqL.of upd_same⟩, fun D hD => lc_list (xs := [.str l, .str r]) (fun i H2 => Same H H2 ∧ H2 c = some (.lst [.str l, .str r]) ∧ H2 D = some (.lst (List.replicate i (V.bl true)))) ⟨s1.trans (same_upd hD), ?_, upd_same⟩ (fun i H2 _ h2 => SqL.of h2.2.1) (fun i v H2 hx h2 => ?_) (fun H2 h2 => ?_)⟩
      · rw [upd_ne (fun e => ?_)]
        · exact upd_same
        · rw [← e, upd_same] at hD
          cases hD
      · have hx' : ∃ z : Str, v = .str z ∧ NameOk z := by
          have := List.mem_of_getElem? hx
          simp only [List.mem_cons, List.not_mem_nil, or_false] at this
          rcases this with e | e
          · exact ⟨_, e, o2⟩
          · exact ⟨_, e, o3⟩
        have hi : i < 2 := by
          have := List.getElem?_eq_some_iff.mp hx
          exact this.1
        obtain ⟨z, rfl, hz⟩ := hx'
        obtain ⟨s2, ec, ed⟩ := h2
        refine ⟨rfl, _, rfl, z, rfl, hz, fun H3 s3 => ⟨_, s3 _ _ ed, slt (by rw [List.length_replicate]; omega), fun b y e => ?_, ?_, ?_⟩⟩
        · rw [upd_ne (ne_of_none e ?_)]
          · exact s3 _ _ (s2 _ _ e)
          · exact s1.free hD
        · rw [upd_ne (fun e => ?_)]
          · exact s3 _ _ ec
          · rw [e] at ec
            have := ec.symm.trans ed
            cases i <;> cases this
        · rw [upd_same, List.replicate_succ']
      · obtain ⟨s2, ec, ed⟩ := h2
        refine ⟨D, [true, true], rfl, SqL.of ed, true, rfl, iteF ?_⟩
        refine ⟨_, rfl, c, _, _, _, rfl, rfl, SqL.of ec, rfl, _, rfl, c, _, _, _, rfl, rfl, SqL.of ec, rfl, rfl, _, rfl, iFe (decide_eq_false (fun e => o4 (V.str.inj e))) ?_⟩
        refine ⟨_, rfl, _, rfl, _, rfl, iTe (decide_eq_true o1) ?_⟩
        refine ⟨_, rfl, _, rfl, _, rfl, iTe (decide_eq_true o5) ?_⟩
        refine ⟨_, rfl, _, rfl, _, rfl, iTe (decide_eq_true o6) ?_⟩
        refine ⟨_, rfl, _, rfl, _, _, rfl, rfl, _, _, rfl, rfl, ?_⟩
        exact qbl (decide_eq_true o7) (h _ s2)
abbrev n_look_name : List Str := ["hand"]
theorem sc_look_name : FnScope n_look_name ["hand"] (defScope s_look_name) := ⟨rfl, rfl, rfl, by decide +kernel, rfl, by decide +kernel, by decide +kernel⟩
theorem ok_look_name (T : Tx K mg) : DefOk P w K mg base CX0 2 (He.fAd K d_look_name.at_) ["hand"] spLookName := by
  refine mk0 (d := d_look_name) T.f_look_name rfl (fun _ _ _ _ _ _ us hl => match us, hl with | [_], _ => rfl) sc_look_name (fun vs H Q E h => ?_) (fun cdv A outer s H vs Q E hr h => ?_)
  · obtain ⟨v, rfl, _⟩ := h
    rfl
  · obtain ⟨v, rfl, hv, h⟩ := h
    refine ⟨_, (pss_one (ps_if (pt_not (pt_val (cD (ok_is_name T) T.g_is_name hr (pa_cons (pv 0) pa_nil)))) (pss_one ps_never) pss_nil)), ?_⟩
    refine ⟨_, rfl, _, rfl, hv, fun H1 s1 => ⟨true, rfl, iteF ?_⟩⟩
    exact h _ s1
abbrev n_look_paper : List Str := ["hand", "paper"]
theorem sc_look_paper : FnScope n_look_paper ["hand", "paper"] (defScope s_look_paper) := ⟨rfl, rfl, rfl, by decide +kernel, rfl, by decide +kernel, by decide +kernel⟩
theorem ok_look_paper (T : Tx K mg) : DefOk P w K mg base CX0 5 (He.fAd K d_look_paper.at_) ["hand", "paper"] (spLookPaper K) := by
  refine mk0 (d := d_look_paper) T.f_look_paper rfl (fun _ _ _ _ _ _ us hl => match us, hl with | [_, _], _ => rfl) sc_look_paper (fun vs H Q E h => ?_) (fun cdv A outer s H vs Q E hr h => ?_)
  · obtain ⟨z, v, k, rfl, _⟩ := h
    rfl
  · obtain ⟨z, v, k, rfl, hz, hv, ok, h⟩ := h
    refine ⟨_, (pss_cons (ps_expr (cD (ok_look_name T) T.g_look_name hr (pa_cons (pv 0) pa_nil)))
      (pss_one (ps_if (PW.pt (pw_and (pt_not (pt_val (cD (ok_is_opening T) T.g_is_opening hr (pa_cons (pv 1) pa_nil)))) (pw_and1 (pt_not (pt_val (cD (ok_is_state T) T.g_is_state hr (pa_cons (pv 1) pa_nil))))))) (pss_one ps_never) pss_nil))), ?_⟩
    refine ⟨_, rfl, _, rfl, hz, fun H1 s1 => ?_⟩
    have hv1 := IsPaper.mono (Ks.same s1) hv
    refine ⟨_, rfl, _, k, rfl, hv1, ok, fun H2 s2 => ⟨_, rfl, ?_⟩⟩
    cases k with
    | op => exact iteF (h _ (s1.trans s2))
    | st s =>
      refine iteT ⟨_, rfl, _, s, rfl, IsST.mono (Ks.same s2) hv1, ok, fun H3 s3 => ⟨true, rfl, iteF ?_⟩⟩
      exact h _ ((s1.trans s2).trans s3)
end
end Cn
namespace Cn
open PySem PySem.Spec PyProof.Rows L2
theorem pe_fldK {X : Cx} {K : PySem.W.Frag} {e : Expr} {f : Str} {pos : Pos} {ta : TE} (he : PE X e ta) (hb : attributeBase e f X.env (eval e X.env) = eval e X.env) (hK : X.K = K := by rfl) : PE X (.Attribute e f pos) (tFld K ta f) := hK ▸ pe_fld he hb
/-! ### the signs -/
abbrev Sg : Type := Str → NestedKey → Bool
structure SgAt (P : Program) (w : World) (K : PySem.W.Frag) (o : Own) (H : Hp) (a : Addr) (sg : Sg) (m : Nat) : Prop where
  is : ∃ (dx bD : Addr) (kvs : List (Key × V)), o a = some (1, 0) ∧ o bD = some (1, 0) ∧ H a = some (.ins (He.ga K "Signs") dx [("by_hand", .ref bD)]) ∧ H bD = some (.dK kvs) ∧ kvs.length ≤ m ∧
    (∀ h v, valV kvs (Sum.inr h) = some v → ∃ d xs, v = .ref d ∧ o d = some (1, 0) ∧ d ≠ bD ∧ d ≠ a ∧ IsDN P w H d xs ∧ KeysAt K H xs ∧ xs.length ≤ m ∧ ∀ k, sg h k = decide (k ∈ xs.map (·.1))) ∧
    (∀ h, valV kvs (Sum.inr h) = none → ∀ k, sg h k = false) ∧
    (∀ h1 h2 d, valV kvs (Sum.inr h1) = some (.ref d) → valV kvs (Sum.inr h2) = some (.ref d) → h1 = h2)
theorem IsDN.at {P : Program} {w : World} {H H' : Hp} {d : Addr} {xs : List (NestedKey × Addr)} (h : IsDN P w H d xs) (e : ∀ x, H d = some x → H' d = some x) : IsDN P w H' d xs := by
  rcases h with h | ⟨h1, h⟩
  · exact .inl (e _ h)
  · exact .inr ⟨h1, e _ h⟩
theorem SgAt.fx {P : Program} {w : World} {K : PySem.W.Frag} {o o' : Own} {H H' : Hp} {a : Addr} {sg : Sg} {m : Nat} (s : SgAt P w K o H a sg m) (f : Fx K 1 o H o' H') : SgAt P w K o' H' a sg m := by
  obtain ⟨dx, bD, kvs, a1, a2, h1, h2, hl, hs, hn, hi⟩ := s.is
  have x1 := f.1 _ _ _ a1 h1
  have x2 := f.1 _ _ _ a2 h2
  refine ⟨dx, bD, kvs, x1.1, x2.1, x1.2, x2.2, hl, fun h v hv => ?_, hn, hi⟩
  obtain ⟨d, xs, rfl, od, n1, n2, is, ks, l, q⟩ := hs h v hv
  have od' : o' d = some (1, 0) := by
    rcases is with is | ⟨_, is⟩
    · exact (f.1 _ _ _ od is).1
    · exact (f.1 _ _ _ od is).1
  exact ⟨d, xs, rfl, od', n1, n2, is.at fun x hx => (f.1 _ _ _ od hx).2, keysAt_mono f.2 ks, l, q⟩
theorem SgAt.mono {P : Program} {w : World} {K : PySem.W.Frag} {o : Own} {H : Hp} {a : Addr} {sg : Sg} {m n : Nat} (s : SgAt P w K o H a sg m) (h : m ≤ n) : SgAt P w K o H a sg n := by
  obtain ⟨dx, bD, kvs, a1, a2, h1, h2, hl, hs, hn, hi⟩ := s.is
  refine ⟨dx, bD, kvs, a1, a2, h1, h2, Nat.le_trans hl h, fun x v hv => ?_, hn, hi⟩
  obtain ⟨d, xs, e, od, n1, n2, is, ks, l, q⟩ := hs x v hv
  exact ⟨d, xs, e, od, n1, n2, is, ks, Nat.le_trans l h, q⟩
def sgAdd (sg : Sg) (h : Str) (k : NestedKey) : Sg := fun h' k' => sg h' k' || (decide (h' = h) && decide (k' = k))
theorem lk_depth (k : LK) : k.nk.depth = 1 := by simp [LK.nk, NestedKey.depth, NestedKey.depthAll]
theorem lks_depth : ∀ ks : List LK, NestedKey.depthAll (ks.map LK.nk) ≤ 1
  | [] => by simp [NestedKey.depthAll]
  | k :: r => by
    have := lks_depth r
    have e := lk_depth k
    rw [List.map_cons, NestedKey.depthAll, e]
    omega
theorem paper_depth (p : Paper) : p.nk.depth ≤ 8 := by
  cases p with
  | op => simp [Paper.nk, NestedKey.depth, NestedKey.depthAll]
  | st s =>
    have := lks_depth s.lks
    simp only [Paper.nk, ST.nk, NestedKey.depth, NestedKey.depthAll]
    omega
theorem stN_mem (xs : List (NestedKey × Addr)) (k j : NestedKey) (a : Addr) : decide (j ∈ (stN xs k a).map (·.1)) = (decide (j ∈ xs.map (·.1)) || decide (j = k)) := by
  unfold stN
  split
  · rename_i h
    by_cases e : j = k
    · subst e
      simp [h]
    · simp [e]
  · rw [List.map_append, List.map_cons, List.map_nil]
    simp only [List.mem_append, List.mem_singleton, Bool.decide_or]
theorem stN_len (xs : List (NestedKey × Addr)) (k : NestedKey) (a : Addr) : (stN xs k a).length ≤ xs.length + 1 := by
  unfold stN
  split
  · omega
  · rw [List.length_append, List.length_singleton]
    omega
theorem stN_keys {K : PySem.W.Frag} {H : Hp} {xs : List (NestedKey × Addr)} {k : NestedKey} {a : Addr} (ks : KeysAt K H xs) (h : NKAt K H (.ref a) k) (d : k.depth ≤ 8) : KeysAt K H (stN xs k a) := by
  unfold stN
  split
  · exact ks
  · intro p hp
    rcases List.mem_append.mp hp with hp | hp
    · exact ks p hp
    · rw [List.mem_singleton.mp hp]
      exact ⟨h, d⟩
theorem Ks.updN {P : Program} {w : World} {K : PySem.W.Frag} {H : Hp} {d : Addr} {xs : List (NestedKey × Addr)} {u : HO} (h : IsDN P w H d xs) : Ks K H (L2.upd H d u) := by
  rcases h with h | ⟨_, h⟩
  · exact Ks.upd h (fun _ e => nomatch e) (fun _ _ e => nomatch e)
  · exact Ks.updD h
def spSign (P : Program) (w : World) (K : PySem.W.Frag) : Sp := fun vs H Q _ => ∃ (o : Own) (a : Addr) (sg : Sg) (m : Nat) (h : Str) (v : V) (p : Paper), vs = [.ref a, .str h, v] ∧ Dom o H ∧ SgAt P w K o H a sg m ∧ m ≤ 1000000 ∧ NameOk h ∧ IsPaper K H v p ∧ p.ok ∧
  ∀ o' H', Ef K 1 o H o' H' → Dom o' H' → SgAt P w K o' H' a (sgAdd sg h p.nk) (m + 1) → Q .non H'
def spSigned (P : Program) (w : World) (K : PySem.W.Frag) : Sp := fun vs H Q _ => ∃ (o : Own) (a : Addr) (sg : Sg) (m : Nat) (h : Str) (v : V) (p : Paper), vs = [.ref a, .str h, v] ∧ SgAt P w K o H a sg m ∧ NameOk h ∧ IsPaper K H v p ∧ p.ok ∧
  ∀ H', Same H H' → Q (.bl (sg h p.nk)) H'
def spSignsInit (K : PySem.W.Frag) : Sp := fun vs H Q _ => ∃ a dx, vs = [.ref a] ∧ H a = some (.ins (He.ga K "Signs") dx []) ∧
  ∀ b, H b = none → Q .non (upd (upd H b (.dK [])) a (.ins (He.ga K "Signs") dx [("by_hand", .ref b)]))
section
variable {P : Program} {w : World} {K : PySem.W.Frag} {mg : Str → Option Value} {base : Heap}
abbrev n_Signs_init : List Str := ["self"]
theorem sc_Signs_init : FnScope n_Signs_init ["self"] (defScope s_Signs_init) := ⟨rfl, rfl, rfl, by decide +kernel, rfl, by decide +kernel, by decide +kernel⟩
theorem ok_Signs_init (T : Tx K mg) : DefOk P w K mg base CX0 1 (He.fAd K d_Signs_init.at_) ["self"] (spSignsInit K) := by
  refine mk0 (d := d_Signs_init) T.f_Signs_init rfl (fun _ _ _ _ _ _ us hl => match us, hl with | [_], _ => rfl) sc_Signs_init (fun vs H Q E h => ?_) (fun cdv A outer s H vs Q E hr h => ?_)
  · obtain ⟨a, dx, rfl, _⟩ := h
    rfl
  · obtain ⟨a, dx, rfl, hi, h⟩ := h
    refine ⟨_, (pss_one (ps_fld (pv 0) pe_dnewK rfl)), ?_⟩
    refine fun b hb => ⟨_, rfl, a, _, dx, [], rfl, ?_, T.c_Signs, T.n_Signs_by_hand, by decide, h b hb⟩
    rw [upd_ne (ne_of_none hi hb)]
    exact hi
abbrev n_Signs_signed : List Str := ["self", "hand", "paper"]
theorem sc_Signs_signed : FnScope n_Signs_signed ["self", "hand", "paper"] (defScope s_Signs_signed) := ⟨rfl, rfl, rfl, by decide +kernel, rfl, by decide +kernel, by decide +kernel⟩
theorem ok_Signs_signed (T : Tx K mg) : DefOk P w K mg base CX0 6 (He.fAd K d_Signs_signed.at_) ["self", "hand", "paper"] (spSigned P w K) := by
  refine mk0 (d := d_Signs_signed) T.f_Signs_signed rfl (fun _ _ _ _ _ _ us hl => match us, hl with | [_, _, _], _ => rfl) sc_Signs_signed (fun vs H Q E h => ?_) (fun cdv A outer s H vs Q E hr h => ?_)
  · obtain ⟨o, a, sg, m, z, v, p, rfl, _⟩ := h
    rfl
  · obtain ⟨o, a, sg, m, z, v, p, rfl, hs, hz, hp, ok, h⟩ := h
    refine ⟨_, (pss_cons (ps_expr (cD (ok_look_paper T) T.g_look_paper hr (pa_cons (pv 1) (pa_cons (pv 2) pa_nil))))
      (pss_one (ps_ret (pe_cmpR (op_inN hr.units) (pv 2) (pe_dget2 (hu1 (hu_of hr)) (pe_fld (pv 0) rfl) (pv 1) pe_dnewK ⟨rfl, rfl, rfl, rfl⟩) (by rfl))))), ?_⟩
    refine ⟨_, rfl, _, rfl, z, v, p, rfl, hz, hp, ok, fun H1 s1 => ?_⟩
    obtain ⟨dx, bD, kvs, a1, a2, h1, h2, hl, hv, hn, hi⟩ := (hs.fx (Fx.same s1)).is
    have hp1 := IsPaper.mono (Ks.same s1) hp
    obtain ⟨q, rfl⟩ := hp1.ref
    refine ⟨_, rfl, _, rfl, a, _, dx, _, _, rfl, h1, T.c_Signs, T.n_Signs_by_hand, rfl, bD, rfl, .inl ⟨kvs, .inl h2⟩, _, rfl, fun e he => ⟨_, DGet.k (kvs := kvs) (k := Sum.inr z) (by rw [upd_ne (ne_of_none h2 he)]; exact h2), ?_⟩⟩
    · have s2 : Same H1 (upd H1 e (.dK [])) := same_upd he
      cases q0 : valV kvs (Sum.inr z) with
      | none =>
        refine ⟨q, e, [], p.nk, rfl, rfl, .inr ⟨rfl, upd_same⟩, fun _ hm => (List.not_mem_nil hm).elim, IsPaper.nk (IsPaper.mono (Ks.same s2) hp1), paper_depth p, qbl ?_ (h _ (s1.trans s2))⟩
        rw [hn z q0]
        rfl
      | some v0 =>
        obtain ⟨d, xs, rfl, od, n1, n2, is, ks, l, qq⟩ := hv z v0 q0
        refine ⟨q, d, xs, p.nk, rfl, rfl, is.at (fun x hx => s2 _ _ hx), keysAt_mono (Ks.same s2) ks, IsPaper.nk (IsPaper.mono (Ks.same s2) hp1), paper_depth p, qbl ?_ (h _ (s1.trans s2))⟩
        rw [qq]
abbrev n_Signs_sign : List Str := ["self", "hand", "paper", "own"]
theorem sc_Signs_sign : FnScope n_Signs_sign ["self", "hand", "paper"] (defScope s_Signs_sign) := ⟨rfl, rfl, rfl, by decide +kernel, rfl, by decide +kernel, by decide +kernel⟩
theorem ok_Signs_sign (T : Tx K mg) : DefOk P w K mg base CX0 6 (He.fAd K d_Signs_sign.at_) ["self", "hand", "paper"] (spSign P w K) := by
  refine mk0 (d := d_Signs_sign) T.f_Signs_sign rfl (fun _ _ _ _ _ _ us hl => match us, hl with | [_, _, _], _ => rfl) sc_Signs_sign (fun vs H Q E h => ?_) (fun cdv A outer s H vs Q E hr h => ?_)
  · obtain ⟨o, a, sg, m, z, v, p, rfl, _⟩ := h
    rfl
  · obtain ⟨o, a, sg, m, z, v, p, rfl, dm, hs, hm, hz, hp, ok, h⟩ := h
    refine ⟨_, (pss_cons (ps_expr (cD (ok_look_paper T) T.g_look_paper hr (pa_cons (pv 1) (pa_cons (pv 2) pa_nil))))
      (pss_cons (ps_set (i := 3) sc_Signs_sign.nd rfl (.inl rfl) (pe_dsetd (pe_fld (pv 0) rfl) (pv 1) pe_dnewK ⟨rfl, rfl, rfl, rfl⟩))
      (pss_one (ps_asg pe_bl (pg_sub (pv 3) (pv 2) (set_dN hr.units)))))), ?_⟩
    refine ⟨_, rfl, _, rfl, z, v, p, rfl, hz, hp, ok, fun H1 s1 => ?_⟩
    obtain ⟨dx, bD, kvs, a1, a2, h1, h2, hl, hv, hn, hi⟩ := (hs.fx (Fx.same s1)).is
    have hp1 := IsPaper.mono (Ks.same s1) hp
    have dm1 := dm.same s1
    obtain ⟨q, rfl⟩ := hp1.ref
    refine ⟨_, rfl, a, _, dx, _, _, rfl, h1, T.c_Signs, T.n_Signs_by_hand, rfl, bD, rfl, .inl ⟨kvs, .inl h2⟩, _, rfl, fun e he => ?_⟩
    have s2 : Same H1 (upd H1 e (.dK [])) := same_upd he
    have hp2 := IsPaper.mono (Ks.same s2) hp1
    have h2' : upd H1 e (.dK []) bD = some (.dK kvs) := s2 _ _ h2
    have h1' := s2 _ _ h1
    have neb : bD ≠ e := ne_of_none h2 he
    have nea : a ≠ e := ne_of_none h1 he
    have nab : a ≠ bD := ne_of h1 h2 (by intro z; cases z)
    refine ⟨kvs, Sum.inr z, h2', rfl, slt (by omega), fun v0 q0 => ?_, fun q0 => ?_⟩
    · obtain ⟨d, xs, rfl, od, n1, n2, is, ks, l, qq⟩ := hv z v0 q0
      have is2 : IsDN P w (upd H1 e (.dK [])) d xs := is.at (fun x hx => s2 _ _ hx)
      have k2 : Ks K (upd H1 e (.dK [])) (upd (upd H1 e (.dK [])) d (DN P w d (stN xs p.nk q))) := Ks.updN is2
      refine ⟨_, rfl, _, rfl, q, d, xs, p.nk, rfl, rfl, rfl, is2, keysAt_mono (Ks.same s2) ks, IsPaper.nk hp2, paper_depth p, sle (by omega), ?_⟩
      have ef2 : Ef K 1 o H1 o (upd (upd H1 e (.dK [])) d (DN P w d (stN xs p.nk q))) := (Ef.same s2).trans (Ef.at od k2)
      refine h o _ ((Ef.same s1).trans ef2) (dm1.ef ef2) ⟨dx, bD, kvs, a1, a2, ?_, ?_, by omega, fun h' v' hv' => ?_, fun h' hn' k => ?_, hi⟩
      · rw [upd_ne (fun z => n2 z.symm)]
        exact h1'
      · rw [upd_ne (fun z => n1 z.symm)]
        exact h2'
      · obtain ⟨d', xs', rfl, od', n1', n2', is', ks', l', qq'⟩ := hv h' v' hv'
        by_cases ez : h' = z
        · subst ez
          obtain rfl : d' = d := V.ref.inj (Option.some.inj (hv'.symm.trans q0))
          have hk : KeysAt K (upd (upd H1 e (.dK [])) d' (DN P w d' (stN xs p.nk q))) (stN xs p.nk q) := keysAt_mono k2 (stN_keys (keysAt_mono (Ks.same s2) ks) (IsPaper.nk hp2) (paper_depth p))
          refine ⟨d', stN xs p.nk q, rfl, od', n1', n2', .inl upd_same, hk, Nat.le_trans (stN_len _ _ _) (by omega), fun k => ?_⟩
          rw [stN_mem, sgAdd, qq]
          simp
        · have nd : d' ≠ d := fun e => ez (hi h' z d (e ▸ hv') q0)
          refine ⟨d', xs', rfl, od', n1', n2', (is'.at (fun x hx => s2 _ _ hx)).at (fun x hx => by rw [upd_ne nd]; exact hx), keysAt_mono k2 (keysAt_mono (Ks.same s2) ks'), by omega, fun k => ?_⟩
          rw [sgAdd, qq', decide_eq_false ez]
          simp
      · have ez : h' ≠ z := fun e => by
          rw [e, q0] at hn'
          cases hn'
        rw [sgAdd, hn h' hn' k, decide_eq_false ez]
        rfl
    · have k2 : Ks K (upd H1 e (.dK [])) (upd (upd H1 e (.dK [])) bD (.dK (putK kvs (Sum.inr z) (.ref e)))) := Ks.updD h2'
      have hp3 := IsPaper.mono k2 hp2
      have he3 : upd (upd H1 e (.dK [])) bD (.dK (putK kvs (Sum.inr z) (.ref e))) e = some (.dK []) := by
        rw [upd_ne neb.symm, upd_same]
      have is3 : IsDN P w (upd (upd H1 e (.dK [])) bD (.dK (putK kvs (Sum.inr z) (.ref e)))) e [] := .inr ⟨rfl, he3⟩
      have k3 : Ks K (upd (upd H1 e (.dK [])) bD (.dK (putK kvs (Sum.inr z) (.ref e)))) (upd (upd (upd H1 e (.dK [])) bD (.dK (putK kvs (Sum.inr z) (.ref e)))) e (DN P w e (stN [] p.nk q))) := Ks.updN is3
      refine ⟨_, rfl, _, rfl, q, e, [], p.nk, rfl, rfl, rfl, is3, fun _ hm => (List.not_mem_nil hm).elim, IsPaper.nk hp3, paper_depth p, sl, ?_⟩
      have ef2 : Ef K 1 o H1 o (upd (upd H1 e (.dK [])) bD (.dK (putK kvs (Sum.inr z) (.ref e)))) := (Ef.same s2).trans (Ef.at a2 k2)
      have ef3 : Ef K 1 o H1 (take1 o e (1, 0)) (upd (upd (upd H1 e (.dK [])) bD (.dK (putK kvs (Sum.inr z) (.ref e)))) e (DN P w e (stN [] p.nk q))) := (ef2.tmp he k3).take dm1 he
      have dm3 : Dom (take1 o e (1, 0)) (upd (upd (upd H1 e (.dK [])) bD (.dK (putK kvs (Sum.inr z) (.ref e)))) e (DN P w e (stN [] p.nk q))) := Dom.take ((dm1.ef ef2).upd) upd_same
      refine h _ _ ((Ef.same s1).trans ef3) dm3 ⟨dx, bD, putK kvs (Sum.inr z) (.ref e), ?_, ?_, ?_, ?_, Nat.le_trans (length_putK _ _ _) (by omega), fun h' v' hv' => ?_, fun h' hn' k => ?_, fun x1 x2 d e1 e2 => ?_⟩
      · rw [take1_ne nea]
        exact a1
      · rw [take1_ne neb]
        exact a2
      · rw [upd_ne nea, upd_ne nab]
        exact h1'
      · rw [upd_ne neb, upd_same]
      · rw [valV_put] at hv'
        by_cases ez : h' = z
        · subst ez
          rw [if_pos rfl] at hv'
          obtain rfl := Option.some.inj hv'
          have hk : KeysAt K (upd (upd (upd H1 e (.dK [])) bD (.dK (putK kvs (Sum.inr h') (.ref e)))) e (DN P w e (stN [] p.nk q))) (stN [] p.nk q) := keysAt_mono k3 (stN_keys (fun _ hm => (List.not_mem_nil hm).elim) (IsPaper.nk hp3) (paper_depth p))
          refine ⟨e, stN [] p.nk q, rfl, take1_same, neb.symm, nea.symm, .inl upd_same, hk, Nat.le_trans (stN_len _ _ _) (by simp), fun k => ?_⟩
          rw [stN_mem, sgAdd, hn h' q0]
          simp
        · rw [if_neg (fun e => ez (Sum.inr.inj e))] at hv'
          obtain ⟨d', xs', rfl, od', n1', n2', is', ks', l', qq'⟩ := hv h' v' hv'
          have nd : d' ≠ e := by
            rcases is' with i | ⟨_, i⟩
            · exact ne_of_none i he
            · exact ne_of_none i he
          refine ⟨d', xs', rfl, ?_, n1', n2', is'.at (fun x hx => ?_), keysAt_mono k3 (keysAt_mono k2 (keysAt_mono (Ks.same s2) ks')), by omega, fun k => ?_⟩
          · rw [take1_ne nd]
            exact od'
          · rw [upd_ne nd, upd_ne n1']
            exact s2 _ _ hx
          · rw [sgAdd, qq', decide_eq_false ez]
            simp
      · rw [valV_put] at hn'
        by_cases ez : h' = z
        · subst ez
          rw [if_pos rfl] at hn'
          cases hn'
        · rw [if_neg (fun e => ez (Sum.inr.inj e))] at hn'
          rw [sgAdd, hn h' hn' k, decide_eq_false ez]
          rfl
      · rw [valV_put] at e1 e2
        have old : ∀ x, valV kvs (Sum.inr x) = some (.ref e) → False := fun x hx => by
          obtain ⟨d', xs', ed, _, _, _, is', _⟩ := hv x _ hx
          obtain rfl := V.ref.inj ed
          rcases is' with i | ⟨_, i⟩
          · rw [he] at i; cases i
          · rw [he] at i; cases i
        by_cases c1 : x1 = z
        · by_cases c2 : x2 = z
          · rw [c1, c2]
          · rw [c1, if_pos rfl] at e1
            rw [if_neg (fun e => c2 (Sum.inr.inj e))] at e2
            rw [← Option.some.inj e1] at e2
            exact (old _ e2).elim
        · by_cases c2 : x2 = z
          · rw [c2, if_pos rfl] at e2
            rw [if_neg (fun e => c1 (Sum.inr.inj e))] at e1
            rw [← Option.some.inj e2] at e1
            exact (old _ e1).elim
          · rw [if_neg (fun e => c1 (Sum.inr.inj e))] at e1
            rw [if_neg (fun e => c2 (Sum.inr.inj e))] at e2
            exact hi x1 x2 d e1 e2
end
end Cn
namespace Cn
open PySem PySem.Spec PyProof.Rows L2
/-! ### the court in plain words -/
structure Ln where
  l : Str
  r : Str
  first : ST
  standing : ST
  mood : Str
  ending : Option Int
abbrev Pay : Type := Str × Int
structure Ct where
  long : Int
  clock : Int
  bags : List Pay
  lanes : List Ln
  seen : List (Int × Int × Int)
  kept : List HL
  deeds : List (Deed × List Pay)
def look : List Pay → Str → Option Int
  | [], _ => none
  | p :: r, h => if p.1 = h then some p.2 else look r h
def setBag : List Pay → Str → Int → List Pay
  | [], _, _ => []
  | p :: r, h, i => (if p.1 = h then (p.1, i) else p) :: setBag r h i
def bagKV (b : List Pay) : List (Key × V) := b.map fun p => (Sum.inr p.1, V.int p.2)
theorem val_bag (h : Str) : ∀ b : List Pay, valV (bagKV b) (Sum.inr h) = (look b h).map V.int
  | [] => rfl
  | p :: r => by
    unfold bagKV
    rw [List.map_cons]
    by_cases e : p.1 = h
    · rw [valV_pos (show (Sum.inr p.1 : Key) = Sum.inr h by rw [e])]
      unfold look
      rw [if_pos e]
      rfl
    · rw [valV_neg (show ¬ (Sum.inr p.1 : Key) = Sum.inr h from fun z => e (Sum.inr.inj z))]
      unfold look
      rw [if_neg e]
      exact val_bag h r
theorem bag_map (h : Str) (i : Int) : ∀ b : List Pay, (bagKV b).map (fun kv => if kv.1 = Sum.inr h then (kv.1, V.int i) else kv) = bagKV (setBag b h i)
  | [] => rfl
  | p :: r => by
    have ih := bag_map h i r
    unfold bagKV at *
    unfold setBag
    rw [List.map_cons, List.map_cons, List.map_cons, ih]
    by_cases e : p.1 = h
    · rw [if_pos e, if_pos (show (Sum.inr p.1 : Key) = Sum.inr h by rw [e])]
    · rw [if_neg e, if_neg (show ¬ (Sum.inr p.1 : Key) = Sum.inr h from fun z => e (Sum.inr.inj z))]
theorem put_bag {b : List Pay} {h : Str} {v i : Int} (e : look b h = some v) : putK (bagKV b) (Sum.inr h) (.int i) = bagKV (setBag b h i) := by
  unfold putK
  have a := valV_any (Sum.inr h : Key) (bagKV b)
  rw [val_bag, e] at a
  rw [if_pos (show (bagKV b).any (fun kv => decide (kv.1 = Sum.inr h)) = true from a)]
  exact bag_map h i b
theorem look_set (g h : Str) (i : Int) : ∀ b : List Pay, look (setBag b h i) g = if g = h then (look b g).map (fun _ => i) else look b g
  | [] => by
    unfold setBag look
    split <;> rfl
  | p :: r => by
    have ih := look_set g h i r
    unfold setBag look
    by_cases e : p.1 = h
    · rw [if_pos e]
      by_cases e2 : p.1 = g
      · rw [if_pos e2, if_pos e2, if_pos (e2.symm.trans e)]
        rfl
      · rw [if_neg e2, if_neg e2, ih]
    · rw [if_neg e]
      by_cases e2 : p.1 = g
      · rw [if_pos e2, if_pos e2, if_neg (fun z => e (e2.trans z))]
      · rw [if_neg e2, if_neg e2, ih]
theorem setBag_keys (h : Str) (i : Int) : ∀ b : List Pay, (setBag b h i).map (·.1) = b.map (·.1)
  | [] => rfl
  | p :: r => by
    unfold setBag
    rw [List.map_cons, List.map_cons, setBag_keys h i r]
    split <;> rfl
theorem look_mem {b : List Pay} {h : Str} {v : Int} (e : look b h = some v) : h ∈ b.map (·.1) := by
  induction b with
  | nil => cases e
  | cons p r ih =>
    unfold look at e
    by_cases c : p.1 = h
    · rw [List.map_cons, c]
      exact List.mem_cons_self
    · rw [if_neg c] at e
      exact List.mem_cons_of_mem _ (ih e)
theorem look_of_mem {b : List Pay} {h : Str} (e : h ∈ b.map (·.1)) : ∃ v, look b h = some v := by
  induction b with
  | nil => cases e
  | cons p r ih =>
    unfold look
    by_cases c : p.1 = h
    · exact ⟨_, if_pos c⟩
    · rw [if_neg c]
      refine ih ?_
      rw [List.map_cons] at e
      rcases List.mem_cons.mp e with z | z
      · exact absurd z.symm c
      · exact z
/-- when a seal was first shown, and by what -/
def seenAt : List (Int × Int × Int) → Int → Option (Int × Int)
  | [], _ => none
  | p :: r, s => if p.1 = s then some p.2 else seenAt r s
def seenAdd (l : List (Int × Int × Int)) (s : Int) (x : Int × Int) : List (Int × Int × Int) := match seenAt l s with
  | some _ => l
  | none => l ++ [(s, x)]
def addBag (b : List Pay) (p : Pay) : List Pay := match look b p.1 with
  | some v => setBag b p.1 (v + p.2)
  | none => b
/-- a lane that ends now -/
def endsNow (clock : Int) (g : Ln) : Bool := decide (g.mood = "closing") && decide (g.ending = some clock)
structure Sw where
  lanes : List Ln
  paid : List Pay
  kept : List HL
def sweep (clock : Int) (s : Sw) (i : Nat) : Sw := match s.lanes[i]? with
  | none => s
  | some g => if endsNow clock g = true then
      ⟨s.lanes.set i { g with mood := "settled" }, s.paid ++ [(g.l, g.standing.l), (g.r, g.standing.r)], (s.kept ++ g.standing.lks.map fun k => ((i : Int), k)).mergeSort hle⟩
    else s
def sweeps (clock : Int) (s : Sw) (n : Nat) : Sw := (List.range n).foldl (sweep clock) s
theorem sweeps_succ (clock : Int) (s : Sw) (n : Nat) : sweeps clock s (n + 1) = sweep clock (sweeps clock s n) n := by
  unfold sweeps
  rw [List.range_succ, List.foldl_append]
  rfl
def Ln.gets (g : Ln) (k : LK) (shown : Option Int) (clock : Int) : Option Str :=
  if (match shown with | some t => decide (t ≤ k.la) | none => false) = true then some (if k.gv = "left" then g.r else g.l)
  else if clock > k.la then some (if k.gv = "left" then g.l else g.r) else none
structure Dc where
  paid : List Pay
  left : List HL
def getsOf (c : Ct) (lanes : List Ln) (clock : Int) (b : HL) : Option Str := match lanes[b.1.toNat]? with
  | none => none
  | some g => g.gets b.2 ((seenAt c.seen b.2.se).map (·.1)) clock
def decide1 (c : Ct) (lanes : List Ln) (clock : Int) (s : Dc) (b : HL) : Dc := match getsOf c lanes clock b with
  | none => ⟨s.paid, s.left ++ [b]⟩
  | some h => ⟨s.paid ++ [(h, b.2.am)], s.left⟩
def Ct.sw (c : Ct) : Sw := sweeps (c.clock + 1) ⟨c.lanes, [], c.kept⟩ c.lanes.length
def Ct.dc (c : Ct) : Dc := (c.sw.kept).foldl (decide1 c c.sw.lanes (c.clock + 1)) ⟨[], []⟩
def Ct.paidNow (c : Ct) : List Pay := (c.sw.paid ++ c.dc.paid).filter fun p => decide (p.2 > 0)
def Ct.turned (c : Ct) : Ct := { c with clock := c.clock + 1, lanes := c.sw.lanes, kept := c.dc.left, bags := c.paidNow.foldl addBag c.bags, deeds := c.deeds ++ [(.turn, c.paidNow)] }
def Ct.shwn (c : Ct) (x : Int) : Ct := { c with seen := seenAdd c.seen (3 * x + 17) (c.clock, x), deeds := c.deeds ++ [(.shw x, [])] }
inductive Bad
  | hand
  | coins
  | unsigned
  | lane
  | settled
  | old
def Ct.opened (c : Ct) (l r : Str) (a b vl : Int) : Ct :=
  let b1 := setBag c.bags l (vl - a)
  { c with bags := setBag b1 r (((look b1 r).getD 0) - b), lanes := c.lanes ++ [⟨l, r, ST.first c.lanes.length a b, ST.first c.lanes.length a b, "open", none⟩], deeds := c.deeds ++ [(.op l r a b, [])] }
def Ct.open1 (sg : Sg) (c : Ct) (l r : Str) (a b : Int) : Except Bad Ct := match look c.bags l, look c.bags r with
  | some vl, some vr =>
    if l = r then .error .hand
    else if a > vl then .error .coins
    else if b > vr then .error .coins
    else if a + b = 0 then .error .coins
    else if (sg l (Paper.op c.lanes.length l r a b).nk && sg r (Paper.op c.lanes.length l r a b).nk) = true then .ok (c.opened l r a b vl)
    else .error .unsigned
  | _, _ => .error .hand
def Ct.told (c : Ct) (s : ST) (g : Ln) : Ct :=
  { c with lanes := c.lanes.set s.ln.toNat { g with mood := if g.mood = "open" then "closing" else g.mood, ending := if g.mood = "open" then some (c.clock + c.long) else g.ending, standing := s }, deeds := c.deeds ++ [(.tell s, [])] }
def Ct.tell1 (sg : Sg) (c : Ct) (s : ST) : Except Bad Ct := match c.lanes[s.ln.toNat]? with
  | none => .error .lane
  | some g =>
    if g.mood = "settled" then .error .settled
    else if (!PyData.eqv s.data g.first.data && (decide (s.worth ≠ g.first.worth) || !(sg g.l s.nk && sg g.r s.nk))) = true then .error .unsigned
    else if g.mood = "closing" ∧ s.nu ≤ g.standing.nu then .error .old
    else .ok (c.told s g)
def Ct.step (sg : Sg) (c : Ct) : Deed → Except Bad Ct
  | .op l r a b => c.open1 sg l r a b
  | .tell s => c.tell1 sg s
  | .shw x => .ok (c.shwn x)
  | .turn => .ok c.turned
def SgLe (s t : Sg) : Prop := ∀ h k, s h k = true → t h k = true
theorem step_mono {s t : Sg} (h : SgLe s t) {c c' : Ct} {d : Deed} (e : c.step s d = .ok c') : c.step t d = .ok c' := by
  cases d with
  | op l r a b =>
    simp only [Ct.step, Ct.open1] at e ⊢
    split at e
    · split at e
      · cases e
      · rename_i q1
        rw [if_neg q1]
        split at e
        · cases e
        · rename_i q2
          rw [if_neg q2]
          split at e
          · cases e
          · rename_i q3
            rw [if_neg q3]
            split at e
            · cases e
            · rename_i q4
              rw [if_neg q4]
              split at e
              · rename_i q5
                rw [Bool.and_eq_true] at q5
                rw [if_pos (by rw [Bool.and_eq_true]; exact ⟨h _ _ q5.1, h _ _ q5.2⟩)]
                exact e
              · cases e
    · cases e
  | tell x =>
    simp only [Ct.step, Ct.tell1] at e ⊢
    split at e
    · cases e
    · split at e
      · cases e
      · rename_i q1
        rw [if_neg q1]
        split at e
        · cases e
        · rename_i q2
          rw [if_neg]
          · exact e
          · intro z
            refine q2 ?_
            simp only [Bool.and_eq_true, Bool.or_eq_true, Bool.not_eq_true', decide_eq_true_eq] at z ⊢
            refine ⟨z.1, z.2.imp id fun y => ?_⟩
            cases y1 : (s _ x.nk && s _ x.nk) with
            | false => rfl
            | true =>
              rw [Bool.and_eq_true] at y1
              rw [h _ _ y1.1, h _ _ y1.2] at y
              cases y
  | shw x => exact e
  | turn => exact e
/-- deeds done one behind the other -/
def runs (sg : Sg) : Ct → List Deed → Except Bad Ct
  | c, [] => .ok c
  | c, d :: r => match c.step sg d with
    | .ok c' => runs sg c' r
    | .error e => .error e
theorem runs_mono {s t : Sg} (h : SgLe s t) : ∀ {ds : List Deed} {c c' : Ct}, runs s c ds = .ok c' → runs t c ds = .ok c'
  | [], _, _, e => e
  | d :: r, c, c', e => by
    unfold runs at e ⊢
    cases q : c.step s d with
    | error x => rw [q] at e; cases e
    | ok x =>
      rw [q] at e
      rw [step_mono h q]
      exact runs_mono h e
theorem runs_app (sg : Sg) : ∀ (ds : List Deed) (c : Ct) (d : Deed), runs sg c (ds ++ [d]) = match runs sg c ds with
    | .ok c' => c'.step sg d
    | .error e => .error e
  | [], c, d => by
    show runs sg c [d] = c.step sg d
    unfold runs
    cases c.step sg d <;> rfl
  | x :: r, c, d => by
    show (match c.step sg x with | .ok c' => runs sg c' (r ++ [d]) | .error e => .error e) = (match (match c.step sg x with | .ok c' => runs sg c' r | .error e => .error e) with | .ok c' => c'.step sg d | .error e => .error e)
    cases c.step sg x with
    | error e => rfl
    | ok c' => exact runs_app sg r c' d
theorem runs_take {sg : Sg} {c c' : Ct} : ∀ {ds : List Deed}, runs sg c ds = .ok c' → ∀ i, ∃ ci, runs sg c (ds.take i) = .ok ci := by
  intro ds
  induction ds generalizing c with
  | nil => intro _ i; rw [List.take_nil]; exact ⟨c, rfl⟩
  | cons d r ih =>
    intro e i
    cases i with
    | zero => exact ⟨c, rfl⟩
    | succ i =>
      unfold runs at e
      rw [List.take_succ_cons]
      unfold runs
      cases q : c.step sg d with
      | error x => rw [q] at e; cases e
      | ok x =>
        rw [q] at e
        exact ih e i
/-- a deed that is done is written down -/
theorem step_deeds {sg : Sg} {c c' : Ct} {d : Deed} (e : c.step sg d = .ok c') : ∃ p, c'.deeds = c.deeds ++ [(d, p)] := by
  cases d with
  | op l r a b =>
    simp only [Ct.step, Ct.open1] at e
    repeat' (split at e)
    all_goals first | (cases e; done) | skip
    all_goals (cases e; exact ⟨_, rfl⟩)
  | tell x =>
    simp only [Ct.step, Ct.tell1] at e
    repeat' (split at e)
    all_goals first | (cases e; done) | skip
    all_goals (cases e; exact ⟨_, rfl⟩)
  | shw x =>
    cases e
    exact ⟨_, rfl⟩
  | turn =>
    cases e
    exact ⟨_, rfl⟩
/-- what always holds of a court: n deeds at most were done -/
structure Ct.ok (c : Ct) (n : Nat) : Prop where
  small : n ≤ 300
  names : ∀ h ∈ c.bags.map (·.1), NameOk h
  bags : c.bags.length ≤ 20
  lanesN : c.lanes.length ≤ n
  seenN : c.seen.length ≤ n
  keptN : c.kept.length ≤ 10000 * n
  deedsN : c.deeds.length ≤ n
  lane : ∀ g ∈ c.lanes, g.first.ok ∧ g.standing.ok ∧ g.l ∈ c.bags.map (·.1) ∧ g.r ∈ c.bags.map (·.1)
  kept : ∀ b ∈ c.kept, 0 ≤ b.1 ∧ b.1.toNat < c.lanes.length ∧ b.2.ok
  deeds : ∀ d ∈ c.deeds, d.1.ok ∧ d.2.length ≤ 4000000
end Cn
namespace Cn
open PySem PySem.Spec PyProof.Rows L2
/-! ### the court's objects -/
def IsPay (K : PySem.W.Frag) (H : Hp) (v : V) (p : Pay) : Prop := ∃ q, v = .ref q ∧ SqT K H q [.str p.1, .int p.2]
def PaidAt (K : PySem.W.Frag) (u : Nat × Nat) (o : Own) (H : Hp) (l : Addr) (ps : List Pay) : Prop := o l = some u ∧ ∃ xs, H l = some (.lst xs) ∧ Paired (IsPay K H) xs ps
/-- a row: a deed and what it paid; its list is owned -/
def IsRow (K : PySem.W.Frag) (u : Nat × Nat) (o : Own) (H : Hp) (v : V) (d : Deed × List Pay) : Prop := ∃ p g l, v = .ref p ∧ SqT K H p [g, .ref l] ∧ IsDeed K H g d.1 ∧ PaidAt K u o H l d.2
def endV : Option Int → V
  | none => .non
  | some i => .int i
def lnF (q : Addr) (f g : V) (m : Str) (e : Option Int) : List (Str × V) := [("both", .ref q), ("first", f), ("standing", g), ("mood", .str m), ("ending", endV e)]
def IsLn (K : PySem.W.Frag) (u : Nat × Nat) (o : Own) (H : Hp) (v : V) (n : Ln) : Prop := ∃ p dx q f g, v = .ref p ∧ o p = some u ∧ H p = some (.ins (He.ga K "Lane") dx (lnF q f g n.mood n.ending)) ∧ SqT K H q [.str n.l, .str n.r] ∧ IsST K H f n.first ∧ IsST K H g n.standing
def IsSeen (K : PySem.W.Frag) (H : Hp) (kv : Key × V) (e : Int × Int × Int) : Prop := kv.1 = Sum.inl e.1 ∧ ∃ p, kv.2 = .ref p ∧ SqT K H p [.int e.2.1, .int e.2.2]
def ctF (sgA bD lL sD kL dL : Addr) (long clock : Int) : List (Str × V) := [("book", .ref sgA), ("long", .int long), ("clock", .int clock), ("bags", .ref bD), ("opened", .ref lL), ("seen", .ref sD), ("kept", .ref kL), ("deeds", .ref dL)]
section
variable {K : PySem.W.Frag} {u : Nat × Nat} {o o' : Own} {H H' : Hp}
theorem IsPay.mono (m : Ks K H H') {v : V} {p : Pay} (h : IsPay K H v p) : IsPay K H' v p := by
  obtain ⟨q, e, s⟩ := h
  exact ⟨q, e, m _ _ s⟩
theorem PaidAt.fx (f : Pk u o H o' H') (m : Ks K H H') {l : Addr} {ps : List Pay} (h : PaidAt K u o H l ps) : PaidAt K u o' H' l ps := by
  obtain ⟨ol, xs, hl, p⟩ := h
  have z := f l _ ol hl
  exact ⟨z.1, xs, z.2, paired_imp (fun _ _ y => IsPay.mono m y) p⟩
theorem IsRow.fx (f : Pk u o H o' H') (m : Ks K H H') {v : V} {d : Deed × List Pay} (h : IsRow K u o H v d) : IsRow K u o' H' v d := by
  obtain ⟨p, g, l, e, s, i, q⟩ := h
  exact ⟨p, g, l, e, m _ _ s, IsDeed.mono m i, q.fx f m⟩
theorem IsLn.fx (f : Pk u o H o' H') (m : Ks K H H') {v : V} {n : Ln} (h : IsLn K u o H v n) : IsLn K u o' H' v n := by
  obtain ⟨p, dx, q, a, b, e, op, hp, s, i, j⟩ := h
  have z := f p _ op hp
  exact ⟨p, dx, q, a, b, e, z.1, z.2, m _ _ s, IsST.mono m i, IsST.mono m j⟩
theorem IsSeen.mono (m : Ks K H H') {kv : Key × V} {e : Int × Int × Int} (h : IsSeen K H kv e) : IsSeen K H' kv e := by
  obtain ⟨a, p, b, s⟩ := h
  exact ⟨a, p, b, m _ _ s⟩
end
/-- the court of component t at a -/
structure CtB (K : PySem.W.Frag) (t : Nat) (o : Own) (H : Hp) (a sgA : Addr) (c : Ct) (dx bD lL sD kL dL : Addr) : Prop where
  ob : o a = some (t, 0) ∧ H a = some (.ins (He.ga K "Court") dx (ctF sgA bD lL sD kL dL c.long c.clock))
  bags : o bD = some (t, 1) ∧ H bD = some (.dK (bagKV c.bags))
  lanes : o lL = some (t, 2) ∧ ∃ xs, H lL = some (.lst xs) ∧ xs.Nodup ∧ Paired (IsLn K (t, 3) o H) xs c.lanes
  seen : o sD = some (t, 4) ∧ ∃ kvs, H sD = some (.dK kvs) ∧ Paired (IsSeen K H) kvs c.seen
  kept : o kL = some (t, 5) ∧ ∃ xs, H kL = some (.lst xs) ∧ Paired (IsHL K H) xs c.kept
  deeds : o dL = some (t, 6) ∧ ∃ xs, H dL = some (.lst xs) ∧ Paired (IsRow K (t, 7) o H) xs c.deeds
def CtAt (K : PySem.W.Frag) (t : Nat) (o : Own) (H : Hp) (a sgA : Addr) (c : Ct) : Prop := ∃ dx bD lL sD kL dL, CtB K t o H a sgA c dx bD lL sD kL dL
section
variable {K : PySem.W.Frag} {t : Nat} {o o' : Own} {H H' : Hp} {a sgA dx bD lL sD kL dL : Addr} {c : Ct}
theorem bagsFx {b : List Pay} (h : o bD = some (t, 1) ∧ H bD = some (.dK (bagKV b))) (f : Pk (t, 1) o H o' H') : o' bD = some (t, 1) ∧ H' bD = some (.dK (bagKV b)) := f _ _ h.1 h.2
theorem lanesFx {l : List Ln} (h : o lL = some (t, 2) ∧ ∃ xs, H lL = some (.lst xs) ∧ xs.Nodup ∧ Paired (IsLn K (t, 3) o H) xs l) (f : Pk (t, 2) o H o' H') (f3 : Pk (t, 3) o H o' H') (m : Ks K H H') :
    o' lL = some (t, 2) ∧ ∃ xs, H' lL = some (.lst xs) ∧ xs.Nodup ∧ Paired (IsLn K (t, 3) o' H') xs l := by
  obtain ⟨h1, xs, h2, n, p⟩ := h
  have z := f _ _ h1 h2
  exact ⟨z.1, xs, z.2, n, paired_imp (fun _ _ y => IsLn.fx f3 m y) p⟩
theorem seenFx {l : List (Int × Int × Int)} (h : o sD = some (t, 4) ∧ ∃ kvs, H sD = some (.dK kvs) ∧ Paired (IsSeen K H) kvs l) (f : Pk (t, 4) o H o' H') (m : Ks K H H') :
    o' sD = some (t, 4) ∧ ∃ kvs, H' sD = some (.dK kvs) ∧ Paired (IsSeen K H') kvs l := by
  obtain ⟨h1, xs, h2, p⟩ := h
  have z := f _ _ h1 h2
  exact ⟨z.1, xs, z.2, paired_imp (fun _ _ y => IsSeen.mono m y) p⟩
theorem keptFx {l : List HL} (h : o kL = some (t, 5) ∧ ∃ xs, H kL = some (.lst xs) ∧ Paired (IsHL K H) xs l) (f : Pk (t, 5) o H o' H') (m : Ks K H H') :
    o' kL = some (t, 5) ∧ ∃ xs, H' kL = some (.lst xs) ∧ Paired (IsHL K H') xs l := by
  obtain ⟨h1, xs, h2, p⟩ := h
  have z := f _ _ h1 h2
  exact ⟨z.1, xs, z.2, paired_imp (fun _ _ y => isHL_mono m y) p⟩
theorem deedsFx {l : List (Deed × List Pay)} (h : o dL = some (t, 6) ∧ ∃ xs, H dL = some (.lst xs) ∧ Paired (IsRow K (t, 7) o H) xs l) (f : Pk (t, 6) o H o' H') (f7 : Pk (t, 7) o H o' H') (m : Ks K H H') :
    o' dL = some (t, 6) ∧ ∃ xs, H' dL = some (.lst xs) ∧ Paired (IsRow K (t, 7) o' H') xs l := by
  obtain ⟨h1, xs, h2, p⟩ := h
  have z := f _ _ h1 h2
  exact ⟨z.1, xs, z.2, paired_imp (fun _ _ y => IsRow.fx f7 m y) p⟩
theorem CtB.fx (b : CtB K t o H a sgA c dx bD lL sD kL dL) (f : Fx K t o H o' H') : CtB K t o' H' a sgA c dx bD lL sD kL dL :=
  ⟨f.pk _ _ b.ob.1 b.ob.2, bagsFx b.bags f.pk, lanesFx b.lanes f.pk f.pk f.2, seenFx b.seen f.pk f.2, keptFx b.kept f.pk f.2, deedsFx b.deeds f.pk f.pk f.2⟩
theorem CtAt.fx (h : CtAt K t o H a sgA c) (f : Fx K t o H o' H') : CtAt K t o' H' a sgA c := by
  obtain ⟨dx, bD, lL, sD, kL, dL, b⟩ := h
  exact ⟨dx, bD, lL, sD, kL, dL, b.fx f⟩
theorem CtB.same (b : CtB K t o H a sgA c dx bD lL sD kL dL) (s : Same H H') : CtB K t o H' a sgA c dx bD lL sD kL dL := b.fx (Fx.same s)
end
theorem val_seen {K : PySem.W.Frag} {H : Hp} (s : Int) : ∀ {kvs : List (Key × V)} {l : List (Int × Int × Int)}, Paired (IsSeen K H) kvs l →
    (seenAt l s = none ∧ valV kvs (Sum.inl s) = none) ∨ ∃ x p, seenAt l s = some x ∧ valV kvs (Sum.inl s) = some (.ref p) ∧ SqT K H p [.int x.1, .int x.2]
  | _, _, .nil => .inl ⟨rfl, rfl⟩
  | _, _, .cons (a := kv) (b := e) h r => by
    obtain ⟨h1, p, h2, h3⟩ := h
    by_cases c : e.1 = s
    · refine .inr ⟨e.2, p, ?_, ?_, h3⟩
      · unfold seenAt
        rw [if_pos c]
      · rw [valV_pos (show kv.1 = Sum.inl s by rw [h1, c]), h2]
    · rcases val_seen s r with ⟨q1, q2⟩ | ⟨x, q, q1, q2, q3⟩
      · refine .inl ⟨?_, ?_⟩
        · unfold seenAt
          rw [if_neg c, q1]
        · rw [valV_neg (show ¬ kv.1 = Sum.inl s by rw [h1]; exact fun z => c (Sum.inl.inj z)), q2]
      · refine .inr ⟨x, q, ?_, ?_, q3⟩
        · unfold seenAt
          rw [if_neg c, q1]
        · rw [valV_neg (show ¬ kv.1 = Sum.inl s by rw [h1]; exact fun z => c (Sum.inl.inj z)), q2]
/-! ### what the court's methods say: those that only look -/
section
variable (K : PySem.W.Frag)
def spCt (R : Ct → Hp → V → Prop) (more : Ct → List V → Prop) : Sp := fun vs H Q _ => ∃ (t : Nat) (o : Own) (a sgA : Addr) (c : Ct) (n : Nat) (us : List V), vs = .ref a :: us ∧ CtAt K t o H a sgA c ∧ c.ok n ∧ more c us ∧ ∀ H' v, Same H H' → R c H' v → Q v H'
def spNow : Sp := spCt K (fun c _ v => v = .int c.clock) (fun _ us => us = [])
def spPatience : Sp := spCt K (fun c _ v => v = .int c.long) (fun _ us => us = [])
def spLanes : Sp := spCt K (fun c _ v => v = .int c.lanes.length) (fun _ us => us = [])
def shV (x : Option (Int × Int)) (i : Nat) : V := match x with
  | none => .non
  | some p => .int (if i = 0 then p.1 else p.2)
end
theorem slotLn {n : Nat} (h : n ≤ 1000) {m : Nat} (k : m ≤ 100 * n + 1000) : m ≤ sizeLine := sle (by omega)
section
variable {P : Program} {w : World} {K : PySem.W.Frag} {mg : Str → Option Value} {base : Heap}
abbrev n_Court_now : List Str := ["self"]
theorem sc_Court_now : FnScope n_Court_now ["self"] (defScope s_Court_now) := ⟨rfl, rfl, rfl, by decide +kernel, rfl, by decide +kernel, by decide +kernel⟩
theorem ok_Court_now (T : Tx K mg) : DefOk P w K mg base CX0 1 (He.fAd K d_Court_now.at_) ["self"] (spNow K) := by
  refine mk0 (d := d_Court_now) T.f_Court_now rfl (fun _ _ _ _ _ _ us hl => match us, hl with | [_], _ => rfl) sc_Court_now (fun vs H Q E h => ?_) (fun cdv A outer s H vs Q E hr h => ?_)
  · obtain ⟨t, o, a, sgA, c, n, us, rfl, _, _, rfl, _⟩ := h
    rfl
  · obtain ⟨t, o, a, sgA, c, n, us, rfl, ⟨dx, bD, lL, sD, kL, dL, B⟩, _, rfl, h⟩ := h
    refine ⟨_, (pss_one (ps_ret (pe_fld (pv 0) rfl))), ?_⟩
    exact ⟨_, rfl, a, _, dx, _, _, rfl, B.ob.2, T.c_Court, T.n_Court_clock, rfl, h _ _ (Same.refl _) rfl⟩
abbrev n_Court_patience : List Str := ["self"]
theorem sc_Court_patience : FnScope n_Court_patience ["self"] (defScope s_Court_patience) := ⟨rfl, rfl, rfl, by decide +kernel, rfl, by decide +kernel, by decide +kernel⟩
theorem ok_Court_patience (T : Tx K mg) : DefOk P w K mg base CX0 1 (He.fAd K d_Court_patience.at_) ["self"] (spPatience K) := by
  refine mk0 (d := d_Court_patience) T.f_Court_patience rfl (fun _ _ _ _ _ _ us hl => match us, hl with | [_], _ => rfl) sc_Court_patience (fun vs H Q E h => ?_) (fun cdv A outer s H vs Q E hr h => ?_)
  · obtain ⟨t, o, a, sgA, c, n, us, rfl, _, _, rfl, _⟩ := h
    rfl
  · obtain ⟨t, o, a, sgA, c, n, us, rfl, ⟨dx, bD, lL, sD, kL, dL, B⟩, _, rfl, h⟩ := h
    refine ⟨_, (pss_one (ps_ret (pe_fld (pv 0) rfl))), ?_⟩
    exact ⟨_, rfl, a, _, dx, _, _, rfl, B.ob.2, T.c_Court, T.n_Court_long, rfl, h _ _ (Same.refl _) rfl⟩
abbrev n_Court_lanes : List Str := ["self"]
theorem sc_Court_lanes : FnScope n_Court_lanes ["self"] (defScope s_Court_lanes) := ⟨rfl, rfl, rfl, by decide +kernel, rfl, by decide +kernel, by decide +kernel⟩
theorem ok_Court_lanes (T : Tx K mg) : DefOk P w K mg base CX0 1 (He.fAd K d_Court_lanes.at_) ["self"] (spLanes K) := by
  refine mk0 (d := d_Court_lanes) T.f_Court_lanes rfl (fun _ _ _ _ _ _ us hl => match us, hl with | [_], _ => rfl) sc_Court_lanes (fun vs H Q E h => ?_) (fun cdv A outer s H vs Q E hr h => ?_)
  · obtain ⟨t, o, a, sgA, c, n, us, rfl, _, _, rfl, _⟩ := h
    rfl
  · obtain ⟨t, o, a, sgA, c, n, us, rfl, ⟨dx, bD, lL, sD, kL, dL, B⟩, _, rfl, h⟩ := h
    refine ⟨_, (pss_one (ps_ret (pe_callB call_len_seq (by rfl) T.b_len PySem.boot_len (pa_cons (pe_fld (pv 0) rfl) pa_nil)))), ?_⟩
    obtain ⟨_, xs, hx, _, pr⟩ := B.lanes
    exact ⟨_, rfl, a, _, dx, _, _, rfl, B.ob.2, T.c_Court, T.n_Court_opened, rfl, lL, xs, rfl, .inl (SqL.of hx), h _ _ (Same.refl _) (by rw [paired_len pr])⟩
end
end Cn
namespace Cn
open PySem PySem.Spec PyProof.Rows L2
/-- a def of those that may raise, called where it won't -/
theorem passN {X : Cx} : Passes (L2.CX X.prog X.w) X E0 := fun _ _ _ _ _ _ _ h => by
  obtain ⟨_, _, _, _, _, _, _, _, _, _, _, _, z⟩ := h
  exact z.elim
section
variable {X : Cx} {k j : Nat} {f C : Addr} {ps : List Str} {sp : Sp} {x m : Str} {p pos apos : Pos} {e o : Expr} {es : List Expr} {ta : TE} {t : TA}
theorem mN {pl : Sem Bool} (D : DefOk X.prog X.w X.K X.mg X.base (L2.CX X.prog X.w) k f ps sp) (c : Cls X.K C) (hm : Meth X.K C m f) (hr : Room j X.A) (ho : PE X o ta) (ha : PA X (e :: es) t) (hk : k ≤ j := by decide)
    (hst : starEach (e :: es) X.env = (false, eval e X.env) :: starEach es X.env := by rfl) (hpl : (backTo pos (starEach es X.env)).any (·.1) = false := by rfl)
    (ht : eval (.Call (.Attribute o m apos) (e :: es) [] pos) X.env = (do
      let ov ← eval o X.env
      standAt apos.atName
      let (f, first) ← holding [ov] (getMethod ov m pl)
      callWith pos f first (backTo pos (starEach (e :: es) X.env)) (backToKw pos (keywordEach [] X.env))) := by rfl) :
    PE X (.Call (.Attribute o m apos) (e :: es) [] pos) (tMeth C m sp [] E0 ta t) := by
  obtain ⟨fd, F, b, kp⟩ := D
  exact pe_meth (pl := pl) ho c hm F (hr.mono hk) b .nil passN ha hst hpl ht
end
def rListOf (K : PySem.W.Frag) : List V → Hp → VK → Prop := fun xs H Q => ∃ p ys, xs = [.ref p] ∧ (SqL K H p ys ∨ SqT K H p ys) ∧ ∀ l, H l = none → Q (.ref l) (upd H l (.lst ys))
theorem call_list_ofK {X : Cx} {K : PySem.W.Frag} (h : X.K = K) : CallR X (.type "list") (rListOf K) := h ▸ call_list_of
def rLenSeq (K : PySem.W.Frag) : List V → Hp → VK → Prop := fun xs H Q => ∃ p ys, xs = [.ref p] ∧ (SqL K H p ys ∨ SqT K H p ys) ∧ Q (.int ys.length) H
theorem call_len_seqK {X : Cx} {K : PySem.W.Frag} (h : X.K = K) : CallR X (.builtin "len") (rLenSeq K) := h ▸ call_len_seq
/-! ### the one way to sort texts -/
theorem rising_all : ∀ (l : List Str) (p : Str), risingS p l = true → (∀ x ∈ l, ¬ x.cps.toList < p.cps.toList) ∧ l.Pairwise (fun a b => ¬ b.cps.toList < a.cps.toList)
  | [], _, _ => ⟨fun _ h => (List.not_mem_nil h).elim, .nil⟩
  | x :: r, p, h => by
    unfold risingS at h
    rw [Bool.and_eq_true, Bool.not_eq_true', ltCps_eq] at h
    obtain ⟨h1, h2⟩ := h
    obtain ⟨a, b⟩ := rising_all r x h2
    have n1 := of_decide_eq_false h1
    refine ⟨fun y hy => ?_, .cons (fun y hy => a y hy) b⟩
    rcases List.mem_cons.mp hy with rfl | hy
    · exact n1
    · exact fun z => a y hy (Std.lt_of_lt_of_le z (Std.not_lt.mp n1))
theorem sorted_pair : ∀ l : List Str, sortedS l = true → l.Pairwise (fun a b => ¬ b.cps.toList < a.cps.toList)
  | [], _ => .nil
  | x :: r, h => by
    obtain ⟨a, b⟩ := rising_all r x h
    exact .cons a b
theorem str_eq {a b : Str} (h : a.cps.toList = b.cps.toList) : a = b := by
  cases a
  cases b
  exact congrArg _ (Array.toList_inj.mp h)
theorem sorted_one {ys zs : List Str} (p : ys.Perm zs) (h : sortedS ys = true) (k : sortedS zs = true) : ys = zs :=
  List.Perm.eq_of_pairwise (fun a b _ _ h1 h2 => str_eq (Std.le_antisymm (Std.not_lt.mp h1) (Std.not_lt.mp h2))) (sorted_pair _ h) (sorted_pair _ k) p
noncomputable def sortHands (ks : List Str) : List Str := by
  classical
  exact if h : ∃ ys : List Str, ys.Perm ks ∧ sortedS ys = true then Classical.choose h else []
theorem sortHands_eq {ks ys : List Str} (p : ys.Perm ks) (h : sortedS ys = true) : sortHands ks = ys := by
  have e : ∃ ys : List Str, ys.Perm ks ∧ sortedS ys = true := ⟨ys, p, h⟩
  unfold sortHands
  rw [dif_pos e]
  have z := Classical.choose_spec e
  exact sorted_one (z.1.trans p.symm) z.2 h
/-! ### looking at a lane, at a purse; those may raise -/
def spRoad (K : PySem.W.Frag) : Sp := fun vs H Q E => ∃ (a dx sgA bD lL sD kL dL : Addr) (lo cl : Int) (xs : List V) (i : Int), vs = [.ref a, .int i] ∧ 0 ≤ i ∧ H a = some (.ins (He.ga K "Court") dx (ctF sgA bD lL sD kL dL lo cl)) ∧ H lL = some (.lst xs) ∧
  (∀ v, xs[i.toNat]? = some v → Q v H) ∧ (xs[i.toNat]? = none → E (.ref (He.ga K "NoLane")) none H)
def spLookCoins (K : PySem.W.Frag) : Sp := fun vs H Q E => ∃ (a dx sgA bD lL sD kL dL : Addr) (lo cl : Int) (kvs : List (Key × V)) (h : Str) (m v : Int), vs = [.ref a, .str h, .int m] ∧ 0 ≤ m ∧ H a = some (.ins (He.ga K "Court") dx (ctF sgA bD lL sD kL dL lo cl)) ∧ H bD = some (.dK kvs) ∧
  valV kvs (Sum.inr h) = some (.int v) ∧ (m ≤ v → Q .non H) ∧ (m > v → E (.ref (He.ga K "NoCoins")) none H)
def optS : Option Str → V
  | none => .non
  | some z => .str z
def spGets (K : PySem.W.Frag) : Sp := fun vs H Q _ => ∃ (u : Nat × Nat) (o : Own) (v k : V) (n : Ln) (lk : LK) (sh : Option Int) (cl : Int), vs = [v, k, endV sh, .int cl] ∧ IsLn K u o H v n ∧ IsLK K H k lk ∧ Q (optS (n.gets lk sh cl)) H
def spLaneInit (K : PySem.W.Frag) : Sp := fun vs H Q _ => ∃ (a dx : Addr) (l r : Str) (f : V), vs = [.ref a, .str l, .str r, f] ∧ H a = some (.ins (He.ga K "Lane") dx []) ∧
  ∀ q, H q = none → Q .non (upd (upd H q (.tup [.str l, .str r])) a (.ins (He.ga K "Lane") dx (lnF q f f "open" none)))
def pairV : Option (Int × Int) → List V
  | none => [.non, .non]
  | some p => [.int p.1, .int p.2]
def spSeenOf (K : PySem.W.Frag) : Sp := fun vs H Q _ => ∃ (t : Nat) (o : Own) (a sgA : Addr) (c : Ct) (s : Int), vs = [.ref a, .int s] ∧ CtAt K t o H a sgA c ∧ 0 ≤ s ∧ ∀ H' p, Same H H' → SqT K H' p (pairV (seenAt c.seen s)) → Q (.ref p) H'
def spShown (K : PySem.W.Frag) : Sp := fun vs H Q _ => ∃ (t : Nat) (o : Own) (a sgA : Addr) (c : Ct) (s : Int), vs = [.ref a, .int s] ∧ CtAt K t o H a sgA c ∧ 0 ≤ s ∧ ∀ H', Same H H' → Q (endV ((seenAt c.seen s).map (·.1))) H'
def spSecret (K : PySem.W.Frag) : Sp := fun vs H Q _ => ∃ (t : Nat) (o : Own) (a sgA : Addr) (c : Ct) (s : Int), vs = [.ref a, .int s] ∧ CtAt K t o H a sgA c ∧ 0 ≤ s ∧ ∀ H', Same H H' → Q (endV ((seenAt c.seen s).map (·.2))) H'
def spPurse (K : PySem.W.Frag) : Sp := fun vs H Q _ => ∃ (t : Nat) (o : Own) (a sgA : Addr) (c : Ct) (n : Nat) (h : Str) (v : Int), vs = [.ref a, .str h] ∧ CtAt K t o H a sgA c ∧ c.ok n ∧ look c.bags h = some v ∧ ∀ H', Same H H' → Q (.int v) H'
def spHands (K : PySem.W.Frag) : Sp := fun vs H Q _ => ∃ (t : Nat) (o : Own) (a sgA : Addr) (c : Ct) (n : Nat), vs = [.ref a] ∧ CtAt K t o H a sgA c ∧ c.ok n ∧
  ∀ H' p, Same H H' → H p = none → (sortHands (c.bags.map (·.1))).Perm (c.bags.map (·.1)) → H' p = some (.lst ((sortHands (c.bags.map (·.1))).map V.str)) → Q (.ref p) H'
def endD : Option Int → PyData
  | none => .none
  | some i => .int i
def Ln.data (g : Ln) : PyData := .tuple [.str g.mood, .str g.l, .str g.r, .int g.first.worth, g.standing.data, endD g.ending]
def spStand (K : PySem.W.Frag) : Sp := fun vs H Q _ => ∃ (t : Nat) (o : Own) (a sgA : Addr) (c : Ct) (n : Nat) (i : Int) (g : Ln), vs = [.ref a, .int i] ∧ CtAt K t o H a sgA c ∧ c.ok n ∧ 0 ≤ i ∧ c.lanes[i.toNat]? = some g ∧
  ∀ H' p, Same H H' → Dp K H' (.ref p) g.data → Q (.ref p) H'
def spHeld (K : PySem.W.Frag) : Sp := fun vs H Q _ => ∃ (t : Nat) (o : Own) (a sgA : Addr) (c : Ct), vs = [.ref a] ∧ CtAt K t o H a sgA c ∧ ∀ H' p, Same H H' → Dp K H' (.ref p) (.list (c.kept.map encH)) → Q (.ref p) H'
def Ct.inLanes (c : Ct) : Int := ((c.lanes.filter fun g => decide (g.mood ≠ ("settled" : Str))).map fun g => g.first.worth).sum
def Ct.coins (c : Ct) : Int := (c.bags.map (·.2)).sum + c.inLanes + (c.kept.map fun b => b.2.am).sum
def spCoins (K : PySem.W.Frag) : Sp := fun vs H Q _ => ∃ (t : Nat) (o : Own) (a sgA : Addr) (c : Ct) (n : Nat), vs = [.ref a] ∧ CtAt K t o H a sgA c ∧ c.ok n ∧ ∀ H', Same H H' → Q (.int c.coins) H'
theorem lt1k {n : Nat} (h : Nat.blt n 1000 = true := by rfl) : n < 1000 := by rw [Nat.blt_eq] at h; exact h
theorem atI_of {xs : List V} {i : Int} {v : V} (h0 : 0 ≤ i) (h : xs[i.toNat]? = some v) : atI xs i = some v := by
  obtain ⟨n, rfl⟩ := Int.eq_ofNat_of_zero_le h0
  exact atI_nat h
theorem endV_non (e : Option Int) : decide (endV e = .non) = e.isNone := by
  cases e <;> rfl
section
variable {P : Program} {w : World} {K : PySem.W.Frag} {mg : Str → Option Value} {base : Heap}
abbrev n_Court_road : List Str := ["self", "number"]
theorem sc_Court_road : FnScope n_Court_road ["self", "number"] (defScope s_Court_road) := ⟨rfl, rfl, rfl, by decide +kernel, rfl, by decide +kernel, by decide +kernel⟩
theorem ok_Court_road (T : Tx K mg) : DefOk P w K mg base (L2.CX P w) 2 (He.fAd K d_Court_road.at_) ["self", "number"] (spRoad K) := by
  refine mkX (d := d_Court_road) T.f_Court_road rfl (fun _ _ _ _ _ _ us hl => match us, hl with | [_, _], _ => rfl) sc_Court_road (fun vs H Q E h => ?_) (fun cdv A outer s H vs Q E hr h => ?_)
  · obtain ⟨_, _, _, _, _, _, _, _, _, _, _, _, rfl, _⟩ := h
    rfl
  · obtain ⟨a, dx, sgA, bD, lL, sD, kL, dL, lo, cl, xs, i, rfl, hi, ha, hl, q1, q2⟩ := h
    refine ⟨_, (pss_cons (ps_if (PW.pt (pw_or (pt_not (pt_val (cD (ok_is_count_signs T) T.g_is_count_signs hr (pa_cons (pv 1) pa_nil)))) (pw_or1 (pt_cmpR op_ge (pv 1) (pe_callB call_len_seq (by rfl) T.b_len PySem.boot_len (pa_cons (pe_fld (pv 0) rfl) pa_nil)) (nomark _))))) (pss_one (ps_raise rfl (takes_of rfl rfl rfl rfl) (pmk_own PySem.F.excBase_ValueError T.x_NoLane.1 T.g_NoLane T.x_NoLane.2.1 (raises_own T.x_NoLane.2.2.1 T.x_NoLane.2.2.2) rfl))) pss_nil)
      (pss_one (ps_ret (pe_ix ix_list (pe_fld (pv 0) rfl) (pv 1) (fun _ _ => rfl))))), ?_⟩
    refine ⟨_, rfl, i, rfl, true, by rw [decide_eq_true hi], ?_⟩
    refine ⟨_, rfl, _, rfl, a, _, dx, _, _, rfl, ha, T.c_Court, T.n_Court_opened, rfl, lL, xs, rfl, .inl (SqL.of hl), _, _, rfl, rfl, _, rfl, ite2 (fun c => ?_) (fun c => ?_)⟩
    · refine q2 (List.getElem?_eq_none ?_)
      have := of_decide_eq_true c
      omega
    · have c' : ¬ ((xs.length : Int) ≤ i) := fun z => c (decide_eq_true z)
      have hlt : i.toNat < xs.length := by omega
      refine ⟨_, rfl, a, _, dx, _, _, rfl, ha, T.c_Court, T.n_Court_opened, rfl, _, rfl, lL, xs, i, xs[i.toNat], rfl, rfl, SqL.of hl, ?_, q1 _ (List.getElem?_eq_getElem hlt)⟩
      exact atI_of hi (List.getElem?_eq_getElem hlt)
abbrev n_Court_look_coins : List Str := ["self", "hand", "many"]
theorem sc_Court_look_coins : FnScope n_Court_look_coins ["self", "hand", "many"] (defScope s_Court_look_coins) := ⟨rfl, rfl, rfl, by decide +kernel, rfl, by decide +kernel, by decide +kernel⟩
theorem ok_Court_look_coins (T : Tx K mg) : DefOk P w K mg base (L2.CX P w) 2 (He.fAd K d_Court_look_coins.at_) ["self", "hand", "many"] (spLookCoins K) := by
  refine mkX (d := d_Court_look_coins) T.f_Court_look_coins rfl (fun _ _ _ _ _ _ us hl => match us, hl with | [_, _, _], _ => rfl) sc_Court_look_coins (fun vs H Q E h => ?_) (fun cdv A outer s H vs Q E hr h => ?_)
  · obtain ⟨_, _, _, _, _, _, _, _, _, _, _, _, _, _, rfl, _⟩ := h
    rfl
  · obtain ⟨a, dx, sgA, bD, lL, sD, kL, dL, lo, cl, kvs, z, m, v, rfl, hm, ha, hb, hv, q1, q2⟩ := h
    refine ⟨_, (pss_one (ps_if (PW.pt (pw_or (pt_not (pt_val (cD (ok_is_count_signs T) T.g_is_count_signs hr (pa_cons (pv 2) pa_nil)))) (pw_or1 (pt_cmpR op_gt (pv 2) (pe_dget (hu1 (hu_of hr)) (pe_fld (pv 0) rfl) (pv 1) (fun _ _ => rfl)) (nomark _))))) (pss_one (ps_raise rfl (takes_of rfl rfl rfl rfl) (pmk_own PySem.F.excBase_ValueError T.x_NoCoins.1 T.g_NoCoins T.x_NoCoins.2.1 (raises_own T.x_NoCoins.2.2.1 T.x_NoCoins.2.2.2) rfl))) pss_nil)), ?_⟩
    refine ⟨_, rfl, m, rfl, true, by rw [decide_eq_true hm], ?_⟩
    refine ⟨_, rfl, _, rfl, a, _, dx, _, _, rfl, ha, T.c_Court, T.n_Court_bags, rfl, _, rfl, bD, _, rfl, hv ▸ DGet.k (k := Sum.inr z) hb, _, _, rfl, rfl, _, rfl, ite2 (fun c => ?_) (fun c => ?_)⟩
    · exact q2 (of_decide_eq_true c)
    · exact q1 (by have : ¬ (v < m) := fun z => c (decide_eq_true z); omega)
abbrev n_Lane_gets : List Str := ["self", "lock", "shown", "clock", "number", "giver", "many", "seal", "last", "at"]
theorem sc_Lane_gets : FnScope n_Lane_gets ["self", "lock", "shown", "clock"] (defScope s_Lane_gets) := ⟨rfl, rfl, rfl, by decide +kernel, rfl, by decide +kernel, by decide +kernel⟩
theorem ok_Lane_gets (T : Tx K mg) : DefOk P w K mg base CX0 1 (He.fAd K d_Lane_gets.at_) ["self", "lock", "shown", "clock"] (spGets K) := by
  refine mk0 (d := d_Lane_gets) T.f_Lane_gets rfl (fun _ _ _ _ _ _ us hl => match us, hl with | [_, _, _, _], _ => rfl) sc_Lane_gets (fun vs H Q E h => ?_) (fun cdv A outer s H vs Q E hr h => ?_)
  · obtain ⟨_, _, _, _, _, _, _, _, rfl, _⟩ := h
    rfl
  · obtain ⟨u, o, v, k, n, lk, sh, cl, rfl, ⟨p, dx, q, f, g, rfl, op, hp, hq, _, _⟩, ⟨b, rfl, hb⟩, h⟩ := h
    refine ⟨_, (pss_cons (ps_asg (pv 1) (pg_tup rfl (pgs_cons (pg_name (i := 4) sc_Lane_gets.nd rfl (.inl rfl)) (pgs_cons (pg_name (i := 5) sc_Lane_gets.nd rfl (.inl rfl)) (pgs_cons (pg_name (i := 6) sc_Lane_gets.nd rfl (.inl rfl)) (pgs_cons (pg_name (i := 7) sc_Lane_gets.nd rfl (.inl rfl)) (pgs_cons (pg_name (i := 8) sc_Lane_gets.nd rfl (.inl rfl)) pgs_nil)))))))
      (pss_cons (ps_set (i := 9) sc_Lane_gets.nd rfl (.inl rfl) (pe_ifExp (pt_cmpR op_eq (pv 5) pe_str (nomark _)) pe_int pe_int))
      (pss_cons (ps_if (PW.pt (pw_and (pt_cmpR op_notN (pv 2) pe_non (nomark _)) (pw_and1 (pt_cmpR op_le (pv 2) (pv 8) (nomark _))))) (pss_one (ps_ret (pe_ix ix_tup (pe_fld (pv 0) rfl) (pe_op op_sub pe_int (pv 9)) (fun _ _ => rfl)))) pss_nil)
      (pss_one (ps_ret (pe_ifExp (pt_cmpR op_gt (pv 3) (pv 8) (nomark _)) (pe_ix ix_tup (pe_fld (pv 0) rfl) (pv 9) (fun _ _ => rfl)) pe_non)))))), ?_⟩
    refine ⟨_, rfl, b, _, rfl, hb, rfl, _, _, rfl, _, _, rfl, _, _, rfl, _, _, rfl, _, _, rfl, rfl, ?_⟩
    refine ⟨_, rfl, rfl, _, rfl, ?_⟩
    refine ite2 (fun c0 => ?_) (fun c0 => ?_)
    · have c : lk.gv = "left" := V.str.inj (of_decide_eq_true c0)
      cases sh with
      | none =>
        refine ⟨_, rfl, rfl, _, rfl, iteF ?_⟩
        refine ⟨_, rfl, _, rfl, _, _, rfl, rfl, _, rfl, ite2 (fun d => ?_) (fun d => ?_)⟩
        · have d' := of_decide_eq_true d
          refine ⟨_, rfl, p, _, dx, _, _, rfl, hp, T.c_Lane, T.n_Lane_both, rfl, _, rfl, q, _, _, _, rfl, rfl, hq, rfl, ?_⟩
          rw [show n.gets lk none cl = some n.l by simp [Ln.gets, d', c]] at h
          exact h
        · have d' : ¬ (cl > lk.la) := fun z => d (decide_eq_true z)
          rw [show n.gets lk none cl = none by simp [Ln.gets, d']] at h
          exact h
      | some t =>
        refine ⟨_, rfl, rfl, _, rfl, iteT ?_⟩
        refine ⟨_, rfl, _, rfl, _, _, rfl, rfl, _, rfl, ite2 (fun d => ?_) (fun d => ?_)⟩
        · have d' := of_decide_eq_true d
          refine ⟨_, rfl, p, _, dx, _, _, rfl, hp, T.c_Lane, T.n_Lane_both, rfl, _, rfl, _, _, rfl, rfl, q, _, _, _, rfl, rfl, hq, rfl, ?_⟩
          rw [show n.gets lk (some t) cl = some n.r by simp [Ln.gets, d', c]] at h
          exact h
        · have d' : ¬ (t ≤ lk.la) := fun z => d (decide_eq_true z)
          refine ⟨_, rfl, _, rfl, _, _, rfl, rfl, _, rfl, ite2 (fun f => ?_) (fun f => ?_)⟩
          · have f' := of_decide_eq_true f
            refine ⟨_, rfl, p, _, dx, _, _, rfl, hp, T.c_Lane, T.n_Lane_both, rfl, _, rfl, q, _, _, _, rfl, rfl, hq, rfl, ?_⟩
            rw [show n.gets lk (some t) cl = some n.l by simp [Ln.gets, d', f', c]] at h
            exact h
          · have f' : ¬ (cl > lk.la) := fun z => f (decide_eq_true z)
            rw [show n.gets lk (some t) cl = none by simp [Ln.gets, d', f']] at h
            exact h
    · have c : ¬ lk.gv = "left" := fun z => c0 (decide_eq_true (congrArg V.str z))
      cases sh with
      | none =>
        refine ⟨_, rfl, rfl, _, rfl, iteF ?_⟩
        refine ⟨_, rfl, _, rfl, _, _, rfl, rfl, _, rfl, ite2 (fun d => ?_) (fun d => ?_)⟩
        · have d' := of_decide_eq_true d
          refine ⟨_, rfl, p, _, dx, _, _, rfl, hp, T.c_Lane, T.n_Lane_both, rfl, _, rfl, q, _, _, _, rfl, rfl, hq, rfl, ?_⟩
          rw [show n.gets lk none cl = some n.r by simp [Ln.gets, d', c]] at h
          exact h
        · have d' : ¬ (cl > lk.la) := fun z => d (decide_eq_true z)
          rw [show n.gets lk none cl = none by simp [Ln.gets, d']] at h
          exact h
      | some t =>
        refine ⟨_, rfl, rfl, _, rfl, iteT ?_⟩
        refine ⟨_, rfl, _, rfl, _, _, rfl, rfl, _, rfl, ite2 (fun d => ?_) (fun d => ?_)⟩
        · have d' := of_decide_eq_true d
          refine ⟨_, rfl, p, _, dx, _, _, rfl, hp, T.c_Lane, T.n_Lane_both, rfl, _, rfl, _, _, rfl, rfl, q, _, _, _, rfl, rfl, hq, rfl, ?_⟩
          rw [show n.gets lk (some t) cl = some n.l by simp [Ln.gets, d', c]] at h
          exact h
        · have d' : ¬ (t ≤ lk.la) := fun z => d (decide_eq_true z)
          refine ⟨_, rfl, _, rfl, _, _, rfl, rfl, _, rfl, ite2 (fun f => ?_) (fun f => ?_)⟩
          · have f' := of_decide_eq_true f
            refine ⟨_, rfl, p, _, dx, _, _, rfl, hp, T.c_Lane, T.n_Lane_both, rfl, _, rfl, q, _, _, _, rfl, rfl, hq, rfl, ?_⟩
            rw [show n.gets lk (some t) cl = some n.r by simp [Ln.gets, d', f', c]] at h
            exact h
          · have f' : ¬ (cl > lk.la) := fun z => f (decide_eq_true z)
            rw [show n.gets lk (some t) cl = none by simp [Ln.gets, d', f']] at h
            exact h
abbrev n_Lane_init : List Str := ["self", "left", "right", "first"]
theorem sc_Lane_init : FnScope n_Lane_init ["self", "left", "right", "first"] (defScope s_Lane_init) := ⟨rfl, rfl, rfl, by decide +kernel, rfl, by decide +kernel, by decide +kernel⟩
theorem ok_Lane_init (T : Tx K mg) : DefOk P w K mg base CX0 1 (He.fAd K d_Lane_init.at_) ["self", "left", "right", "first"] (spLaneInit K) := by
  refine mk0 (d := d_Lane_init) T.f_Lane_init rfl (fun _ _ _ _ _ _ us hl => match us, hl with | [_, _, _, _], _ => rfl) sc_Lane_init (fun vs H Q E h => ?_) (fun cdv A outer s H vs Q E hr h => ?_)
  · obtain ⟨_, _, _, _, _, rfl, _⟩ := h
    rfl
  · obtain ⟨a, dx, l, r, f, rfl, ha, h⟩ := h
    refine ⟨_, (pss_cons (ps_fld (pv 0) (pe_tup (pa_cons (pv 1) (pa_cons (pv 2) pa_nil))) rfl)
      (pss_cons (ps_fld (pv 0) (pv 3) rfl)
      (pss_cons (ps_fld (pv 0) (pv 3) rfl)
      (pss_cons (ps_fld (pv 0) pe_str rfl)
      (pss_one (ps_fld (pv 0) pe_non rfl)))))), ?_⟩
    refine ⟨_, rfl, _, rfl, sl, fun q hq => ?_⟩
    have ha' : upd H q (.tup [.str l, .str r]) a = some (.ins (He.ga K "Lane") dx []) := by
      rw [upd_ne (ne_of_none ha hq)]
      exact ha
    refine ⟨_, rfl, a, _, dx, _, rfl, ha', T.c_Lane, T.n_Lane_both, lt1k, ?_⟩
    refine ⟨_, rfl, _, rfl, a, _, dx, _, rfl, upd_same, T.c_Lane, T.n_Lane_first, lt1k, ?_⟩
    refine ⟨_, rfl, _, rfl, a, _, dx, _, rfl, upd_same, T.c_Lane, T.n_Lane_standing, lt1k, ?_⟩
    refine ⟨_, rfl, a, _, dx, _, rfl, upd_same, T.c_Lane, T.n_Lane_mood, lt1k, ?_⟩
    refine ⟨_, rfl, a, _, dx, _, rfl, upd_same, T.c_Lane, T.n_Lane_ending, lt1k, ?_⟩
    rw [upd_upd, upd_upd, upd_upd, upd_upd]
    exact h q hq
abbrev n_Court_seen_of : List Str := ["self", "seal"]
theorem sc_Court_seen_of : FnScope n_Court_seen_of ["self", "seal"] (defScope s_Court_seen_of) := ⟨rfl, rfl, rfl, by decide +kernel, rfl, by decide +kernel, by decide +kernel⟩
theorem ok_Court_seen_of (T : Tx K mg) : DefOk P w K mg base CX0 2 (He.fAd K d_Court_seen_of.at_) ["self", "seal"] (spSeenOf K) := by
  refine mk0 (d := d_Court_seen_of) T.f_Court_seen_of rfl (fun _ _ _ _ _ _ us hl => match us, hl with | [_, _], _ => rfl) sc_Court_seen_of (fun vs H Q E h => ?_) (fun cdv A outer s H vs Q E hr h => ?_)
  · obtain ⟨_, _, _, _, _, _, rfl, _⟩ := h
    rfl
  · obtain ⟨t, o, a, sgA, c, z, rfl, ⟨dx, bD, lL, sD, kL, dL, B⟩, hz, h⟩ := h
    refine ⟨_, (pss_cons (ps_if (pt_not (pt_val (cD (ok_is_count_signs T) T.g_is_count_signs hr (pa_cons (pv 1) pa_nil)))) (pss_one ps_never) pss_nil)
      (pss_one (ps_ret (pe_dget2 (hu1 (hu_of hr)) (pe_fld (pv 0) rfl) (pv 1) (pe_tup (pa_cons pe_non (pa_cons pe_non pa_nil))) ⟨rfl, rfl, rfl, rfl⟩)))), ?_⟩
    refine ⟨_, rfl, z, rfl, true, by rw [decide_eq_true hz], iteF ?_⟩
    obtain ⟨_, kvs, hs, pr⟩ := B.seen
    refine ⟨_, rfl, a, _, dx, _, _, rfl, B.ob.2, T.c_Court, T.n_Court_seen, rfl, sD, rfl, .inl ⟨kvs, .inl hs⟩, _, rfl, sl, fun p hp => ⟨_, DGet.k (kvs := kvs) (k := Sum.inl z) (by rw [upd_ne (ne_of_none hs hp)]; exact hs), ?_⟩⟩
    have s1 : Same H (upd H p (.tup [.non, .non])) := same_upd hp
    rcases val_seen z pr with ⟨e1, e2⟩ | ⟨x, q, e1, e2, e3⟩
    · rw [e2]
      refine h _ p s1 ?_
      rw [e1]
      exact SqT.of upd_same
    · rw [e2]
      refine h _ q s1 ?_
      rw [e1]
      exact Ks.same s1 _ _ e3
abbrev n_Court_shown : List Str := ["self", "seal"]
theorem sc_Court_shown : FnScope n_Court_shown ["self", "seal"] (defScope s_Court_shown) := ⟨rfl, rfl, rfl, by decide +kernel, rfl, by decide +kernel, by decide +kernel⟩
theorem ok_Court_shown (T : Tx K mg) : DefOk P w K mg base CX0 3 (He.fAd K d_Court_shown.at_) ["self", "seal"] (spShown K) := by
  refine mk0 (d := d_Court_shown) T.f_Court_shown rfl (fun _ _ _ _ _ _ us hl => match us, hl with | [_, _], _ => rfl) sc_Court_shown (fun vs H Q E h => ?_) (fun cdv A outer s H vs Q E hr h => ?_)
  · obtain ⟨_, _, _, _, _, _, rfl, _⟩ := h
    rfl
  · obtain ⟨t, o, a, sgA, c, z, rfl, hc, hz, h⟩ := h
    refine ⟨_, (pss_one (ps_ret (pe_ix ix_tup (mD (ok_Court_seen_of T) (T.c_Court) (T.m_Court_seen_of) hr (pv 0) (pa_cons (pv 1) pa_nil)) pe_int (fun _ _ => rfl)))), ?_⟩
    obtain ⟨dx, bD, lL, sD, kL, dL, B⟩ := id hc
    refine ⟨_, rfl, a, dx, _, rfl, B.ob.2, rfl, _, rfl, t, o, a, sgA, c, z, rfl, hc, hz, fun H1 p s1 hp => ?_⟩
    cases e : seenAt c.seen z with
    | none =>
      rw [e] at hp h
      exact ⟨p, _, _, _, rfl, rfl, hp, rfl, h _ s1⟩
    | some x =>
      rw [e] at hp h
      exact ⟨p, _, _, _, rfl, rfl, hp, rfl, h _ s1⟩
abbrev n_Court_secret : List Str := ["self", "seal"]
theorem sc_Court_secret : FnScope n_Court_secret ["self", "seal"] (defScope s_Court_secret) := ⟨rfl, rfl, rfl, by decide +kernel, rfl, by decide +kernel, by decide +kernel⟩
theorem ok_Court_secret (T : Tx K mg) : DefOk P w K mg base CX0 3 (He.fAd K d_Court_secret.at_) ["self", "seal"] (spSecret K) := by
  refine mk0 (d := d_Court_secret) T.f_Court_secret rfl (fun _ _ _ _ _ _ us hl => match us, hl with | [_, _], _ => rfl) sc_Court_secret (fun vs H Q E h => ?_) (fun cdv A outer s H vs Q E hr h => ?_)
  · obtain ⟨_, _, _, _, _, _, rfl, _⟩ := h
    rfl
  · obtain ⟨t, o, a, sgA, c, z, rfl, hc, hz, h⟩ := h
    refine ⟨_, (pss_one (ps_ret (pe_ix ix_tup (mD (ok_Court_seen_of T) (T.c_Court) (T.m_Court_seen_of) hr (pv 0) (pa_cons (pv 1) pa_nil)) pe_int (fun _ _ => rfl)))), ?_⟩
    obtain ⟨dx, bD, lL, sD, kL, dL, B⟩ := id hc
    refine ⟨_, rfl, a, dx, _, rfl, B.ob.2, rfl, _, rfl, t, o, a, sgA, c, z, rfl, hc, hz, fun H1 p s1 hp => ?_⟩
    cases e : seenAt c.seen z with
    | none =>
      rw [e] at hp h
      exact ⟨p, _, _, _, rfl, rfl, hp, rfl, h _ s1⟩
    | some x =>
      rw [e] at hp h
      exact ⟨p, _, _, _, rfl, rfl, hp, rfl, h _ s1⟩
abbrev n_Court_purse : List Str := ["self", "hand"]
theorem sc_Court_purse : FnScope n_Court_purse ["self", "hand"] (defScope s_Court_purse) := ⟨rfl, rfl, rfl, by decide +kernel, rfl, by decide +kernel, by decide +kernel⟩
theorem ok_Court_purse (T : Tx K mg) : DefOk P w K mg base CX0 2 (He.fAd K d_Court_purse.at_) ["self", "hand"] (spPurse K) := by
  refine mk0 (d := d_Court_purse) T.f_Court_purse rfl (fun _ _ _ _ _ _ us hl => match us, hl with | [_, _], _ => rfl) sc_Court_purse (fun vs H Q E h => ?_) (fun cdv A outer s H vs Q E hr h => ?_)
  · obtain ⟨_, _, _, _, _, _, _, _, rfl, _⟩ := h
    rfl
  · obtain ⟨t, o, a, sgA, c, n, z, v, rfl, ⟨dx, bD, lL, sD, kL, dL, B⟩, ok, hv, h⟩ := h
    refine ⟨_, (pss_cons (ps_if (PW.pt (pw_or (pt_not (pt_val (cD (ok_is_name T) T.g_is_name hr (pa_cons (pv 1) pa_nil)))) (pw_or1 (pt_cmp (pc_dnotin (hu1 (hu_of hr)) (pv 1) (pe_fld (pv 0) rfl)))))) (pss_one ps_never) pss_nil)
      (pss_one (ps_ret (pe_dget (hu1 (hu_of hr)) (pe_fld (pv 0) rfl) (pv 1) (fun _ _ => rfl))))), ?_⟩
    have hn := ok.names z (look_mem hv)
    have e : valV (bagKV c.bags) (Sum.inr z) = some (.int v) := by rw [val_bag, hv]; rfl
    refine ⟨_, rfl, z, rfl, hn, fun H1 s1 => ⟨true, rfl, iteF ?_⟩⟩
    have B1 := B.same s1
    refine ⟨_, rfl, _, rfl, a, _, dx, _, _, rfl, B1.ob.2, T.c_Court, T.n_Court_bags, rfl, bD, _, rfl, DGet.k (k := Sum.inr z) B1.bags.2, _, rfl, ?_⟩
    rw [e]
    refine iteF ⟨_, rfl, a, _, dx, _, _, rfl, B1.ob.2, T.c_Court, T.n_Court_bags, rfl, _, rfl, bD, _, rfl, e ▸ DGet.k (k := Sum.inr z) B1.bags.2, h _ s1⟩
abbrev n_Court_hands : List Str := ["self"]
theorem sc_Court_hands : FnScope n_Court_hands ["self"] (defScope s_Court_hands) := ⟨rfl, rfl, rfl, by decide +kernel, rfl, by decide +kernel, by decide +kernel⟩
theorem ok_Court_hands (T : Tx K mg) : DefOk P w K mg base CX0 1 (He.fAd K d_Court_hands.at_) ["self"] (spHands K) := by
  refine mk0 (d := d_Court_hands) T.f_Court_hands rfl (fun _ _ _ _ _ _ us hl => match us, hl with | [_], _ => rfl) sc_Court_hands (fun vs H Q E h => ?_) (fun cdv A outer s H vs Q E hr h => ?_)
  · obtain ⟨_, _, _, _, _, _, rfl, _⟩ := h
    rfl
  · obtain ⟨t, o, a, sgA, c, n, rfl, ⟨dx, bD, lL, sD, kL, dL, B⟩, ok, h⟩ := h
    refine ⟨_, (pss_one (ps_ret (pe_callB (call_sortedD rfl) (by rfl) T.b_sorted (by decide +kernel) (pa_cons (pe_fld (pv 0) rfl) pa_nil)))), ?_⟩
    refine ⟨_, rfl, a, _, dx, _, _, rfl, B.ob.2, T.c_Court, T.n_Court_bags, rfl, bD, _, c.bags.map (·.1), rfl, .inl B.bags.2, ?_, ?_, fun ys p pm so hp => ?_⟩
    · unfold bagKV
      rw [List.map_map, List.map_map]
      rfl
    · rw [List.length_map]
      have := ok.bags
      omega
    · have e := sortHands_eq pm so
      refine h _ p (same_upd hp) hp (e ▸ pm) ?_
      rw [e]
      exact upd_same
end
end Cn
namespace Cn
open PySem PySem.Spec PyProof.Rows L2
def payD (p : Pay) : PyData := .tuple [.str p.1, .int p.2]
def rowD (r : Deed × List Pay) : PyData := .tuple [r.1.data, .list (r.2.map payD)]
/-- told rows: a new list of pairs, each with a new list -/
structure RowsAt (K : PySem.W.Frag) (H : Hp) (l : Addr) (ls : List Addr) (rows : List (Deed × List Pay)) : Prop where
  nd : (l :: ls).Nodup
  is : ∃ xs, H l = some (.lst xs) ∧ Paired (fun (v : V) (q : Addr × (Deed × List Pay)) => ∃ p g ys, v = .ref p ∧ SqT K H p [g, .ref q.1] ∧ IsDeed K H g q.2.1 ∧ H q.1 = some (.lst ys) ∧ Paired (IsPay K H) ys q.2.2) xs (ls.zip rows)
  len : ls.length = rows.length
def spRows (K : PySem.W.Frag) : Sp := fun vs H Q _ => ∃ (t : Nat) (o : Own) (a sgA : Addr) (c : Ct) (n : Nat), vs = [.ref a] ∧ CtAt K t o H a sgA c ∧ c.ok n ∧ ∀ H' p ls, Same H H' → H p = none → (∀ l ∈ ls, H l = none) → RowsAt K H' p ls c.deeds → Q (.ref p) H'
theorem IsPay.dp {K : PySem.W.Frag} {H : Hp} {v : V} {p : Pay} (h : IsPay K H v p) : Dp K H v (payD p) := by
  obtain ⟨q, rfl, s⟩ := h
  exact .tup s (.cons (.str _) (.cons (.int _) .nil))
theorem paired_mem {A B : Type} {R : A → B → Prop} : ∀ {xs : List A} {ys : List B}, Paired R xs ys → Paired (fun x y => R x y ∧ y ∈ ys) xs ys
  | _, _, .nil => .nil
  | _, _, .cons a r => .cons ⟨a, List.mem_cons_self⟩ (paired_imp (fun _ _ z => ⟨z.1, List.mem_cons_of_mem _ z.2⟩) (paired_mem r))
theorem zip_mem {A B : Type} : ∀ {xs : List A} {ys : List B}, xs.length = ys.length → ∀ {x : A}, x ∈ xs → ∃ y, (x, y) ∈ xs.zip ys
  | [], _, _, _, h => (List.not_mem_nil h).elim
  | _ :: _, [], h, _, _ => by cases h
  | a :: r, b :: s, h, x, hx => by
    rcases List.mem_cons.mp hx with rfl | hx
    · exact ⟨b, List.mem_cons_self⟩
    · obtain ⟨y, hy⟩ := zip_mem (Nat.succ.inj h) hx
      exact ⟨y, List.mem_cons_of_mem _ hy⟩
theorem paired_of_mem {A B : Type} {R : A → B → Prop} : ∀ {xs : List A} {ys : List B}, Paired R xs ys → ∀ {y : B}, y ∈ ys → ∃ x, x ∈ xs ∧ R x y
  | _, _, .cons a r, y, h => by
    rcases List.mem_cons.mp h with rfl | h
    · exact ⟨_, List.mem_cons_self, a⟩
    · obtain ⟨x, hx, z⟩ := paired_of_mem r h
      exact ⟨x, List.mem_cons_of_mem _ hx, z⟩
theorem RowsAt.stands {K : PySem.W.Frag} {H : Hp} {l : Addr} {ls : List Addr} {rows : List (Deed × List Pay)} (R : RowsAt K H l ls rows) {b : Addr} (h : b ∈ ls) : ∃ x, H b = some x := by
  obtain ⟨xs, _, p⟩ := R.is
  obtain ⟨y, hy⟩ := zip_mem R.len h
  obtain ⟨v, _, _, _, ys, _, _, _, e, _⟩ := paired_of_mem p hy
  exact ⟨_, e⟩
section
variable {P : Program} {w : World} {K : PySem.W.Frag} {mg : Str → Option Value} {base : Heap}
abbrev n_Court_held : List Str := ["self"]
theorem sc_Court_held : FnScope n_Court_held ["self"] (defScope s_Court_held) := ⟨rfl, rfl, rfl, by decide +kernel, rfl, by decide +kernel, by decide +kernel⟩
theorem ok_Court_held (T : Tx K mg) : DefOk P w K mg base CX0 1 (He.fAd K d_Court_held.at_) ["self"] (spHeld K) := by
  refine mk0 (d := d_Court_held) T.f_Court_held rfl (fun _ _ _ _ _ _ us hl => match us, hl with | [_], _ => rfl) sc_Court_held (fun vs H Q E h => ?_) (fun cdv A outer s H vs Q E hr h => ?_)
  · obtain ⟨_, _, _, _, _, rfl, _⟩ := h
    rfl
  · obtain ⟨t, o, a, sgA, c, rfl, ⟨dx, bD, lL, sD, kL, dL, B⟩, h⟩ := h
    refine ⟨_, (pss_one (ps_ret (pe_callTy call_list_of (by rfl) T.b_list (by decide +kernel) (pa_cons (pe_fld (pv 0) rfl) pa_nil)))), ?_⟩
    obtain ⟨_, xs, hx, pr⟩ := B.kept
    refine ⟨_, rfl, a, _, dx, _, _, rfl, B.ob.2, T.c_Court, T.n_Court_kept, rfl, kL, xs, rfl, .inl (SqL.of hx), fun l hl => ?_⟩
    have s1 : Same H (upd H l (.lst xs)) := same_upd hl
    exact h _ l s1 (.lst (SqL.of upd_same) (dpAll_of (fun v b z => isHL_dp (isHL_mono (Ks.same s1) z)) pr))
abbrev n_Court_stand : List Str := ["self", "lane", "road"]
theorem sc_Court_stand : FnScope n_Court_stand ["self", "lane"] (defScope s_Court_stand) := ⟨rfl, rfl, rfl, by decide +kernel, rfl, by decide +kernel, by decide +kernel⟩
theorem ok_Court_stand (T : Tx K mg) : DefOk P w K mg base CX0 7 (He.fAd K d_Court_stand.at_) ["self", "lane"] (spStand K) := by
  refine mk0 (d := d_Court_stand) T.f_Court_stand rfl (fun _ _ _ _ _ _ us hl => match us, hl with | [_, _], _ => rfl) sc_Court_stand (fun vs H Q E h => ?_) (fun cdv A outer s H vs Q E hr h => ?_)
  · obtain ⟨_, _, _, _, _, _, _, _, rfl, _⟩ := h
    rfl
  · obtain ⟨t, o, a, sgA, c, n, i, g, rfl, ⟨dx, bD, lL, sD, kL, dL, B⟩, ok, hi, hg, h⟩ := h
    refine ⟨_, (pss_cons (ps_set (i := 2) sc_Court_stand.nd rfl (.inl rfl) (mN (ok_Court_road T) T.c_Court T.m_Court_road hr (pv 0) (pa_cons (pv 1) pa_nil)))
      (pss_one (ps_ret (pe_op op_catT (pe_op op_catT (pe_tup (pa_cons (pe_fld (pv 2) rfl) pa_nil)) (pe_fld (pv 2) rfl)) (pe_tup (pa_cons (cD (ok_worth T) T.g_worth hr (pa_cons (pe_fld (pv 2) rfl) pa_nil)) (pa_cons (pe_fld (pv 2) rfl) (pa_cons (pe_fld (pv 2) rfl) pa_nil)))))))), ?_⟩
    obtain ⟨ol, xs, hx, nd, pr⟩ := B.lanes
    obtain ⟨v, hv, p, dp, q, f, st, rfl, op, hp, hq, hf, hst⟩ := paired_get' pr hg
    have gok := ok.lane g (List.mem_of_getElem? hg)
    refine ⟨_, rfl, a, dx, _, rfl, B.ob.2, rfl, _, rfl, a, dx, sgA, bD, lL, sD, kL, dL, _, _, xs, i, rfl, hi, B.ob.2, hx, fun u hu => ?_, fun hn => by rw [hv] at hn; cases hn⟩
    obtain rfl := Option.some.inj (hv.symm.trans hu)
    refine ⟨_, rfl, p, _, dp, _, _, rfl, hp, T.c_Lane, T.n_Lane_mood, rfl, sl, fun t1 n1 => ?_⟩
    have s1 : Same H (upd H t1 (.tup [.str g.mood])) := same_upd n1
    refine ⟨_, rfl, p, _, dp, _, _, rfl, s1 _ _ hp, T.c_Lane, T.n_Lane_both, rfl, t1, q, _, _, rfl, rfl, SqT.of upd_same, Ks.same s1 _ _ hq, List.cons_ne_nil _ _, sl, fun z => (List.cons_ne_nil _ _ z).elim, fun _ t2 n2 => ?_⟩
    have s2 := s1.trans (same_upd (o := .tup ([.str g.mood] ++ [.str g.l, .str g.r])) n2)
    refine ⟨_, rfl, p, _, dp, _, _, rfl, s2 _ _ hp, T.c_Lane, T.n_Lane_first, rfl, _, g.first, rfl, IsST.mono (Ks.same s2) hf, gok.1, fun H3 s3 => ?_⟩
    have s23 := s2.trans s3
    refine ⟨_, rfl, p, _, dp, _, _, rfl, s23 _ _ hp, T.c_Lane, T.n_Lane_standing, rfl, _, rfl, p, _, dp, _, _, rfl, s23 _ _ hp, T.c_Lane, T.n_Lane_ending, rfl, sl, fun t3 n3 => ?_⟩
    have s4 : Same H3 (upd H3 t3 (.tup [.int g.first.worth, st, endV g.ending])) := same_upd n3
    have e2 : upd (upd H t1 (.tup [.str g.mood])) t2 (.tup ([.str g.mood] ++ [.str g.l, .str g.r])) t2 = some (.tup ([.str g.mood] ++ [.str g.l, .str g.r])) := upd_same
    refine ⟨t2, t3, _, _, rfl, rfl, SqT.of (s4 _ _ (s3 _ _ e2)), SqT.of upd_same, List.cons_ne_nil _ _, sl, fun z => (List.cons_ne_nil _ _ z).elim, fun _ t4 n4 => ?_⟩
    have s5 := (s23.trans s4).trans (same_upd (o := .tup ([.str g.mood] ++ [.str g.l, .str g.r] ++ [.int g.first.worth, st, endV g.ending])) n4)
    refine h _ t4 s5 (.tup (SqT.of upd_same) (.cons (.str _) (.cons (.str _) (.cons (.str _) (.cons (.int _) (.cons (IsST.mono (Ks.same s5) hst).dp (.cons ?_ .nil)))))))
    cases g.ending with
    | none => exact .non
    | some z => exact .int z
abbrev n_Court_rows : List Str := ["self", "deed", "paid"]
theorem sc_Court_rows : FnScope n_Court_rows ["self"] (defScope s_Court_rows) := ⟨rfl, rfl, rfl, by decide +kernel, rfl, by decide +kernel, by decide +kernel⟩
theorem ok_Court_rows (T : Tx K mg) : DefOk P w K mg base CX0 1 (He.fAd K d_Court_rows.at_) ["self"] (spRows K) := by
  refine mk0 (d := d_Court_rows) T.f_Court_rows rfl (fun _ _ _ _ _ _ us hl => match us, hl with | [_], _ => rfl) sc_Court_rows (fun vs H Q E h => ?_) (fun cdv A outer s H vs Q E hr h => ?_)
  · obtain ⟨_, _, _, _, _, _, rfl, _⟩ := h
    rfl
  · obtain ⟨t, o, a, sgA, c, n, rfl, ⟨dx, bD, lL, sD, kL, dL, B⟩, ok, h⟩ := h
    refine ⟨_, (pss_one (ps_ret (pe_lc (own := [("deed", 1), ("paid", 2)]) (tt := tYes) (g := gTup K 2 (gCons (gName 1) (gCons (gName 2) gNil))) rfl sc_Court_rows.nd (pi_list (pe_fld (pv 0) rfl)) (blkOk_by (own := [("deed", 1), ("paid", 2)]) (N := n_Court_rows) (sc := defScope s_Court_rows) (by decide +kernel)) (fun _ _ _ _ _ => (pg_tup rfl (pgs_cons (pg_name (i := 1) sc_Court_rows.nd rfl (.inl rfl)) (pgs_cons (pg_name (i := 2) sc_Court_rows.nd rfl (.inl rfl)) pgs_nil)))) (fun _ _ _ _ _ => pts_nil) (fun _ _ _ _ _ => (pe_tup (pa_cons (pv 1) (pa_cons (pe_callTy (call_list_ofK (K := K) rfl) (by rfl) T.b_list (by decide +kernel) (pa_cons (pv 2) pa_nil)) pa_nil))))))), ?_⟩
    obtain ⟨od, xs, hx, pr⟩ := B.deeds
    have lx := paired_len pr
    refine ⟨_, rfl, a, _, dx, _, _, rfl, B.ob.2, T.c_Court, T.n_Court_deeds, rfl, dL, rfl, ⟨_, SqL.of hx⟩, fun D hD => lc_list (xs := xs) (fun i H1 => Same H H1 ∧ ∃ ls, (∀ l ∈ ls, H l = none) ∧ RowsAt K H1 D ls (c.deeds.take i)) ⟨same_upd hD, [], (fun _ z => (List.not_mem_nil z).elim), List.nodup_cons.mpr ⟨List.not_mem_nil, .nil⟩, ⟨[], upd_same, .nil⟩, rfl⟩ (fun i H1 _ h1 => SqL.of (h1.1 _ _ hx)) (fun i x H1 hi h1 => ?_) (fun H1 h1 => ?_)⟩
    · obtain ⟨s1, ls, new, R⟩ := h1
      obtain ⟨d, hd, p, g, l, rfl, hq, hg, ol, ys, hl, py⟩ := paired_get pr hi
      have k1 := Ks.same (K := K) s1
      refine ⟨p, _, rfl, k1 _ _ hq, rfl, _, _, rfl, _, _, rfl, rfl, rfl, _, rfl, _, rfl, l, ys, rfl, .inl (SqL.of (s1 _ _ hl)), fun m hm => ⟨sl, fun q nq => ?_⟩⟩
      have nqm : q ≠ m := fun e => by rw [e, upd_same] at nq; cases nq
      have sm : Same H1 (upd H1 m (.lst ys)) := same_upd hm
      have sq : Same (upd H1 m (.lst ys)) (upd (upd H1 m (.lst ys)) q (.tup [g, .ref m])) := same_upd nq
      have s3 := sm.trans sq
      obtain ⟨us, hus, pus⟩ := R.is
      have D3 := s3 _ _ hus
      have Dm : D ≠ m := ne_of_none hus hm
      have kD : Ks K (upd (upd H1 m (.lst ys)) q (.tup [g, .ref m])) (upd (upd (upd H1 m (.lst ys)) q (.tup [g, .ref m])) D (.lst (us ++ [.ref q]))) := Ks.updL D3
      have lu : us.length ≤ n := by
        have e1 := paired_len pus
        rw [List.length_zip, R.len, Nat.min_self, List.length_take] at e1
        have := ok.deedsN
        omega
      have inl : ∀ b, b ∈ ls → b ≠ D ∧ b ≠ m ∧ ∃ x, H1 b = some x := fun b hb => by
        obtain ⟨x, hx⟩ := R.stands hb
        exact ⟨fun e => (List.nodup_cons.mp R.nd).1 (e ▸ hb), fun e => (by rw [e, hm] at hx; cases hx), x, hx⟩
      refine ⟨us, D3, slt (by have := ok.small; omega), fun b y e => ?_, ls ++ [m], fun b hb => ?_, ?_, ?_, ?_⟩
      · rw [upd_ne (ne_of_none e hD)]
        exact s3 _ _ (s1 _ _ e)
      · rcases List.mem_append.mp hb with hb | hb
        · exact new b hb
        · rw [List.mem_singleton.mp hb]
          exact s1.free hm
      · rw [← List.cons_append]
        refine List.nodup_append.mpr ⟨R.nd, List.nodup_cons.mpr ⟨List.not_mem_nil, .nil⟩, fun b hb b' hb' => ?_⟩
        rw [List.mem_singleton.mp hb']
        rcases List.mem_cons.mp hb with e | hb
        · rw [e]
          exact Dm
        · exact (inl b hb).2.1
      · refine ⟨us ++ [.ref q], upd_same, ?_⟩
        rw [take_succ_of hd, List.zip_append (by rw [R.len])]
        refine paired_append ?_ (.cons ?_ .nil)
        · have keep : ∀ b, b ∈ ls → ∀ x, H1 b = some x → upd (upd (upd H1 m (.lst ys)) q (.tup [g, .ref m])) D (.lst (us ++ [.ref q])) b = some x := fun b hb x hx => by
            rw [upd_ne (inl b hb).1]
            exact s3 _ _ hx
          have := paired_mem pus
          refine paired_imp ?_ this
          rintro v ⟨b, r⟩ ⟨⟨p', g', ys', e1, e2, e3, e4, e5⟩, hm'⟩
          have kk : Ks K H1 _ := (Ks.same s3).trans kD
          exact ⟨p', g', ys', e1, kk _ _ e2, IsDeed.mono kk e3, keep b (List.of_mem_zip hm').1 _ e4, paired_imp (fun _ _ z => IsPay.mono kk z) e5⟩
        · have kk : Ks K H _ := (k1.trans (Ks.same s3)).trans kD
          refine ⟨q, g, ys, rfl, ?_, IsDeed.mono kk hg, ?_, paired_imp (fun _ _ z => IsPay.mono kk z) py⟩
          · exact kD _ _ (SqT.of upd_same)
          · rw [upd_ne Dm.symm]
            exact sq _ _ upd_same
      · rw [List.length_append, R.len, take_succ_of hd, List.length_append]
        rfl
    · obtain ⟨s1, ls, new, R⟩ := h1
      rw [lx, List.take_length] at R
      exact h _ D ls s1 hD new R
end
end Cn
namespace Cn
open PySem PySem.Spec PyProof.Rows L2
/-! ### defs with keyword-only parameters -/
theorem vals_rev : ∀ {vs : List V} {us : List Value}, Vals vs us → Vals vs.reverse us.reverse
  | _, _, .nil => .nil
  | _, _, .cons a r => by
    rw [List.reverse_cons, List.reverse_cons]
    exact (vals_rev r).append (.cons a .nil)
def turnIf {α : Type} (b : Bool) (xs : List α) : List α := if b = true then xs.reverse else xs
theorem vals_turn (b : Bool) {vs : List V} {us : List Value} (h : Vals vs us) : Vals (turnIf b vs) (turnIf b us) := by
  cases b with
  | true => exact vals_rev h
  | false => exact h
section
variable {P : Program} {w : World} {K : PySem.W.Frag} {mg : Str → Option Value} {base : Heap}
theorem fnX {d : He.DefD} {N ps : List Str} {k : Nat} {sp : Sp} {fd : FuncData} (F : FnD K d fd) (h0 : d.dfl = [])
    (S : FnScope N ps d.scope) (len : ∀ vs H Q E, sp vs H Q E → vs.length = ps.length)
    (hbody : ∀ (cdv : Value) (A : Around) (outer : List Env) (s : Shared) (H : Hp) (vs : List V) (Q : VK) (E : XK), Room k (A.deeper (envOfC d.qual d.scope s.heap.objs.size (He.fAd K d.at_) cdv)) → sp vs H Q E →
      ∃ t, PSs (cxOf (L2.CX P w) P w K mg base N d.qual d.scope (He.fAd K d.at_) cdv A outer s H E) d.body t ∧ t { nx := fun _ H' => Q .non H', rt := Q } (start N vs) H) : FnOk P w K mg base (L2.CX P w) (k + 1) (He.fAd K d.at_) fd ps sp := by
  have e : d.dvs K = [] := by unfold He.DefD.dvs; rw [h0]; rfl
  have F' : FunD K d.name d.qual d.params d.body d.scope [] (d.kws K) (He.fAd K d.at_) fd := e ▸ F
  exact F'.ok S len hbody
theorem kbX {d : He.DefD} {ps ks : List Str} {n : Nat} {fd : FuncData} (b : Bool) (F : FnD K d fd) (h0 : d.dfl = []) (hk : d.kws K ≠ [])
    (h : ∀ (D : Addr) (doc pm : Value) (an : Option Addr) (cdv ct : Value) (us ws : List Value), us.length = n → ws.length = ks.length → bindArgs (PySem.W.fnOf d.name d.qual d.params d.body d.scope .none (.ref D) doc pm an cdv ct) ⟨us, ks.zip ws⟩ = pure (ps.zip (us ++ turnIf b ws))) :
    ∃ g, KBn K fd ps n ks g (fun vs zs => vs ++ turnIf b zs) := by
  have e : d.dvs K = [] := by unfold He.DefD.dvs; rw [h0]; rfl
  have F' : FunD K d.name d.qual d.params d.body d.scope [] (d.kws K) (He.fAd K d.at_) fd := e ▸ F
  obtain ⟨mv, kb⟩ := F'.kbinds0 n ks [] (fun us _ ws => us ++ turnIf b ws) hk (fun q z => nomatch z) (fun r1 _ r3 => r1.append (vals_turn b r3)) (fun D doc pm an cdv ct us mv ws h1 h2 h3 => h D doc pm an cdv ct us ws h1 h3)
  exact ⟨_, kb⟩
end
def badA (K : PySem.W.Frag) : Bad → Addr
  | .hand => He.ga K "NoHand"
  | .coins => He.ga K "NoCoins"
  | .unsigned => He.ga K "NotSigned"
  | .lane => He.ga K "NoLane"
  | .settled => He.ga K "Settled"
  | .old => He.ga K "Old"
def spStep (P : Program) (w : World) (K : PySem.W.Frag) (args : Deed → List V → Hp → Prop) (res : Ct → Ct → Deed → V → Hp → Own → Prop) : Sp := fun vs H Q E => ∃ (t : Nat) (o : Own) (a sgA : Addr) (sg : Sg) (m : Nat) (c : Ct) (n : Nat) (d : Deed) (us : List V),
  vs = .ref a :: us ∧ args d us H ∧ d.ok ∧ t ≠ 1 ∧ Dom o H ∧ CtAt K t o H a sgA c ∧ SgAt P w K o H sgA sg m ∧ c.ok n ∧
  match c.step sg d with
  | .ok c' => ∀ o' H' v, Ef K t o H o' H' → Dom o' H' → CtAt K t o' H' a sgA c' → res c c' d v H' o' → Q v H'
  | .error b => ∀ H', Same H H' → E (.ref (badA K b)) none H'
def argsOp (d : Deed) (us : List V) (_ : Hp) : Prop := ∃ l r a b, d = .op l r a b ∧ us = [.str l, .str r, .int a, .int b]
def spLane (P : Program) (w : World) (K : PySem.W.Frag) : Sp := spStep P w K argsOp (fun _ _ _ _ _ _ => True)
theorem look_none_val {b : List Pay} {h : Str} (e : look b h = none) : valV (bagKV b) (Sum.inr h) = none := by rw [val_bag, e]; rfl
theorem look_some_val {b : List Pay} {h : Str} {v : Int} (e : look b h = some v) : valV (bagKV b) (Sum.inr h) = some (.int v) := by rw [val_bag, e]; rfl
section
variable {P : Program} {w : World} {K : PySem.W.Frag} {mg : Str → Option Value} {base : Heap}
abbrev n_Court_coins : List Str := ["self", "lanes", "road", "number", "lock"]
theorem sc_Court_coins : FnScope n_Court_coins ["self"] (defScope s_Court_coins) := ⟨rfl, rfl, rfl, by decide +kernel, rfl, by decide +kernel, by decide +kernel⟩
theorem ok_Court_coins (T : Tx K mg) : DefOk P w K mg base CX0 7 (He.fAd K d_Court_coins.at_) ["self"] (spCoins K) := by
  refine mk0 (d := d_Court_coins) T.f_Court_coins rfl (fun _ _ _ _ _ _ us hl => match us, hl with | [_], _ => rfl) sc_Court_coins (fun vs H Q E h => ?_) (fun cdv A outer s H vs Q E hr h => ?_)
  · obtain ⟨_, _, _, _, _, _, rfl, _⟩ := h
    rfl
  · obtain ⟨t, o, a, sgA, c, n, rfl, ⟨dx, bD, lL, sD, kL, dL, B⟩, ok, h⟩ := h
    refine ⟨_, (pss_cons (ps_set (i := 1) sc_Court_coins.nd rfl (.inl rfl) (pe_callB (cr_sum rfl) (by rfl) T.b_sum (by decide +kernel) (pa_cons (pe_lc (own := [("road", 2)]) rfl sc_Court_coins.nd (pi_list (pe_fld (pv 0) rfl)) (blkOk_by (own := [("road", 2)]) (N := n_Court_coins) (sc := defScope s_Court_coins) (by decide +kernel)) (fun _ _ _ _ _ => (pg_name (i := 2) sc_Court_coins.nd rfl (.inl rfl))) (fun _ _ _ _ _ => (pts_one (pt_cmpR op_ne (pe_fldK (K := K) (pv 2) rfl) pe_str (nomark _)))) (fun _ _ _ _ _ => (cD (ok_worth (P := P) (w := w) (base := base) T) T.g_worth hr (pa_cons (pe_fldK (K := K) (pv 2) rfl) pa_nil)))) pa_nil)))
      (pss_one (ps_ret (pe_op op_add (pe_op op_add (pe_callB (cr_sum rfl) (by rfl) T.b_sum (by decide +kernel) (pa_cons (pe_listVals rfl (pe_fld (pv 0) rfl) (by rfl) T.b_list) pa_nil)) (pv 1)) (pe_callB (cr_sum rfl) (by rfl) T.b_sum (by decide +kernel) (pa_cons (pe_lc (own := [("number", 3), ("lock", 4)]) (tt := tYes) (g := gTup K 2 (gCons (gName 3) (gCons (gName 4) gNil))) rfl sc_Court_coins.nd (pi_list (pe_fld (pv 0) rfl)) (blkOk_by (own := [("number", 3), ("lock", 4)]) (N := n_Court_coins) (sc := defScope s_Court_coins) (by decide +kernel)) (fun _ _ _ _ _ => (pg_tup rfl (pgs_cons (pg_name (i := 3) sc_Court_coins.nd rfl (.inl rfl)) (pgs_cons (pg_name (i := 4) sc_Court_coins.nd rfl (.inl rfl)) pgs_nil)))) (fun _ _ _ _ _ => pts_nil) (fun _ _ _ _ _ => (pe_ix (r := rIxT K) ix_tup (pv 4) pe_int (fun _ _ => rfl)))) pa_nil)))))), ?_⟩
    obtain ⟨ol, xs, hx, nd, pr⟩ := B.lanes
    refine ⟨_, rfl, a, _, dx, _, _, rfl, B.ob.2, T.c_Court, T.n_Court_opened, rfl, lL, rfl, ⟨_, SqL.of hx⟩, fun D hD => lc_list (xs := xs) (fun i H1 => Same H H1 ∧ H1 D = some (.lst ((((c.lanes.take i).filter fun g => decide (g.mood ≠ ("settled" : Str))).map fun g => g.first.worth).map V.int))) ⟨same_upd hD, upd_same⟩ (fun i H1 _ h1 => SqL.of (h1.1 _ _ hx)) (fun i x H1 hi h1 => ?_) (fun H1 h1 => ?_)⟩
    · obtain ⟨s1, ed⟩ := h1
      obtain ⟨g, hg, p, dp, q, f, st, rfl, op, hp, hq, hf, hst⟩ := paired_get pr hi
      have gok := ok.lane g (List.mem_of_getElem? hg)
      refine ⟨rfl, _, rfl, p, _, dp, _, _, rfl, s1 _ _ hp, T.c_Lane, T.n_Lane_mood, rfl, rfl, _, rfl, ?_⟩
      by_cases e : g.mood = ("settled" : Str)
      · refine iFe (by rw [e]; rfl) ⟨s1, ?_⟩
        rw [ed, take_succ_of hg, List.filter_append, List.filter_cons_of_neg (by simp [e]), List.filter_nil, List.append_nil]
      · have e' : (!decide (V.str g.mood = V.str ("settled" : Str))) = true := by
          rw [Bool.not_eq_true']
          exact decide_eq_false (fun z => e (V.str.inj z))
        refine iTe e' ⟨_, rfl, p, _, dp, _, _, rfl, s1 _ _ hp, T.c_Lane, T.n_Lane_first, rfl, _, g.first, rfl, IsST.mono (Ks.same s1) hf, gok.1, fun H3 s3 => ⟨_, s3 _ _ ed, slt ?_, fun b y z => ?_, ?_⟩⟩
        · rw [List.length_map, List.length_map]
          have := List.length_filter_le (fun g : Ln => decide (g.mood ≠ ("settled" : Str))) (c.lanes.take i)
          rw [List.length_take] at this
          have := ok.lanesN
          have := ok.small
          omega
        · rw [upd_ne (ne_of_none z hD)]
          exact s3 _ _ (s1 _ _ z)
        · rw [upd_same, take_succ_of hg, List.filter_append, List.filter_cons_of_pos (by simp [e]), List.filter_nil, List.map_append, List.map_append]
          rfl
    · obtain ⟨s1, ed⟩ := h1
      have B1 := B.same s1
      rw [paired_len pr, List.take_length] at ed
      refine ⟨D, _, rfl, SqL.of ed, ?_⟩
      refine ⟨_, rfl, a, _, dx, _, _, rfl, B1.ob.2, T.c_Court, T.n_Court_bags, rfl, bD, _, rfl, B1.bags.2, fun l nl => ⟨l, c.bags.map (·.2), rfl, SqL.of ?_, _, rfl, _, _, rfl, rfl, ?_⟩⟩
      · rw [upd_same]
        unfold bagKV
        rw [List.map_map, List.map_map]
        rfl
      · have s2 : Same H1 (upd H1 l (.lst ((bagKV c.bags).map (·.2)))) := same_upd nl
        have B2 := B1.same s2
        obtain ⟨ok2, ys, hy, py⟩ := B2.kept
        refine ⟨_, rfl, a, _, dx, _, _, rfl, B2.ob.2, T.c_Court, T.n_Court_kept, rfl, kL, rfl, ⟨_, SqL.of hy⟩, fun D2 hD2 => lc_list (xs := ys) (fun i H3 => Same (upd H1 l (.lst ((bagKV c.bags).map (·.2)))) H3 ∧ H3 D2 = some (.lst (((c.kept.take i).map fun b => b.2.am).map V.int))) ⟨same_upd hD2, upd_same⟩ (fun i H3 _ h3 => SqL.of (h3.1 _ _ hy)) (fun i x H3 hi h3 => ?_) (fun H3 h3 => ?_)⟩
        · obtain ⟨s3, ed2⟩ := h3
          obtain ⟨b, hb, p, q, rfl, hp, hq⟩ := paired_get py hi
          have k3 := Ks.same (K := K) s3
          refine ⟨p, _, rfl, k3 _ _ hp, rfl, _, _, rfl, _, _, rfl, rfl, rfl, _, rfl, q, _, _, _, rfl, rfl, k3 _ _ hq, rfl, _, ed2, slt ?_, fun b y z => ?_, ?_⟩
          · rw [List.length_map, List.length_map, List.length_take]
            have := ok.keptN
            have := ok.small
            have hlt := (List.getElem?_eq_some_iff.mp hb).1
            omega
          · rw [upd_ne (ne_of_none z hD2)]
            exact s3 _ _ z
          · rw [upd_same, take_succ_of hb, List.map_append, List.map_append]
            rfl
        · obtain ⟨s3, ed2⟩ := h3
          rw [paired_len py, List.take_length] at ed2
          refine ⟨D2, _, rfl, SqL.of ed2, _, _, rfl, rfl, h _ ((s1.trans s2).trans s3)⟩
end
end Cn
namespace Cn
open PySem PySem.Spec PyProof.Rows L2
section
variable {X : Cx} {k j : Nat} {f C : Addr} {ps : List Str} {sp : Sp} {x : Str} {p pos : Pos} {e : Expr} {es : List Expr} {t : TA}
theorem mkD (D : DefOk X.prog X.w X.K X.mg X.base CX0 k f ps sp) (M : Mk X.K C f) (hm : X.mg x = some (.ref C)) (hr : Room j X.A) (ha : PA X (e :: es) t) (hk : k + 1 ≤ j := by decide) (hg : Gl X x := by rfl)
    (hdb : (x == ("__debug__" : Str)) = false := by decide) (he : starEach (e :: es) X.env = (false, eval e X.env) :: starEach es X.env := by rfl) (hpl : (backTo pos (starEach es X.env)).any (·.1) = false := by rfl) :
    PE X (.Call (.Name x p) (e :: es) [] pos) (tMake C sp [] E0 t) := by
  obtain ⟨fd, F, b, kp⟩ := D
  exact pe_make M F (hr.mono hk) hg hm b .nil pass0 ha hdb he hpl
theorem mkD0 (D : DefOk X.prog X.w X.K X.mg X.base CX0 k f ps sp) (M : Mk X.K C f) (hm : X.mg x = some (.ref C)) (hr : Room j X.A) (hk : k + 1 ≤ j := by decide) (hg : Gl X x := by rfl)
    (hdb : (x == ("__debug__" : Str)) = false := by decide) : PE X (.Call (.Name x p) [] [] pos) (tMake C sp [] E0 tNil) := by
  obtain ⟨fd, F, b, kp⟩ := D
  exact pe_make0 M F (hr.mono hk) hg hm b .nil pass0 hdb
end
/-- the court as it stands, and what was done since -/
structure Cw (K : PySem.W.Frag) (t : Nat) (o0 : Own) (H0 : Hp) (o : Own) (H : Hp) (a sgA : Addr) (c : Ct) (dx bD lL sD kL dL : Addr) : Prop where
  ef : Ef K t o0 H0 o H
  d0 : Dom o0 H0
  dom : Dom o H
  b : CtB K t o H a sgA c dx bD lL sD kL dL
section
variable {K : PySem.W.Frag} {t : Nat} {o0 o : Own} {H0 H H' : Hp} {a sgA dx bD lL sD kL dL : Addr} {c : Ct}
theorem Cw.start (d : Dom o H) (b : CtB K t o H a sgA c dx bD lL sD kL dL) : Cw K t o H o H a sgA c dx bD lL sD kL dL := ⟨Ef.refl, d, d, b⟩
theorem Cw.same (w : Cw K t o0 H0 o H a sgA c dx bD lL sD kL dL) (s : Same H H') : Cw K t o0 H0 o H' a sgA c dx bD lL sD kL dL :=
  ⟨w.ef.trans (Ef.same s), w.d0, w.dom.same s, w.b.same s⟩
theorem n12 {t i j : Nat} (h : i ≠ j) : ((t, i) : Nat × Nat) ≠ (t, j) := fun e => h (congrArg Prod.snd e)
theorem Cw.setBags (w : Cw K t o0 H0 o H a sgA c dx bD lL sD kL dL) (b' : List Pay) : Cw K t o0 H0 o (L2.upd H bD (.dK (bagKV b'))) a sgA { c with bags := b' } dx bD lL sD kL dL := by
  obtain ⟨h1, h2⟩ := w.b.bags
  have k : Ks K H (L2.upd H bD (.dK (bagKV b'))) := Ks.updD h2
  have f : ∀ i, 1 ≠ i → Pk (t, i) o H o (L2.upd H bD (.dK (bagKV b'))) := fun i n => Pk.at h1 (n12 n)
  exact ⟨w.ef.trans (Ef.at h1 k), w.d0, w.dom.upd, f 0 (by decide) _ _ w.b.ob.1 w.b.ob.2, ⟨h1, upd_same⟩, lanesFx w.b.lanes (f 2 (by decide)) (f 3 (by decide)) k, seenFx w.b.seen (f 4 (by decide)) k, keptFx w.b.kept (f 5 (by decide)) k, deedsFx w.b.deeds (f 6 (by decide)) (f 7 (by decide)) k⟩
theorem Cw.own (w : Cw K t o0 H0 o H a sgA c dx bD lL sD kL dL) {p : Addr} {x : HO} (i : Nat) (n0 : H0 p = none) (hp : H p = some x) (n : o p = none) : Cw K t o0 H0 (take1 o p (t, i)) H a sgA c dx bD lL sD kL dL := by
  have f : ∀ i', Pk (t, i') o H (take1 o p (t, i)) H := fun i' => Pk.take n
  exact ⟨w.ef.take w.d0 n0, w.d0, w.dom.take hp, f 0 _ _ w.b.ob.1 w.b.ob.2, bagsFx w.b.bags (f 1), lanesFx w.b.lanes (f 2) (f 3) Ks.refl, seenFx w.b.seen (f 4) Ks.refl, keptFx w.b.kept (f 5) Ks.refl, deedsFx w.b.deeds (f 6) (f 7) Ks.refl⟩
theorem Cw.addLane (w : Cw K t o0 H0 o H a sgA c dx bD lL sD kL dL) {xs : List V} {v : V} {g : Ln} (hx : H lL = some (.lst xs)) (hv : IsLn K (t, 3) o H v g) (hn : v ∉ xs) : Cw K t o0 H0 o (L2.upd H lL (.lst (xs ++ [v]))) a sgA { c with lanes := c.lanes ++ [g] } dx bD lL sD kL dL := by
  obtain ⟨h1, xs', h2, nd, pr⟩ := w.b.lanes
  obtain rfl : xs = xs' := by
    rw [hx] at h2
    exact HO.lst.inj (Option.some.inj h2)
  have k : Ks K H (L2.upd H lL (.lst (xs ++ [v]))) := Ks.updL h2
  have f : ∀ i, 2 ≠ i → Pk (t, i) o H o (L2.upd H lL (.lst (xs ++ [v]))) := fun i n => Pk.at h1 (n12 n)
  refine ⟨w.ef.trans (Ef.at h1 k), w.d0, w.dom.upd, f 0 (by decide) _ _ w.b.ob.1 w.b.ob.2, bagsFx w.b.bags (f 1 (by decide)), ⟨h1, xs ++ [v], upd_same, ?_, ?_⟩, seenFx w.b.seen (f 4 (by decide)) k, keptFx w.b.kept (f 5 (by decide)) k, deedsFx w.b.deeds (f 6 (by decide)) (f 7 (by decide)) k⟩
  · refine List.nodup_append.mpr ⟨nd, List.nodup_cons.mpr ⟨List.not_mem_nil, .nil⟩, fun b hb b' hb' e => ?_⟩
    rw [List.mem_singleton.mp hb'] at e
    exact hn (e ▸ hb)
  · exact paired_app (paired_imp (fun _ _ y => IsLn.fx (f 3 (by decide)) k y) pr) (IsLn.fx (f 3 (by decide)) k hv)
theorem Cw.addDeed (w : Cw K t o0 H0 o H a sgA c dx bD lL sD kL dL) {xs : List V} {v : V} {d : Deed × List Pay} (hx : H dL = some (.lst xs)) (hv : IsRow K (t, 7) o H v d) : Cw K t o0 H0 o (L2.upd H dL (.lst (xs ++ [v]))) a sgA { c with deeds := c.deeds ++ [d] } dx bD lL sD kL dL := by
  obtain ⟨h1, xs', h2, pr⟩ := w.b.deeds
  obtain rfl : xs = xs' := by
    rw [hx] at h2
    exact HO.lst.inj (Option.some.inj h2)
  have k : Ks K H (L2.upd H dL (.lst (xs ++ [v]))) := Ks.updL h2
  have f : ∀ i, 6 ≠ i → Pk (t, i) o H o (L2.upd H dL (.lst (xs ++ [v]))) := fun i n => Pk.at h1 (n12 n)
  refine ⟨w.ef.trans (Ef.at h1 k), w.d0, w.dom.upd, f 0 (by decide) _ _ w.b.ob.1 w.b.ob.2, bagsFx w.b.bags (f 1 (by decide)), lanesFx w.b.lanes (f 2 (by decide)) (f 3 (by decide)) k, seenFx w.b.seen (f 4 (by decide)) k, keptFx w.b.kept (f 5 (by decide)) k, ⟨h1, xs ++ [v], upd_same, ?_⟩⟩
  exact paired_app (paired_imp (fun _ _ y => IsRow.fx (f 7 (by decide)) k y) pr) (IsRow.fx (f 7 (by decide)) k hv)
/-- the court's own fields: the clock, the list of held locks -/
theorem Cw.setOb (w : Cw K t o0 H0 o H a sgA c dx bD lL sD kL dL) (cl : Int) (l : Addr) (ks : List HL) (hl : o l = some (t, 5) ∧ ∃ xs, H l = some (.lst xs) ∧ Paired (IsHL K H) xs ks) :
    Cw K t o0 H0 o (L2.upd H a (.ins (He.ga K "Court") dx (ctF sgA bD lL sD l dL c.long cl))) a sgA { c with clock := cl, kept := ks } dx bD lL sD l dL := by
  obtain ⟨h1, h2⟩ := w.b.ob
  have k : Ks K H (L2.upd H a (.ins (He.ga K "Court") dx (ctF sgA bD lL sD l dL c.long cl))) := Ks.updI h2
  have f : ∀ i, 0 ≠ i → Pk (t, i) o H o (L2.upd H a (.ins (He.ga K "Court") dx (ctF sgA bD lL sD l dL c.long cl))) := fun i n => Pk.at h1 (n12 n)
  exact ⟨w.ef.trans (Ef.at h1 k), w.d0, w.dom.upd, ⟨h1, upd_same⟩, bagsFx w.b.bags (f 1 (by decide)), lanesFx w.b.lanes (f 2 (by decide)) (f 3 (by decide)) k, seenFx w.b.seen (f 4 (by decide)) k, keptFx hl (f 5 (by decide)) k, deedsFx w.b.deeds (f 6 (by decide)) (f 7 (by decide)) k⟩
theorem paired_memL {A B : Type} {R : A → B → Prop} : ∀ {xs : List A} {ys : List B}, Paired R xs ys → Paired (fun x y => R x y ∧ x ∈ xs) xs ys
  | _, _, .nil => .nil
  | _, _, .cons a r => .cons ⟨a, List.mem_cons_self⟩ (paired_imp (fun _ _ z => ⟨z.1, List.mem_cons_of_mem _ z.2⟩) (paired_memL r))
theorem paired_set {A B : Type} {R R' : A → B → Prop} (v : A) (y' : B) (hr : ∀ x y, x ≠ v → R x y → R' x y) (hv : R' v y') : ∀ {xs : List A} {ys : List B} {i : Nat}, Paired R xs ys → xs.Nodup → xs[i]? = some v → Paired R' xs (ys.set i y')
  | _, _, _, .nil, _, h => by simp at h
  | _, _, 0, .cons a r, nd, h => by
    obtain rfl := Option.some.inj h
    have nd' := List.nodup_cons.mp nd
    refine .cons hv ?_
    have := paired_memL r
    exact paired_imp (fun x y z => hr x y (fun e => nd'.1 (e ▸ z.2)) z.1) this
  | _, _, i + 1, .cons (a := x) a r, nd, h => by
    have nd' := List.nodup_cons.mp nd
    have h' : _ := h
    rw [List.getElem?_cons_succ] at h'
    exact .cons (hr _ _ (fun e => nd'.1 (e ▸ List.mem_of_getElem? h')) a) (paired_set v y' hr hv r nd'.2 h')
theorem Cw.setLane (w : Cw K t o0 H0 o H a sgA c dx bD lL sD kL dL) {xs : List V} {i : Nat} {p dp q : Addr} {f st : V} {g : Ln} {u : HO} (hx : H lL = some (.lst xs)) (hi : xs[i]? = some (.ref p)) (op : o p = some (t, 3)) (hp : H p = some u) (hu : ∃ C d fs, u = .ins C d fs)
    (hq : SqT K H q [.str g.l, .str g.r]) (hf : IsST K H f g.first) (hst : IsST K H st g.standing) :
    Cw K t o0 H0 o (L2.upd H p (.ins (He.ga K "Lane") dp (lnF q f st g.mood g.ending))) a sgA { c with lanes := c.lanes.set i g } dx bD lL sD kL dL := by
  obtain ⟨h1, xs', h2, nd, pr⟩ := w.b.lanes
  obtain rfl : xs = xs' := by
    rw [hx] at h2
    exact HO.lst.inj (Option.some.inj h2)
  obtain ⟨C, d, fs, rfl⟩ := hu
  have k : Ks K H (L2.upd H p (.ins (He.ga K "Lane") dp (lnF q f st g.mood g.ending))) := Ks.updI hp
  have F : ∀ i, 3 ≠ i → Pk (t, i) o H o (L2.upd H p (.ins (He.ga K "Lane") dp (lnF q f st g.mood g.ending))) := fun i n => Pk.at op (n12 n)
  refine ⟨w.ef.trans (Ef.at op k), w.d0, w.dom.upd, F 0 (by decide) _ _ w.b.ob.1 w.b.ob.2, bagsFx w.b.bags (F 1 (by decide)), ⟨h1, xs, (F 2 (by decide) _ _ h1 h2).2, nd, ?_⟩, seenFx w.b.seen (F 4 (by decide)) k, keptFx w.b.kept (F 5 (by decide)) k, deedsFx w.b.deeds (F 6 (by decide)) (F 7 (by decide)) k⟩
  refine paired_set (V.ref p) g (fun x y nx z => ?_) ?_ pr nd hi
  · obtain ⟨p', dp', q', a', b', rfl, op', hp', hq', hf', hs'⟩ := z
    refine ⟨p', dp', q', a', b', rfl, op', ?_, k _ _ hq', IsST.mono k hf', IsST.mono k hs'⟩
    rw [upd_ne (fun e => nx (by rw [e]))]
    exact hp'
  · exact ⟨p, dp, q, f, st, rfl, op, upd_same, k _ _ hq, IsST.mono k hf, IsST.mono k hst⟩
theorem Cw.addSeen (w : Cw K t o0 H0 o H a sgA c dx bD lL sD kL dL) {kvs : List (Key × V)} {s : Int} {e : Int × Int} {q : Addr} (hs : H sD = some (.dK kvs)) (hn : valV kvs (Sum.inl s) = none) (hq : SqT K H q [.int e.1, .int e.2]) :
    Cw K t o0 H0 o (L2.upd H sD (.dK (putK kvs (Sum.inl s) (.ref q)))) a sgA { c with seen := seenAdd c.seen s e } dx bD lL sD kL dL := by
  obtain ⟨h1, kvs', h2, pr⟩ := w.b.seen
  obtain rfl : kvs = kvs' := by
    rw [hs] at h2
    exact HO.dK.inj (Option.some.inj h2)
  have k : Ks K H (L2.upd H sD (.dK (putK kvs (Sum.inl s) (.ref q)))) := Ks.updD h2
  have f : ∀ i, 4 ≠ i → Pk (t, i) o H o (L2.upd H sD (.dK (putK kvs (Sum.inl s) (.ref q)))) := fun i n => Pk.at h1 (n12 n)
  refine ⟨w.ef.trans (Ef.at h1 k), w.d0, w.dom.upd, f 0 (by decide) _ _ w.b.ob.1 w.b.ob.2, bagsFx w.b.bags (f 1 (by decide)), lanesFx w.b.lanes (f 2 (by decide)) (f 3 (by decide)) k, ⟨h1, _, upd_same, ?_⟩, keptFx w.b.kept (f 5 (by decide)) k, deedsFx w.b.deeds (f 6 (by decide)) (f 7 (by decide)) k⟩
  have e1 : seenAt c.seen s = none := by
    rcases val_seen s pr with ⟨z, _⟩ | ⟨_, _, _, z, _⟩
    · exact z
    · rw [hn] at z
      cases z
  have e2 : putK kvs (Sum.inl s) (.ref q) = kvs ++ [(Sum.inl s, .ref q)] := by
    unfold putK
    have := valV_any (Sum.inl s : Key) kvs
    rw [hn] at this
    rw [if_neg (by rw [this]; exact Bool.false_ne_true)]
  have e3 : seenAdd c.seen s e = c.seen ++ [(s, e)] := by
    unfold seenAdd
    rw [e1]
  have last : IsSeen K (L2.upd H sD (.dK (putK kvs (Sum.inl s) (.ref q)))) (Sum.inl s, .ref q) (s, e) := ⟨rfl, q, rfl, k _ _ hq⟩
  have fin := paired_app (paired_imp (fun _ _ y => IsSeen.mono k y) pr) last
  rw [← e3, ← e2] at fin
  exact fin
end
end Cn
namespace Cn
open PySem PySem.Spec PyProof.Rows L2
def argsShow (d : Deed) (us : List V) (_ : Hp) : Prop := ∃ x, d = .shw x ∧ us = [.int x]
def spShow (P : Program) (w : World) (K : PySem.W.Frag) : Sp := spStep P w K argsShow (fun _ _ _ v _ _ => v = .non)
def spLaneOp (P : Program) (w : World) (K : PySem.W.Frag) : Sp := spStep P w K argsOp (fun c _ _ v _ _ => v = .int c.lanes.length)
theorem isRow_new {K : PySem.W.Frag} {u : Nat × Nat} {o : Own} {H : Hp} {p g l : Addr} {d : Deed} {ps : List Pay} (hp : SqT K H p [.ref g, .ref l]) (hd : IsDeed K H (.ref g) d) (hl : PaidAt K u o H l ps) : IsRow K u o H (.ref p) (d, ps) := ⟨p, .ref g, l, rfl, hp, hd, hl⟩
/-- a row is written down: its deed g and its new empty list l stand -/
theorem Cw.row {K : PySem.W.Frag} {t : Nat} {o0 o : Own} {H0 H : Hp} {a sgA dx bD lL sD kL dL : Addr} {c : Ct} {xs : List V} {g m r : Addr} {d : Deed} (w : Cw K t o0 H0 o H a sgA c dx bD lL sD kL dL) (hx : H dL = some (.lst xs)) (hd : IsDeed K H (.ref g) d)
    (hm : H m = none) (hr : upd H m (.lst []) r = none) :
    Cw K t o0 H0 (take1 o m (t, 7)) (upd (upd (upd H m (.lst [])) r (.tup [.ref g, .ref m])) dL (.lst (xs ++ [.ref r]))) a sgA { c with deeds := c.deeds ++ [(d, [])] } dx bD lL sD kL dL := by
  have s1 : Same H (upd H m (.lst [])) := same_upd hm
  have s2 : Same (upd H m (.lst [])) (upd (upd H m (.lst [])) r (.tup [.ref g, .ref m])) := same_upd hr
  have em : upd (upd H m (.lst [])) r (.tup [.ref g, .ref m]) m = some (.lst []) := s2 _ _ upd_same
  have w2 := ((w.same s1).same s2).own (p := m) 7 (w.ef.free hm) em (w.dom.free hm)
  refine w2.addDeed (xs := xs) (v := .ref r) (d := (d, [])) (s2 _ _ (s1 _ _ hx)) (isRow_new (SqT.of upd_same) (IsDeed.mono ((Ks.same s1).trans (Ks.same s2)) hd) ⟨take1_same, [], em, .nil⟩)
section
variable {P : Program} {w : World} {K : PySem.W.Frag} {mg : Str → Option Value} {base : Heap}
abbrev n_Court_show : List Str := ["self", "secret"]
theorem sc_Court_show : FnScope n_Court_show ["self", "secret"] (defScope s_Court_show) := ⟨rfl, rfl, rfl, by decide +kernel, rfl, by decide +kernel, by decide +kernel⟩
theorem ok_Court_show (T : Tx K mg) : DefOk P w K mg base CX0 4 (He.fAd K d_Court_show.at_) ["self", "secret"] (spShow P w K) := by
  refine mk0 (d := d_Court_show) T.f_Court_show rfl (fun _ _ _ _ _ _ us hl => match us, hl with | [_, _], _ => rfl) sc_Court_show (fun vs H Q E h => ?_) (fun cdv A outer s H vs Q E hr h => ?_)
  · obtain ⟨_, _, _, _, _, _, _, _, _, _, rfl, ⟨_, _, rfl⟩, _⟩ := h
    rfl
  · obtain ⟨t, o, a, sgA, sg, m, c, n, d, us, rfl, ⟨x, rfl, rfl⟩, dok, nt, dm, ⟨dx, bD, lL, sD, kL, dL, B⟩, hs, ok, h⟩ := h
    refine ⟨_, (pss_cons (ps_expr (pe_dsetd (pe_fld (pv 0) rfl) (cD (ok_seal_of T) T.g_seal_of hr (pa_cons (pv 1) pa_nil)) (pe_tup (pa_cons (pe_fld (pv 0) rfl) (pa_cons (pv 1) pa_nil))) ⟨rfl, rfl, rfl, rfl⟩))
      (pss_one (ps_expr (pe_bm PySem.F.plainAttrs_list PySem.F.slot_list_append PySem.F.type_list_append mt_append (pe_fld (pv 0) rfl) (pa_cons (pe_tup (pa_cons (pe_tup (pa_cons pe_str (pa_cons (pv 1) pa_nil))) (pa_cons (pe_lst pa_nil) pa_nil))) pa_nil))))), ?_⟩
    have W0 := Cw.start dm B
    obtain ⟨os, kvs, hk, pr⟩ := B.seen
    refine ⟨_, rfl, a, _, dx, _, _, rfl, B.ob.2, T.c_Court, T.n_Court_seen, rfl, sD, rfl, .inl ⟨kvs, .inl hk⟩, _, rfl, x, rfl, dok, _, rfl, a, _, dx, _, _, rfl, B.ob.2, T.c_Court, T.n_Court_clock, rfl, _, rfl, sl, fun q nq => ?_⟩
    have s1 : Same H (upd H q (.tup [.int c.clock, .int x])) := same_upd nq
    have W1 := W0.same s1
    have hk1 := s1 _ _ hk
    refine ⟨kvs, Sum.inl (3 * x + 17), hk1, rfl, slt (by have := paired_len pr; have := ok.seenN; have := ok.small; omega), fun v hv => ?_, fun hv => ?_⟩
    · have e : seenAdd c.seen (3 * x + 17) (c.clock, x) = c.seen := by
        rcases val_seen (3 * x + 17) pr with ⟨_, z⟩ | ⟨y, _, z, _⟩
        · rw [hv] at z
          cases z
        · unfold seenAdd
          rw [z]
      obtain ⟨od, ds, hdd, pd⟩ := W1.b.deeds
      have ld := paired_len pd
      refine ⟨_, rfl, a, _, dx, _, _, rfl, W1.b.ob.2, T.c_Court, T.n_Court_deeds, rfl, .inl ⟨rfl, _, SqL.of hdd⟩, _, rfl, sl, fun g ng => ⟨sl, fun mm nm => ⟨sl, fun r nr => ?_⟩⟩⟩
      have sg1 := same_upd (o := .tup [.str "show", .int x]) ng
      have W2 := W1.same sg1
      have R := W2.row (d := .shw x) (sg1 _ _ hdd) ⟨g, rfl, SqT.of upd_same⟩ nm nr
      refine ⟨dL, ds, _, rfl, rfl, (same_upd nr) _ _ ((same_upd nm) _ _ (sg1 _ _ hdd)), slt ?_, ?_⟩
      · have := ok.deedsN
        have := ok.small
        have : ds.length = c.deeds.length := ld
        omega
      · refine h _ _ _ R.ef R.dom ⟨dx, bD, lL, sD, kL, dL, ?_⟩ rfl
        have z := R.b
        have e2 : c.shwn x = { c with deeds := c.deeds ++ [(.shw x, [])] } := by
          unfold Ct.shwn
          rw [e]
        rw [e2]
        exact z
    · have W2' := W1.addSeen (e := (c.clock, x)) hk1 hv (SqT.of upd_same)
      obtain ⟨od, ds, hdd, pd⟩ := W2'.b.deeds
      have ld := paired_len pd
      refine ⟨_, rfl, a, _, dx, _, _, rfl, W2'.b.ob.2, T.c_Court, T.n_Court_deeds, rfl, .inl ⟨rfl, _, SqL.of hdd⟩, _, rfl, sl, fun g ng => ⟨sl, fun mm nm => ⟨sl, fun r nr => ?_⟩⟩⟩
      have sg1 := same_upd (o := .tup [.str "show", .int x]) ng
      have W3 := W2'.same sg1
      have R := W3.row (d := .shw x) (sg1 _ _ hdd) ⟨g, rfl, SqT.of upd_same⟩ nm nr
      refine ⟨dL, ds, _, rfl, rfl, (same_upd nr) _ _ ((same_upd nm) _ _ (sg1 _ _ hdd)), slt ?_, ?_⟩
      · have := ok.deedsN
        have := ok.small
        have : ds.length = c.deeds.length := ld
        omega
      · refine h _ _ _ R.ef R.dom ⟨dx, bD, lL, sD, kL, dL, ?_⟩ rfl
        exact R.b
end
end Cn
namespace Cn
open PySem PySem.Spec PyProof.Rows L2
section
variable {sg : Sg} {c : Ct} {l r : Str} {x y vl vr : Int}
theorem open_none (h : look c.bags l = none ∨ look c.bags r = none) : c.step sg (.op l r x y) = .error .hand := by
  simp only [Ct.step, Ct.open1]
  rcases h with h | h
  · rw [h]
  · rw [h]
    cases look c.bags l <;> rfl
theorem open_same (hl : look c.bags l = some vl) (hr : look c.bags r = some vr) (h : l = r) : c.step sg (.op l r x y) = .error .hand := by
  simp only [Ct.step, Ct.open1]
  rw [hl, hr]
  simp only
  rw [if_pos h]
theorem open_left (hl : look c.bags l = some vl) (hr : look c.bags r = some vr) (h : ¬ l = r) (k : x > vl) : c.step sg (.op l r x y) = .error .coins := by
  simp only [Ct.step, Ct.open1]
  rw [hl, hr]
  simp only
  rw [if_neg h, if_pos k]
theorem open_right (hl : look c.bags l = some vl) (hr : look c.bags r = some vr) (h : ¬ l = r) (k : ¬ x > vl) (k2 : y > vr) : c.step sg (.op l r x y) = .error .coins := by
  simp only [Ct.step, Ct.open1]
  rw [hl, hr]
  simp only
  rw [if_neg h, if_neg k, if_pos k2]
theorem open_zero (hl : look c.bags l = some vl) (hr : look c.bags r = some vr) (h : ¬ l = r) (k : ¬ x > vl) (k2 : ¬ y > vr) (k3 : x + y = 0) : c.step sg (.op l r x y) = .error .coins := by
  simp only [Ct.step, Ct.open1]
  rw [hl, hr]
  simp only
  rw [if_neg h, if_neg k, if_neg k2, if_pos k3]
theorem open_uns (hl : look c.bags l = some vl) (hr : look c.bags r = some vr) (h : ¬ l = r) (k : ¬ x > vl) (k2 : ¬ y > vr) (k3 : ¬ x + y = 0) (k4 : (sg l (Paper.op c.lanes.length l r x y).nk && sg r (Paper.op c.lanes.length l r x y).nk) = false) : c.step sg (.op l r x y) = .error .unsigned := by
  simp only [Ct.step, Ct.open1]
  rw [hl, hr]
  simp only
  rw [if_neg h, if_neg k, if_neg k2, if_neg k3, if_neg (by rw [k4]; exact Bool.false_ne_true)]
theorem open_ok (hl : look c.bags l = some vl) (hr : look c.bags r = some vr) (h : ¬ l = r) (k : ¬ x > vl) (k2 : ¬ y > vr) (k3 : ¬ x + y = 0) (k4 : (sg l (Paper.op c.lanes.length l r x y).nk && sg r (Paper.op c.lanes.length l r x y).nk) = true) : c.step sg (.op l r x y) = .ok (c.opened l r x y vl) := by
  simp only [Ct.step, Ct.open1]
  rw [hl, hr]
  simp only
  rw [if_neg h, if_neg k, if_neg k2, if_neg k3, if_pos k4]
end
theorem SgAt.ob {P : Program} {w : World} {K : PySem.W.Frag} {o : Own} {H : Hp} {a : Addr} {sg : Sg} {m : Nat} (s : SgAt P w K o H a sg m) : ∃ dx bD, H a = some (.ins (He.ga K "Signs") dx [("by_hand", .ref bD)]) := by
  obtain ⟨dx, bD, kvs, _, _, h, _⟩ := s.is
  exact ⟨dx, bD, h⟩
section
variable {P : Program} {w : World} {K : PySem.W.Frag} {mg : Str → Option Value} {base : Heap}
abbrev n_Court_lane : List Str := ["self", "left", "right", "left_coins", "right_coins", "hand", "number", "paper"]
theorem sc_Court_lane : FnScope n_Court_lane ["self", "left", "right", "left_coins", "right_coins"] (defScope s_Court_lane) := ⟨rfl, rfl, rfl, by decide +kernel, rfl, by decide +kernel, by decide +kernel⟩
theorem fn_Court_lane (T : Tx K mg) {fd : FuncData} (F : FnD K d_Court_lane fd) : FnOk P w K mg base (L2.CX P w) 7 (He.fAd K d_Court_lane.at_) fd ["self", "left", "right", "left_coins", "right_coins"] (spLaneOp P w K) := by
  refine fnX (d := d_Court_lane) F rfl sc_Court_lane (fun vs H Q E h => ?_) (fun cdv A outer s H vs Q E hr h => ?_)
  · obtain ⟨_, _, _, _, _, _, _, _, _, _, rfl, ⟨_, _, _, _, _, rfl⟩, _⟩ := h
    rfl
  · obtain ⟨t, o, a, sgA, sg, m, c, n, d, us, rfl, ⟨l, r, x, y, rfl, rfl⟩, ⟨nl, nr, hx0, hy0⟩, nt, dm, ⟨dx, bD, lL, sD, kL, dL, B⟩, hs, ok, h⟩ := h
    refine ⟨_, (pss_cons (ps_for (passes_of rfl) rfl (pi_tup (pe_tup (pa_cons (pv 1) (pa_cons (pv 2) pa_nil)))) (pg_name (i := 5) sc_Court_lane.nd rfl (.inl rfl)) (pss_one (ps_if (PW.pt (pw_or (pt_not (pt_val (cD (ok_is_name T) T.g_is_name hr (pa_cons (pv 5) pa_nil)))) (pw_or1 (pt_cmp (pc_dnotin (hu1 (hu_of hr)) (pv 5) (pe_fld (pv 0) rfl)))))) (pss_one (ps_raise rfl (takes_of rfl rfl rfl rfl) (pmk_own PySem.F.excBase_ValueError T.x_NoHand.1 T.g_NoHand T.x_NoHand.2.1 (raises_own T.x_NoHand.2.2.1 T.x_NoHand.2.2.2) rfl))) pss_nil)))
      (pss_cons (ps_if (pt_cmpR op_eq (pv 1) (pv 2) (nomark _)) (pss_one (ps_raise rfl (takes_of rfl rfl rfl rfl) (pmk_own PySem.F.excBase_ValueError T.x_NoHand.1 T.g_NoHand T.x_NoHand.2.1 (raises_own T.x_NoHand.2.2.1 T.x_NoHand.2.2.2) rfl))) pss_nil)
      (pss_cons (ps_expr (mS (ok_Court_look_coins T) (takes_of rfl rfl rfl rfl) T.c_Court T.m_Court_look_coins hr (pv 0) (pa_cons (pv 1) (pa_cons (pv 3) pa_nil))))
      (pss_cons (ps_expr (mS (ok_Court_look_coins T) (takes_of rfl rfl rfl rfl) T.c_Court T.m_Court_look_coins hr (pv 0) (pa_cons (pv 2) (pa_cons (pv 4) pa_nil))))
      (pss_cons (ps_if (pt_cmpR op_eq (pe_op op_add (pv 3) (pv 4)) pe_int (nomark _)) (pss_one (ps_raise rfl (takes_of rfl rfl rfl rfl) (pmk_own PySem.F.excBase_ValueError T.x_NoCoins.1 T.g_NoCoins T.x_NoCoins.2.1 (raises_own T.x_NoCoins.2.2.1 T.x_NoCoins.2.2.2) rfl))) pss_nil)
      (pss_cons (ps_set (i := 6) sc_Court_lane.nd rfl (.inl rfl) (pe_callB call_len_seq (by rfl) T.b_len PySem.boot_len (pa_cons (pe_fld (pv 0) rfl) pa_nil)))
      (pss_cons (ps_set (i := 7) sc_Court_lane.nd rfl (.inl rfl) (pe_tup (pa_cons pe_str (pa_cons (pv 6) (pa_cons (pv 1) (pa_cons (pv 2) (pa_cons (pv 3) (pa_cons (pv 4) pa_nil))))))))
      (pss_cons (ps_if (PW.pt (pw_or (pt_not (pt_val (mD (ok_Signs_signed T) (T.c_Signs) (T.m_Signs_signed) hr (pe_fld (pv 0) rfl) (pa_cons (pv 1) (pa_cons (pv 7) pa_nil))))) (pw_or1 (pt_not (pt_val (mD (ok_Signs_signed T) (T.c_Signs) (T.m_Signs_signed) hr (pe_fld (pv 0) rfl) (pa_cons (pv 2) (pa_cons (pv 7) pa_nil)))))))) (pss_one (ps_raise rfl (takes_of rfl rfl rfl rfl) (pmk_own PySem.F.excBase_ValueError T.x_NotSigned.1 T.g_NotSigned T.x_NotSigned.2.1 (raises_own T.x_NotSigned.2.2.1 T.x_NotSigned.2.2.2) rfl))) pss_nil)
      (pss_cons (ps_daug (hu1 (hu_of hr)) (pe_fld (pv 0) rfl) (pv 1) (pv 3) in_sub (fun _ _ _ => rfl))
      (pss_cons (ps_daug (hu1 (hu_of hr)) (pe_fld (pv 0) rfl) (pv 2) (pv 4) in_sub (fun _ _ _ => rfl))
      (pss_cons (ps_expr (pe_bm PySem.F.plainAttrs_list PySem.F.slot_list_append PySem.F.type_list_append mt_append (pe_fld (pv 0) rfl) (pa_cons (mkD (ok_Lane_init T) T.k_Lane T.g_Lane hr (pa_cons (pv 1) (pa_cons (pv 2) (pa_cons (cD (ok_first_state T) T.g_first_state hr (pa_cons (pv 6) (pa_cons (pv 3) (pa_cons (pv 4) pa_nil)))) pa_nil)))) pa_nil)))
      (pss_cons (ps_expr (pe_bm PySem.F.plainAttrs_list PySem.F.slot_list_append PySem.F.type_list_append mt_append (pe_fld (pv 0) rfl) (pa_cons (pe_tup (pa_cons (pe_tup (pa_cons pe_str (pa_cons (pv 1) (pa_cons (pv 2) (pa_cons (pv 3) (pa_cons (pv 4) pa_nil)))))) (pa_cons (pe_lst pa_nil) pa_nil))) pa_nil)))
      (pss_one (ps_ret (pv 6))))))))))))))), ?_⟩
    have W0 := Cw.start dm B
    refine ⟨_, rfl, _, rfl, sl, fun q nq => ?_⟩
    have s0 : Same H (upd H q (.tup [.str l, .str r])) := same_upd nq
    refine ⟨q, rfl, ⟨_, SqT.of upd_same⟩, for_tup (xs := [.str l, .str r]) (fun i σ H1 => Same (upd H q (.tup [.str l, .str r])) H1 ∧ (1 ≤ i → ∃ v, look c.bags l = some v) ∧ (2 ≤ i → ∃ v, look c.bags r = some v) ∧ ∃ hv, σ = [some (.ref a), some (.str l), some (.str r), some (.int x), some (.int y), hv, none, none]) ⟨Same.refl _, fun z => by omega, fun z => by omega, none, rfl⟩ (fun i σ H1 _ h1 => Ks.same h1.1 _ _ (SqT.of upd_same)) (fun i v σ H1 hi h1 => ?_) (fun σ H1 h1 => ?_)⟩
    · obtain ⟨s1, g1, g2, hv, rfl⟩ := h1
      have hz : ∃ z : Str, v = .str z ∧ NameOk z ∧ ((i = 0 ∧ z = l) ∨ (i = 1 ∧ z = r)) := by
        match i, hi with
        | 0, hi => exact ⟨l, (Option.some.inj hi).symm, nl, .inl ⟨rfl, rfl⟩⟩
        | 1, hi => exact ⟨r, (Option.some.inj hi).symm, nr, .inr ⟨rfl, rfl⟩⟩
      obtain ⟨z, rfl, nz, hz⟩ := hz
      refine ⟨_, rfl, z, rfl, nz, fun H2 s2 => ⟨true, rfl, iteF ?_⟩⟩
      have s02 := (s0.trans s1).trans s2
      have B2 := B.same s02
      cases e : look c.bags z with
      | none =>
        refine ⟨_, rfl, _, rfl, a, _, dx, _, _, rfl, B2.ob.2, T.c_Court, T.n_Court_bags, rfl, bD, _, rfl, DGet.k (k := Sum.inr z) B2.bags.2, _, rfl, ?_⟩
        rw [look_none_val e]
        refine iteT ?_
        rw [open_none (by rcases hz with ⟨_, rfl⟩ | ⟨_, rfl⟩; exact .inl e; exact .inr e)] at h
        exact h _ s02
      | some v =>
        refine ⟨_, rfl, _, rfl, a, _, dx, _, _, rfl, B2.ob.2, T.c_Court, T.n_Court_bags, rfl, bD, _, rfl, DGet.k (k := Sum.inr z) B2.bags.2, _, rfl, ?_⟩
        rw [look_some_val e]
        refine iteF ⟨s1.trans s2, fun hi1 => ?_, fun hi2 => ?_, _, rfl⟩
        · rcases hz with ⟨_, rfl⟩ | ⟨e1, rfl⟩
          · exact ⟨v, e⟩
          · exact g1 (by omega)
        · rcases hz with ⟨e0, rfl⟩ | ⟨e1, rfl⟩
          · omega
          · exact ⟨v, e⟩
    · obtain ⟨s1, g1, g2, hv, rfl⟩ := h1
      obtain ⟨vl, hl⟩ := g1 (by show 1 ≤ 2; decide)
      obtain ⟨vr, hrr⟩ := g2 (by show 2 ≤ 2; decide)
      have s01 := s0.trans s1
      have W1 := W0.same s01
      have B1 := W1.b
      refine ⟨_, rfl, _, rfl, rfl, _, rfl, ite2 (fun c1 => ?_) (fun c1 => ?_)⟩
      · rw [open_same hl hrr (V.str.inj (of_decide_eq_true c1))] at h
        exact h _ s01
      · have hne : ¬ l = r := fun z => c1 (decide_eq_true (congrArg V.str z))
        refine ⟨_, rfl, a, dx, _, rfl, B1.ob.2, rfl, _, rfl, _, rfl, a, dx, sgA, bD, lL, sD, kL, dL, _, _, _, l, x, vl, rfl, hx0, B1.ob.2, B1.bags.2, look_some_val hl, fun c2 => ?_, fun c2 => ?_⟩
        · have c2' : ¬ x > vl := by omega
          refine ⟨_, rfl, a, dx, _, rfl, B1.ob.2, rfl, _, rfl, _, rfl, a, dx, sgA, bD, lL, sD, kL, dL, _, _, _, r, y, vr, rfl, hy0, B1.ob.2, B1.bags.2, look_some_val hrr, fun c3 => ?_, fun c3 => ?_⟩
          · have c3' : ¬ y > vr := by omega
            refine ⟨_, rfl, _, rfl, _, _, rfl, rfl, rfl, _, rfl, ite2 (fun c4 => ?_) (fun c4 => ?_)⟩
            · rw [open_zero hl hrr hne c2' c3' (V.int.inj (of_decide_eq_true c4))] at h
              exact h _ s01
            · have c4' : ¬ x + y = 0 := fun z => c4 (decide_eq_true (congrArg V.int z))
              obtain ⟨oll, xs, hxs, nd, pr⟩ := B1.lanes
              have lx := paired_len pr
              refine ⟨_, rfl, a, _, dx, _, _, rfl, B1.ob.2, T.c_Court, T.n_Court_opened, rfl, lL, xs, rfl, .inl (SqL.of hxs), ?_⟩
              refine ⟨_, rfl, _, rfl, _, rfl, _, rfl, _, rfl, sl, fun pp npp => ?_⟩
              have s2 := same_upd (o := .tup [.str "open", .int xs.length, .str l, .str r, .int x, .int y]) npp
              have pk : IsPaper K (upd H1 pp (.tup [.str "open", .int xs.length, .str l, .str r, .int x, .int y])) (.ref pp) (.op c.lanes.length l r x y) := ⟨pp, rfl, by rw [← lx]; exact SqT.of upd_same⟩
              have pok : (Paper.op c.lanes.length l r x y).ok := ⟨by omega, nl, nr, hne, hx0, hy0, by omega⟩
              have W2 := W1.same s2
              have hs2 : SgAt P w K o (upd H1 pp (.tup [.str "open", .int xs.length, .str l, .str r, .int x, .int y])) sgA sg m := hs.fx (Fx.same (s01.trans s2))
              obtain ⟨dxS, bS, hob⟩ := hs2.ob
              refine ⟨_, rfl, a, _, dx, _, _, rfl, W2.b.ob.2, T.c_Court, T.n_Court_book, rfl, sgA, dxS, _, rfl, hob, rfl, _, rfl, _, rfl, o, sgA, sg, m, l, _, _, rfl, hs2, nl, pk, pok, fun H3 s3 => ⟨_, rfl, ?_⟩⟩
              have s012 := s01.trans s2
              have s03 := s012.trans s3
              cases e1 : sg l (Paper.op c.lanes.length l r x y).nk with
              | false =>
                refine iteT ?_
                rw [open_uns hl hrr hne c2' c3' c4' (by rw [e1]; rfl)] at h
                exact h _ s03
              | true =>
                refine iteF ?_
                have W3 := W2.same s3
                have hs3 := hs2.fx (Fx.same s3)
                obtain ⟨dxS3, bS3, hob3⟩ := hs3.ob
                refine ⟨_, rfl, a, _, dx, _, _, rfl, W3.b.ob.2, T.c_Court, T.n_Court_book, rfl, sgA, dxS3, _, rfl, hob3, rfl, _, rfl, _, rfl, o, sgA, sg, m, r, _, _, rfl, hs3, nr, IsPaper.mono (Ks.same s3) pk, pok, fun H4 s4 => ⟨_, rfl, ?_⟩⟩
                have s04 := s03.trans s4
                cases e2 : sg r (Paper.op c.lanes.length l r x y).nk with
                | false =>
                  refine iteT ?_
                  rw [open_uns hl hrr hne c2' c3' c4' (by rw [e1, e2]; rfl)] at h
                  exact h _ s04
                | true =>
                  refine iteF ?_
                  rw [open_ok hl hrr hne c2' c3' c4' (by rw [e1, e2]; rfl)] at h
                  have W4 := W3.same s4
                  have p1 := put_bag (i := vl - x) hl
                  refine ⟨_, rfl, a, _, dx, _, _, rfl, W4.b.ob.2, T.c_Court, T.n_Court_bags, rfl, _, rfl, bD, _, rfl, look_some_val hl ▸ DGet.k (k := Sum.inr l) W4.b.bags.2, _, rfl, _, _, rfl, rfl, _, DPut.k (k := Sum.inr l) W4.b.bags.2 (slt (by unfold bagKV; rw [List.length_map]; have := ok.bags; omega)), ?_⟩
                  rw [p1]
                  have W5 := W4.setBags (setBag c.bags l (vl - x))
                  have hr2 : look (setBag c.bags l (vl - x)) r = some vr := by rw [look_set, if_neg (fun z => hne z.symm), hrr]
                  have p2 := put_bag (i := vr - y) hr2
                  refine ⟨_, rfl, a, _, dx, _, _, rfl, W5.b.ob.2, T.c_Court, T.n_Court_bags, rfl, _, rfl, bD, _, rfl, look_some_val hr2 ▸ DGet.k (k := Sum.inr r) W5.b.bags.2, _, rfl, _, _, rfl, rfl, _, DPut.k (k := Sum.inr r) W5.b.bags.2 (slt (by unfold bagKV; rw [List.length_map, ← List.length_map (f := (·.1)), setBag_keys, List.length_map]; have := ok.bags; omega)), ?_⟩
                  rw [p2]
                  have W6 := W5.setBags (setBag (setBag c.bags l (vl - x)) r (vr - y))
                  generalize hH6 : upd (upd H4 bD (.dK (bagKV (setBag c.bags l (vl - x))))) bD (.dK (bagKV (setBag (setBag c.bags l (vl - x)) r (vr - y)))) = H6 at W6 ⊢
                  obtain ⟨ol6, ys, hy6, nd6, pr6⟩ := W6.b.lanes
                  refine ⟨_, rfl, a, _, dx, _, _, rfl, W6.b.ob.2, T.c_Court, T.n_Court_opened, rfl, .inl ⟨rfl, _, SqL.of hy6⟩, ?_⟩
                  refine ⟨_, rfl, _, rfl, _, rfl, _, rfl, _, rfl, _, _, _, rfl, fun H7 v7 s7 hv7 => ?_⟩
                  have W7 := W6.same s7
                  intro p dp np ndp ne
                  have a1 : upd (upd H7 dp (.own p)) p (.ins (He.ga K "Lane") dp []) p = some (.ins (He.ga K "Lane") dp []) := upd_same
                  have sA : Same H7 (upd H7 dp (.own p)) := same_upd ndp
                  have sB : Same (upd H7 dp (.own p)) (upd (upd H7 dp (.own p)) p (.ins (He.ga K "Lane") dp [])) := same_upd (by rw [upd_ne (fun z => ne z.symm)]; exact np)
                  refine ⟨p, dp, l, r, v7, rfl, a1, fun qq nqq => ⟨rfl, ?_⟩⟩
                  have npq : p ≠ qq := ne_of_none a1 nqq
                  have nqH7 : H7 qq = none := sA.free (sB.free nqq)
                  have sC : Same H7 (upd (upd (upd (upd H7 dp (.own p)) p (.ins (He.ga K "Lane") dp [])) qq (.tup [.str l, .str r])) p (.ins (He.ga K "Lane") dp (lnF qq v7 v7 "open" none))) := fun b z hz => by
                    rw [upd_ne (ne_of_none hz np)]
                    exact (same_upd nqq) _ _ (sB _ _ (sA _ _ hz))
                  have W8 := W7.same sC
                  have hp8 : (upd (upd (upd (upd H7 dp (.own p)) p (.ins (He.ga K "Lane") dp [])) qq (.tup [.str l, .str r])) p (.ins (He.ga K "Lane") dp (lnF qq v7 v7 "open" none))) p = some (.ins (He.ga K "Lane") dp (lnF qq v7 v7 "open" none)) := by rw [upd_same]
                  have hq8 : SqT K (upd (upd (upd (upd H7 dp (.own p)) p (.ins (He.ga K "Lane") dp [])) qq (.tup [.str l, .str r])) p (.ins (He.ga K "Lane") dp (lnF qq v7 v7 "open" none))) qq [.str l, .str r] := by
                    refine SqT.of ?_
                    rw [upd_ne (fun z => npq z.symm), upd_same]
                  have np6 : H p = none := W7.ef.free np
                  have W9 := W8.own (p := p) 3 np6 hp8 (W7.dom.free np)
                  have hl9 := (s7.trans sC) _ _ hy6
                  have lnp : IsLn K (t, 3) (take1 o p (t, 3)) (upd (upd (upd (upd H7 dp (.own p)) p (.ins (He.ga K "Lane") dp [])) qq (.tup [.str l, .str r])) p (.ins (He.ga K "Lane") dp (lnF qq v7 v7 "open" none))) (.ref p) ⟨l, r, ST.first c.lanes.length x y, ST.first c.lanes.length x y, "open", none⟩ := by
                    have hv8 : IsST K (upd (upd (upd (upd H7 dp (.own p)) p (.ins (He.ga K "Lane") dp [])) qq (.tup [.str l, .str r])) p (.ins (He.ga K "Lane") dp (lnF qq v7 v7 "open" none))) v7 (ST.first c.lanes.length x y) := by
                      have := IsST.mono (Ks.same sC) hv7
                      rw [lx] at this
                      exact this
                    exact ⟨p, dp, qq, v7, v7, rfl, take1_same, hp8, hq8, hv8, hv8⟩
                  have pni : V.ref p ∉ ys := fun hm => by
                    obtain ⟨i, hi⟩ := List.getElem?_of_mem hm
                    obtain ⟨g, _, p', _, _, _, _, e, _, hp', _⟩ := paired_get pr6 hi
                    obtain rfl := V.ref.inj e
                    rw [s7 _ _ hp'] at np
                    cases np
                  have W10 := W9.addLane hl9 lnp pni
                  refine ⟨lL, ys, _, rfl, rfl, hl9, slt ?_, ?_⟩
                  · have := paired_len pr6
                    have := ok.lanesN
                    have := ok.small
                    have : ys.length = c.lanes.length := by assumption
                    omega
                  · obtain ⟨od, ds, hdd, pd⟩ := W10.b.deeds
                    have ld := paired_len pd
                    refine ⟨_, rfl, a, _, dx, _, _, rfl, W10.b.ob.2, T.c_Court, T.n_Court_deeds, rfl, .inl ⟨rfl, _, SqL.of hdd⟩, _, rfl, _, rfl, _, rfl, _, rfl, sl, fun gg ng => ⟨sl, fun mm nm => ⟨sl, fun rr nrr => ?_⟩⟩⟩
                    have sg1 := same_upd (o := .tup [.str "open", .str l, .str r, .int x, .int y]) ng
                    have W11 := W10.same sg1
                    have R := W11.row (d := .op l r x y) (sg1 _ _ hdd) ⟨gg, rfl, SqT.of upd_same⟩ nm nrr
                    refine ⟨dL, ds, _, rfl, rfl, (same_upd nrr) _ _ ((same_upd nm) _ _ (sg1 _ _ hdd)), slt ?_, ?_⟩
                    · have := ok.deedsN
                      have := ok.small
                      have : ds.length = c.deeds.length := ld
                      omega
                    · refine ⟨_, rfl, ?_⟩
                      refine h _ _ _ R.ef R.dom ⟨dx, bD, lL, sD, kL, dL, ?_⟩ (by rw [lx])
                      have e3 : (look (setBag c.bags l (vl - x)) r).getD 0 = vr := by rw [hr2]; rfl
                      have z := R.b
                      unfold Ct.opened
                      simp only [e3]
                      exact z
          · rw [open_right hl hrr hne c2' c3] at h
            exact h _ s01
        · rw [open_left hl hrr hne c2] at h
          exact h _ s01
end
end Cn
namespace Cn
open PySem PySem.Spec PyProof.Rows L2
section
variable {sg : Sg} {c : Ct} {s : ST} {g : Ln}
theorem tell_none (h : c.lanes[s.ln.toNat]? = none) : c.step sg (.tell s) = .error .lane := by
  simp only [Ct.step, Ct.tell1]
  rw [h]
theorem tell_settled (h : c.lanes[s.ln.toNat]? = some g) (k : g.mood = "settled") : c.step sg (.tell s) = .error .settled := by
  simp only [Ct.step, Ct.tell1]
  rw [h]
  simp only
  rw [if_pos k]
def unsd (sg : Sg) (s : ST) (g : Ln) : Bool := !PyData.eqv s.data g.first.data && (decide (s.worth ≠ g.first.worth) || !(sg g.l s.nk && sg g.r s.nk))
theorem tell_uns (h : c.lanes[s.ln.toNat]? = some g) (k : ¬ g.mood = "settled") (k2 : unsd sg s g = true) : c.step sg (.tell s) = .error .unsigned := by
  simp only [Ct.step, Ct.tell1]
  rw [h]
  simp only
  unfold unsd at k2
  rw [if_neg k, if_pos k2]
theorem tell_old (h : c.lanes[s.ln.toNat]? = some g) (k : ¬ g.mood = "settled") (k2 : unsd sg s g = false) (k3 : g.mood = "closing" ∧ s.nu ≤ g.standing.nu) : c.step sg (.tell s) = .error .old := by
  simp only [Ct.step, Ct.tell1]
  rw [h]
  simp only
  unfold unsd at k2
  rw [if_neg k, if_neg (by rw [k2]; exact Bool.false_ne_true), if_pos k3]
theorem tell_ok (h : c.lanes[s.ln.toNat]? = some g) (k : ¬ g.mood = "settled") (k2 : unsd sg s g = false) (k3 : ¬ (g.mood = "closing" ∧ s.nu ≤ g.standing.nu)) : c.step sg (.tell s) = .ok (c.told s g) := by
  simp only [Ct.step, Ct.tell1]
  rw [h]
  simp only
  unfold unsd at k2
  rw [if_neg k, if_neg (by rw [k2]; exact Bool.false_ne_true), if_neg k3]
end
/-! ### data that == takes -/
def FineD (n : Nat) (d : PyData) : Prop := d.canLay0 = true ∧ d.depth ≤ n
theorem fine_all {A : Type} {n : Nat} {f : A → PyData} : ∀ {as : List A}, (∀ a ∈ as, FineD n (f a)) → PyData.canLayAll0 (as.map f) = true ∧ PyData.depthAll (as.map f) ≤ n
  | [], _ => ⟨by simp [PyData.canLayAll0], by simp [PyData.depthAll]⟩
  | a :: r, h => by
    obtain ⟨h1, h2⟩ := fine_all (as := r) fun b hb => h b (List.mem_cons_of_mem _ hb)
    obtain ⟨k1, k2⟩ := h a List.mem_cons_self
    constructor
    · simp [PyData.canLayAll0, h1, k1]
    · simp only [List.map_cons, PyData.depthAll]
      omega
theorem strOk_name {z : Str} (h : NameOk z) : PyData.strOk z = true := by
  unfold PyData.strOk
  rw [← Array.all_toList, List.all_eq_true]
  intro c hc
  have h2 := h.2.2 c hc
  have h3 : ∀ c ∈ ("abcdefghijklmnopqrstuvwxyz" : Str).cps.toList, decide (c < 0x110000) = true := by decide +kernel
  exact h3 c h2
theorem fine_lk {k : LK} (h : k.ok) : FineD 1 k.data := by
  have e : PyData.strOk k.gv = true := by
    rcases h.2.1 with e | e <;> (rw [e]; decide +kernel)
  constructor
  · simp [LK.data, PyData.canLay0, PyData.canLayAll0, e]
  · simp [LK.data, PyData.depth, PyData.depthAll]
theorem fine_st {s : ST} (h : s.ok) : FineD 3 s.data := by
  obtain ⟨h1, h2⟩ := fine_all (as := s.lks) (f := LK.data) fun k hk => fine_lk (h.lk k hk)
  constructor
  · simp [ST.data, PyData.canLay0, PyData.canLayAll0, h1]
  · simp only [ST.data, PyData.depth, PyData.depthAll]
    omega
theorem st_shaped {s : ST} (h : s.ok) : SeqAt.shaped s.data = true := by
  obtain ⟨h1, h2⟩ := fine_st h
  unfold SeqAt.shaped
  rw [h1, decide_eq_true (by omega)]
  rfl
def argsTell (K : PySem.W.Frag) (d : Deed) (us : List V) (H : Hp) : Prop := ∃ s v, d = .tell s ∧ us = [v] ∧ IsST K H v s
def spTell (P : Program) (w : World) (K : PySem.W.Frag) : Sp := spStep P w K (argsTell K) (fun _ _ _ v _ _ => v = .non)
section
variable {P : Program} {w : World} {K : PySem.W.Frag} {mg : Str → Option Value} {base : Heap}
abbrev n_Court_tell : List Str := ["self", "state", "road", "signed", "hand"]
theorem sc_Court_tell : FnScope n_Court_tell ["self", "state"] (defScope s_Court_tell) := ⟨rfl, rfl, rfl, by decide +kernel, rfl, by decide +kernel, by decide +kernel⟩
theorem ok_Court_tell (T : Tx K mg) : DefOk P w K mg base (L2.CX P w) 7 (He.fAd K d_Court_tell.at_) ["self", "state"] (spTell P w K) := by
  refine mkX (d := d_Court_tell) T.f_Court_tell rfl (fun _ _ _ _ _ _ us hl => match us, hl with | [_, _], _ => rfl) sc_Court_tell (fun vs H Q E h => ?_) (fun cdv A outer s H vs Q E hr h => ?_)
  · obtain ⟨_, _, _, _, _, _, _, _, _, _, rfl, ⟨_, _, _, rfl, _⟩, _⟩ := h
    rfl
  · obtain ⟨t, o, a, sgA, sg, m, c, n, d, us, rfl, ⟨s, v, rfl, rfl, hv⟩, dok, nt, dm, ⟨dx, bD, lL, sD, kL, dL, B⟩, hs, ok, h⟩ := h
    refine ⟨_, (pss_cons (ps_if (pt_not (pt_val (cD (ok_is_state T) T.g_is_state hr (pa_cons (pv 1) pa_nil)))) (pss_one ps_never) pss_nil)
      (pss_cons (ps_set (i := 2) sc_Court_tell.nd rfl (.inl rfl) (mS (ok_Court_road T) (takes_of rfl rfl rfl rfl) T.c_Court T.m_Court_road hr (pv 0) (pa_cons (pe_ix ix_tup (pv 1) pe_int (fun _ _ => rfl)) pa_nil)))
      (pss_cons (ps_if (pt_cmpR op_eq (pe_fld (pv 2) rfl) pe_str (nomark _)) (pss_one (ps_raise rfl (takes_of rfl rfl rfl rfl) (pmk_own PySem.F.excBase_ValueError T.x_Settled.1 T.g_Settled T.x_Settled.2.1 (raises_own T.x_Settled.2.2.1 T.x_Settled.2.2.2) rfl))) pss_nil)
      (pss_cons (ps_if (pt_cmpR (op_neD hr.units) (pv 1) (pe_fld (pv 2) rfl) (nomark _)) (pss_cons (ps_set (i := 3) sc_Court_tell.nd rfl (.inl rfl) (pe_callB (cr_all rfl) (by rfl) T.b_all (by decide +kernel) (pa_cons (pe_lc (own := [("hand", 4)]) (tt := tYes) rfl sc_Court_tell.nd (pi_tup (pe_fld (pv 2) rfl)) (blkOk_by (own := [("hand", 4)]) (N := n_Court_tell) (sc := defScope s_Court_tell) (by decide +kernel)) (fun _ _ _ _ _ => (pg_name (i := 4) sc_Court_tell.nd rfl (.inl rfl))) (fun _ _ _ _ _ => pts_nil) (fun _ _ _ _ _ => (mD (ok_Signs_signed (P := P) (w := w) (base := base) T) (T.c_Signs) (T.m_Signs_signed) hr (pe_fldK (K := K) (pv 0) rfl) (pa_cons (pv 4) (pa_cons (pv 1) pa_nil))))) pa_nil)))
      (pss_one (ps_if (PW.pt (pw_or (pt_cmpR op_ne (cD (ok_worth T) T.g_worth hr (pa_cons (pv 1) pa_nil)) (cD (ok_worth T) T.g_worth hr (pa_cons (pe_fld (pv 2) rfl) pa_nil)) (nomark _)) (pw_or1 (pt_not (pt_val (pv 3)))))) (pss_one (ps_raise rfl (takes_of rfl rfl rfl rfl) (pmk_own PySem.F.excBase_ValueError T.x_NotSigned.1 T.g_NotSigned T.x_NotSigned.2.1 (raises_own T.x_NotSigned.2.2.1 T.x_NotSigned.2.2.2) rfl))) pss_nil))) pss_nil)
      (pss_cons (ps_if (PW.pt (pw_and (pt_cmpR op_eq (pe_fld (pv 2) rfl) pe_str (nomark _)) (pw_and1 (pt_cmpR op_le (pe_ix ix_tup (pv 1) pe_int (fun _ _ => rfl)) (pe_ix ix_tup (pe_fld (pv 2) rfl) pe_int (fun _ _ => rfl)) (nomark _))))) (pss_one (ps_raise rfl (takes_of rfl rfl rfl rfl) (pmk_own PySem.F.excBase_ValueError T.x_Old.1 T.g_Old T.x_Old.2.1 (raises_own T.x_Old.2.2.1 T.x_Old.2.2.2) rfl))) pss_nil)
      (pss_cons (ps_if (pt_cmpR op_eq (pe_fld (pv 2) rfl) pe_str (nomark _)) (pss_cons (ps_fld (pv 2) pe_str rfl)
      (pss_one (ps_fld (pv 2) (pe_op op_add (pe_fld (pv 0) rfl) (pe_fld (pv 0) rfl)) rfl))) pss_nil)
      (pss_cons (ps_fld (pv 2) (pv 1) rfl)
      (pss_one (ps_expr (pe_bm PySem.F.plainAttrs_list PySem.F.slot_list_append PySem.F.type_list_append mt_append (pe_fld (pv 0) rfl) (pa_cons (pe_tup (pa_cons (pe_tup (pa_cons pe_str (pa_cons (pv 1) pa_nil))) (pa_cons (pe_lst pa_nil) pa_nil))) pa_nil))))))))))), ?_⟩
    have W0 := Cw.start dm B
    refine ⟨_, rfl, _, s, rfl, hv, dok, fun H1 s1 => ⟨true, rfl, iteF ?_⟩⟩
    have W1 := W0.same s1
    have hv1 := IsST.mono (Ks.same s1) hv
    obtain ⟨va, vb, vxs, rfl, hq, hb, hp⟩ := id hv1
    obtain ⟨oll, xs, hxs, nd, pr⟩ := W1.b.lanes
    refine ⟨_, rfl, a, dx, _, rfl, W1.b.ob.2, rfl, _, rfl, va, _, _, _, rfl, rfl, hq, rfl, a, dx, sgA, bD, lL, sD, kL, dL, _, _, xs, s.ln, rfl, dok.ln, W1.b.ob.2, hxs, fun u hu => ?_, fun hn => ?_⟩
    · obtain ⟨g, hg, p, dp, q, f, st, rfl, op, hlp, hqq, hf, hst⟩ := paired_get pr hu
      have gok := ok.lane g (List.mem_of_getElem? hg)
      refine ⟨_, rfl, p, _, dp, _, _, rfl, hlp, T.c_Lane, T.n_Lane_mood, rfl, rfl, _, rfl, ite2 (fun c1 => ?_) (fun c1 => ?_)⟩
      · rw [tell_settled hg (V.str.inj (of_decide_eq_true c1))] at h
        exact h _ s1
      · have m1 : ¬ g.mood = "settled" := fun z => c1 (decide_eq_true (congrArg V.str z))
        refine ⟨_, rfl, _, rfl, p, _, dp, _, _, rfl, hlp, T.c_Lane, T.n_Lane_first, rfl, s.data, g.first.data, hv1.dp, hf.dp, st_shaped dok, st_shaped gok.1, _, rfl, ?_⟩
        cases ee : PyData.eqv s.data g.first.data with
        | true =>
          refine iteF ?_
          have us : unsd sg s g = false := by unfold unsd; rw [ee]; rfl
          have s12 : Same H1 H1 := Same.refl _
          have W2 := W1.same s12
          have hlp2 := s12 _ _ hlp
          have hx2 := s12 _ _ hxs
          have k12 := Ks.same (K := K) s12
          have hqq2 := k12 _ _ hqq
          have hf2 := IsST.mono k12 hf
          have hst2 := IsST.mono k12 hst
          have hv2 := IsST.mono k12 hv1
          have hq2 := k12 _ _ hq
          have sF := s1.trans s12
          refine ⟨_, rfl, p, _, dp, _, _, rfl, hlp2, T.c_Lane, T.n_Lane_mood, rfl, rfl, _, rfl, ite2 (fun cm => ?_) (fun cm => ?_)⟩
          · have mc : g.mood = "closing" := V.str.inj (of_decide_eq_true cm)
            have mo : ¬ g.mood = "open" := fun z => absurd (mc.symm.trans z) (by decide)
            obtain ⟨sa, sb, sxs, rfl, hsq, _, _⟩ := id hst2
            refine ⟨_, rfl, va, _, _, _, rfl, rfl, hq2, rfl, _, rfl, p, _, dp, _, _, rfl, hlp2, T.c_Lane, T.n_Lane_standing, rfl, sa, _, _, _, rfl, rfl, hsq, rfl, _, _, rfl, rfl, _, rfl, ite2 (fun co => ?_) (fun co => ?_)⟩
            · rw [tell_old hg m1 us ⟨mc, of_decide_eq_true co⟩] at h
              exact h _ sF
            · have nold : ¬ (g.mood = "closing" ∧ s.nu ≤ g.standing.nu) := fun z => co (decide_eq_true z.2)
              refine ⟨_, rfl, p, _, dp, _, _, rfl, hlp2, T.c_Lane, T.n_Lane_mood, rfl, rfl, _, rfl, iFe (decide_eq_false fun z => mo (V.str.inj z)) ?_⟩
              have hxb := hx2
              refine ⟨_, rfl, _, rfl, p, _, dp, _, rfl, hlp2, T.c_Lane, T.n_Lane_standing, lt1k, ?_⟩
              have wc := W2.setLane (dp := dp) (g := { g with standing := s }) hx2 hu op hlp2 ⟨_, _, _, rfl⟩ hqq2 hf2 hv2
              have kv := Ks.updI (K := K) (u := HO.ins (He.ga K "Lane") dp (lnF q f (.ref va) g.mood g.ending)) hlp2
              have hvc := IsST.mono kv hv2
              obtain ⟨od, ds, hdd, pd⟩ := wc.b.deeds
              have ld := paired_len pd
              refine ⟨_, rfl, a, _, dx, _, _, rfl, wc.b.ob.2, T.c_Court, T.n_Court_deeds, rfl, .inl ⟨rfl, _, SqL.of hdd⟩, _, rfl, sl, fun gg ng => ⟨sl, fun mm nm => ⟨sl, fun rr nrr => ?_⟩⟩⟩
              have sg1 := same_upd (o := .tup [.str "tell", .ref va]) ng
              have wd := wc.same sg1
              have R := wd.row (d := .tell s) (sg1 _ _ hdd) ⟨gg, _, rfl, SqT.of upd_same, IsST.mono (Ks.same sg1) hvc⟩ nm nrr
              refine ⟨dL, ds, _, rfl, rfl, (same_upd nrr) _ _ ((same_upd nm) _ _ (sg1 _ _ hdd)), slt ?_, ?_⟩
              · have := ok.deedsN
                have := ok.small
                have : ds.length = c.deeds.length := ld
                omega
              · rw [tell_ok hg m1 us nold] at h
                refine h _ _ _ R.ef R.dom ⟨dx, bD, lL, sD, kL, dL, ?_⟩ rfl
                have z := R.b
                unfold Ct.told
                rw [if_neg mo, if_neg mo]
                exact z
          · have nmc : ¬ g.mood = "closing" := fun z => cm (decide_eq_true (congrArg V.str z))
            have nold : ¬ (g.mood = "closing" ∧ s.nu ≤ g.standing.nu) := fun z => nmc z.1
            refine ⟨_, rfl, p, _, dp, _, _, rfl, hlp2, T.c_Lane, T.n_Lane_mood, rfl, rfl, _, rfl, ite2 (fun ca => ?_) (fun ca => ?_)⟩
            · have mo : g.mood = "open" := V.str.inj (of_decide_eq_true ca)
              have wa := W2.setLane (dp := dp) (g := { g with mood := "closing" }) hx2 hu op hlp2 ⟨_, _, _, rfl⟩ hqq2 hf2 hst2
              refine ⟨_, rfl, p, _, dp, _, rfl, hlp2, T.c_Lane, T.n_Lane_mood, lt1k, ?_⟩
              have hxa := (Pk.at (x := HO.ins (He.ga K "Lane") dp (lnF q f st "closing" g.ending)) op (n12 (by decide)) lL _ oll hx2).2
              refine ⟨_, rfl, a, _, dx, _, _, rfl, wa.b.ob.2, T.c_Court, T.n_Court_clock, rfl, _, rfl, a, _, dx, _, _, rfl, wa.b.ob.2, T.c_Court, T.n_Court_long, rfl, _, _, rfl, rfl, _, rfl, p, _, dp, _, rfl, upd_same, T.c_Lane, T.n_Lane_ending, lt1k, ?_⟩
              have wb := wa.setLane (dp := dp) (g := { g with mood := "closing", ending := some (c.clock + c.long) }) hxa hu op upd_same ⟨_, _, _, rfl⟩ (Ks.updI hlp2 _ _ hqq2) (IsST.mono (Ks.updI hlp2) hf2) (IsST.mono (Ks.updI hlp2) hst2)
              have hxb := (Pk.at (x := HO.ins (He.ga K "Lane") dp (lnF q f st "closing" (some (c.clock + c.long)))) op (n12 (by decide)) lL _ oll hxa).2
              have kk := Ks.trans (Ks.updI (K := K) (u := HO.ins (He.ga K "Lane") dp (lnF q f st "closing" g.ending)) hlp2) (Ks.updI (K := K) (u := HO.ins (He.ga K "Lane") dp (lnF q f st "closing" (some (c.clock + c.long)))) upd_same)
              refine ⟨_, rfl, _, rfl, p, _, dp, _, rfl, upd_same, T.c_Lane, T.n_Lane_standing, lt1k, ?_⟩
              have wc := wb.setLane (dp := dp) (g := { g with mood := "closing", ending := some (c.clock + c.long), standing := s }) hxb hu op upd_same ⟨_, _, _, rfl⟩ (kk _ _ hqq2) (IsST.mono kk hf2) (IsST.mono kk hv2)
              have kv := kk.trans (Ks.updI (K := K) (u := HO.ins (He.ga K "Lane") dp (lnF q f (.ref va) "closing" (some (c.clock + c.long)))) upd_same)
              have hvc := IsST.mono kv hv2
              obtain ⟨od, ds, hdd, pd⟩ := wc.b.deeds
              have ld := paired_len pd
              refine ⟨_, rfl, a, _, dx, _, _, rfl, wc.b.ob.2, T.c_Court, T.n_Court_deeds, rfl, .inl ⟨rfl, _, SqL.of hdd⟩, _, rfl, sl, fun gg ng => ⟨sl, fun mm nm => ⟨sl, fun rr nrr => ?_⟩⟩⟩
              have sg1 := same_upd (o := .tup [.str "tell", .ref va]) ng
              have wd := wc.same sg1
              have R := wd.row (d := .tell s) (sg1 _ _ hdd) ⟨gg, _, rfl, SqT.of upd_same, IsST.mono (Ks.same sg1) hvc⟩ nm nrr
              refine ⟨dL, ds, _, rfl, rfl, (same_upd nrr) _ _ ((same_upd nm) _ _ (sg1 _ _ hdd)), slt ?_, ?_⟩
              · have := ok.deedsN
                have := ok.small
                have : ds.length = c.deeds.length := ld
                omega
              · rw [tell_ok hg m1 us (by rw [mo]; exact fun z => absurd z.1 (by decide))] at h
                refine h _ _ _ R.ef R.dom ⟨dx, bD, lL, sD, kL, dL, ?_⟩ rfl
                have z := R.b
                simp only [List.set_set] at z
                unfold Ct.told
                rw [if_pos mo, if_pos mo]
                exact z
            · have mo : ¬ g.mood = "open" := fun z => ca (decide_eq_true (congrArg V.str z))
              have hxb := hx2
              refine ⟨_, rfl, _, rfl, p, _, dp, _, rfl, hlp2, T.c_Lane, T.n_Lane_standing, lt1k, ?_⟩
              have wc := W2.setLane (dp := dp) (g := { g with standing := s }) hx2 hu op hlp2 ⟨_, _, _, rfl⟩ hqq2 hf2 hv2
              have kv := Ks.updI (K := K) (u := HO.ins (He.ga K "Lane") dp (lnF q f (.ref va) g.mood g.ending)) hlp2
              have hvc := IsST.mono kv hv2
              obtain ⟨od, ds, hdd, pd⟩ := wc.b.deeds
              have ld := paired_len pd
              refine ⟨_, rfl, a, _, dx, _, _, rfl, wc.b.ob.2, T.c_Court, T.n_Court_deeds, rfl, .inl ⟨rfl, _, SqL.of hdd⟩, _, rfl, sl, fun gg ng => ⟨sl, fun mm nm => ⟨sl, fun rr nrr => ?_⟩⟩⟩
              have sg1 := same_upd (o := .tup [.str "tell", .ref va]) ng
              have wd := wc.same sg1
              have R := wd.row (d := .tell s) (sg1 _ _ hdd) ⟨gg, _, rfl, SqT.of upd_same, IsST.mono (Ks.same sg1) hvc⟩ nm nrr
              refine ⟨dL, ds, _, rfl, rfl, (same_upd nrr) _ _ ((same_upd nm) _ _ (sg1 _ _ hdd)), slt ?_, ?_⟩
              · have := ok.deedsN
                have := ok.small
                have : ds.length = c.deeds.length := ld
                omega
              · rw [tell_ok hg m1 us nold] at h
                refine h _ _ _ R.ef R.dom ⟨dx, bD, lL, sD, kL, dL, ?_⟩ rfl
                have z := R.b
                unfold Ct.told
                rw [if_neg mo, if_neg mo]
                exact z
        | false =>
          refine iteT ?_
          refine ⟨_, rfl, p, _, dp, _, _, rfl, hlp, T.c_Lane, T.n_Lane_both, rfl, q, rfl, ⟨_, hqq⟩, fun D hD => lc_tup (xs := [.str g.l, .str g.r]) (fun i H2 => Same H1 H2 ∧ H2 D = some (.lst (([sg g.l s.nk, sg g.r s.nk].take i).map V.bl))) ⟨same_upd hD, upd_same⟩ (fun i H2 _ h2 => Ks.same h2.1 _ _ hqq) (fun i x H2 hi h2 => ?_) (fun H2 h2 => ?_)⟩
          · obtain ⟨s2, hd⟩ := h2
            have hz : ∃ z : Str, x = .str z ∧ NameOk z ∧ [sg g.l s.nk, sg g.r s.nk][i]? = some (sg z s.nk) := by
              match i, hi with
              | 0, hi => exact ⟨g.l, (Option.some.inj hi).symm, ok.names _ gok.2.2.1, rfl⟩
              | 1, hi => exact ⟨g.r, (Option.some.inj hi).symm, ok.names _ gok.2.2.2, rfl⟩
            obtain ⟨z, rfl, nz, hz⟩ := hz
            have hs2 := hs.fx (Fx.same (s1.trans s2))
            have B2 := W1.b.same s2
            obtain ⟨dxS, bS, hob⟩ := hs2.ob
            refine ⟨rfl, _, rfl, a, _, dx, _, _, rfl, B2.ob.2, T.c_Court, T.n_Court_book, rfl, sgA, dxS, _, rfl, hob, rfl, _, rfl, _, rfl, o, sgA, sg, m, z, _, .st s, rfl, hs2, nz, IsST.mono (Ks.same s2) hv1, dok, fun H3 s3 => ⟨_, s3 _ _ hd, slt ?_, fun b y e => ?_, ?_⟩⟩
            · rw [List.length_map, List.length_take]
              exact Nat.le_trans (Nat.min_le_right _ _) (show (2 : Nat) ≤ 16000000 by decide)
            · rw [upd_ne (ne_of_none e hD)]
              exact s3 _ _ (s2 _ _ e)
            · rw [upd_same, take_succ_of hz, List.map_append]
              rfl
          · obtain ⟨s2, hd⟩ := h2
            refine ⟨D, [sg g.l s.nk, sg g.r s.nk], rfl, SqL.of hd, ?_⟩
            refine ⟨_, rfl, _, s, rfl, IsST.mono (Ks.same s2) hv1, dok, fun Ha sa1 => ?_⟩
            have s2a := s2.trans sa1
            refine ⟨_, rfl, p, _, dp, _, _, rfl, s2a _ _ hlp, T.c_Lane, T.n_Lane_first, rfl, _, g.first, rfl, IsST.mono (Ks.same s2a) hf, gok.1, fun Hb sb1 => ?_⟩
            have s12 := s2a.trans sb1
            refine ⟨rfl, _, rfl, ite2 (fun cw => ?_) (fun cw => ?_)⟩
            · have us : unsd sg s g = true := by
                have nw : s.worth ≠ g.first.worth := fun z => by
                  rw [z] at cw
                  simp at cw
                unfold unsd
                rw [ee, decide_eq_true nw]
                rfl
              rw [tell_uns hg m1 us] at h
              exact h _ (s1.trans s12)
            · have ew : s.worth = g.first.worth := by
                by_cases z : s.worth = g.first.worth
                · exact z
                · exact absurd (by simp [z]) cw
              cases e3 : (sg g.l s.nk && sg g.r s.nk) with
              | false =>
                have us : unsd sg s g = true := by
                  unfold unsd
                  rw [ee, e3]
                  simp
                refine ⟨_, rfl, false, ?_, ?_⟩
                · simp [e3]
                · refine iteT ?_
                  rw [tell_uns hg m1 us] at h
                  exact h _ (s1.trans s12)
              | true =>
                have us : unsd sg s g = false := by
                  unfold unsd
                  rw [e3, ew]
                  simp
                refine ⟨_, rfl, true, ?_, ?_⟩
                · simp [e3]
                · refine iteF ?_
                  have W2 := W1.same s12
                  have hlp2 := s12 _ _ hlp
                  have hx2 := s12 _ _ hxs
                  have k12 := Ks.same (K := K) s12
                  have hqq2 := k12 _ _ hqq
                  have hf2 := IsST.mono k12 hf
                  have hst2 := IsST.mono k12 hst
                  have hv2 := IsST.mono k12 hv1
                  have hq2 := k12 _ _ hq
                  have sF := s1.trans s12
                  refine ⟨_, rfl, p, _, dp, _, _, rfl, hlp2, T.c_Lane, T.n_Lane_mood, rfl, rfl, _, rfl, ite2 (fun cm => ?_) (fun cm => ?_)⟩
                  · have mc : g.mood = "closing" := V.str.inj (of_decide_eq_true cm)
                    have mo : ¬ g.mood = "open" := fun z => absurd (mc.symm.trans z) (by decide)
                    obtain ⟨sa, sb, sxs, rfl, hsq, _, _⟩ := id hst2
                    refine ⟨_, rfl, va, _, _, _, rfl, rfl, hq2, rfl, _, rfl, p, _, dp, _, _, rfl, hlp2, T.c_Lane, T.n_Lane_standing, rfl, sa, _, _, _, rfl, rfl, hsq, rfl, _, _, rfl, rfl, _, rfl, ite2 (fun co => ?_) (fun co => ?_)⟩
                    · rw [tell_old hg m1 us ⟨mc, of_decide_eq_true co⟩] at h
                      exact h _ sF
                    · have nold : ¬ (g.mood = "closing" ∧ s.nu ≤ g.standing.nu) := fun z => co (decide_eq_true z.2)
                      refine ⟨_, rfl, p, _, dp, _, _, rfl, hlp2, T.c_Lane, T.n_Lane_mood, rfl, rfl, _, rfl, iFe (decide_eq_false fun z => mo (V.str.inj z)) ?_⟩
                      have hxb := hx2
                      refine ⟨_, rfl, _, rfl, p, _, dp, _, rfl, hlp2, T.c_Lane, T.n_Lane_standing, lt1k, ?_⟩
                      have wc := W2.setLane (dp := dp) (g := { g with standing := s }) hx2 hu op hlp2 ⟨_, _, _, rfl⟩ hqq2 hf2 hv2
                      have kv := Ks.updI (K := K) (u := HO.ins (He.ga K "Lane") dp (lnF q f (.ref va) g.mood g.ending)) hlp2
                      have hvc := IsST.mono kv hv2
                      obtain ⟨od, ds, hdd, pd⟩ := wc.b.deeds
                      have ld := paired_len pd
                      refine ⟨_, rfl, a, _, dx, _, _, rfl, wc.b.ob.2, T.c_Court, T.n_Court_deeds, rfl, .inl ⟨rfl, _, SqL.of hdd⟩, _, rfl, sl, fun gg ng => ⟨sl, fun mm nm => ⟨sl, fun rr nrr => ?_⟩⟩⟩
                      have sg1 := same_upd (o := .tup [.str "tell", .ref va]) ng
                      have wd := wc.same sg1
                      have R := wd.row (d := .tell s) (sg1 _ _ hdd) ⟨gg, _, rfl, SqT.of upd_same, IsST.mono (Ks.same sg1) hvc⟩ nm nrr
                      refine ⟨dL, ds, _, rfl, rfl, (same_upd nrr) _ _ ((same_upd nm) _ _ (sg1 _ _ hdd)), slt ?_, ?_⟩
                      · have := ok.deedsN
                        have := ok.small
                        have : ds.length = c.deeds.length := ld
                        omega
                      · rw [tell_ok hg m1 us nold] at h
                        refine h _ _ _ R.ef R.dom ⟨dx, bD, lL, sD, kL, dL, ?_⟩ rfl
                        have z := R.b
                        unfold Ct.told
                        rw [if_neg mo, if_neg mo]
                        exact z
                  · have nmc : ¬ g.mood = "closing" := fun z => cm (decide_eq_true (congrArg V.str z))
                    have nold : ¬ (g.mood = "closing" ∧ s.nu ≤ g.standing.nu) := fun z => nmc z.1
                    refine ⟨_, rfl, p, _, dp, _, _, rfl, hlp2, T.c_Lane, T.n_Lane_mood, rfl, rfl, _, rfl, ite2 (fun ca => ?_) (fun ca => ?_)⟩
                    · have mo : g.mood = "open" := V.str.inj (of_decide_eq_true ca)
                      have wa := W2.setLane (dp := dp) (g := { g with mood := "closing" }) hx2 hu op hlp2 ⟨_, _, _, rfl⟩ hqq2 hf2 hst2
                      refine ⟨_, rfl, p, _, dp, _, rfl, hlp2, T.c_Lane, T.n_Lane_mood, lt1k, ?_⟩
                      have hxa := (Pk.at (x := HO.ins (He.ga K "Lane") dp (lnF q f st "closing" g.ending)) op (n12 (by decide)) lL _ oll hx2).2
                      refine ⟨_, rfl, a, _, dx, _, _, rfl, wa.b.ob.2, T.c_Court, T.n_Court_clock, rfl, _, rfl, a, _, dx, _, _, rfl, wa.b.ob.2, T.c_Court, T.n_Court_long, rfl, _, _, rfl, rfl, _, rfl, p, _, dp, _, rfl, upd_same, T.c_Lane, T.n_Lane_ending, lt1k, ?_⟩
                      have wb := wa.setLane (dp := dp) (g := { g with mood := "closing", ending := some (c.clock + c.long) }) hxa hu op upd_same ⟨_, _, _, rfl⟩ (Ks.updI hlp2 _ _ hqq2) (IsST.mono (Ks.updI hlp2) hf2) (IsST.mono (Ks.updI hlp2) hst2)
                      have hxb := (Pk.at (x := HO.ins (He.ga K "Lane") dp (lnF q f st "closing" (some (c.clock + c.long)))) op (n12 (by decide)) lL _ oll hxa).2
                      have kk := Ks.trans (Ks.updI (K := K) (u := HO.ins (He.ga K "Lane") dp (lnF q f st "closing" g.ending)) hlp2) (Ks.updI (K := K) (u := HO.ins (He.ga K "Lane") dp (lnF q f st "closing" (some (c.clock + c.long)))) upd_same)
                      refine ⟨_, rfl, _, rfl, p, _, dp, _, rfl, upd_same, T.c_Lane, T.n_Lane_standing, lt1k, ?_⟩
                      have wc := wb.setLane (dp := dp) (g := { g with mood := "closing", ending := some (c.clock + c.long), standing := s }) hxb hu op upd_same ⟨_, _, _, rfl⟩ (kk _ _ hqq2) (IsST.mono kk hf2) (IsST.mono kk hv2)
                      have kv := kk.trans (Ks.updI (K := K) (u := HO.ins (He.ga K "Lane") dp (lnF q f (.ref va) "closing" (some (c.clock + c.long)))) upd_same)
                      have hvc := IsST.mono kv hv2
                      obtain ⟨od, ds, hdd, pd⟩ := wc.b.deeds
                      have ld := paired_len pd
                      refine ⟨_, rfl, a, _, dx, _, _, rfl, wc.b.ob.2, T.c_Court, T.n_Court_deeds, rfl, .inl ⟨rfl, _, SqL.of hdd⟩, _, rfl, sl, fun gg ng => ⟨sl, fun mm nm => ⟨sl, fun rr nrr => ?_⟩⟩⟩
                      have sg1 := same_upd (o := .tup [.str "tell", .ref va]) ng
                      have wd := wc.same sg1
                      have R := wd.row (d := .tell s) (sg1 _ _ hdd) ⟨gg, _, rfl, SqT.of upd_same, IsST.mono (Ks.same sg1) hvc⟩ nm nrr
                      refine ⟨dL, ds, _, rfl, rfl, (same_upd nrr) _ _ ((same_upd nm) _ _ (sg1 _ _ hdd)), slt ?_, ?_⟩
                      · have := ok.deedsN
                        have := ok.small
                        have : ds.length = c.deeds.length := ld
                        omega
                      · rw [tell_ok hg m1 us (by rw [mo]; exact fun z => absurd z.1 (by decide))] at h
                        refine h _ _ _ R.ef R.dom ⟨dx, bD, lL, sD, kL, dL, ?_⟩ rfl
                        have z := R.b
                        simp only [List.set_set] at z
                        unfold Ct.told
                        rw [if_pos mo, if_pos mo]
                        exact z
                    · have mo : ¬ g.mood = "open" := fun z => ca (decide_eq_true (congrArg V.str z))
                      have hxb := hx2
                      refine ⟨_, rfl, _, rfl, p, _, dp, _, rfl, hlp2, T.c_Lane, T.n_Lane_standing, lt1k, ?_⟩
                      have wc := W2.setLane (dp := dp) (g := { g with standing := s }) hx2 hu op hlp2 ⟨_, _, _, rfl⟩ hqq2 hf2 hv2
                      have kv := Ks.updI (K := K) (u := HO.ins (He.ga K "Lane") dp (lnF q f (.ref va) g.mood g.ending)) hlp2
                      have hvc := IsST.mono kv hv2
                      obtain ⟨od, ds, hdd, pd⟩ := wc.b.deeds
                      have ld := paired_len pd
                      refine ⟨_, rfl, a, _, dx, _, _, rfl, wc.b.ob.2, T.c_Court, T.n_Court_deeds, rfl, .inl ⟨rfl, _, SqL.of hdd⟩, _, rfl, sl, fun gg ng => ⟨sl, fun mm nm => ⟨sl, fun rr nrr => ?_⟩⟩⟩
                      have sg1 := same_upd (o := .tup [.str "tell", .ref va]) ng
                      have wd := wc.same sg1
                      have R := wd.row (d := .tell s) (sg1 _ _ hdd) ⟨gg, _, rfl, SqT.of upd_same, IsST.mono (Ks.same sg1) hvc⟩ nm nrr
                      refine ⟨dL, ds, _, rfl, rfl, (same_upd nrr) _ _ ((same_upd nm) _ _ (sg1 _ _ hdd)), slt ?_, ?_⟩
                      · have := ok.deedsN
                        have := ok.small
                        have : ds.length = c.deeds.length := ld
                        omega
                      · rw [tell_ok hg m1 us nold] at h
                        refine h _ _ _ R.ef R.dom ⟨dx, bD, lL, sD, kL, dL, ?_⟩ rfl
                        have z := R.b
                        unfold Ct.told
                        rw [if_neg mo, if_neg mo]
                        exact z
    · have e : c.lanes[s.ln.toNat]? = none := by
        rw [List.getElem?_eq_none_iff] at hn ⊢
        rw [← paired_len pr]
        exact hn
      rw [tell_none e] at h
      exact h _ s1
end
end Cn
namespace Cn
open PySem PySem.Spec PyProof.Rows L2
/-! ### sweeps, in plain words -/
section
variable {cl : Int} {s : Sw}
theorem sweep_len (i : Nat) : (sweep cl s i).lanes.length = s.lanes.length := by
  unfold sweep
  split
  · rfl
  · split
    · exact List.length_set ..
    · rfl
theorem sweeps_len : ∀ n, (sweeps cl s n).lanes.length = s.lanes.length
  | 0 => rfl
  | n + 1 => by rw [sweeps_succ, sweep_len, sweeps_len n]
theorem sweep_get {i j : Nat} (h : i ≠ j) : (sweep cl s i).lanes[j]? = s.lanes[j]? := by
  unfold sweep
  split
  · rfl
  · split
    · exact List.getElem?_set_ne h
    · rfl
theorem sweeps_get : ∀ (n : Nat) {j : Nat}, n ≤ j → (sweeps cl s n).lanes[j]? = s.lanes[j]?
  | 0, _, _ => rfl
  | n + 1, j, h => by
    rw [sweeps_succ, sweep_get (by omega)]
    exact sweeps_get n (by omega)
theorem sweep_paid (i : Nat) : (sweep cl s i).paid.length ≤ s.paid.length + 2 := by
  unfold sweep
  split
  · omega
  · split
    · simp
    · omega
theorem sweeps_paid : ∀ n, (sweeps cl s n).paid.length ≤ s.paid.length + 2 * n
  | 0 => Nat.le_refl _
  | n + 1 => by
    rw [sweeps_succ]
    have := sweep_paid (cl := cl) (s := sweeps cl s n) n
    have := sweeps_paid n
    omega
theorem sweep_kept {i : Nat} (h : ∀ g, s.lanes[i]? = some g → g.standing.lks.length ≤ 30) : (sweep cl s i).kept.length ≤ s.kept.length + 30 := by
  unfold sweep
  split
  · omega
  · rename_i g hg
    have := h g hg
    split
    · simp only [List.length_mergeSort, List.length_append, List.length_map]
      omega
    · omega
theorem sweeps_kept (h : ∀ g ∈ s.lanes, g.standing.lks.length ≤ 30) : ∀ n, (sweeps cl s n).kept.length ≤ s.kept.length + 30 * n
  | 0 => Nat.le_refl _
  | n + 1 => by
    rw [sweeps_succ]
    have := sweep_kept (cl := cl) (s := sweeps cl s n) (i := n) (fun g hg => h g (by
      rw [sweeps_get n (Nat.le_refl _)] at hg
      exact List.mem_of_getElem? hg))
    have := sweeps_kept h n
    omega
end
theorem slN : ¬ (HT.sIx 5 0 (some 2) = 0 ∧ HT.sIx 5 5 (some 4) = 5) := by decide
def spSettled (K : PySem.W.Frag) : Sp := fun vs H Q _ => ∃ (t : Nat) (o : Own) (a sgA : Addr) (c : Ct) (n : Nat), vs = [.ref a] ∧ Dom o H ∧ CtAt K t o H a sgA c ∧ c.ok n ∧
  ∀ o' H' p ps, Ef K t o H o' H' → Dom o' H' → CtAt K t o' H' a sgA { c with lanes := (sweeps c.clock ⟨c.lanes, [], c.kept⟩ c.lanes.length).lanes, kept := (sweeps c.clock ⟨c.lanes, [], c.kept⟩ c.lanes.length).kept } → H p = none → o' p = none → H' p = some (.lst ps) → Paired (IsPay K H') ps (sweeps c.clock ⟨c.lanes, [], c.kept⟩ c.lanes.length).paid → Q (.ref p) H'
section
variable {P : Program} {w : World} {K : PySem.W.Frag} {mg : Str → Option Value} {base : Heap}
abbrev n_Court_settled_now : List Str := ["self", "paid", "number", "road", "lock"]
theorem sc_Court_settled_now : FnScope n_Court_settled_now ["self"] (defScope s_Court_settled_now) := ⟨rfl, rfl, rfl, by decide +kernel, rfl, by decide +kernel, by decide +kernel⟩
theorem ok_Court_settled_now (T : Tx K mg) : DefOk P w K mg base CX0 1 (He.fAd K d_Court_settled_now.at_) ["self"] (spSettled K) := by
  refine mk0 (d := d_Court_settled_now) T.f_Court_settled_now rfl (fun _ _ _ _ _ _ us hl => match us, hl with | [_], _ => rfl) sc_Court_settled_now (fun vs H Q E h => ?_) (fun cdv A outer s H vs Q E hr h => ?_)
  · obtain ⟨_, _, _, _, _, _, rfl, _⟩ := h
    rfl
  · obtain ⟨t, o, a, sgA, c, n, rfl, dm, ⟨dx, bD, lL, sD, kL, dL, B⟩, ok, h⟩ := h
    refine ⟨_, (pss_cons (ps_set (i := 1) sc_Court_settled_now.nd rfl (.inl rfl) (pe_lst pa_nil))
      (pss_cons (ps_for PassesOwn.never rfl (pi_enum (by rfl) T.b_enumerate (pa_cons (pe_fld (pv 0) rfl) pa_nil)) (pg_tup rfl (pgs_cons (pg_name (i := 2) sc_Court_settled_now.nd rfl (.inr rfl)) (pgs_cons (pg_name (i := 3) sc_Court_settled_now.nd rfl (.inl rfl)) pgs_nil))) (pss_one (ps_if (PW.pt (pw_and (pt_cmpR op_eq (pe_fld (pv 3) rfl) pe_str (nomark _)) (pw_and1 (pt_cmpR op_eq (pe_fld (pv 3) rfl) (pe_fld (pv 0) rfl) (nomark _))))) (pss_cons (ps_fld (pv 3) pe_str rfl)
      (pss_cons (ps_expr (pe_bm PySem.F.plainAttrs_list PySem.F.slot_list_extend PySem.F.type_list_extend mt_extend (pv 1) (pa_cons (pe_lzip rfl (by rfl) T.b_list (by rfl) T.b_zip (pa_cons (pe_fld (pv 3) rfl) (pa_cons (pe_slice sl_tup (pe_fld (pv 3) rfl) (po_some pe_int) (po_some pe_int)) pa_nil))) pa_nil)))
      (pss_one (ps_fld (pv 0) (pe_callB (cr_sortH hr.units) (by rfl) T.b_sorted (by decide +kernel) (pa_cons (pe_op op_cat (pe_fld (pv 0) rfl) (pe_lc (own := [("lock", 4)]) (tt := tYes) rfl sc_Court_settled_now.nd (pi_tup (pe_ix ix_tup (pe_fld (pv 3) rfl) pe_int (fun _ _ => rfl))) (blkOk_by (own := [("lock", 4)]) (N := n_Court_settled_now) (sc := defScope s_Court_settled_now) (by decide +kernel)) (fun _ _ _ _ _ => (pg_name (i := 4) sc_Court_settled_now.nd rfl (.inl rfl))) (fun _ _ _ _ _ => pts_nil) (fun _ _ _ _ _ => (pe_tup (pa_cons (pv 2) (pa_cons (pv 4) pa_nil)))))) pa_nil)) rfl)))) pss_nil)))
      (pss_one (ps_ret (pv 1))))), ?_⟩
    obtain ⟨ol, xs, hxs, nd, pr⟩ := B.lanes
    have lx := paired_len pr
    refine ⟨Nat.zero_le _, fun p np => ?_⟩
    have W0 := (Cw.start dm B).same (same_upd (o := .lst []) np)
    refine ⟨_, rfl, a, _, dx, _, _, rfl, W0.b.ob.2, T.c_Court, T.n_Court_opened, rfl, lL, xs, rfl, SqL.of ((same_upd np) _ _ hxs), for_it (walk_enum (xs := xs)) (fun i σ H1 => ∃ o1 k1 ps y1 y2 y3, σ = [some (.ref a), some (.ref p), y1, y2, y3] ∧ Cw K t o H o1 H1 a sgA { c with lanes := (sweeps c.clock ⟨c.lanes, [], c.kept⟩ i).lanes, kept := (sweeps c.clock ⟨c.lanes, [], c.kept⟩ i).kept } dx bD lL sD k1 dL ∧ H1 lL = some (.lst xs) ∧ o1 p = none ∧ H1 p = some (.lst ps) ∧ Paired (IsPay K H1) ps (sweeps c.clock ⟨c.lanes, [], c.kept⟩ i).paid)
      ⟨o, kL, [], none, none, none, rfl, W0, (same_upd np) _ _ hxs, dm.free np, upd_same, .nil⟩ (fun i σ H1 _ h1 => ?_) (fun i x σ H1 H2 hi h1 hy => ?_) (fun σ H1 h1 => ?_)⟩
    · obtain ⟨o1, k1, ps, y1, y2, y3, _, _, hl, _⟩ := h1
      exact SqL.of hl
    · obtain ⟨o1, k1, ps, y1, y2, y3, rfl, W1, hl1, op1, hp1, pp1⟩ := h1
      obtain ⟨T0, x0, v, rfl, nT, rfl, e0, ev⟩ := hy
      obtain rfl := Option.some.inj e0
      have sT := same_upd (o := .tup [V.int ((i : Nat) : Int), v]) nT
      have W2 := W1.same sT
      have hl2 := sT _ _ hl1
      have hp2 := sT _ _ hp1
      have pp2 := paired_imp (fun _ _ z => IsPay.mono (K := K) (Ks.same sT) z) pp1
      refine ⟨T0, _, rfl, SqT.of upd_same, rfl, _, _, rfl, _, _, rfl, rfl, ?_⟩
      obtain ⟨_, xs', hx', _, pr2⟩ := W2.b.lanes
      obtain rfl : xs = xs' := HO.lst.inj (Option.some.inj (hl2.symm.trans hx'))
      obtain ⟨g, hg, q, dq, bt, f, st, rfl, oq, hq, hbt, hf, hst⟩ := paired_get pr2 ev
      have hg0 : c.lanes[i]? = some g := by
        rw [sweeps_get i (Nat.le_refl _)] at hg
        exact hg
      have gok := ok.lane g (List.mem_of_getElem? hg0)
      have lti : i < c.lanes.length := (List.getElem?_eq_some_iff.mp hg0).1
      have nmc := ok.lanesN
      have nsm := ok.small
      have skp : endsNow c.clock g = false → sweep c.clock (sweeps c.clock ⟨c.lanes, [], c.kept⟩ i) i = sweeps c.clock ⟨c.lanes, [], c.kept⟩ i := fun e => by
        unfold sweep
        rw [hg]
        simp only
        rw [if_neg (by rw [e]; exact Bool.false_ne_true)]
      have don : endsNow c.clock g = true → sweep c.clock (sweeps c.clock ⟨c.lanes, [], c.kept⟩ i) i = ⟨(sweeps c.clock ⟨c.lanes, [], c.kept⟩ i).lanes.set i { g with mood := "settled" }, (sweeps c.clock ⟨c.lanes, [], c.kept⟩ i).paid ++ [(g.l, g.standing.l), (g.r, g.standing.r)], ((sweeps c.clock ⟨c.lanes, [], c.kept⟩ i).kept ++ g.standing.lks.map fun k => ((i : Int), k)).mergeSort hle⟩ := fun e => by
        unfold sweep
        rw [hg]
        simp only
        rw [if_pos e]
      refine ⟨_, rfl, q, _, dq, _, _, rfl, hq, T.c_Lane, T.n_Lane_mood, rfl, rfl, _, rfl, ite2 (fun c1 => ?_) (fun c1 => ?_)⟩
      · have mc : g.mood = "closing" := V.str.inj (of_decide_eq_true c1)
        refine ⟨_, rfl, q, _, dq, _, _, rfl, hq, T.c_Lane, T.n_Lane_ending, rfl, _, rfl, a, _, dx, _, _, rfl, W2.b.ob.2, T.c_Court, T.n_Court_clock, rfl, ?_, _, rfl, ite2 (fun c2 => ?_) (fun c2 => ?_)⟩
        · cases g.ending <;> rfl
        · have me : g.ending = some c.clock := by
            have z := of_decide_eq_true c2
            cases e : g.ending with
            | none => rw [e] at z; cases z
            | some y => rw [e] at z; rw [V.int.inj z]
          have en : endsNow c.clock g = true := by
            unfold endsNow
            rw [mc, me]
            simp
          have D' := don en
          obtain ⟨sa, sb, sxs, rfl, hsq, hsb, hsp⟩ := id hst
          have W3 := W2.setLane (dp := dq) (g := { g with mood := "settled" }) hl2 ev oq hq ⟨_, _, _, rfl⟩ hbt hf hst
          have k3 := Ks.updI (K := K) (u := HO.ins (He.ga K "Lane") dq (lnF bt f (.ref sa) "settled" g.ending)) hq
          have ol1 := W2.b.lanes.1
          have hl3 := (Pk.at (x := HO.ins (He.ga K "Lane") dq (lnF bt f (.ref sa) "settled" g.ending)) oq (n12 (by decide)) lL _ ol1 hl2).2
          have npq : p ≠ q := fun e => by rw [← e, op1] at oq; cases oq
          have hp3 : upd (upd H1 T0 (.tup [V.int ((i : Nat) : Int), .ref q])) q (.ins (He.ga K "Lane") dq (lnF bt f (.ref sa) "settled" g.ending)) p = some (.lst ps) := by
            rw [upd_ne npq]
            exact hp2
          have pp3 := paired_imp (fun _ _ z => IsPay.mono (K := K) k3 z) pp2
          refine ⟨_, rfl, q, _, dq, _, rfl, hq, T.c_Lane, T.n_Lane_mood, lt1k, ?_⟩
          rw [show putF "mood" (.str "settled") (lnF bt f (.ref sa) g.mood g.ending) = lnF bt f (.ref sa) "settled" g.ending from rfl]
          refine ⟨_, rfl, .inl ⟨rfl, _, SqL.of hp3⟩, ?_⟩
          refine ⟨_, rfl, q, _, dq, _, _, rfl, upd_same, T.c_Lane, T.n_Lane_both, rfl, _, rfl, q, _, dq, _, _, rfl, upd_same, T.c_Lane, T.n_Lane_standing, rfl, 2, rfl, 4, rfl, sa, _, rfl, k3 _ _ hsq, slN, fun s4 n4 => ?_⟩
          have z4 := same_upd (o := HO.tup (cutV [V.int g.standing.ln, V.int g.standing.nu, V.int g.standing.l, V.int g.standing.r, .ref sb] (some 2) (some 4))) n4
          refine ⟨bt, s4, .str g.l, .str g.r, .int g.standing.l, .int g.standing.r, rfl, Ks.same z4 _ _ (k3 _ _ hbt), SqT.of upd_same, fun l1 p1 q1 nl1 np1 nq1 d1 d2 d3 => ?_⟩
          have W4 := W3.same z4
          have hsb4 := Ks.same z4 _ _ (k3 _ _ hsb)
          have hsp4 := paired_imp (fun _ _ z => IsLK.mono (K := K) (Ks.same z4) (IsLK.mono k3 z)) hsp
          have hsq4 := Ks.same z4 _ _ (k3 _ _ hsq)
          have hq4 := z4 q _ upd_same
          have hl4 := z4 _ _ hl3
          have hp4 := z4 _ _ hp3
          have pp4 := paired_imp (fun _ _ z => IsPay.mono (K := K) (Ks.same z4) z) pp3
          generalize hH4 : upd (upd (upd H1 T0 (.tup [V.int ((i : Nat) : Int), .ref q])) q (.ins (He.ga K "Lane") dq (lnF bt f (.ref sa) "settled" g.ending))) s4 (.tup (cutV [V.int g.standing.ln, V.int g.standing.nu, V.int g.standing.l, V.int g.standing.r, .ref sb] (some 2) (some 4))) = H4 at W4 hsb4 hsp4 hsq4 hq4 hl4 hp4 pp4 nl1 np1 nq1 ⊢
          have sA := same_upd (o := HO.tup [V.str g.l, .int g.standing.l]) np1
          have sB := same_upd (H := upd H4 p1 (HO.tup [V.str g.l, .int g.standing.l])) (o := HO.tup [V.str g.r, .int g.standing.r]) (show upd H4 p1 (HO.tup [V.str g.l, .int g.standing.l]) q1 = none by rw [upd_ne d3.symm]; exact nq1)
          have sC := same_upd (H := upd (upd H4 p1 (HO.tup [V.str g.l, .int g.standing.l])) q1 (HO.tup [V.str g.r, .int g.standing.r])) (o := HO.lst [.ref p1, .ref q1]) (show upd (upd H4 p1 (HO.tup [V.str g.l, .int g.standing.l])) q1 (HO.tup [V.str g.r, .int g.standing.r]) l1 = none by rw [upd_ne d2, upd_ne d1]; exact nl1)
          have s45 := (sA.trans sB).trans sC
          have W5 := W4.same s45
          have hl5 := s45 _ _ hl4
          have hp5 := s45 _ _ hp4
          have e1 := (sB.trans sC) _ _ (upd_same (H := H4) (a := p1) (o := HO.tup [V.str g.l, .int g.standing.l]))
          have e2 := sC _ _ (upd_same (H := upd H4 p1 (HO.tup [V.str g.l, .int g.standing.l])) (a := q1) (o := HO.tup [V.str g.r, .int g.standing.r]))
          have e3 : upd (upd (upd H4 p1 (HO.tup [V.str g.l, .int g.standing.l])) q1 (HO.tup [V.str g.r, .int g.standing.r])) l1 (HO.lst [.ref p1, .ref q1]) l1 = some (HO.lst [.ref p1, .ref q1]) := upd_same
          have pp5 : Paired (IsPay K (upd (upd (upd H4 p1 (HO.tup [V.str g.l, .int g.standing.l])) q1 (HO.tup [V.str g.r, .int g.standing.r])) l1 (HO.lst [.ref p1, .ref q1]))) (ps ++ [.ref p1, .ref q1]) ((sweeps c.clock ⟨c.lanes, [], c.kept⟩ i).paid ++ [(g.l, g.standing.l), (g.r, g.standing.r)]) :=
            paired_append (paired_imp (fun _ _ z => IsPay.mono (K := K) (Ks.same s45) z) pp4) (.cons ⟨p1, rfl, SqT.of e1⟩ (.cons ⟨q1, rfl, SqT.of e2⟩ .nil))
          have hsb5 := Ks.same s45 _ _ hsb4
          have hsp5 := paired_imp (fun _ _ z => IsLK.mono (K := K) (Ks.same s45) z) hsp4
          have hsq5 := Ks.same s45 _ _ hsq4
          have hq5 := s45 _ _ hq4
          have nH1p : ∀ x, H4 x = none → x ≠ p := fun x hx e => by rw [e, hp4] at hx; cases hx
          generalize hH5 : upd (upd (upd H4 p1 (HO.tup [V.str g.l, .int g.standing.l])) q1 (HO.tup [V.str g.r, .int g.standing.r])) l1 (HO.lst [.ref p1, .ref q1]) = H5 at W5 hl5 hp5 e3 pp5 hsb5 hsp5 hsq5 hq5 ⊢
          have lps := paired_len pp1
          have bps := sweeps_paid (cl := c.clock) (s := ⟨c.lanes, [], c.kept⟩) i
          have z0 : (Sw.mk c.lanes [] c.kept).paid.length = 0 := rfl
          refine ⟨p, l1, ps, _, rfl, rfl, hp5, e3, sle (by simp only [List.length_cons, List.length_nil]; omega), ?_⟩
          have k6 := Ks.updL (K := K) (u := HO.lst (ps ++ [.ref p1, .ref q1])) hp5
          have fx6 : Fx K t o1 H5 o1 (upd H5 p (.lst (ps ++ [.ref p1, .ref q1]))) := Fx.tmp op1 k6
          have W6 : Cw K t o H o1 (upd H5 p (.lst (ps ++ [.ref p1, .ref q1]))) a sgA { c with lanes := (sweeps c.clock ⟨c.lanes, [], c.kept⟩ i).lanes.set i { g with mood := "settled" }, kept := (sweeps c.clock ⟨c.lanes, [], c.kept⟩ i).kept } dx bD lL sD k1 dL := ⟨W5.ef.tmp np k6, W5.d0, W5.dom.upd, W5.b.fx fx6⟩
          have off : ∀ b x, b ≠ p → H5 b = some x → upd H5 p (.lst (ps ++ [.ref p1, .ref q1])) b = some x := fun b x n e => by
            rw [upd_ne n]
            exact e
          have hl6 := off lL _ (own_ne_none ol1 op1) hl5
          have hp6 : upd H5 p (.lst (ps ++ [.ref p1, .ref q1])) p = some (.lst (ps ++ [.ref p1, .ref q1])) := upd_same
          have pp6 := paired_imp (fun _ _ z => IsPay.mono (K := K) k6 z) pp5
          have hsb6 := k6 _ _ hsb5
          have hsp6 := paired_imp (fun _ _ z => IsLK.mono (K := K) k6 z) hsp5
          have hsq6 := k6 _ _ hsq5
          have hq6 := off q _ npq.symm hq5
          generalize hH6 : upd H5 p (.lst (ps ++ [.ref p1, .ref q1])) = H6 at W6 hl6 hp6 pp6 hsb6 hsp6 hsq6 hq6 ⊢
          obtain ⟨okk, kxs, hkx, pk⟩ := W6.b.kept
          refine ⟨_, rfl, a, _, dx, _, _, rfl, W6.b.ob.2, T.c_Court, T.n_Court_kept, rfl, ?_⟩
          refine ⟨_, rfl, q, _, dq, _, _, rfl, hq6, T.c_Lane, T.n_Lane_standing, rfl, sa, _, _, _, rfl, rfl, hsq6, rfl, sb, rfl, ⟨_, hsb6⟩, fun D nD => lc_tup (xs := sxs) (fun j H7 => Same H6 H7 ∧ ∃ vs, H7 D = some (.lst vs) ∧ Paired (IsHL K H7) vs ((g.standing.lks.take j).map fun k => ((i : Int), k))) ⟨same_upd nD, [], upd_same, .nil⟩ (fun j H7 _ h7 => Ks.same h7.1 _ _ hsb6) (fun j x H7 hj h7 => ?_) (fun H7 h7 => ?_)⟩
          · obtain ⟨s7, vs, hD, pv7⟩ := h7
            obtain ⟨lk, hlk, b, rfl, hb⟩ := paired_get hsp6 hj
            refine ⟨rfl, _, rfl, _, rfl, sl, fun tt ntt => ⟨vs, (same_upd ntt) _ _ hD, slt ?_, fun b' y e => ?_, vs ++ [.ref tt], upd_same, ?_⟩⟩
            · have := paired_len pv7
              rw [List.length_map, List.length_take] at this
              have := gok.2.1.len
              omega
            · rw [upd_ne (ne_of_none e nD)]
              exact (same_upd ntt) _ _ (s7 _ _ e)
            · have kq : Ks K H7 (upd (upd H7 tt (.tup [V.int ((i : Nat) : Int), .ref b])) D (.lst (vs ++ [.ref tt]))) := (Ks.same (same_upd ntt)).trans (Ks.updL ((same_upd ntt) _ _ hD))
              rw [take_succ_of hlk, List.map_append]
              refine paired_append (paired_imp (fun _ _ z => isHL_mono kq z) pv7) (.cons ⟨tt, b, rfl, ?_, kq _ _ (Ks.same s7 _ _ hb)⟩ .nil)
              exact (Ks.updL ((same_upd ntt) _ _ hD)) _ _ (SqT.of upd_same)
          · obtain ⟨s7, vs, hD, pv7⟩ := h7
            rw [paired_len hsp6, List.take_length] at pv7
            have W7 := W6.same s7
            obtain ⟨okk7, kxs7, hkx7, pk7⟩ := W7.b.kept
            obtain rfl : kxs = kxs7 := HO.lst.inj (Option.some.inj ((s7 _ _ hkx).symm.trans hkx7))
            have lk7 : kxs.length = (sweeps c.clock ⟨c.lanes, [], c.kept⟩ i).kept.length := paired_len pk7
            have lv7 := paired_len pv7
            have bk := sweeps_kept (cl := c.clock) (s := ⟨c.lanes, [], c.kept⟩) (fun g' hg' => (ok.lane g' hg').2.1.len) i
            have z1 : (Sw.mk c.lanes [] c.kept).kept.length = c.kept.length := rfl
            have bk0 := ok.keptN
            have lg := gok.2.1.len
            refine ⟨k1, D, kxs, vs, rfl, rfl, hkx7, hD, sle (by rw [List.length_map] at lv7; omega), fun pc npc => ?_⟩
            have s8 := same_upd (o := HO.lst (kxs ++ vs)) npc
            have W8 := W7.same s8
            have k8 := Ks.same (K := K) s8
            refine ⟨pc, _, (sweeps c.clock ⟨c.lanes, [], c.kept⟩ i).kept ++ g.standing.lks.map fun k => ((i : Int), k), rfl, SqL.of upd_same, paired_append (paired_imp (fun _ _ z => isHL_mono k8 z) pk7) (paired_imp (fun _ _ z => isHL_mono k8 z) pv7), fun ys po py npo => ?_⟩
            have s9 := same_upd (o := HO.lst ys) npo
            have W9 := W8.same s9
            have s69 := (s7.trans s8).trans s9
            have hp9 := s69 _ _ hp6
            have hl9 := s69 _ _ hl6
            have pp9 := paired_imp (fun _ _ z => IsPay.mono (K := K) (Ks.same s69) z) pp6
            have py9 := paired_imp (fun _ _ z => isHL_mono (Ks.same (K := K) s9) z) py
            have e9 : upd (upd H7 pc (.lst (kxs ++ vs))) po (.lst ys) po = some (.lst ys) := upd_same
            generalize hH9 : upd (upd H7 pc (.lst (kxs ++ vs))) po (.lst ys) = H9 at W9 hp9 hl9 pp9 py9 e9 ⊢
            have W10 := W9.own (p := po) 5 (W8.ef.free npo) e9 (W8.dom.free npo)
            have W11 := W10.setOb c.clock po _ ⟨take1_same, ys, e9, py9⟩
            refine ⟨_, rfl, a, _, dx, _, rfl, W9.b.ob.2, T.c_Court, T.n_Court_kept, lt1k, ?_⟩
            have k12 := Ks.updI (K := K) (u := HO.ins (He.ga K "Court") dx (ctF sgA bD lL sD po dL c.long c.clock)) W9.b.ob.2
            have npo9 : p ≠ po := ne_of_none (s7.trans s8 _ _ hp6) npo
            have nap : p ≠ a := fun e => by
              have z := W9.b.ob.1
              rw [← e, op1] at z
              cases z
            refine ⟨take1 o1 po (t, 5), po, ps ++ [.ref p1, .ref q1], _, _, _, rfl, ?_, ?_, ?_, ?_, ?_⟩
            · rw [sweeps_succ, D']
              exact W11
            · rw [upd_ne (own_ne W9.b.lanes.1 W9.b.ob.1 (n12 (by decide)))]
              exact hl9
            · rw [take1_ne npo9]
              exact op1
            · show upd H9 a _ p = _
              rw [upd_ne nap]
              exact hp9
            · rw [sweeps_succ, D']
              exact paired_imp (fun _ _ z => IsPay.mono (K := K) k12 z) pp9
        · have en : endsNow c.clock g = false := by
            unfold endsNow
            rw [Bool.and_eq_false_iff]
            refine .inr (decide_eq_false fun z => c2 (decide_eq_true ?_))
            rw [z]
            rfl
          refine ⟨o1, k1, ps, _, _, _, rfl, ?_, hl2, op1, hp2, ?_⟩
          · rw [sweeps_succ, skp en]
            exact W2
          · rw [sweeps_succ, skp en]
            exact pp2
      · have en : endsNow c.clock g = false := by
          unfold endsNow
          rw [Bool.and_eq_false_iff]
          exact .inl (decide_eq_false fun z => c1 (decide_eq_true (congrArg V.str z)))
        refine ⟨o1, k1, ps, _, _, _, rfl, ?_, hl2, op1, hp2, ?_⟩
        · rw [sweeps_succ, skp en]
          exact W2
        · rw [sweeps_succ, skp en]
          exact pp2
    · obtain ⟨o1, k1, ps, y1, y2, y3, rfl, W1, hl1, op1, hp1, pp1⟩ := h1
      rw [lx] at W1 pp1
      exact ⟨_, rfl, h o1 H1 p ps W1.ef W1.dom ⟨dx, bD, lL, sD, k1, dL, W1.b⟩ np op1 hp1 pp1⟩
end
end Cn
namespace Cn
open PySem PySem.Spec PyProof.Rows L2
def Ct.decs (c : Ct) (bs : List HL) : Dc := bs.foldl (decide1 c c.lanes c.clock) ⟨[], []⟩
theorem decs_succ (c : Ct) {bs : List HL} {i : Nat} {b : HL} (h : bs[i]? = some b) : c.decs (bs.take (i + 1)) = decide1 c c.lanes c.clock (c.decs (bs.take i)) b := by
  unfold Ct.decs
  rw [take_succ_of h, List.foldl_append]
  rfl
theorem decs_len (c : Ct) : ∀ (bs : List HL) (s : Dc), (bs.foldl (decide1 c c.lanes c.clock) s).paid.length + (bs.foldl (decide1 c c.lanes c.clock) s).left.length = s.paid.length + s.left.length + bs.length
  | [], s => rfl
  | b :: r, s => by
    rw [List.foldl_cons, decs_len c r]
    unfold decide1
    split <;> simp <;> omega
def spDecided (K : PySem.W.Frag) : Sp := fun vs H Q _ => ∃ (t : Nat) (o : Own) (a sgA : Addr) (c : Ct), vs = [.ref a] ∧ Dom o H ∧ CtAt K t o H a sgA c ∧ c.kept.length ≤ 4000000 ∧ (∀ b ∈ c.kept, 0 ≤ b.1 ∧ b.1.toNat < c.lanes.length ∧ b.2.ok) ∧
  ∀ o' H' p ps, Ef K t o H o' H' → Dom o' H' → CtAt K t o' H' a sgA { c with kept := (c.decs c.kept).left } → H p = none → o' p = none → H' p = some (.lst ps) → Paired (IsPay K H') ps (c.decs c.kept).paid → Q (.ref p) H'
section
variable {P : Program} {w : World} {K : PySem.W.Frag} {mg : Str → Option Value} {base : Heap}
abbrev n_Court_decided_now : List Str := ["self", "paid", "left", "number", "lock", "hand"]
theorem sc_Court_decided_now : FnScope n_Court_decided_now ["self"] (defScope s_Court_decided_now) := ⟨rfl, rfl, rfl, by decide +kernel, rfl, by decide +kernel, by decide +kernel⟩
theorem ok_Court_decided_now (T : Tx K mg) : DefOk P w K mg base CX0 4 (He.fAd K d_Court_decided_now.at_) ["self"] (spDecided K) := by
  refine mk0 (d := d_Court_decided_now) T.f_Court_decided_now rfl (fun _ _ _ _ _ _ us hl => match us, hl with | [_], _ => rfl) sc_Court_decided_now (fun vs H Q E h => ?_) (fun cdv A outer s H vs Q E hr h => ?_)
  · obtain ⟨_, _, _, _, _, rfl, _⟩ := h
    rfl
  · obtain ⟨t, o, a, sgA, c, rfl, dm, ⟨dx, bD, lL, sD, kL, dL, B⟩, short, kok, h⟩ := h
    refine ⟨_, (pss_cons (ps_set (i := 1) sc_Court_decided_now.nd rfl (.inl rfl) (pe_lst pa_nil))
      (pss_cons (ps_set (i := 2) sc_Court_decided_now.nd rfl (.inl rfl) (pe_lst pa_nil))
      (pss_cons (ps_for PassesOwn.never rfl (pi_list (pe_fld (pv 0) rfl)) (pg_tup rfl (pgs_cons (pg_name (i := 3) sc_Court_decided_now.nd rfl (.inl rfl)) (pgs_cons (pg_name (i := 4) sc_Court_decided_now.nd rfl (.inl rfl)) pgs_nil))) (pss_cons (ps_set (i := 5) sc_Court_decided_now.nd rfl (.inl rfl) (mD (ok_Lane_gets T) (T.c_Lane) (T.m_Lane_gets) hr (pe_ix ix_list (pe_fld (pv 0) rfl) (pv 3) (fun _ _ => rfl)) (pa_cons (pv 4) (pa_cons (mD (ok_Court_shown T) (T.c_Court) (T.m_Court_shown) hr (pv 0) (pa_cons (pe_ix ix_tup (pv 4) pe_int (fun _ _ => rfl)) pa_nil)) (pa_cons (pe_fld (pv 0) rfl) pa_nil)))))
      (pss_one (ps_if (pt_cmpR op_isN (pv 5) pe_non (nomark _)) (pss_one (ps_expr (pe_bm PySem.F.plainAttrs_list PySem.F.slot_list_append PySem.F.type_list_append mt_append (pv 2) (pa_cons (pe_tup (pa_cons (pv 3) (pa_cons (pv 4) pa_nil))) pa_nil)))) (pss_one (ps_expr (pe_bm PySem.F.plainAttrs_list PySem.F.slot_list_append PySem.F.type_list_append mt_append (pv 1) (pa_cons (pe_tup (pa_cons (pv 5) (pa_cons (pe_ix ix_tup (pv 4) pe_int (fun _ _ => rfl)) pa_nil))) pa_nil))))))))
      (pss_cons (ps_fld (pv 0) (pv 2) rfl)
      (pss_one (ps_ret (pv 1))))))), ?_⟩
    obtain ⟨ok, kxs, hkx, pk⟩ := B.kept
    obtain ⟨ol, xs, hxs, nd, pr⟩ := B.lanes
    have lk := paired_len pk
    refine ⟨Nat.zero_le _, fun p np => ?_⟩
    have W0 := (Cw.start dm B).same (same_upd (o := .lst []) np)
    refine ⟨Nat.zero_le _, fun lf nlf => ?_⟩
    have W1 := W0.same (same_upd (o := .lst []) nlf)
    have s01 : Same H (upd (upd H p (.lst [])) lf (.lst [])) := (same_upd np).trans (same_upd nlf)
    have npl : p ≠ lf := fun e => by rw [← e, upd_same] at nlf; cases nlf
    have nlfH : H lf = none := (same_upd np).free nlf
    refine ⟨_, rfl, a, _, dx, _, _, rfl, W1.b.ob.2, T.c_Court, T.n_Court_kept, rfl, kL, rfl, ⟨_, SqL.of (s01 _ _ hkx)⟩, for_list (xs := kxs) (fun i σ H1 => ∃ ps ls y1 y2 y3, σ = [some (.ref a), some (.ref p), some (.ref lf), y1, y2, y3] ∧ Cw K t o H o H1 a sgA c dx bD lL sD kL dL ∧ H1 kL = some (.lst kxs) ∧ H1 p = some (.lst ps) ∧ H1 lf = some (.lst ls) ∧ Paired (IsPay K H1) ps (c.decs (c.kept.take i)).paid ∧ Paired (IsHL K H1) ls (c.decs (c.kept.take i)).left)
      ⟨[], [], none, none, none, rfl, W1, s01 _ _ hkx, by rw [upd_ne npl, upd_same], upd_same, .nil, .nil⟩ (fun i σ H1 _ h1 => ?_) (fun i x σ H1 hi h1 => ?_) (fun σ H1 h1 => ?_)⟩
    · obtain ⟨ps, ls, y1, y2, y3, _, _, hk, _⟩ := h1
      exact SqL.of hk
    · obtain ⟨ps, ls, y1, y2, y3, rfl, W, hk1, hp1, hl1, pp1, pl1⟩ := h1
      obtain ⟨_, kxs', hk', pk'⟩ := W.b.kept
      obtain rfl : kxs = kxs' := HO.lst.inj (Option.some.inj (hk1.symm.trans hk'))
      obtain ⟨b, hb, q, la, rfl, hq, hla⟩ := paired_get pk' hi
      have bm := List.mem_of_getElem? hb
      obtain ⟨b0, bl, bok⟩ := kok b bm
      have lti := (List.getElem?_eq_some_iff.mp hb).1
      have bnd := decs_len c (c.kept.take i) ⟨[], []⟩
      rw [List.length_take] at bnd
      have bp : (c.decs (c.kept.take i)).paid.length + (c.decs (c.kept.take i)).left.length ≤ 4000000 := by
        unfold Ct.decs
        rw [bnd]
        show 0 + 0 + min i c.kept.length ≤ 4000000
        omega
      have lps : ps.length = (c.decs (c.kept.take i)).paid.length := paired_len pp1
      have lls : ls.length = (c.decs (c.kept.take i)).left.length := paired_len pl1
      refine ⟨q, _, rfl, hq, rfl, _, _, rfl, _, _, rfl, rfl, ?_⟩
      obtain ⟨ol2, xs2, hxs2, nd2, pr2⟩ := W.b.lanes
      obtain ⟨g, hg⟩ : ∃ g, c.lanes[b.1.toNat]? = some g := ⟨_, List.getElem?_eq_getElem bl⟩
      obtain ⟨v, hv, gp, dg, bt, f, st, rfl, og, hgp, hbt, hf, hst⟩ := paired_get' pr2 hg
      refine ⟨_, rfl, a, _, dx, _, _, rfl, W.b.ob.2, T.c_Court, T.n_Court_opened, rfl, _, rfl, lL, xs2, _, _, rfl, rfl, SqL.of hxs2, atI_of b0 hv, gp, dg, _, rfl, hgp, rfl, ?_⟩
      refine ⟨_, rfl, _, rfl, a, dx, _, rfl, W.b.ob.2, rfl, _, rfl, la, _, _, _, rfl, rfl, hla, rfl, t, o, a, sgA, c, b.2.se, rfl, ⟨dx, bD, lL, sD, kL, dL, W.b⟩, bok.2.2.2.1, fun H2 s2 => ?_⟩
      have W2 := W.same s2
      refine ⟨_, rfl, a, _, dx, _, _, rfl, W2.b.ob.2, T.c_Court, T.n_Court_clock, rfl, (t, 3), o, .ref gp, .ref la, g, b.2, _, c.clock, rfl, ⟨gp, dg, bt, f, st, rfl, og, s2 _ _ hgp, Ks.same s2 _ _ hbt, IsST.mono (Ks.same s2) hf, IsST.mono (Ks.same s2) hst⟩, ⟨la, rfl, Ks.same s2 _ _ hla⟩, ?_⟩
      have eg : getsOf c c.lanes c.clock b = g.gets b.2 ((seenAt c.seen b.2.se).map (·.1)) c.clock := by
        unfold getsOf
        rw [hg]
      have hk2 := s2 _ _ hk1
      have hp2 := s2 _ _ hp1
      have hl2 := s2 _ _ hl1
      have pp2 := paired_imp (fun _ _ z => IsPay.mono (K := K) (Ks.same s2) z) pp1
      have pl2 := paired_imp (fun _ _ z => isHL_mono (K := K) (Ks.same s2) z) pl1
      have hla2 := Ks.same (K := K) s2 _ _ hla
      have op := dm.free np
      have olf := dm.free nlfH
      cases eh : g.gets b.2 ((seenAt c.seen b.2.se).map (·.1)) c.clock with
      | none =>
        have dd : c.decs (c.kept.take (i + 1)) = ⟨(c.decs (c.kept.take i)).paid, (c.decs (c.kept.take i)).left ++ [b]⟩ := by
          rw [decs_succ c hb]
          unfold decide1
          rw [eg, eh]
        refine ⟨_, rfl, rfl, _, rfl, iteT ?_⟩
        refine ⟨_, rfl, .inl ⟨rfl, _, SqL.of hl2⟩, _, rfl, _, rfl, sl, fun tt ntt => ?_⟩
        have s3 := same_upd (o := HO.tup [V.int b.1, .ref la]) ntt
        have hl3 := s3 _ _ hl2
        have k4 : Ks K _ (upd (upd H2 tt (.tup [V.int b.1, .ref la])) lf (.lst (ls ++ [.ref tt]))) := Ks.updL hl3
        refine ⟨lf, ls, _, rfl, rfl, hl3, slt (by omega), ps, ls ++ [.ref tt], _, _, _, rfl, ?_, ?_, ?_, upd_same, ?_, ?_⟩
        · have W3 := W2.same s3
          exact ⟨W3.ef.tmp nlfH k4, W3.d0, W3.dom.upd, W3.b.fx (Fx.tmp olf k4)⟩
        · rw [upd_ne (own_ne_none ok olf)]
          exact s3 _ _ hk2
        · rw [upd_ne npl]
          exact s3 _ _ hp2
        · rw [dd]
          exact paired_imp (fun _ _ z => IsPay.mono (K := K) ((Ks.same s3).trans k4) z) pp2
        · rw [dd]
          refine paired_append (paired_imp (fun _ _ z => isHL_mono (K := K) ((Ks.same s3).trans k4) z) pl2) (.cons ⟨tt, la, rfl, k4 _ _ (SqT.of upd_same), ((Ks.same s3).trans k4) _ _ hla2⟩ .nil)
      | some hz =>
        have dd : c.decs (c.kept.take (i + 1)) = ⟨(c.decs (c.kept.take i)).paid ++ [(hz, b.2.am)], (c.decs (c.kept.take i)).left⟩ := by
          rw [decs_succ c hb]
          unfold decide1
          rw [eg, eh]
        refine ⟨_, rfl, rfl, _, rfl, iteF ?_⟩
        refine ⟨_, rfl, .inl ⟨rfl, _, SqL.of hp2⟩, _, rfl, _, rfl, la, _, _, _, rfl, rfl, hla2, rfl, sl, fun tt ntt => ?_⟩
        have s3 := same_upd (o := HO.tup [V.str hz, V.int b.2.am]) ntt
        have hp3 := s3 _ _ hp2
        have k4 : Ks K _ (upd (upd H2 tt (.tup [V.str hz, V.int b.2.am])) p (.lst (ps ++ [.ref tt]))) := Ks.updL hp3
        refine ⟨p, ps, _, rfl, rfl, hp3, slt (by omega), ps ++ [.ref tt], ls, _, _, _, rfl, ?_, ?_, upd_same, ?_, ?_, ?_⟩
        · have W3 := W2.same s3
          exact ⟨W3.ef.tmp np k4, W3.d0, W3.dom.upd, W3.b.fx (Fx.tmp op k4)⟩
        · rw [upd_ne (own_ne_none ok op)]
          exact s3 _ _ hk2
        · rw [upd_ne npl.symm]
          exact s3 _ _ hl2
        · rw [dd]
          refine paired_append (paired_imp (fun _ _ z => IsPay.mono (K := K) ((Ks.same s3).trans k4) z) pp2) (.cons ⟨tt, rfl, k4 _ _ (SqT.of upd_same)⟩ .nil)
        · rw [dd]
          exact paired_imp (fun _ _ z => isHL_mono (K := K) ((Ks.same s3).trans k4) z) pl2
    · obtain ⟨ps, ls, y1, y2, y3, rfl, W, hk1, hp1, hl1, pp1, pl1⟩ := h1
      rw [lk, List.take_length] at pp1 pl1
      have W2 := W.own (p := lf) 5 nlfH hl1 (dm.free nlfH)
      have W3 := W2.setOb c.clock lf _ ⟨take1_same, ls, hl1, pl1⟩
      have k4 := Ks.updI (K := K) (u := HO.ins (He.ga K "Court") dx (ctF sgA bD lL sD lf dL c.long c.clock)) W.b.ob.2
      have op := dm.free np
      refine ⟨_, rfl, _, rfl, a, _, dx, _, rfl, W.b.ob.2, T.c_Court, T.n_Court_kept, lt1k, ?_⟩
      refine ⟨_, rfl, h _ _ p ps W3.ef W3.dom ⟨dx, bD, lL, sD, lf, dL, W3.b⟩ np ?_ ?_ (paired_imp (fun _ _ z => IsPay.mono (K := K) k4 z) pp1)⟩
      · rw [take1_ne npl]
        exact op
      · show upd H1 a _ p = _
        rw [upd_ne (own_ne_none W.b.ob.1 op).symm]
        exact hp1
end
end Cn
namespace Cn
open PySem PySem.Spec PyProof.Rows L2
section
variable {cl : Int} {s : Sw}
theorem sweep_mem {i : Nat} {b : HL} (h : b ∈ (sweep cl s i).kept) : b ∈ s.kept ∨ ∃ g, s.lanes[i]? = some g ∧ b.1 = (i : Int) ∧ b.2 ∈ g.standing.lks := by
  unfold sweep at h
  split at h
  · exact .inl h
  · rename_i g hg
    split at h
    · rw [List.mem_mergeSort] at h
      rcases List.mem_append.mp h with h | h
      · exact .inl h
      · obtain ⟨k, hk, rfl⟩ := List.mem_map.mp h
        exact .inr ⟨g, hg, rfl, hk⟩
    · exact .inl h
theorem sweeps_mem : ∀ (n : Nat) {b : HL}, b ∈ (sweeps cl s n).kept → b ∈ s.kept ∨ ∃ i g, s.lanes[i]? = some g ∧ b.1 = ((i : Nat) : Int) ∧ b.2 ∈ g.standing.lks
  | 0, _, h => .inl h
  | n + 1, b, h => by
    rw [sweeps_succ] at h
    rcases sweep_mem h with h | ⟨g, hg, e1, e2⟩
    · exact sweeps_mem n h
    · rw [sweeps_get n (Nat.le_refl _)] at hg
      exact .inr ⟨n, g, hg, e1, e2⟩
theorem sweeps_paid_mem : ∀ (n : Nat) {p : Pay}, p ∈ (sweeps cl s n).paid → p ∈ s.paid ∨ ∃ g ∈ s.lanes, p.1 = g.l ∨ p.1 = g.r
  | 0, _, h => .inl h
  | n + 1, p, h => by
    rw [sweeps_succ] at h
    unfold sweep at h
    split at h
    · exact sweeps_paid_mem n h
    · rename_i g hg
      rw [sweeps_get n (Nat.le_refl _)] at hg
      split at h
      · rcases List.mem_append.mp h with h | h
        · exact sweeps_paid_mem n h
        · refine .inr ⟨g, List.mem_of_getElem? hg, ?_⟩
          rcases List.mem_cons.mp h with rfl | h
          · exact .inl rfl
          · rw [List.mem_singleton.mp h]
            exact .inr rfl
      · exact sweeps_paid_mem n h
/-- a lane's hands and states stay with sweeps -/
theorem sweeps_lane : ∀ (n : Nat) {g : Ln}, g ∈ (sweeps cl s n).lanes → ∃ g0 ∈ s.lanes, g.l = g0.l ∧ g.r = g0.r ∧ g.first = g0.first ∧ g.standing = g0.standing
  | 0, g, h => ⟨g, h, rfl, rfl, rfl, rfl⟩
  | n + 1, g, h => by
    rw [sweeps_succ] at h
    unfold sweep at h
    split at h
    · exact sweeps_lane n h
    · rename_i g1 hg
      rw [sweeps_get n (Nat.le_refl _)] at hg
      split at h
      · rcases List.mem_or_eq_of_mem_set h with h | rfl
        · exact sweeps_lane n h
        · exact ⟨g1, List.mem_of_getElem? hg, rfl, rfl, rfl, rfl⟩
      · exact sweeps_lane n h
end
theorem ite3 {α : Type} {c d : Prop} [Decidable c] [Decidable d] {x y z : α} (h : (if c then some x else if d then some y else none) = some z) : z = x ∨ z = y := by
  by_cases hc : c
  · rw [if_pos hc] at h
    exact .inl (Option.some.inj h).symm
  · rw [if_neg hc] at h
    by_cases hd : d
    · rw [if_pos hd] at h
      exact .inr (Option.some.inj h).symm
    · rw [if_neg hd] at h
      cases h
theorem gets_or {g : Ln} {k : LK} {sh : Option Int} {cl : Int} {z : Str} (h : g.gets k sh cl = some z) : z = g.l ∨ z = g.r := by
  unfold Ln.gets at h
  have e := ite3 h
  by_cases q : k.gv = "left"
  · rw [if_pos q, if_pos q] at e
    exact e.symm
  · rw [if_neg q, if_neg q] at e
    exact e
theorem addBag_some {b : List Pay} {p : Pay} {v : Int} (h : look b p.1 = some v) : addBag b p = setBag b p.1 (v + p.2) := by
  unfold addBag
  rw [h]
theorem decs_paid_mem (c : Ct) : ∀ (bs : List HL) (s : Dc) {p : Pay}, p ∈ (bs.foldl (decide1 c c.lanes c.clock) s).paid → p ∈ s.paid ∨ ∃ g ∈ c.lanes, p.1 = g.l ∨ p.1 = g.r
  | [], _, _, h => .inl h
  | b :: r, s, p, h => by
    rw [List.foldl_cons] at h
    rcases decs_paid_mem c r _ h with h | h
    · unfold decide1 at h
      split at h
      · exact .inl h
      · rename_i z hz
        rcases List.mem_append.mp h with h | h
        · exact .inl h
        · rw [List.mem_singleton.mp h]
          unfold getsOf at hz
          split at hz
          · cases hz
          · rename_i g hg
            refine .inr ⟨g, List.mem_of_getElem? hg, ?_⟩
            exact gets_or hz
    · exact .inr h
theorem decs_left_mem (c : Ct) : ∀ (bs : List HL) (s : Dc) {b : HL}, b ∈ (bs.foldl (decide1 c c.lanes c.clock) s).left → b ∈ s.left ∨ b ∈ bs
  | [], _, _, h => .inl h
  | x :: r, s, b, h => by
    rw [List.foldl_cons] at h
    rcases decs_left_mem c r _ h with h | h
    · unfold decide1 at h
      split at h
      · rcases List.mem_append.mp h with h | h
        · exact .inl h
        · rw [List.mem_singleton.mp h]
          exact .inr List.mem_cons_self
      · exact .inl h
    · exact .inr (List.mem_cons_of_mem _ h)
theorem addBag_keys (b : List Pay) (p : Pay) : (addBag b p).map (·.1) = b.map (·.1) := by
  unfold addBag
  split
  · exact setBag_keys ..
  · rfl
theorem addBags_keys : ∀ (ps : List Pay) (b : List Pay), (ps.foldl addBag b).map (·.1) = b.map (·.1)
  | [], _ => rfl
  | p :: r, b => by rw [List.foldl_cons, addBags_keys r, addBag_keys]
/-- the court in the midst of a turn -/
def Ct.mid (c : Ct) : Ct := { c with clock := c.clock + 1, lanes := c.sw.lanes, kept := c.sw.kept }
theorem mid_dc (c : Ct) : c.mid.decs c.mid.kept = c.dc := rfl
theorem mid_kok {c : Ct} {n : Nat} (ok : c.ok n) : ∀ b ∈ c.sw.kept, 0 ≤ b.1 ∧ b.1.toNat < c.sw.lanes.length ∧ b.2.ok := fun b hb => by
  have hl : c.sw.lanes.length = c.lanes.length := sweeps_len _
  rcases sweeps_mem _ hb with h | ⟨i, g, hg, e1, e2⟩
  · obtain ⟨h1, h2, h3⟩ := ok.kept b h
    exact ⟨h1, by rw [hl]; exact h2, h3⟩
  · have lt := (List.getElem?_eq_some_iff.mp hg).1
    have gm := List.mem_of_getElem? hg
    refine ⟨by rw [e1]; omega, ?_, (ok.lane g gm).2.1.lk _ e2⟩
    rw [hl, e1]
    show ((i : Nat) : Int).toNat < c.lanes.length
    exact lt
theorem mid_kshort {c : Ct} {n : Nat} (ok : c.ok n) : c.sw.kept.length ≤ 10000 * n + 30 * n := by
  have h1 := sweeps_kept (cl := c.clock + 1) (s := ⟨c.lanes, [], c.kept⟩) (fun g hg => (ok.lane g hg).2.1.len) c.lanes.length
  have h2 := ok.keptN
  have h3 := ok.lanesN
  have e : (Sw.mk c.lanes [] c.kept).kept.length = c.kept.length := rfl
  show (sweeps (c.clock + 1) ⟨c.lanes, [], c.kept⟩ c.lanes.length).kept.length ≤ _
  omega
theorem paidNow_hand {c : Ct} {n : Nat} (ok : c.ok n) : ∀ p ∈ c.sw.paid ++ c.dc.paid, p.1 ∈ c.bags.map (·.1) := fun p hp => by
  rcases List.mem_append.mp hp with h | h
  · rcases sweeps_paid_mem _ h with h | ⟨g, hg, e⟩
    · cases h
    · have k := ok.lane g hg
      rcases e with e | e
      · rw [e]; exact k.2.2.1
      · rw [e]; exact k.2.2.2
  · rcases decs_paid_mem c.mid _ _ (show p ∈ (c.mid.kept.foldl (decide1 c.mid c.mid.lanes c.mid.clock) ⟨[], []⟩).paid from h) with h | ⟨g, hg, e⟩
    · cases h
    · obtain ⟨g0, hg0, e1, e2, _⟩ := sweeps_lane _ hg
      have k := ok.lane g0 hg0
      rcases e with e | e
      · rw [e, e1]; exact k.2.2.1
      · rw [e, e2]; exact k.2.2.2
theorem paid_short {c : Ct} {n : Nat} (ok : c.ok n) : (c.sw.paid ++ c.dc.paid).length ≤ 2 * n + 10000 * n + 30 * n := by
  have h1 := sweeps_paid (cl := c.clock + 1) (s := ⟨c.lanes, [], c.kept⟩) c.lanes.length
  have h2 := decs_len c.mid c.mid.kept ⟨[], []⟩
  have h3 := mid_kshort ok
  have h4 := ok.lanesN
  have e1 : c.sw.paid.length ≤ 0 + 2 * c.lanes.length := h1
  have e2 : c.dc.paid.length + c.dc.left.length = 0 + 0 + c.sw.kept.length := h2
  rw [List.length_append]
  omega
def argsTurn (d : Deed) (us : List V) (_ : Hp) : Prop := d = .turn ∧ us = []
def spTurn (P : Program) (w : World) (K : PySem.W.Frag) : Sp := spStep P w K argsTurn (fun c _ _ v H' o' => ∃ q ys, v = .ref q ∧ o' q = none ∧ H' q = some (.lst ys) ∧ Paired (IsPay K H') ys c.paidNow)
section
variable {P : Program} {w : World} {K : PySem.W.Frag} {mg : Str → Option Value} {base : Heap}
abbrev n_Court_turn : List Str := ["self", "paid", "hand", "many"]
theorem sc_Court_turn : FnScope n_Court_turn ["self"] (defScope s_Court_turn) := ⟨rfl, rfl, rfl, by decide +kernel, rfl, by decide +kernel, by decide +kernel⟩
theorem ok_Court_turn (T : Tx K mg) : DefOk P w K mg base CX0 5 (He.fAd K d_Court_turn.at_) ["self"] (spTurn P w K) := by
  refine mk0 (d := d_Court_turn) T.f_Court_turn rfl (fun _ _ _ _ _ _ us hl => match us, hl with | [_], _ => rfl) sc_Court_turn (fun vs H Q E h => ?_) (fun cdv A outer s H vs Q E hr h => ?_)
  · obtain ⟨_, _, _, _, _, _, _, _, _, _, rfl, ⟨_, rfl⟩, _⟩ := h
    rfl
  · obtain ⟨t, o, a, sgA, sg, m, c, n, d, us, rfl, ⟨rfl, rfl⟩, dok, nt, dm, ⟨dx, bD, lL, sD, kL, dL, B⟩, hs, ok, h⟩ := h
    refine ⟨_, (pss_cons (ps_fldaug (pv 0) pe_int in_add)
      (pss_cons (ps_setLc (i := 1) (own := [("hand", 2), ("many", 3)]) (g := gTup K 2 (gCons (gName 2) (gCons (gName 3) gNil))) rfl sc_Court_turn.nd rfl rfl (sw_true rfl rfl rfl (by decide +kernel)) (pi_list (pe_op op_cat (mD0 (ok_Court_settled_now T) (T.c_Court) (T.m_Court_settled_now) hr (pv 0)) (mD0 (ok_Court_decided_now T) (T.c_Court) (T.m_Court_decided_now) hr (pv 0)))) (blkOk_by (own := [("hand", 2), ("many", 3)]) (N := n_Court_turn) (sc := defScope s_Court_turn) (by decide +kernel)) (fun _ _ _ _ _ => (pg_tup rfl (pgs_cons (pg_name (i := 2) sc_Court_turn.nd rfl (.inl rfl)) (pgs_cons (pg_name (i := 3) sc_Court_turn.nd rfl (.inl rfl)) pgs_nil)))) (fun _ _ _ _ _ => (pts_one (pt_cmpR op_gt (pv 3) pe_int (nomark _)))) (fun _ _ _ _ _ => (pe_tup (pa_cons (pv 2) (pa_cons (pv 3) pa_nil)))))
      (pss_cons (ps_for PassesOwn.never rfl (pi_list (pv 1)) (pg_tup rfl (pgs_cons (pg_name (i := 2) sc_Court_turn.nd rfl (.inl rfl)) (pgs_cons (pg_name (i := 3) sc_Court_turn.nd rfl (.inl rfl)) pgs_nil))) (pss_one (ps_daug (hu1 (hu_of hr)) (pe_fld (pv 0) rfl) (pv 2) (pv 3) in_add (fun _ _ _ => rfl))))
      (pss_cons (ps_expr (pe_bm PySem.F.plainAttrs_list PySem.F.slot_list_append PySem.F.type_list_append mt_append (pe_fld (pv 0) rfl) (pa_cons (pe_tup (pa_cons (pe_tup (pa_cons pe_str pa_nil)) (pa_cons (pv 1) pa_nil))) pa_nil)))
      (pss_one (ps_ret (pe_callTy call_list_of (by rfl) T.b_list (by decide +kernel) (pa_cons (pv 1) pa_nil)))))))), ?_⟩
    have W0 := Cw.start dm B
    have W1 := W0.setOb (c.clock + 1) kL c.kept B.kept
    refine ⟨_, rfl, a, _, dx, _, _, rfl, B.ob.2, T.c_Court, T.n_Court_clock, rfl, _, _, rfl, rfl, _, _, B.ob.2, lt1k, ?_⟩
    have ok0 : ({ c with clock := c.clock + 1, kept := c.kept } : Ct).ok n := ⟨ok.small, ok.names, ok.bags, ok.lanesN, ok.seenN, ok.keptN, ok.deedsN, ok.lane, ok.kept, ok.deeds⟩
    refine ⟨_, rfl, a, dx, _, rfl, upd_same, rfl, t, o, a, sgA, _, n, rfl, W1.dom, ⟨dx, bD, lL, sD, kL, dL, W1.b⟩, ok0, fun o1 H1 p1 ps1 ef1 dm1 ct1 np1 op1 hp1 pp1 => ?_⟩
    obtain ⟨dx1, bD1, lL1, sD1, kL1, dL1, B1⟩ := id ct1
    have ks := mid_kshort ok
    have nn := ok.small
    refine ⟨_, rfl, a, dx1, _, rfl, B1.ob.2, rfl, t, o1, a, sgA, c.mid, rfl, dm1, ct1, ?_, mid_kok ok, fun o2 H2 p2 ps2 ef2 dm2 ct2 np2 op2 hp2 pp2 => ?_⟩
    · show c.sw.kept.length ≤ 4000000
      omega
    · obtain ⟨dx2, bD2, lL2, sD2, kL2, dL2, B2⟩ := id ct2
      have hp12 := ef2.mine hp1 op1
      have psh := paid_short ok
      have pp12 : Paired (IsPay K H2) (ps1 ++ ps2) (c.sw.paid ++ c.dc.paid) := paired_append (paired_imp (fun _ _ z => IsPay.mono (K := K) ef2.sq z) pp1) pp2
      have l12 := paired_len pp12
      have W2 : Cw K t o H o2 H2 a sgA _ dx2 bD2 lL2 sD2 kL2 dL2 := ⟨W1.ef.trans (ef1.trans ef2), dm, dm2, B2⟩
      refine ⟨p1, p2, ps1, ps2, rfl, rfl, hp12.1, hp2, sle (by rw [List.length_append] at l12; omega), fun q nq => ?_⟩
      have s3 := same_upd (o := HO.lst (ps1 ++ ps2)) nq
      have W3 := W2.same s3
      have pp3 := paired_imp (fun _ _ z => IsPay.mono (K := K) (Ks.same s3) z) pp12
      refine ⟨q, rfl, ⟨_, SqL.of upd_same⟩, fun D nD => lc_list (xs := ps1 ++ ps2) (fun i H4 => Same (upd H2 q (.lst (ps1 ++ ps2))) H4 ∧ ∃ vs, H4 D = some (.lst vs) ∧ Paired (IsPay K H4) vs (((c.sw.paid ++ c.dc.paid).take i).filter fun p => decide (p.2 > 0))) ⟨same_upd nD, [], upd_same, .nil⟩ (fun i H4 _ h4 => SqL.of (h4.1 _ _ upd_same)) (fun i x H4 hi h4 => ?_) (fun H4 h4 => ?_)⟩
      · obtain ⟨s4, vs, hD, pv⟩ := h4
        obtain ⟨p, hp, r, rfl, hr⟩ := paired_get pp3 hi
        have k4 := Ks.same (K := K) s4
        have lv := paired_len pv
        have lf := List.length_filter_le (fun p : Pay => decide (p.2 > 0)) ((c.sw.paid ++ c.dc.paid).take i)
        rw [List.length_take] at lf
        refine ⟨r, _, rfl, k4 _ _ hr, rfl, _, _, rfl, _, _, rfl, rfl, rfl, _, rfl, _, _, rfl, rfl, _, rfl, ite2 (fun c1 => ?_) (fun c1 => ?_)⟩
        · refine ⟨_, rfl, _, rfl, sl, fun tt ntt => ⟨vs, (same_upd ntt) _ _ hD, slt (by omega), fun b y e => ?_, vs ++ [.ref tt], upd_same, ?_⟩⟩
          · rw [upd_ne (ne_of_none e nD)]
            exact (same_upd ntt) _ _ (s4 _ _ e)
          · have kq : Ks K H4 (upd (upd H4 tt (.tup [V.str p.1, V.int p.2])) D (.lst (vs ++ [.ref tt]))) := (Ks.same (same_upd ntt)).trans (Ks.updL ((same_upd ntt) _ _ hD))
            rw [take_succ_of hp, List.filter_append, List.filter_cons_of_pos (by exact c1), List.filter_nil]
            refine paired_append (paired_imp (fun _ _ z => IsPay.mono (K := K) kq z) pv) (.cons ⟨tt, rfl, ?_⟩ .nil)
            exact (Ks.updL ((same_upd ntt) _ _ hD)) _ _ (SqT.of upd_same)
        · refine ⟨s4, vs, hD, ?_⟩
          rw [take_succ_of hp, List.filter_append, List.filter_cons_of_neg (by exact c1), List.filter_nil, List.append_nil]
          exact pv
      · obtain ⟨s4, vs, hD, pv⟩ := h4
        rw [l12, List.take_length] at pv
        have pvn : Paired (IsPay K H4) vs c.paidNow := pv
        have W4 := W3.same s4
        have oD : o2 D = none := W3.dom.free nD
        have nDH : H D = none := W3.ef.free nD
        have lv := paired_len pvn
        have lpn : c.paidNow.length ≤ 2 * n + 10000 * n + 30 * n := Nat.le_trans (List.length_filter_le _ _) psh
        refine ⟨_, rfl, D, rfl, ⟨_, SqL.of hD⟩, for_list (xs := vs) (fun i σ H5 => ∃ y1 y2, σ = [some (.ref a), some (.ref D), y1, y2] ∧ Cw K t o H o2 H5 a sgA { c with clock := c.clock + 1, lanes := c.sw.lanes, kept := c.dc.left, bags := (c.paidNow.take i).foldl addBag c.bags } dx2 bD2 lL2 sD2 kL2 dL2 ∧ H5 D = some (.lst vs) ∧ Paired (IsPay K H5) vs c.paidNow) ⟨none, none, rfl, W4, hD, pvn⟩ (fun i σ H5 _ h5 => ?_) (fun i x σ H5 hi h5 => ?_) (fun σ H5 h5 => ?_)⟩
        · obtain ⟨_, _, _, _, h5, _⟩ := h5
          exact SqL.of h5
        · obtain ⟨y1, y2, rfl, W5, hD5, pv5⟩ := h5
          obtain ⟨p, hp, r, rfl, hr⟩ := paired_get pv5 hi
          have pm := List.mem_of_getElem? hp
          have hk : p.1 ∈ c.bags.map (·.1) := paidNow_hand ok p (List.mem_filter.mp pm).1
          obtain ⟨v, hv⟩ := look_of_mem (b := (c.paidNow.take i).foldl addBag c.bags) (h := p.1) (by rw [addBags_keys]; exact hk)
          have e1 := put_bag (i := v + p.2) hv
          have W6 := W5.setBags (setBag ((c.paidNow.take i).foldl addBag c.bags) p.1 (v + p.2))
          have k6 := Ks.updD (K := K) (u := HO.dK (bagKV (setBag ((c.paidNow.take i).foldl addBag c.bags) p.1 (v + p.2)))) W5.b.bags.2
          have lb : (bagKV ((c.paidNow.take i).foldl addBag c.bags)).length ≤ 20 := by
            unfold bagKV
            rw [List.length_map, ← List.length_map (f := (·.1)), addBags_keys, List.length_map]
            exact ok.bags
          refine ⟨r, _, rfl, hr, rfl, _, _, rfl, _, _, rfl, rfl, ?_⟩
          refine ⟨_, rfl, a, _, dx2, _, _, rfl, W5.b.ob.2, T.c_Court, T.n_Court_bags, rfl, _, rfl, bD2, _, rfl, look_some_val hv ▸ DGet.k (k := Sum.inr p.1) W5.b.bags.2, _, rfl, _, _, rfl, rfl, _, DPut.k (k := Sum.inr p.1) W5.b.bags.2 (slt (Nat.le_trans (show _ ≤ 20 from lb) (by decide))), ?_⟩
          rw [e1]
          refine ⟨_, _, rfl, ?_, ?_, paired_imp (fun _ _ z => IsPay.mono (K := K) k6 z) pv5⟩
          · have e2 : (c.paidNow.take (i + 1)).foldl addBag c.bags = setBag ((c.paidNow.take i).foldl addBag c.bags) p.1 (v + p.2) := by
              rw [take_succ_of hp, List.foldl_append]
              exact addBag_some hv
            rw [e2]
            exact W6
          · rw [upd_ne (own_ne_none W5.b.bags.1 oD).symm]
            exact hD5
        · obtain ⟨y1, y2, rfl, W5, hD5, pv5⟩ := h5
          rw [lv, List.take_length] at W5
          obtain ⟨od, ds, hdd, pd⟩ := W5.b.deeds
          have ld : ds.length = c.deeds.length := paired_len pd
          have dn := ok.deedsN
          refine ⟨_, rfl, a, _, dx2, _, _, rfl, W5.b.ob.2, T.c_Court, T.n_Court_deeds, rfl, .inl ⟨rfl, _, SqL.of hdd⟩, sl, fun gg ng => ⟨_, rfl, sl, fun rr nrr => ?_⟩⟩
          have sg1 := same_upd (o := HO.tup [V.str "turn"]) ng
          have sr1 := same_upd (o := HO.tup [V.ref gg, V.ref D]) nrr
          have W7 := (W5.same sg1).same sr1
          have s57 := sg1.trans sr1
          have W8 := W7.own (p := D) 7 nDH (s57 _ _ hD5) oD
          have row : IsRow K (t, 7) (take1 o2 D (t, 7)) (upd (upd H5 gg (.tup [V.str "turn"])) rr (.tup [V.ref gg, V.ref D])) (.ref rr) (.turn, c.paidNow) :=
            isRow_new (SqT.of upd_same) ⟨gg, rfl, Ks.same sr1 _ _ (SqT.of upd_same)⟩ ⟨take1_same, vs, s57 _ _ hD5, paired_imp (fun _ _ z => IsPay.mono (K := K) (Ks.same s57) z) pv5⟩
          have W9 := W8.addDeed (s57 _ _ hdd) row
          have hdd9 : upd (upd H5 gg (.tup [V.str "turn"])) rr (.tup [V.ref gg, V.ref D]) dL2 = some (.lst ds) := s57 _ _ hdd
          have k9 : Ks K H5 (upd (upd (upd H5 gg (.tup [V.str "turn"])) rr (.tup [V.ref gg, V.ref D])) dL2 (.lst (ds ++ [.ref rr]))) := (Ks.same s57).trans (Ks.updL hdd9)
          refine ⟨dL2, ds, _, rfl, rfl, hdd9, slt (by omega), ?_⟩
          have nDd : D ≠ dL2 := (own_ne_none W5.b.deeds.1 oD).symm
          have hD9 : upd (upd (upd H5 gg (.tup [V.str "turn"])) rr (.tup [V.ref gg, V.ref D])) dL2 (.lst (ds ++ [.ref rr])) D = some (.lst vs) := by
            rw [upd_ne nDd]
            exact s57 _ _ hD5
          refine ⟨_, rfl, D, vs, rfl, .inl (SqL.of hD9), fun qq nqq => ?_⟩
          have s10 := same_upd (o := HO.lst vs) nqq
          have W10 := W9.same s10
          refine h _ _ _ W10.ef W10.dom ⟨dx2, bD2, lL2, sD2, kL2, dL2, W10.b⟩ ⟨qq, vs, rfl, ?_, upd_same, paired_imp (fun _ _ z => IsPay.mono (K := K) (k9.trans (Ks.same s10)) z) pv5⟩
          exact W9.dom.free nqq
end
end Cn
namespace Cn
open PySem PySem.Spec PyProof.Rows L2
/-! ### what holds of a court holds on -/
theorem setBag_len (h : Str) (i : Int) (b : List Pay) : (setBag b h i).length = b.length := by
  rw [← List.length_map (f := (·.1)), setBag_keys, List.length_map]
theorem addBags_len (ps b : List Pay) : (ps.foldl addBag b).length = b.length := by
  rw [← List.length_map (f := (·.1)), addBags_keys, List.length_map]
theorem first_ok {n a b : Int} (hn : 0 ≤ n) (ha : 0 ≤ a) (hb : 0 ≤ b) : (ST.first n a b).ok :=
  ⟨hn, Int.le_refl 0, ha, hb, Nat.zero_le _, fun _ h => (List.not_mem_nil h).elim, .nil, fun _ h => (List.not_mem_nil h).elim⟩
theorem seenAdd_len (l : List (Int × Int × Int)) (s : Int) (x : Int × Int) : (seenAdd l s x).length ≤ l.length + 1 := by
  unfold seenAdd
  split
  · omega
  · rw [List.length_append, List.length_singleton]
    omega
theorem step_ok {sg : Sg} {c c' : Ct} {d : Deed} {n : Nat} (ok : c.ok n) (dk : d.ok) (hn : n + 1 ≤ 300) (e : c.step sg d = .ok c') : c'.ok (n + 1) := by
  have dn : ∀ (c'' : Ct) (p : List Pay), c''.deeds = c.deeds ++ [(d, p)] → p.length ≤ 4000000 → c''.deeds.length ≤ n + 1 ∧ ∀ x ∈ c''.deeds, x.1.ok ∧ x.2.length ≤ 4000000 := fun c'' p e hp => by
    rw [e]
    refine ⟨by rw [List.length_append, List.length_singleton]; have := ok.deedsN; omega, fun x hx => ?_⟩
    rcases List.mem_append.mp hx with hx | hx
    · exact ok.deeds x hx
    · rw [List.mem_singleton.mp hx]
      exact ⟨dk, hp⟩
  cases d with
  | op l r a b =>
    simp only [Ct.step, Ct.open1] at e
    split at e
    · rename_i vl vr hl hr
      repeat' (split at e)
      all_goals first | (cases e; done) | skip
      cases e
      have z := dn (c.opened l r a b vl) [] rfl (Nat.zero_le _)
      have kk : (setBag (setBag c.bags l (vl - a)) r (((look (setBag c.bags l (vl - a)) r).getD 0) - b)).map (·.1) = c.bags.map (·.1) := by rw [setBag_keys, setBag_keys]
      refine ⟨hn, fun h hh => ok.names h (kk ▸ hh), by show (setBag _ _ _).length ≤ 20; rw [setBag_len, setBag_len]; exact ok.bags, ?_, by have := ok.seenN; exact Nat.le_trans this (by omega), by have := ok.keptN; exact Nat.le_trans this (by omega), z.1, fun g hg => ?_, fun b' hb' => ?_, z.2⟩
      · show (c.lanes ++ [_]).length ≤ _
        rw [List.length_append, List.length_singleton]
        have := ok.lanesN
        omega
      · show g.first.ok ∧ g.standing.ok ∧ g.l ∈ (setBag (setBag c.bags l (vl - a)) r (((look (setBag c.bags l (vl - a)) r).getD 0) - b)).map (·.1) ∧ g.r ∈ (setBag (setBag c.bags l (vl - a)) r (((look (setBag c.bags l (vl - a)) r).getD 0) - b)).map (·.1)
        rw [kk]
        rcases List.mem_append.mp hg with hg | hg
        · exact ok.lane g hg
        · rw [List.mem_singleton.mp hg]
          have f := first_ok (n := (c.lanes.length : Int)) (by omega) dk.2.2.1 dk.2.2.2
          exact ⟨f, f, look_mem hl, look_mem hr⟩
      · obtain ⟨h1, h2, h3⟩ := ok.kept b' hb'
        refine ⟨h1, ?_, h3⟩
        show _ < (c.lanes ++ [_]).length
        rw [List.length_append]
        omega
    · cases e
  | tell s =>
    simp only [Ct.step, Ct.tell1] at e
    split at e
    · cases e
    · rename_i g hg
      repeat' (split at e)
      all_goals first | (cases e; done) | skip
      cases e
      have z := dn (c.told s g) [] rfl (Nat.zero_le _)
      refine ⟨hn, ok.names, ok.bags, ?_, by have := ok.seenN; exact Nat.le_trans this (by omega), by have := ok.keptN; exact Nat.le_trans this (by omega), z.1, fun g' hg' => ?_, fun b' hb' => ?_, z.2⟩
      · show (c.lanes.set _ _).length ≤ _
        rw [List.length_set]
        have := ok.lanesN
        omega
      · rcases List.mem_or_eq_of_mem_set hg' with h | rfl
        · exact ok.lane g' h
        · have k := ok.lane g (List.mem_of_getElem? hg)
          exact ⟨k.1, dk, k.2.2⟩
      · obtain ⟨h1, h2, h3⟩ := ok.kept b' hb'
        refine ⟨h1, ?_, h3⟩
        show _ < (c.lanes.set _ _).length
        rw [List.length_set]
        exact h2
  | shw x =>
    cases e
    have z := dn (c.shwn x) [] rfl (Nat.zero_le _)
    exact ⟨hn, ok.names, ok.bags, by have := ok.lanesN; exact Nat.le_trans this (by omega), Nat.le_trans (seenAdd_len _ _ _) (by have := ok.seenN; omega), by have := ok.keptN; exact Nat.le_trans this (by omega), z.1, ok.lane, ok.kept, z.2⟩
  | turn =>
    cases e
    have lpn : c.paidNow.length ≤ 2 * n + 10000 * n + 30 * n := Nat.le_trans (List.length_filter_le _ _) (paid_short ok)
    have z := dn c.turned c.paidNow rfl (by omega)
    have kk : (c.paidNow.foldl addBag c.bags).map (·.1) = c.bags.map (·.1) := addBags_keys _ _
    have hl : c.sw.lanes.length = c.lanes.length := sweeps_len _
    refine ⟨hn, fun h hh => ok.names h (kk ▸ hh), by show (c.paidNow.foldl addBag c.bags).length ≤ 20; rw [addBags_len]; exact ok.bags, ?_, by have := ok.seenN; exact Nat.le_trans this (by omega), ?_, z.1, fun g hg => ?_, fun b hb => ?_, z.2⟩
    · show c.sw.lanes.length ≤ _
      rw [hl]
      have := ok.lanesN
      omega
    · have h2 := decs_len c.mid c.mid.kept ⟨[], []⟩
      have e2 : c.dc.paid.length + c.dc.left.length = 0 + 0 + c.sw.kept.length := h2
      have := mid_kshort ok
      show c.dc.left.length ≤ _
      omega
    · obtain ⟨g0, hg0, e1, e2, e3, e4⟩ := sweeps_lane _ hg
      have k := ok.lane g0 hg0
      show g.first.ok ∧ g.standing.ok ∧ g.l ∈ (c.paidNow.foldl addBag c.bags).map (·.1) ∧ g.r ∈ (c.paidNow.foldl addBag c.bags).map (·.1)
      rw [kk, e1, e2, e3, e4]
      exact k
    · rcases decs_left_mem c.mid _ _ (show b ∈ (c.mid.kept.foldl (decide1 c.mid c.mid.lanes c.mid.clock) ⟨[], []⟩).left from hb) with h | h
      · cases h
      · exact mid_kok ok b h
theorem fn0 {P : Program} {w : World} {K : PySem.W.Frag} {mg : Str → Option Value} {base : Heap} {d : He.DefD} {N ps : List Str} {k : Nat} {sp : Sp} {fd : FuncData} (F : FnD K d fd) (h0 : d.dfl = [])
    (S : FnScope N ps d.scope) (len : ∀ vs H Q E, sp vs H Q E → vs.length = ps.length)
    (hbody : ∀ (cdv : Value) (A : Around) (outer : List Env) (s : Shared) (H : Hp) (vs : List V) (Q : VK) (E : XK), Room k (A.deeper (envOfC d.qual d.scope s.heap.objs.size (He.fAd K d.at_) cdv)) → sp vs H Q E →
      ∃ t, PSs (cxOf CX0 P w K mg base N d.qual d.scope (He.fAd K d.at_) cdv A outer s H E).nox d.body t ∧ t { nx := fun _ H' => Q .non H', rt := Q } (start N vs) H) : FnOk P w K mg base CX0 (k + 1) (He.fAd K d.at_) fd ps sp := by
  have e : d.dvs K = [] := by unfold He.DefD.dvs; rw [h0]; rfl
  have F' : FunD K d.name d.qual d.params d.body d.scope [] (d.kws K) (He.fAd K d.at_) fd := e ▸ F
  refine F'.ok S len fun cdv A outer s H vs Q E hr h => ?_
  obtain ⟨t, h1, h2⟩ := hbody cdv A outer s H vs Q E hr h
  exact ⟨t, h1.nox, h2⟩
/-! ### a court is made -/
structure BagsOk (b : List Pay) : Prop where
  nd : (b.map (·.1)).Nodup
  ok : ∀ p ∈ b, NameOk p.1 ∧ 0 ≤ p.2
  len : b.length ≤ 20
def Ct.new (w : Int) (b : List Pay) : Ct := ⟨w, 0, b, [], [], [], []⟩
theorem new_ok {w : Int} {b : List Pay} (h : BagsOk b) : (Ct.new w b).ok 0 :=
  ⟨by omega, fun z hz => by obtain ⟨p, hp, rfl⟩ := List.mem_map.mp hz; exact (h.ok p hp).1, h.len, Nat.zero_le _, Nat.zero_le _, Nat.zero_le _, Nat.zero_le _, fun _ z => (List.not_mem_nil z).elim, fun _ z => (List.not_mem_nil z).elim, fun _ z => (List.not_mem_nil z).elim⟩
def spLookPurses (K : PySem.W.Frag) : Sp := fun vs H Q _ => ∃ (q : Addr) (xs : List V) (b : List Pay), vs = [.ref q] ∧ SqT K H q xs ∧ Paired (IsPay K H) xs b ∧ BagsOk b ∧ ∀ H', Same H H' → Q .non H'
def spCourtInit (K : PySem.W.Frag) : Sp := fun vs H Q _ => ∃ (a dx sgA : Addr) (w : Int) (q : Addr) (xs : List V) (b : List Pay), vs = [.ref a, .ref sgA, .int w, .ref q] ∧ H a = some (.ins (He.ga K "Court") dx []) ∧ 1 ≤ w ∧ w ≤ 100 ∧ SqT K H q xs ∧ Paired (IsPay K H) xs b ∧ BagsOk b ∧
  ∀ H' bD lL sD kL dL, [bD, lL, sD, kL, dL].Nodup → (∀ p ∈ [bD, lL, sD, kL, dL], H p = none) → (∀ p x, H p = some x → p ≠ a → H' p = some x) → Ks K H H' → H' a = some (.ins (He.ga K "Court") dx (ctF sgA bD lL sD kL dL w 0)) → H' bD = some (.dK (bagKV b)) → H' lL = some (.lst []) → H' sD = some (.dK []) → H' kL = some (.lst []) → H' dL = some (.lst []) → Q .non H'
theorem inV_str (z : Str) : ∀ ys : List Str, inV (.str z) (ys.map V.str) = decide (z ∈ ys)
  | [] => rfl
  | y :: r => by
    have ih := inV_str z r
    unfold inV at *
    rw [List.map_cons, List.any_cons, ih]
    show ((y == z) || _) = _
    by_cases e : z = y
    · subst e
      simp
    · have : (y == z) = false := beq_eq_false_iff_ne.mpr (fun q => e q.symm)
      rw [this]
      simp [e]
theorem flat_strs : ∀ ys : List Str, (ys.map V.str).all flatV = true
  | [] => rfl
  | _ :: r => flat_strs r
theorem stp {H : Hp} {p q a : Addr} {o u x : HO} (n : H q = none) (e : H p = some x) (pa : p ≠ a) : upd (upd H q o) a u p = some x := by
  rw [upd_ne pa, upd_ne (ne_of_none e n)]
  exact e
theorem stq {H : Hp} {q a : Addr} {o u : HO} (pa : q ≠ a) : upd (upd H q o) a u q = some o := by
  rw [upd_ne pa, upd_same]
theorem cut_to (xs : List V) (n : Nat) (h : n ≤ xs.length) : cutV xs none (some ((n : Nat) : Int)) = xs.take n := by
  unfold cutV
  rw [HT.sIx_nat, HT.sIx_none, Nat.min_eq_left h]
  rfl
theorem bag_put_new {b : List Pay} {h : Str} {i : Int} (e : look b h = none) : putK (bagKV b) (Sum.inr h) (.int i) = bagKV (b ++ [(h, i)]) := by
  unfold putK
  have a := valV_any (Sum.inr h : Key) (bagKV b)
  rw [val_bag, e] at a
  rw [if_neg (by rw [show (bagKV b).any (fun kv => decide (kv.1 = Sum.inr h)) = false from a]; exact Bool.false_ne_true)]
  unfold bagKV
  rw [List.map_append]
  rfl
theorem look_none_of {b : List Pay} {h : Str} (e : h ∉ b.map (·.1)) : look b h = none := by
  cases q : look b h with
  | none => rfl
  | some v => exact absurd (look_mem q) e
section
variable {P : Program} {w : World} {K : PySem.W.Frag} {mg : Str → Option Value} {base : Heap}
abbrev n_look_purses : List Str := ["purses", "names", "at", "hand", "many"]
theorem sc_look_purses : FnScope n_look_purses ["purses"] (defScope s_look_purses) := ⟨rfl, rfl, rfl, by decide +kernel, rfl, by decide +kernel, by decide +kernel⟩
theorem ok_look_purses (T : Tx K mg) : DefOk P w K mg base CX0 2 (He.fAd K d_look_purses.at_) ["purses"] (spLookPurses K) := by
  refine mk0 (d := d_look_purses) T.f_look_purses rfl (fun _ _ _ _ _ _ us hl => match us, hl with | [_], _ => rfl) sc_look_purses (fun vs H Q E h => ?_) (fun cdv A outer s H vs Q E hr h => ?_)
  · obtain ⟨_, _, _, rfl, _⟩ := h
    rfl
  · obtain ⟨q, xs, b, rfl, hq, pb, bok, h⟩ := h
    refine ⟨_, (pss_cons (ps_setLc (i := 1) (own := [("hand", 3), ("many", 4)]) (tt := tYes) (g := gTup K 2 (gCons (gName 3) (gCons (gName 4) gNil))) rfl sc_look_purses.nd rfl rfl (sw_true rfl rfl rfl (by decide +kernel)) (pi_tup (pv 0)) (blkOk_by (own := [("hand", 3), ("many", 4)]) (N := n_look_purses) (sc := defScope s_look_purses) (by decide +kernel)) (fun _ _ _ _ _ => (pg_tup rfl (pgs_cons (pg_name (i := 3) sc_look_purses.nd rfl (.inl rfl)) (pgs_cons (pg_name (i := 4) sc_look_purses.nd rfl (.inl rfl)) pgs_nil)))) (fun _ _ _ _ _ => pts_nil) (fun _ _ _ _ _ => (pv 3)))
      (pss_cons (ps_for PassesOwn.never rfl (pi_enum (by rfl) T.b_enumerate (pa_cons (pv 1) pa_nil)) (pg_tup rfl (pgs_cons (pg_name (i := 2) sc_look_purses.nd rfl (.inl rfl)) (pgs_cons (pg_name (i := 3) sc_look_purses.nd rfl (.inl rfl)) pgs_nil))) (pss_one (ps_if (PW.pt (pw_or (pt_not (pt_val (cD (ok_is_name T) T.g_is_name hr (pa_cons (pv 3) pa_nil)))) (pw_or1 (pt_cmpR op_in_seq (pv 3) (pe_slice sl_list (pv 1) po_none (po_some (pv 2))) (by rfl))))) (pss_one ps_never) pss_nil)))
      (pss_one (ps_for PassesOwn.never rfl (pi_tup (pv 0)) (pg_tup rfl (pgs_cons (pg_name (i := 3) sc_look_purses.nd rfl (.inl rfl)) (pgs_cons (pg_name (i := 4) sc_look_purses.nd rfl (.inl rfl)) pgs_nil))) (pss_one (ps_if (pt_not (pt_val (cD (ok_is_count_signs T) T.g_is_count_signs hr (pa_cons (pv 4) pa_nil)))) (pss_one ps_never) pss_nil)))))), ?_⟩
    have lb := paired_len pb
    have bl := bok.len
    refine ⟨_, rfl, q, rfl, ⟨_, hq⟩, fun D nD => lc_tup (xs := xs) (fun i H1 => Same H H1 ∧ H1 D = some (.lst (((b.take i).map (·.1)).map V.str))) ⟨same_upd nD, upd_same⟩ (fun i H1 _ h1 => Ks.same h1.1 _ _ hq) (fun i x H1 hi h1 => ?_) (fun H1 h1 => ?_)⟩
    · obtain ⟨s1, hD⟩ := h1
      obtain ⟨p, hp, r, rfl, hr⟩ := paired_get pb hi
      refine ⟨r, _, rfl, Ks.same s1 _ _ hr, rfl, _, _, rfl, _, _, rfl, rfl, rfl, _, rfl, _, hD, slt ?_, fun b' y e => ?_, ?_⟩
      · rw [List.length_map, List.length_map, List.length_take]
        omega
      · rw [upd_ne (ne_of_none e nD)]
        exact s1 _ _ e
      · rw [upd_same, take_succ_of hp, List.map_append, List.map_append]
        rfl
    · obtain ⟨s1, hD⟩ := h1
      rw [lb, List.take_length] at hD
      refine ⟨_, rfl, D, _, rfl, SqL.of hD, for_it (walk_enum (xs := (b.map (·.1)).map V.str)) (fun i σ H2 => Same H1 H2 ∧ ∃ y1 y2, σ = [some (.ref q), some (.ref D), y1, y2, none]) ⟨Same.refl _, none, none, rfl⟩ (fun i σ H2 _ h2 => SqL.of (h2.1 _ _ hD)) (fun i x σ H2 H3 hi h2 hy => ?_) (fun σ H2 h2 => ?_)⟩
      · obtain ⟨s2, y1, y2, rfl⟩ := h2
        obtain ⟨T0, x0, v, rfl, nT, rfl, e0, ev⟩ := hy
        obtain rfl := Option.some.inj e0
        have sT := same_upd (o := .tup [V.int ((i : Nat) : Int), v]) nT
        have ev' : ((b.map (·.1)).map V.str)[i]? = some v := ev
        rw [List.map_map, List.getElem?_map] at ev'
        obtain ⟨p, hp, rfl⟩ := Option.map_eq_some_iff.mp ev'
        have pok := bok.ok p (List.mem_of_getElem? hp)
        refine ⟨T0, _, rfl, SqT.of upd_same, rfl, _, _, rfl, _, _, rfl, rfl, ?_⟩
        have hD3 := sT _ _ (s2 _ _ hD)
        refine ⟨_, rfl, p.1, rfl, pok.1, fun H4 s4 => ⟨true, rfl, iteF ?_⟩⟩
        have hD4 := s4 _ _ hD3
        refine ⟨_, rfl, _, rfl, _, rfl, _, rfl, D, _, rfl, SqL.of hD4, fun c nc => ?_⟩
        have s5 := same_upd (o := HO.lst (cutV ((b.map (·.1)).map V.str) none (some ((i : Nat) : Int)))) nc
        have li : i < b.length := (List.getElem?_eq_some_iff.mp hp).1
        have ec : cutV ((b.map (·.1)).map V.str) none (some ((i : Nat) : Int)) = ((b.take i).map (·.1)).map V.str := by
          rw [cut_to _ _ (by rw [List.length_map, List.length_map]; omega), ← List.map_take, ← List.map_take]
        refine ⟨c, _, rfl, .inl (SqL.of upd_same), rfl, ?_, _, rfl, ?_⟩
        · rw [ec]
          exact flat_strs _
        · have en : inV (V.str p.1) (cutV ((b.map (·.1)).map V.str) none (some ((i : Nat) : Int))) = false := by
            rw [ec, inV_str]
            refine decide_eq_false fun hm => ?_
            have nd := bok.nd
            rw [← List.take_append_drop i b, List.map_append, List.nodup_append] at nd
            refine nd.2.2 p.1 hm p.1 ?_ rfl
            refine List.mem_map.mpr ⟨p, ?_, rfl⟩
            rw [List.mem_iff_getElem?]
            refine ⟨0, ?_⟩
            rw [List.getElem?_drop]
            exact hp
          refine iFe ?_ ?_
          · rw [if_neg Bool.false_ne_true]
            exact en
          · exact ⟨((s2.trans sT).trans s4).trans s5, _, _, rfl⟩
      · obtain ⟨s2, y1, y2, rfl⟩ := h2
        have s12 := s1.trans s2
        have pb2 := paired_imp (fun _ _ z => IsPay.mono (K := K) (Ks.same s12) z) pb
        refine ⟨_, rfl, q, rfl, ⟨_, Ks.same s12 _ _ hq⟩, for_tup (xs := xs) (fun i σ H3 => Same H2 H3 ∧ ∃ y1 y2 y3, σ = [some (.ref q), some (.ref D), y1, y2, y3]) ⟨Same.refl _, _, _, _, rfl⟩ (fun i σ H3 _ h3 => Ks.same (s12.trans h3.1) _ _ hq) (fun i x σ H3 hi h3 => ?_) (fun σ H3 h3 => ?_)⟩
        · obtain ⟨s3, z1, z2, z3, rfl⟩ := h3
          obtain ⟨p, hp, r, rfl, hr⟩ := paired_get pb2 hi
          have pok := bok.ok p (List.mem_of_getElem? hp)
          refine ⟨r, _, rfl, Ks.same s3 _ _ hr, rfl, _, _, rfl, _, _, rfl, rfl, ?_⟩
          exact ⟨_, rfl, p.2, rfl, true, by rw [decide_eq_true pok.2], iteF ⟨s3, _, _, _, rfl⟩⟩
        · exact h _ (s12.trans h3.1)
abbrev n_Court_init : List Str := ["self", "signs", "wait", "purses", "hand", "many"]
theorem sc_Court_init : FnScope n_Court_init ["self", "signs", "wait", "purses"] (defScope s_Court_init) := ⟨rfl, rfl, rfl, by decide +kernel, rfl, by decide +kernel, by decide +kernel⟩
theorem fn_Court_init (T : Tx K mg) {fd : FuncData} (F : FnD K d_Court_init fd) : FnOk P w K mg base CX0 3 (He.fAd K d_Court_init.at_) fd ["self", "signs", "wait", "purses"] (spCourtInit K) := by
  refine fn0 (d := d_Court_init) F rfl sc_Court_init (fun vs H Q E h => ?_) (fun cdv A outer s H vs Q E hr h => ?_)
  · obtain ⟨_, _, _, _, _, _, _, rfl, _⟩ := h
    rfl
  · obtain ⟨a, dx, sgA, wt, q, xs, b, rfl, ha, hw1, hw2, hq, pb, bok, h⟩ := h
    obtain ⟨_, h_MOST_WAIT⟩ := T.i_MOST_WAIT
    refine ⟨_, (pss_cons (ps_if (PW.pt (pw_or (pt_not (pt_val (cD (ok_is_count_signs T) T.g_is_count_signs hr (pa_cons (pv 2) pa_nil)))) (pw_or1 (pt_not (pt_chain op_le op_le pe_int (pv 2) (pe_glob (v := .int 100) rfl h_MOST_WAIT ⟨_, rfl⟩)))))) (pss_one ps_never) pss_nil)
      (pss_cons (ps_expr (cD (ok_look_purses T) T.g_look_purses hr (pa_cons (pv 3) pa_nil)))
      (pss_cons (ps_fld (pv 0) (pv 1) rfl)
      (pss_cons (ps_fld (pv 0) (pv 2) rfl)
      (pss_cons (ps_fld (pv 0) pe_int rfl)
      (pss_cons (ps_fld (pv 0) (pe_dc (own := [("hand", 4), ("many", 5)]) (tt := tYes) (g := gTup K 2 (gCons (gName 4) (gCons (gName 5) gNil))) rfl sc_Court_init.nd (pi_tup (pv 3)) (blkOk_by (own := [("hand", 4), ("many", 5)]) (N := n_Court_init) (sc := defScope s_Court_init) (by decide +kernel)) (fun _ _ _ _ _ => (pg_tup rfl (pgs_cons (pg_name (i := 4) sc_Court_init.nd rfl (.inl rfl)) (pgs_cons (pg_name (i := 5) sc_Court_init.nd rfl (.inl rfl)) pgs_nil)))) (fun _ _ _ _ _ => pts_nil) (fun _ _ _ _ _ => (pv 4)) (fun _ _ _ _ _ => (pv 5))) rfl)
      (pss_cons (ps_fld (pv 0) (pe_lst pa_nil) rfl)
      (pss_cons (ps_fld (pv 0) pe_dnewK rfl)
      (pss_cons (ps_fld (pv 0) (pe_lst pa_nil) rfl)
      (pss_one (ps_fld (pv 0) (pe_lst pa_nil) rfl))))))))))), ?_⟩
    refine ⟨_, rfl, wt, rfl, true, by rw [decide_eq_true (by omega)], iteF ?_⟩
    refine ⟨_, rfl, _, _, rfl, rfl, true, congrArg V.bl (decide_eq_true hw1), iteT ?_⟩
    refine ⟨_, _, rfl, rfl, true, congrArg V.bl (decide_eq_true hw2), iteF ?_⟩
    refine ⟨_, rfl, q, xs, b, rfl, hq, pb, bok, fun H1 s1 => ?_⟩
    have lb := paired_len pb
    have bl := bok.len
    have ha1 := s1 _ _ ha
    have hq1 := Ks.same (K := K) s1 _ _ hq
    refine ⟨_, rfl, _, rfl, a, _, dx, _, rfl, ha1, T.c_Court, T.n_Court_book, lt1k, ?_⟩
    refine ⟨_, rfl, _, rfl, a, _, dx, _, rfl, upd_same, T.c_Court, T.n_Court_long, lt1k, ?_⟩
    refine ⟨_, rfl, a, _, dx, _, rfl, upd_same, T.c_Court, T.n_Court_clock, lt1k, ?_⟩
    rw [upd_upd, upd_upd]
    have k2 : Ks K H1 (upd H1 a (.ins (He.ga K "Court") dx (putF "clock" (.int 0) (putF "long" (.int wt) (putF "book" (.ref sgA) []))))) := Ks.updI ha1
    have kp2 : ∀ p x, H p = some x → p ≠ a → upd H1 a (.ins (He.ga K "Court") dx (putF "clock" (.int 0) (putF "long" (.int wt) (putF "book" (.ref sgA) [])))) p = some x := fun p x e n => by
      rw [upd_ne n]
      exact s1 _ _ e
    have a2 : upd H1 a (.ins (He.ga K "Court") dx (putF "clock" (.int 0) (putF "long" (.int wt) (putF "book" (.ref sgA) [])))) a = some (.ins (He.ga K "Court") dx (putF "clock" (.int 0) (putF "long" (.int wt) (putF "book" (.ref sgA) [])))) := upd_same
    have pb2 := paired_imp (fun _ _ z => IsPay.mono (K := K) ((Ks.same s1).trans k2) z) pb
    have hq2 := k2 _ _ hq1
    have fr2 : ∀ p, upd H1 a (.ins (He.ga K "Court") dx (putF "clock" (.int 0) (putF "long" (.int wt) (putF "book" (.ref sgA) [])))) p = none → H p = none := fun p e => by
      cases z : H p with
      | none => rfl
      | some x =>
        by_cases c : p = a
        · rw [c, upd_same] at e
          cases e
        · rw [kp2 p x z c] at e
          cases e
    have ks2 := (Ks.same (K := K) s1).trans k2
    generalize hH2 : upd H1 a (.ins (He.ga K "Court") dx (putF "clock" (.int 0) (putF "long" (.int wt) (putF "book" (.ref sgA) [])))) = H2 at kp2 a2 pb2 hq2 fr2 ks2 ⊢
    refine ⟨_, rfl, q, rfl, ⟨_, hq2⟩, fun bD nbD => dc_tup (xs := xs) (fun i H3 => Same H2 H3 ∧ H3 bD = some (.dK (bagKV (b.take i)))) ⟨same_upd nbD, upd_same⟩ (fun i H3 _ h3 => Ks.same h3.1 _ _ hq2) (fun i x H3 hi h3 => ?_) (fun H3 h3 => ?_)⟩
    · obtain ⟨s3, hD⟩ := h3
      obtain ⟨p, hp, r, rfl, hr⟩ := paired_get pb2 hi
      have fresh : look (b.take i) p.1 = none := look_none_of fun hm => by
        have nd := bok.nd
        rw [← List.take_append_drop i b, List.map_append, List.nodup_append] at nd
        refine nd.2.2 p.1 hm p.1 ?_ rfl
        refine List.mem_map.mpr ⟨p, ?_, rfl⟩
        rw [List.mem_iff_getElem?]
        refine ⟨0, ?_⟩
        rw [List.getElem?_drop]
        exact hp
      refine ⟨r, _, rfl, Ks.same s3 _ _ hr, rfl, _, _, rfl, _, _, rfl, rfl, rfl, _, rfl, _, rfl, bagKV (b.take i), Sum.inr p.1, rfl, hD, slt ?_, fun b' y e => ?_, ?_⟩
      · unfold bagKV
        rw [List.length_map, List.length_take]
        omega
      · rw [upd_ne (ne_of_none e nbD)]
        exact s3 _ _ e
      · rw [upd_same, bag_put_new fresh, take_succ_of hp]
    · obtain ⟨s3, hD⟩ := h3
      rw [lb, List.take_length] at hD
      have n1 : a ≠ bD := ne_of_none a2 nbD
      have a3 := s3 _ _ a2
      refine ⟨_, rfl, a, _, dx, _, rfl, a3, T.c_Court, T.n_Court_bags, lt1k, ?_⟩
      refine ⟨Nat.zero_le _, fun lL nlL => ⟨_, rfl, a, _, dx, _, rfl, (same_upd nlL) _ _ upd_same, T.c_Court, T.n_Court_opened, lt1k, ?_⟩⟩
      refine fun sD nsD => ⟨_, rfl, a, _, dx, _, rfl, (same_upd nsD) _ _ upd_same, T.c_Court, T.n_Court_seen, lt1k, ?_⟩
      refine ⟨Nat.zero_le _, fun kL nkL => ⟨_, rfl, a, _, dx, _, rfl, (same_upd nkL) _ _ upd_same, T.c_Court, T.n_Court_kept, lt1k, ?_⟩⟩
      refine ⟨Nat.zero_le _, fun dL ndL => ⟨_, rfl, a, _, dx, _, rfl, (same_upd ndL) _ _ upd_same, T.c_Court, T.n_Court_deeds, lt1k, ?_⟩⟩
      have f0 : upd H3 a (.ins (He.ga K "Court") dx (putF "bags" (.ref bD) (putF "clock" (.int 0) (putF "long" (.int wt) (putF "book" (.ref sgA) []))))) bD = some (.dK (bagKV b)) := by
        rw [upd_ne n1.symm]
        exact hD
      have nla : lL ≠ a := fun e => by rw [e, upd_same] at nlL; cases nlL
      have nsa : sD ≠ a := fun e => by rw [e, upd_same] at nsD; cases nsD
      have nka : kL ≠ a := fun e => by rw [e, upd_same] at nkL; cases nkL
      have nda : dL ≠ a := fun e => by rw [e, upd_same] at ndL; cases ndL
      have f2 := stp (o := .lst []) (u := .ins (He.ga K "Court") dx (putF "opened" (.ref lL) (putF "bags" (.ref bD) (putF "clock" (.int 0) (putF "long" (.int wt) (putF "book" (.ref sgA) [])))))) nlL f0 n1.symm
      have f4 := stp (o := .dK []) (u := .ins (He.ga K "Court") dx (putF "seen" (.ref sD) (putF "opened" (.ref lL) (putF "bags" (.ref bD) (putF "clock" (.int 0) (putF "long" (.int wt) (putF "book" (.ref sgA) []))))))) nsD f2 n1.symm
      have f6 := stp (o := .lst []) (u := .ins (He.ga K "Court") dx (putF "kept" (.ref kL) (putF "seen" (.ref sD) (putF "opened" (.ref lL) (putF "bags" (.ref bD) (putF "clock" (.int 0) (putF "long" (.int wt) (putF "book" (.ref sgA) [])))))))) nkL f4 n1.symm
      have f8 := stp (o := .lst []) (u := .ins (He.ga K "Court") dx (putF "deeds" (.ref dL) (putF "kept" (.ref kL) (putF "seen" (.ref sD) (putF "opened" (.ref lL) (putF "bags" (.ref bD) (putF "clock" (.int 0) (putF "long" (.int wt) (putF "book" (.ref sgA) []))))))))) ndL f6 n1.symm
      have l2 := stq (H := upd H3 a (.ins (He.ga K "Court") dx (putF "bags" (.ref bD) (putF "clock" (.int 0) (putF "long" (.int wt) (putF "book" (.ref sgA) [])))))) (o := .lst []) (u := .ins (He.ga K "Court") dx (putF "opened" (.ref lL) (putF "bags" (.ref bD) (putF "clock" (.int 0) (putF "long" (.int wt) (putF "book" (.ref sgA) [])))))) nla
      have l4 := stp (o := .dK []) (u := .ins (He.ga K "Court") dx (putF "seen" (.ref sD) (putF "opened" (.ref lL) (putF "bags" (.ref bD) (putF "clock" (.int 0) (putF "long" (.int wt) (putF "book" (.ref sgA) []))))))) nsD l2 nla
      have l6 := stp (o := .lst []) (u := .ins (He.ga K "Court") dx (putF "kept" (.ref kL) (putF "seen" (.ref sD) (putF "opened" (.ref lL) (putF "bags" (.ref bD) (putF "clock" (.int 0) (putF "long" (.int wt) (putF "book" (.ref sgA) [])))))))) nkL l4 nla
      have l8 := stp (o := .lst []) (u := .ins (He.ga K "Court") dx (putF "deeds" (.ref dL) (putF "kept" (.ref kL) (putF "seen" (.ref sD) (putF "opened" (.ref lL) (putF "bags" (.ref bD) (putF "clock" (.int 0) (putF "long" (.int wt) (putF "book" (.ref sgA) []))))))))) ndL l6 nla
      have d4 := stq (H := upd (upd (upd H3 a (.ins (He.ga K "Court") dx (putF "bags" (.ref bD) (putF "clock" (.int 0) (putF "long" (.int wt) (putF "book" (.ref sgA) [])))))) lL (.lst [])) a (.ins (He.ga K "Court") dx (putF "opened" (.ref lL) (putF "bags" (.ref bD) (putF "clock" (.int 0) (putF "long" (.int wt) (putF "book" (.ref sgA) []))))))) (o := .dK []) (u := .ins (He.ga K "Court") dx (putF "seen" (.ref sD) (putF "opened" (.ref lL) (putF "bags" (.ref bD) (putF "clock" (.int 0) (putF "long" (.int wt) (putF "book" (.ref sgA) []))))))) nsa
      have d6 := stp (o := .lst []) (u := .ins (He.ga K "Court") dx (putF "kept" (.ref kL) (putF "seen" (.ref sD) (putF "opened" (.ref lL) (putF "bags" (.ref bD) (putF "clock" (.int 0) (putF "long" (.int wt) (putF "book" (.ref sgA) [])))))))) nkL d4 nsa
      have d8 := stp (o := .lst []) (u := .ins (He.ga K "Court") dx (putF "deeds" (.ref dL) (putF "kept" (.ref kL) (putF "seen" (.ref sD) (putF "opened" (.ref lL) (putF "bags" (.ref bD) (putF "clock" (.int 0) (putF "long" (.int wt) (putF "book" (.ref sgA) []))))))))) ndL d6 nsa
      have k6 := stq (H := upd (upd (upd (upd (upd H3 a (.ins (He.ga K "Court") dx (putF "bags" (.ref bD) (putF "clock" (.int 0) (putF "long" (.int wt) (putF "book" (.ref sgA) [])))))) lL (.lst [])) a (.ins (He.ga K "Court") dx (putF "opened" (.ref lL) (putF "bags" (.ref bD) (putF "clock" (.int 0) (putF "long" (.int wt) (putF "book" (.ref sgA) []))))))) sD (.dK [])) a (.ins (He.ga K "Court") dx (putF "seen" (.ref sD) (putF "opened" (.ref lL) (putF "bags" (.ref bD) (putF "clock" (.int 0) (putF "long" (.int wt) (putF "book" (.ref sgA) [])))))))) (o := .lst []) (u := .ins (He.ga K "Court") dx (putF "kept" (.ref kL) (putF "seen" (.ref sD) (putF "opened" (.ref lL) (putF "bags" (.ref bD) (putF "clock" (.int 0) (putF "long" (.int wt) (putF "book" (.ref sgA) [])))))))) nka
      have k8 := stp (o := .lst []) (u := .ins (He.ga K "Court") dx (putF "deeds" (.ref dL) (putF "kept" (.ref kL) (putF "seen" (.ref sD) (putF "opened" (.ref lL) (putF "bags" (.ref bD) (putF "clock" (.int 0) (putF "long" (.int wt) (putF "book" (.ref sgA) []))))))))) ndL k6 nka
      have up0 : ∀ p x, H p = some x → p ≠ a → upd H3 a (.ins (He.ga K "Court") dx (putF "bags" (.ref bD) (putF "clock" (.int 0) (putF "long" (.int wt) (putF "book" (.ref sgA) []))))) p = some x := fun p x e n => by
        rw [upd_ne n]
        exact s3 _ _ (kp2 p x e n)
      have fre : ∀ (Hz : Hp) p, (∀ p x, H p = some x → p ≠ a → Hz p = some x) → p ≠ a → Hz p = none → H p = none := fun Hz p up n e => by
        cases z : H p with
        | none => rfl
        | some x =>
          rw [up p x z n] at e
          cases e
      refine h _ bD lL sD kL dL ?_ ?_ (fun p x e n => stp ndL (stp nkL (stp nsD (stp nlL (up0 p x e n) n) n) n) n) ?_ upd_same f8 l8 d8 k8 (stq nda)
      · simp only [List.nodup_cons, List.mem_cons, List.not_mem_nil, or_false, not_or, List.nodup_nil, and_true, not_false_eq_true]
        exact ⟨⟨ne_of_none f0 nlL, ne_of_none f2 nsD, ne_of_none f4 nkL, ne_of_none f6 ndL⟩, ⟨ne_of_none l2 nsD, ne_of_none l4 nkL, ne_of_none l6 ndL⟩, ⟨ne_of_none d4 nkL, ne_of_none d6 ndL⟩, ne_of_none k6 ndL⟩
      · intro p hp
        simp only [List.mem_cons, List.not_mem_nil, or_false] at hp
        rcases hp with rfl | rfl | rfl | rfl | rfl
        · exact fr2 _ nbD
        · exact fre _ _ up0 nla nlL
        · exact fre _ _ (fun p x e n => stp nlL (up0 p x e n) n) nsa nsD
        · exact fre _ _ (fun p x e n => stp nsD (stp nlL (up0 p x e n) n) n) nka nkL
        · exact fre _ _ (fun p x e n => stp nkL (stp nsD (stp nlL (up0 p x e n) n) n) n) nda ndL
      · have step : ∀ {Hz : Hp} {q : Addr} {o u : HO} {C d : Addr} {fs : List (Str × V)}, Hz q = none → Hz a = some (.ins C d fs) → Ks K H Hz → Ks K H (upd (upd Hz q o) a u) := fun nq ea kk => (kk.trans (Ks.same (same_upd nq))).trans (Ks.updI ((same_upd nq) _ _ ea))
        exact step ndL upd_same (step nkL upd_same (step nsD upd_same (step nlL upd_same ((ks2.trans (Ks.same s3)).trans (Ks.updI a3)))))
end
end Cn
namespace Cn
open PySem PySem.Spec PyProof.Rows L2
def cMax : Nat := 10000000
theorem ints_dp {K : PySem.W.Frag} {H : Hp} : ∀ gs : List Int, DpAll K H (gs.map V.int) (gs.map PyData.int)
  | [] => .nil
  | g :: r => .cons (.int g) (ints_dp r)
theorem ints_shaped (gs : List Int) : SeqAt.shaped (.list (gs.map PyData.int)) = true := by
  have h : ∀ gs : List Int, PyData.canLayAll0 (gs.map PyData.int) = true ∧ PyData.depthAll (gs.map PyData.int) = 0 := fun gs => by
    induction gs with
    | nil => exact ⟨by simp [PyData.canLayAll0], by simp [PyData.depthAll]⟩
    | cons g r ih => exact ⟨by simp [PyData.canLayAll0, PyData.canLay0, ih.1], by simp [PyData.depthAll, PyData.depth, ih.2]⟩
  obtain ⟨h1, h2⟩ := h gs
  unfold SeqAt.shaped
  simp [PyData.canLay0, h1, PyData.depth, h2]
theorem ints_nil (gs : List Int) : PyData.eqv (.list (gs.map PyData.int)) (.list []) = gs.isEmpty := by
  cases gs with
  | nil => rfl
  | cons g r => rfl
theorem fmod_in (g : Int) {m : Int} (h : 0 < m) : 0 ≤ g.fmod m ∧ g.fmod m < m := by
  rw [Int.fmod_eq_emod_of_nonneg g (by omega)]
  exact ⟨Int.emod_nonneg _ (by omega), Int.emod_lt_of_pos _ h⟩
theorem log9 {g : Int} (h : g.natAbs < 10 ^ 120) : g.natAbs.log2 < 9000 := by
  have k : (10 : Nat) ^ 120 ≤ 2 ^ 400 := by decide
  have z := PySem.Flt.log2_lt_of (show 0 < 400 by decide) (Nat.lt_of_lt_of_le h k)
  omega
theorem mix_small {st x n : Int} (h0 : 0 ≤ st) (h1 : st < 2147483563) (x0 : 0 ≤ x) (x1 : x ≤ 2147483563) (n0 : 0 ≤ n) (n1 : n ≤ 10000001) : (st + x * (n * 3163 + 1)).natAbs < 2 ^ 100 := by
  have a : 0 ≤ x * (n * 3163 + 1) := Int.mul_nonneg x0 (by omega)
  have b : x * (n * 3163 + 1) ≤ 2147483563 * 31630003164 := Int.mul_le_mul x1 (by omega) (by omega) (by decide)
  omega
def spTake (K : PySem.W.Frag) : Sp := fun vs H Q _ => ∃ (o : Own) (W : Addr) (c : Nat) (m : Int), vs = [.ref W, .int m] ∧ 1 ≤ m ∧ Well K o H W c ∧ c + 1 ≤ cMax ∧ ∀ r H', 0 ≤ r → r < m → Ef K 0 o H o H' → Well K o H' W (c + 1) → Q (.int r) H'
section
variable {P : Program} {w : World} {K : PySem.W.Frag} {mg : Str → Option Value} {base : Heap}
abbrev n_law_take : List Str := ["_law_well_here", "_law_many", "_law_number", "_law_cell"]
theorem sc_law_take : FnScope n_law_take ["_law_well_here", "_law_many"] (defScope s_law_take) := ⟨rfl, rfl, rfl, by decide +kernel, rfl, by decide +kernel, by decide +kernel⟩
theorem ok_law_take (T : Tx K mg) : DefOk P w K mg base CX0 1 (He.fAd K d_law_take.at_) ["_law_well_here", "_law_many"] (spTake K) := by
  refine mk0 (d := d_law_take) T.f_law_take rfl (fun _ _ _ _ _ _ us hl => match us, hl with | [_, _], _ => rfl) sc_law_take (fun vs H Q E h => ?_) (fun cdv A outer s H vs Q E hr h => ?_)
  · obtain ⟨_, _, _, _, rfl, _⟩ := h
    rfl
  · obtain ⟨o, W, c, m, rfl, hm, Wl, hc, h⟩ := h
    refine ⟨_, (pss_cons (ps_if (pt_cmpR (op_neD hr.units) (pe_ix ix_list (pv 0) pe_int (fun _ _ => rfl)) (pe_lst pa_nil) (nomark _)) (pss_cons (ps_set (i := 2) sc_law_take.nd rfl (.inl rfl) (pe_ix ix_list (pe_ix ix_list (pv 0) pe_int (fun _ _ => rfl)) pe_int (fun _ _ => rfl)))
      (pss_cons (ps_asg (pe_op op_fdivS (pv 2) (pv 1)) (pg_sub (pe_ix ix_list (pv 0) pe_int (fun _ _ => rfl)) pe_int set_list))
      (pss_cons (ps_if (pt_cmpR op_lt (pv 2) (pv 1) (nomark _)) (pss_one (ps_expr (pe_bm PySem.F.plainAttrs_list PySem.F.slot_list_pop PySem.F.type_list_pop mt_popAt (pe_ix ix_list (pv 0) pe_int (fun _ _ => rfl)) (pa_cons pe_int pa_nil)))) pss_nil)
      (pss_one (ps_ret (pe_op op_modN (pv 2) (pv 1))))))) pss_nil)
      (pss_cons (ps_asg (pe_op op_add (pe_ix ix_list (pv 0) pe_int (fun _ _ => rfl)) pe_int) (pg_sub (pv 0) pe_int set_list))
      (pss_cons (ps_set (i := 3) sc_law_take.nd rfl (.inl rfl) pe_int)
      (pss_cons (ps_if (pt_cmpR (op_neD hr.units) (pe_ix ix_list (pv 0) pe_int (fun _ _ => rfl)) (pe_lst pa_nil) (nomark _)) (pss_one (ps_set (i := 3) sc_law_take.nd rfl (.inl rfl) (pe_op op_add (pe_ix ix_list (pe_ix ix_list (pv 0) pe_int (fun _ _ => rfl)) (pe_op op_modN (pe_ix ix_list (pv 0) pe_int (fun _ _ => rfl)) (pe_callB call_len_seq (by rfl) T.b_len PySem.boot_len (pa_cons (pe_ix ix_list (pv 0) pe_int (fun _ _ => rfl)) pa_nil))) (fun _ _ => rfl)) pe_int))) pss_nil)
      (pss_cons (ps_set (i := 2) sc_law_take.nd rfl (.inl rfl) (pe_op op_modN (pe_op op_powL (pe_op op_add (pe_ix ix_list (pv 0) pe_int (fun _ _ => rfl)) (pe_op op_mul (pv 3) (pe_op op_add (pe_op op_mul (pe_ix ix_list (pv 0) pe_int (fun _ _ => rfl)) pe_int) pe_int))) pe_int) pe_int))
      (pss_cons (ps_asg (pe_op op_modN (pe_op op_add (pe_op op_add (pe_op op_mul (pe_ix ix_list (pv 0) pe_int (fun _ _ => rfl)) pe_int) (pv 2)) (pe_ix ix_list (pv 0) pe_int (fun _ _ => rfl))) pe_int) (pg_sub (pv 0) pe_int set_list))
      (pss_one (ps_ret (pe_op op_modN (pe_op op_fdivS (pv 2) pe_int) (pv 1)))))))))), ?_⟩
    obtain ⟨G, S, gs, ss, st, n, oW, oG, oS, nGS, hW, hG, hS, gb, gl, sb, sl1, st0, st1, nc, cc⟩ := Wl.is
    have nWG : W ≠ G := fun e => by
      rw [e, hG] at hW
      cases gs <;> cases hW
    have nWS : W ≠ S := fun e => by
      rw [e, hS] at hW
      cases ss <;> cases hW
    refine ⟨_, rfl, W, _, _, _, rfl, rfl, SqL.of hW, rfl, sl, fun z1 nz1 => ?_⟩
    have s1 := same_upd (o := HO.lst []) nz1
    have hW1 := s1 _ _ hW
    have hG1 := s1 _ _ hG
    have hS1 := s1 _ _ hS
    refine ⟨_, _, .lst (SqL.of hG1) (ints_dp gs), .lst (SqL.of upd_same) .nil, ints_shaped gs, ints_shaped [], _, rfl, ?_⟩
    rw [ints_nil]
    cases gs with
    | cons g r =>
      refine iteT ?_
      obtain ⟨g0, g1⟩ := gb g List.mem_cons_self
      have at0 : atI ((g :: r).map V.int) 0 = some (.int g) := atI_of (by decide) rfl
      refine ⟨_, rfl, W, _, _, _, rfl, rfl, SqL.of hW1, rfl, G, _, _, _, rfl, rfl, SqL.of hG1, at0, ?_⟩
      have lg : g.natAbs.log2 < 9000 := log9 (by omega)
      refine ⟨_, rfl, _, rfl, _, _, rfl, rfl, ⟨by omega, lg⟩, ?_⟩
      have q0 : 0 ≤ g / m := Int.ediv_nonneg g0 (by omega)
      have q1 : g / m ≤ g := Int.ediv_le_self m g0
      have nz1G : z1 ≠ G := (ne_of_none hG nz1).symm
      refine ⟨_, rfl, W, _, _, _, rfl, rfl, SqL.of hW1, rfl, G, _, _, 0, rfl, rfl, hG1, by simp [ixN], ?_⟩
      have e2 : ((g :: r).map V.int).set 0 (.int (g / m)) = ((g / m) :: r).map V.int := rfl
      rw [e2]
      have kG : Ks K (upd H z1 (.lst [])) (upd (upd H z1 (.lst [])) G (.lst (((g / m) :: r).map V.int))) := Ks.updL hG1
      have ef2 : Ef K 0 o H o (upd (upd H z1 (.lst [])) G (.lst (((g / m) :: r).map V.int))) := (Ef.same s1).trans (Ef.at oG kG)
      have hW2 : upd (upd H z1 (.lst [])) G (.lst (((g / m) :: r).map V.int)) W = some (.lst [.ref G, .ref S, .int st, .int n]) := by
        rw [upd_ne nWG]
        exact hW1
      have hS2 : upd (upd H z1 (.lst [])) G (.lst (((g / m) :: r).map V.int)) S = some (.lst (ss.map V.int)) := by
        rw [upd_ne nGS.symm]
        exact hS1
      have gb2 : ∀ x ∈ (g / m) :: r, 0 ≤ x ∧ x < 10 ^ 120 := fun x hx => by
        rcases List.mem_cons.mp hx with rfl | hx
        · exact ⟨q0, by omega⟩
        · exact gb x (List.mem_cons_of_mem _ hx)
      have m0 : 0 ≤ g.fmod m := (fmod_in g (by omega)).1
      have m1 : g.fmod m < m := (fmod_in g (by omega)).2
      refine ⟨_, rfl, _, rfl, _, _, rfl, rfl, _, rfl, ite2 (fun c1 => ?_) (fun c1 => ?_)⟩
      · refine ⟨_, rfl, W, _, _, _, rfl, rfl, SqL.of hW2, rfl, .inl ⟨rfl, _, SqL.of upd_same⟩, G, _, 0, 0, _, rfl, rfl, upd_same, by decide, by decide, by simp [seqIndex?], rfl, ?_⟩
        have kG3 : Ks K _ (upd (upd (upd H z1 (.lst [])) G (.lst (((g / m) :: r).map V.int))) G (.lst (r.map V.int))) := Ks.updL upd_same
        have ef3 := ef2.trans (Ef.at (t := 0) oG kG3)
        refine ⟨_, rfl, _, rfl, _, _, rfl, rfl, by omega, h _ _ m0 m1 ef3 ⟨Wl.dom.ef ef3, G, S, r, ss, st, n, oW, oG, oS, nGS, ?_, upd_same, ?_, fun x hx => gb x (List.mem_cons_of_mem _ hx), by simp at gl; omega, sb, sl1, st0, st1, by omega, hc⟩⟩
        · rw [upd_ne nWG]
          exact hW2
        · rw [upd_ne nGS.symm]
          exact hS2
      · exact ⟨_, rfl, _, rfl, _, _, rfl, rfl, by omega, h _ _ m0 m1 ef2 ⟨Wl.dom.ef ef2, G, S, (g / m) :: r, ss, st, n, oW, oG, oS, nGS, hW2, upd_same, hS2, gb2, gl, sb, sl1, st0, st1, by omega, hc⟩⟩
    | nil =>
      refine iteF ?_
      refine ⟨_, rfl, W, _, _, _, rfl, rfl, SqL.of hW1, rfl, _, _, rfl, rfl, _, rfl, W, _, _, 3, rfl, rfl, hW1, by simp [ixN], ?_⟩
      have kW : Ks K (upd H z1 (.lst [])) (upd (upd H z1 (.lst [])) W (.lst [.ref G, .ref S, .int st, .int ((n : Int) + 1)])) := Ks.updL hW1
      have ef2 : Ef K 0 o H o (upd (upd H z1 (.lst [])) W (.lst [.ref G, .ref S, .int st, .int ((n : Int) + 1)])) := (Ef.same s1).trans (Ef.at oW kW)
      have hG2 : upd (upd H z1 (.lst [])) W (.lst [.ref G, .ref S, .int st, .int ((n : Int) + 1)]) G = some (.lst (([] : List Int).map V.int)) := by
        rw [upd_ne nWG.symm]
        exact hG1
      have hS2 : upd (upd H z1 (.lst [])) W (.lst [.ref G, .ref S, .int st, .int ((n : Int) + 1)]) S = some (.lst (ss.map V.int)) := by
        rw [upd_ne nWS.symm]
        exact hS1
      refine ⟨_, rfl, W, _, _, _, rfl, rfl, SqL.of upd_same, rfl, sl, fun z2 nz2 => ?_⟩
      have s3 := same_upd (o := HO.lst []) nz2
      have hW3 := s3 _ _ (upd_same (H := upd H z1 (.lst [])) (a := W) (o := HO.lst [.ref G, .ref S, .int st, .int ((n : Int) + 1)]))
      have hG3 := s3 _ _ hG2
      have hS3 := s3 _ _ hS2
      have ef3' := ef2.trans (Ef.same (t := 0) (o := o) s3)
      refine ⟨_, _, .lst (SqL.of hS3) (ints_dp ss), .lst (SqL.of upd_same) .nil, ints_shaped ss, ints_shaped [], _, rfl, ?_⟩
      rw [ints_nil]
      cases es : ss.isEmpty with
      | true =>
        refine iteF ?_
        refine ⟨_, rfl, W, _, _, _, rfl, rfl, SqL.of hW3, rfl, _, rfl, _, rfl, W, _, _, _, rfl, rfl, SqL.of hW3, rfl, _, _, rfl, rfl, .inl ⟨by omega, by omega⟩, _, _, rfl, rfl, _, _, rfl, rfl, .inl ⟨by decide, by decide⟩, _, _, rfl, rfl, _, _, rfl, rfl, ⟨by decide, ?_⟩, _, _, rfl, rfl, (show (2147483563 : Int) ≠ 0 by decide), ?_⟩
        · have := bits_lt (n := 100) (by decide) (mix_small st0 st1 (x := 1) (by decide) (by decide) (n := (n : Int) + 1) (by omega) (by omega))
          show (Builtin.Int.intBits (st + 1 * (((n : Int) + 1) * 3163 + 1)) : Int) * 5 ≤ 2 ^ 27
          omega
        have num0 : 0 ≤ ((st + 1 * (((n : Int) + 1) * 3163 + 1)) ^ (5 : Int).toNat).fmod 2147483563 ∧ ((st + 1 * (((n : Int) + 1) * 3163 + 1)) ^ (5 : Int).toNat).fmod 2147483563 < 2147483563 := fmod_in _ (by decide)
        refine ⟨_, rfl, W, _, _, _, rfl, rfl, SqL.of hW3, rfl, _, _, rfl, rfl, .inl ⟨by omega, by omega⟩, _, rfl, _, _, rfl, rfl, _, rfl, W, _, _, _, rfl, rfl, SqL.of hW3, rfl, _, _, rfl, rfl, _, _, rfl, rfl, (show (2147483563 : Int) ≠ 0 by decide), ?_⟩
        refine ⟨_, rfl, W, _, _, 2, rfl, rfl, hW3, by simp [ixN], ?_⟩
        have st2 := fmod_in (st * 40692 + ((st + 1 * (((n : Int) + 1) * 3163 + 1)) ^ (5 : Int).toNat).fmod 2147483563 + ((n : Int) + 1)) (m := 2147483563) (by decide)
        have kW3 : Ks K (upd (upd (upd H z1 (.lst [])) W (.lst [.ref G, .ref S, .int st, .int ((n : Int) + 1)])) z2 (.lst [])) (upd (upd (upd (upd H z1 (.lst [])) W (.lst [.ref G, .ref S, .int st, .int ((n : Int) + 1)])) z2 (.lst [])) W (.lst [.ref G, .ref S, .int ((st * 40692 + ((st + 1 * (((n : Int) + 1) * 3163 + 1)) ^ (5 : Int).toNat).fmod 2147483563 + ((n : Int) + 1)).fmod 2147483563), .int ((n : Int) + 1)])) := Ks.updL hW3
        have ef3 : Ef K 0 o H o (upd (upd (upd (upd H z1 (.lst [])) W (.lst [.ref G, .ref S, .int st, .int ((n : Int) + 1)])) z2 (.lst [])) W (.lst [.ref G, .ref S, .int ((st * 40692 + ((st + 1 * (((n : Int) + 1) * 3163 + 1)) ^ (5 : Int).toNat).fmod 2147483563 + ((n : Int) + 1)).fmod 2147483563), .int ((n : Int) + 1)])) := ef3'.trans (Ef.at oW kW3)
        have rr := fmod_in (((st + 1 * (((n : Int) + 1) * 3163 + 1)) ^ (5 : Int).toNat).fmod 2147483563 / 8) (m := m) (by omega)
        refine ⟨_, rfl, _, _, rfl, rfl, ⟨by decide, log9 (by omega)⟩, _, rfl, _, _, rfl, rfl, by omega, h _ _ rr.1 rr.2 ef3 ⟨Wl.dom.ef ef3, G, S, [], ss, _, n + 1, oW, oG, oS, nGS, upd_same, ?_, ?_, gb, gl, sb, sl1, st2.1, st2.2, by omega, hc⟩⟩
        · rw [upd_ne nWG.symm]
          exact hG3
        · rw [upd_ne nWS.symm]
          exact hS3
      | false =>
        refine iteT ?_
        have lss : 0 < ss.length := by
          cases ss with
          | nil => cases es
          | cons _ _ => exact Nat.succ_pos _
        have ix := fmod_in ((n : Int) + 1) (m := (ss.length : Int)) (by omega)
        have ixl : (((n : Int) + 1).fmod (ss.length : Int)).toNat < ss.length := by omega
        have xin := sb _ (List.getElem_mem ixl)
        have atS : atI (ss.map V.int) (((n : Int) + 1).fmod (ss.length : Int)) = some (.int ss[(((n : Int) + 1).fmod (ss.length : Int)).toNat]) := atI_of ix.1 (by rw [List.getElem?_map, List.getElem?_eq_getElem ixl]; rfl)
        generalize hx : ss[(((n : Int) + 1).fmod (ss.length : Int)).toNat] = x at atS xin
        refine ⟨_, rfl, W, _, _, _, rfl, rfl, SqL.of hW3, rfl, _, rfl, W, _, _, _, rfl, rfl, SqL.of hW3, rfl, _, rfl, W, _, _, _, rfl, rfl, SqL.of hW3, rfl, S, _, rfl, .inl (SqL.of hS3), _, _, rfl, rfl, by rw [List.length_map]; omega, S, _, _, _, rfl, rfl, SqL.of hS3, by rw [List.length_map]; exact atS, _, _, rfl, rfl, ?_⟩
        refine ⟨_, rfl, W, _, _, _, rfl, rfl, SqL.of hW3, rfl, _, rfl, _, rfl, W, _, _, _, rfl, rfl, SqL.of hW3, rfl, _, _, rfl, rfl, .inl ⟨by omega, by omega⟩, _, _, rfl, rfl, _, _, rfl, rfl, .inl ⟨by omega, by omega⟩, _, _, rfl, rfl, _, _, rfl, rfl, ⟨by decide, ?_⟩, _, _, rfl, rfl, (show (2147483563 : Int) ≠ 0 by decide), ?_⟩
        · have := bits_lt (n := 100) (by decide) (mix_small st0 st1 (x := (x + 1)) (by omega) (by omega) (n := (n : Int) + 1) (by omega) (by omega))
          show (Builtin.Int.intBits (st + (x + 1) * (((n : Int) + 1) * 3163 + 1)) : Int) * 5 ≤ 2 ^ 27
          omega
        have num0 : 0 ≤ ((st + (x + 1) * (((n : Int) + 1) * 3163 + 1)) ^ (5 : Int).toNat).fmod 2147483563 ∧ ((st + (x + 1) * (((n : Int) + 1) * 3163 + 1)) ^ (5 : Int).toNat).fmod 2147483563 < 2147483563 := fmod_in _ (by decide)
        refine ⟨_, rfl, W, _, _, _, rfl, rfl, SqL.of hW3, rfl, _, _, rfl, rfl, .inl ⟨by omega, by omega⟩, _, rfl, _, _, rfl, rfl, _, rfl, W, _, _, _, rfl, rfl, SqL.of hW3, rfl, _, _, rfl, rfl, _, _, rfl, rfl, (show (2147483563 : Int) ≠ 0 by decide), ?_⟩
        refine ⟨_, rfl, W, _, _, 2, rfl, rfl, hW3, by simp [ixN], ?_⟩
        have st2 := fmod_in (st * 40692 + ((st + (x + 1) * (((n : Int) + 1) * 3163 + 1)) ^ (5 : Int).toNat).fmod 2147483563 + ((n : Int) + 1)) (m := 2147483563) (by decide)
        have kW3 : Ks K (upd (upd (upd H z1 (.lst [])) W (.lst [.ref G, .ref S, .int st, .int ((n : Int) + 1)])) z2 (.lst [])) (upd (upd (upd (upd H z1 (.lst [])) W (.lst [.ref G, .ref S, .int st, .int ((n : Int) + 1)])) z2 (.lst [])) W (.lst [.ref G, .ref S, .int ((st * 40692 + ((st + (x + 1) * (((n : Int) + 1) * 3163 + 1)) ^ (5 : Int).toNat).fmod 2147483563 + ((n : Int) + 1)).fmod 2147483563), .int ((n : Int) + 1)])) := Ks.updL hW3
        have ef3 : Ef K 0 o H o (upd (upd (upd (upd H z1 (.lst [])) W (.lst [.ref G, .ref S, .int st, .int ((n : Int) + 1)])) z2 (.lst [])) W (.lst [.ref G, .ref S, .int ((st * 40692 + ((st + (x + 1) * (((n : Int) + 1) * 3163 + 1)) ^ (5 : Int).toNat).fmod 2147483563 + ((n : Int) + 1)).fmod 2147483563), .int ((n : Int) + 1)])) := ef3'.trans (Ef.at oW kW3)
        have rr := fmod_in (((st + (x + 1) * (((n : Int) + 1) * 3163 + 1)) ^ (5 : Int).toNat).fmod 2147483563 / 8) (m := m) (by omega)
        refine ⟨_, rfl, _, _, rfl, rfl, ⟨by decide, log9 (by omega)⟩, _, rfl, _, _, rfl, rfl, by omega, h _ _ rr.1 rr.2 ef3 ⟨Wl.dom.ef ef3, G, S, [], ss, _, n + 1, oW, oG, oS, nGS, upd_same, ?_, ?_, gb, gl, sb, sl1, st2.1, st2.2, by omega, hc⟩⟩
        · rw [upd_ne nWG.symm]
          exact hG3
        · rw [upd_ne nWS.symm]
          exact hS3
end
end Cn
namespace Cn
open PySem PySem.Spec PyProof.Rows L2
def spDraw {α : Type} (K : PySem.W.Frag) (n : Nat) (args : α → List V → Hp → Prop) (R : α → Hp → V → Hp → Own → Prop) : Sp := fun vs H Q _ => ∃ (x : α) (o : Own) (W : Addr) (c : Nat) (us : List V), vs = .ref W :: us ∧ args x us H ∧ Well K o H W c ∧ c + n ≤ cMax ∧
  ∀ v H', Ef K 0 o H o H' → Well K o H' W (c + n) → R x H v H' o → Q v H'
abbrev alpha : Str := "abcdefghijklmnopqrstuvwxyz"
/-- one letter -/
def OneL (z : Str) : Prop := ∃ c, z = ⟨#[c]⟩ ∧ c ∈ alpha.cps.toList
theorem joinL_one : ∀ {zs : List Str}, (∀ z ∈ zs, OneL z) → (TL.joinL [] (zs.map TL.tl)).length = zs.length ∧ ∀ c ∈ TL.joinL [] (zs.map TL.tl), c ∈ alpha.cps.toList
  | [], _ => ⟨rfl, fun _ h => (List.not_mem_nil h).elim⟩
  | [z], h => by
    obtain ⟨c, rfl, hc⟩ := h z List.mem_cons_self
    refine ⟨rfl, fun d hd => ?_⟩
    have : d ∈ [c] := hd
    rw [List.mem_singleton.mp this]
    exact hc
  | z :: y :: r, h => by
    obtain ⟨c, rfl, hc⟩ := h z List.mem_cons_self
    obtain ⟨h1, h2⟩ := joinL_one (zs := y :: r) fun q hq => h q (List.mem_cons_of_mem _ hq)
    have e : TL.joinL [] (((⟨#[c]⟩ : Str) :: y :: r).map TL.tl) = c :: TL.joinL [] ((y :: r).map TL.tl) := rfl
    rw [e]
    refine ⟨by rw [List.length_cons, h1]; rfl, fun d hd => ?_⟩
    rcases List.mem_cons.mp hd with rfl | hd
    · exact hc
    · exact h2 d hd
theorem join_name {zs : List Str} (h : ∀ z ∈ zs, OneL z) (h1 : 1 ≤ zs.length) (h2 : zs.length ≤ 8) : NameOk (Txt.join "" zs) := by
  have e : TL.tl (Txt.join "" zs) = TL.joinL [] (zs.map TL.tl) := by
    rw [TL.join_eq, TL.tl_join]
    rfl
  obtain ⟨k1, k2⟩ := joinL_one h
  have l : (Txt.join "" zs).length = zs.length := by
    show (Txt.join "" zs).cps.size = _
    rw [← Array.length_toList]
    show (TL.tl (Txt.join "" zs)).length = _
    rw [e, k1]
  refine ⟨by rw [l]; exact h1, by rw [l]; exact h2, fun c hc => k2 c ?_⟩
  rw [← e]
  exact hc
theorem one_len {z : Str} (h : OneL z) : z.length = 1 := by
  obtain ⟨c, rfl, _⟩ := h
  rfl
theorem sum_ones : ∀ {zs : List Str}, (∀ z ∈ zs, OneL z) → (zs.map (·.length)).sum = zs.length
  | [], _ => rfl
  | z :: r, h => by
    rw [List.map_cons, List.sum_cons, sum_ones (zs := r) fun q hq => h q (List.mem_cons_of_mem _ hq), one_len (h z List.mem_cons_self), List.length_cons]
    omega
theorem letter_at {i : Int} (h0 : 0 ≤ i) (h1 : i < 26) : ∃ c, atI alpha.cps.toList i = some c ∧ c ∈ alpha.cps.toList := by
  obtain ⟨n, rfl⟩ := Int.eq_ofNat_of_zero_le h0
  have l : alpha.cps.toList.length = 26 := by decide +kernel
  have hn : n < alpha.cps.toList.length := by omega
  exact ⟨alpha.cps.toList[n], atI_nat (List.getElem?_eq_getElem hn), List.getElem_mem hn⟩
def argName (x : Int) (us : List V) (_ : Hp) : Prop := us = [.int x] ∧ 1 ≤ x ∧ x ≤ 8
def spNameL (K : PySem.W.Frag) : Sp := spDraw K 10 argName (fun _ _ v _ _ => ∃ z, v = .str z ∧ NameOk z)
def spSum (K : PySem.W.Frag) : Sp := spDraw (α := Unit) K 2 (fun _ us _ => us = []) (fun _ _ v _ _ => ∃ i : Int, v = .int i ∧ 0 ≤ i)
section
variable {P : Program} {w : World} {K : PySem.W.Frag} {mg : Str → Option Value} {base : Heap}
abbrev n_law_sum : List Str := ["_law_well_here"]
theorem sc_law_sum : FnScope n_law_sum ["_law_well_here"] (defScope s_law_sum) := ⟨rfl, rfl, rfl, by decide +kernel, rfl, by decide +kernel, by decide +kernel⟩
theorem ok_law_sum (T : Tx K mg) : DefOk P w K mg base CX0 2 (He.fAd K d_law_sum.at_) ["_law_well_here"] (spSum K) := by
  refine mk0 (d := d_law_sum) T.f_law_sum rfl (fun _ _ _ _ _ _ us hl => match us, hl with | [_], _ => rfl) sc_law_sum (fun vs H Q E h => ?_) (fun cdv A outer s H vs Q E hr h => ?_)
  · obtain ⟨_, _, _, _, _, rfl, rfl, _⟩ := h
    rfl
  · obtain ⟨_, o, W, c, us, rfl, rfl, Wl, hc, h⟩ := h
    refine ⟨_, (pss_one (ps_ret (cD (ok_law_take T) T.g_law_take hr (pa_cons (pv 0) (pa_cons (pe_ix ix_list (pe_lst (pa_cons pe_int (pa_cons pe_int (pa_cons pe_int (pa_cons (pe_op op_powL pe_int pe_int) (pa_cons (pe_op op_powL pe_int pe_int) pa_nil)))))) (cD (ok_law_take T) T.g_law_take hr (pa_cons (pv 0) (pa_cons pe_int pa_nil))) (fun _ _ => rfl)) pa_nil))))), ?_⟩
    refine ⟨_, rfl, _, _, rfl, rfl, ⟨by decide, by decide⟩, _, _, rfl, rfl, ⟨by decide, by decide⟩, sl, fun l nl => ?_⟩
    have s1 := same_upd (o := HO.lst [V.int 4, V.int 10, V.int 100, V.int (10 ^ (6 : Int).toNat), V.int (10 ^ (12 : Int).toNat)]) nl
    have W1 := Wl.same s1
    have ol := Wl.dom.free nl
    refine ⟨_, rfl, o, W, c, 5, rfl, by decide, W1, by omega, fun r H2 r0 r1 ef2 W2 => ?_⟩
    have hl2 := (ef2.mine upd_same ol).1
    have hz : ∃ m : Int, atI [V.int 4, V.int 10, V.int 100, V.int (10 ^ (6 : Int).toNat), V.int (10 ^ (12 : Int).toNat)] r = some (.int m) ∧ 1 ≤ m := by
      obtain ⟨n, rfl⟩ := Int.eq_ofNat_of_zero_le r0
      match n, r1 with
      | 0, _ => exact ⟨_, rfl, by decide⟩
      | 1, _ => exact ⟨_, rfl, by decide⟩
      | 2, _ => exact ⟨_, rfl, by decide⟩
      | 3, _ => exact ⟨_, rfl, by decide⟩
      | 4, _ => exact ⟨_, rfl, by decide⟩
      | n + 5, h => exact absurd h (by show ¬ (((n + 5 : Nat) : Int) < 5); omega)
    obtain ⟨m, hm, m1⟩ := hz
    refine ⟨l, _, _, _, rfl, rfl, SqL.of hl2, hm, o, W, c + 1, m, rfl, m1, W2, by omega, fun r' H3 r0' r1' ef3 W3 => ?_⟩
    exact h _ _ (((Ef.same s1).trans ef2).trans ef3) W3 ⟨_, rfl, r0'⟩
abbrev n_law_name : List Str := ["_law_well_here", "_law_most", "_law_letters", "_law_k"]
theorem sc_law_name : FnScope n_law_name ["_law_well_here", "_law_most"] (defScope s_law_name) := ⟨rfl, rfl, rfl, by decide +kernel, rfl, by decide +kernel, by decide +kernel⟩
theorem ok_law_name (T : Tx K mg) : DefOk P w K mg base CX0 2 (He.fAd K d_law_name.at_) ["_law_well_here", "_law_most"] (spNameL K) := by
  refine mk0 (d := d_law_name) T.f_law_name rfl (fun _ _ _ _ _ _ us hl => match us, hl with | [_, _], _ => rfl) sc_law_name (fun vs H Q E h => ?_) (fun cdv A outer s H vs Q E hr h => ?_)
  · obtain ⟨_, _, _, _, _, rfl, ⟨rfl, _⟩, _⟩ := h
    rfl
  · obtain ⟨x, o, W, c, us, rfl, ⟨rfl, x1, x8⟩, Wl, hc, h⟩ := h
    refine ⟨_, (pss_cons (ps_set (i := 2) sc_law_name.nd rfl (.inr rfl) pe_str)
      (pss_one (ps_ret (pe_join pe_str (pe_lc (own := [("_law_k", 3)]) (tt := tYes) rfl sc_law_name.nd (pi_range1 rfl T.b_range (pa_cons (pe_op op_add pe_int (cD (ok_law_take T) T.g_law_take hr (pa_cons (pv 0) (pa_cons (pv 1) pa_nil)))) pa_nil)) (blkOk_by (own := [("_law_k", 3)]) (N := n_law_name) (sc := defScope s_law_name) (by decide +kernel)) (fun _ _ _ _ _ => (pg_name (i := 3) sc_law_name.nd rfl (.inl rfl))) (fun _ _ _ _ _ => pts_nil) (fun _ _ _ _ _ => (pe_ix ix_str (pv 2) (cD (ok_law_take (P := P) (w := w) (base := base) T) T.g_law_take hr (pa_cons (pv 0) (pa_cons pe_int pa_nil))) (fun _ _ => rfl)))))))), ?_⟩
    refine ⟨⟨_, rfl⟩, _, rfl, _, rfl, o, W, c, x, rfl, x1, Wl, by omega, fun r H1 r0 r1 ef1 W1 => ⟨_, _, rfl, rfl, _, rfl, by omega, by omega, fun D nD => ?_⟩⟩
    have oD : o D = none := W1.dom.free nD
    refine lc_range (lo := 0) (n := (1 + r).toNat) (fun i H2 => Ef K 0 o H o H2 ∧ Well K o H2 W (c + 1 + i) ∧ H D = none ∧ ∃ zs : List Str, zs.length = i ∧ (∀ z ∈ zs, OneL z) ∧ H2 D = some (.lst (zs.map V.str))) ⟨ef1.trans (Ef.same (same_upd nD)), W1.same (same_upd nD), ef1.free nD, [], rfl, fun _ z => (List.not_mem_nil z).elim, upd_same⟩ (fun i H2 hi h2 => ?_) (fun H2 h2 => ?_)
    · obtain ⟨ef2, W2, nDH, zs, lz, hz, hD⟩ := h2
      refine ⟨rfl, _, rfl, _, rfl, o, W, c + 1 + i, 26, rfl, by decide, W2, by omega, fun q H3 q0 q1 ef3 W3 => ?_⟩
      obtain ⟨cc, hcc, mem⟩ := letter_at q0 q1
      have hD3 := (ef3.mine hD oD).1
      have kD : Ks K H3 (upd H3 D (.lst ((zs ++ [(⟨#[cc]⟩ : Str)]).map V.str))) := Ks.updL hD3
      have em : (zs ++ [(⟨#[cc]⟩ : Str)]).map V.str = zs.map V.str ++ [V.str ⟨#[cc]⟩] := by rw [List.map_append]; rfl
      refine ⟨_, _, cc, rfl, rfl, sl, hcc, _, hD3, slt (by rw [List.length_map]; omega), (ef2.trans ef3).tmp nDH (em ▸ kD), (W3.tmp oD (em ▸ kD)), nDH, zs ++ [⟨#[cc]⟩], by rw [List.length_append, lz]; rfl, fun z hz' => ?_, by rw [upd_same, em]⟩
      rcases List.mem_append.mp hz' with hz' | hz'
      · exact hz z hz'
      · rw [List.mem_singleton.mp hz']
        exact ⟨cc, rfl, mem⟩
    · obtain ⟨ef2, W2, nDH, zs, lz, hz, hD⟩ := h2
      refine ⟨_, D, zs, rfl, rfl, .inl (SqL.of hD), ?_, h _ _ ef2 (W2.mono (by omega) (by unfold cMax at hc; omega)) ⟨_, rfl, join_name hz (by omega) (by omega)⟩⟩
      rw [sum_ones hz]
      show zs.length + zs.length * 0 ≤ 16777216
      omega
end
end Cn
namespace Cn
open PySem PySem.Spec PyProof.Rows L2
def spWell (K : PySem.W.Frag) : Sp := fun vs H Q _ => ∃ (a : Addr) (ns : List Int), vs = [.ref a] ∧ SqL K H a (ns.map V.int) ∧
  ∀ (H' : Hp) (W G S : Addr) (gs ss : List Int) (st : Int), Same H H' → H W = none → H G = none → H S = none → W ≠ G → W ≠ S → G ≠ S → H' W = some (.lst [.ref G, .ref S, .int st, .int 0]) → H' G = some (.lst (gs.map V.int)) → H' S = some (.lst (ss.map V.int)) →
    (∀ g ∈ gs, 0 ≤ g ∧ g < 10 ^ 120) → gs.length ≤ 63 → (∀ x ∈ ss, 0 ≤ x ∧ x < 2147483563) → ss.length ≤ 63 → 0 ≤ st → st < 2147483563 → Q (.ref W) H'
theorem cut63 (ns : List Int) : ∃ ms : List Int, cutV (ns.map V.int) none (some 63) = ms.map V.int ∧ ms.length ≤ 63 := by
  refine ⟨ns.take (min 63 ns.length), ?_, ?_⟩
  · unfold cutV
    rw [show HT.sIx (ns.map V.int).length (ns.map V.int).length (some 63) = min 63 (ns.map V.int).length from HT.sIx_nat _ _ 63, HT.sIx_none, List.length_map, List.map_take]
    rfl
  · rw [List.length_take]
    omega
def spSecrets (K : PySem.W.Frag) : Sp := spDraw (α := Unit) K 20 (fun _ us _ => us = []) (fun _ H v H' _ => ∃ (l : Addr) (ns : List Int), v = .ref l ∧ H l = none ∧ H' l = some (.lst (ns.map V.int)) ∧ ns ≠ [] ∧ ns.length ≤ 5 ∧ ∀ i ∈ ns, 0 ≤ i)
def spParts (K : PySem.W.Frag) : Sp := spDraw (α := Int × Nat) K 40 (fun x us _ => us = [.int x.1, .int x.2] ∧ 0 ≤ x.1 ∧ 1 ≤ x.2 ∧ x.2 ≤ 40) (fun x H v H' _ => ∃ (l : Addr) (ns : List Int), v = .ref l ∧ H l = none ∧ H' l = some (.lst (ns.map V.int)) ∧ ns.length = x.2 ∧ ∀ i ∈ ns, 0 ≤ i)
theorem inV_int (z : Int) : ∀ ys : List Int, inV (.int z) (ys.map V.int) = decide (z ∈ ys)
  | [] => rfl
  | y :: r => by
    have ih := inV_int z r
    unfold inV at *
    rw [List.map_cons, List.any_cons, ih]
    show ((y == z) || _) = _
    by_cases e : z = y
    · subst e
      simp
    · have : (y == z) = false := beq_eq_false_iff_ne.mpr (fun q => e q.symm)
      rw [this]
      simp [e]
theorem flat_ints : ∀ ys : List Int, (ys.map V.int).all flatV = true
  | [] => rfl
  | _ :: r => flat_ints r
section
variable {P : Program} {w : World} {K : PySem.W.Frag} {mg : Str → Option Value} {base : Heap}
abbrev n_law_well : List Str := ["_law_script", "_law_great", "_law_small", "_law_stir", "_law_number", "_law_cell"]
theorem sc_law_well : FnScope n_law_well ["_law_script"] (defScope s_law_well) := ⟨rfl, rfl, rfl, by decide +kernel, rfl, by decide +kernel, by decide +kernel⟩
theorem ok_law_well (T : Tx K mg) : DefOk P w K mg base CX0 1 (He.fAd K d_law_well.at_) ["_law_script"] (spWell K) := by
  refine mk0 (d := d_law_well) T.f_law_well rfl (fun _ _ _ _ _ _ us hl => match us, hl with | [_], _ => rfl) sc_law_well (fun vs H Q E h => ?_) (fun cdv A outer s H vs Q E hr h => ?_)
  · obtain ⟨_, _, rfl, _⟩ := h
    rfl
  · obtain ⟨a, ns, rfl, ha, h⟩ := h
    refine ⟨_, (pss_cons (ps_setLc (i := 1) (own := [("_law_cell", 5)]) rfl sc_law_well.nd rfl rfl (sw_true rfl rfl rfl (by decide +kernel)) (pi_list (pe_slice sl_list (pv 0) po_none (po_some pe_int))) (blkOk_by (own := [("_law_cell", 5)]) (N := n_law_well) (sc := defScope s_law_well) (by decide +kernel)) (fun _ _ _ _ _ => (pg_name (i := 5) sc_law_well.nd rfl (.inl rfl))) (fun _ _ _ _ _ => (pts_one (pt_cmpR op_ge (pe_callB call_abs (by rfl) T.b_abs (by decide +kernel) (pa_cons (pv 5) pa_nil)) (pe_op op_powL pe_int pe_int) (nomark _)))) (fun _ _ _ _ _ => (pe_op op_modN (pe_callB call_abs (by rfl) T.b_abs (by decide +kernel) (pa_cons (pv 5) pa_nil)) (pe_op op_mulW (pe_op op_powL pe_int pe_int) (pe_op op_powL pe_int pe_int)))))
      (pss_cons (ps_setLc (i := 2) (own := [("_law_cell", 5)]) rfl sc_law_well.nd rfl rfl (sw_true rfl rfl rfl (by decide +kernel)) (pi_list (pe_slice sl_list (pv 0) po_none (po_some pe_int))) (blkOk_by (own := [("_law_cell", 5)]) (N := n_law_well) (sc := defScope s_law_well) (by decide +kernel)) (fun _ _ _ _ _ => (pg_name (i := 5) sc_law_well.nd rfl (.inl rfl))) (fun _ _ _ _ _ => (pts_one (pt_cmpR op_lt (pe_callB call_abs (by rfl) T.b_abs (by decide +kernel) (pa_cons (pv 5) pa_nil)) (pe_op op_powL pe_int pe_int) (nomark _)))) (fun _ _ _ _ _ => (pe_op op_modN (pv 5) pe_int)))
      (pss_cons (ps_set (i := 3) sc_law_well.nd rfl (.inl rfl) (pe_op op_add pe_int (pe_callB call_len_seq (by rfl) T.b_len PySem.boot_len (pa_cons (pv 2) pa_nil))))
      (pss_cons (ps_for PassesOwn.never rfl (pi_list (pv 2)) (pg_name (i := 4) sc_law_well.nd rfl (.inl rfl)) (pss_one (ps_set (i := 3) sc_law_well.nd rfl (.inl rfl) (pe_op op_modN (pe_op op_add (pe_op op_add (pe_op op_mul (pv 3) pe_int) (pe_op op_mul (pv 4) pe_int)) pe_int) pe_int))))
      (pss_one (ps_ret (pe_lst (pa_cons (pv 1) (pa_cons (pv 2) (pa_cons (pv 3) (pa_cons pe_int pa_nil))))))))))), ?_⟩
    obtain ⟨ms, em, lm⟩ := cut63 ns
    refine ⟨_, rfl, 63, rfl, a, _, rfl, ha, fun c1 n1 => ?_⟩
    rw [em]
    have s1 := same_upd (o := HO.lst (ms.map V.int)) n1
    refine ⟨c1, rfl, ⟨_, SqL.of upd_same⟩, fun G nG => lc_list (xs := ms.map V.int) (fun i H1 => Same (upd H c1 (.lst (ms.map V.int))) H1 ∧ ∃ gs : List Int, gs.length ≤ i ∧ (∀ g ∈ gs, 0 ≤ g ∧ g < 10 ^ 120) ∧ H1 G = some (.lst (gs.map V.int))) ⟨same_upd nG, [], Nat.le_refl _, fun _ z => (List.not_mem_nil z).elim, upd_same⟩ (fun i H1 _ h1 => SqL.of (h1.1 _ _ upd_same)) (fun i x H1 hi h1 => ?_) (fun H1 h1 => ?_)⟩
    · obtain ⟨s2, gs, lg, hg, hG⟩ := h1
      rw [List.getElem?_map] at hi
      obtain ⟨z, hz, rfl⟩ := Option.map_eq_some_iff.mp hi
      have il := (List.getElem?_eq_some_iff.mp hz).1
      refine ⟨rfl, _, rfl, z, rfl, _, _, rfl, rfl, ⟨by decide, by decide⟩, _, _, rfl, rfl, _, rfl, ite2 (fun _ => ?_) (fun _ => ⟨s2, gs, by omega, hg, hG⟩)⟩
      refine ⟨_, rfl, z, rfl, _, _, rfl, rfl, ⟨by decide, by decide⟩, _, _, rfl, rfl, ⟨by decide, by decide⟩, _, _, rfl, rfl, wide_mul (a := 200) (b := 200) (by decide) (by decide) (by decide) (by decide) (by decide), _, _, rfl, rfl, (show (10 : Int) ^ 60 * 10 ^ 60 ≠ 0 by decide), ?_⟩
      have b := fmod_in (if z < 0 then -z else z) (m := 10 ^ 60 * 10 ^ 60) (by decide)
      refine ⟨gs.map V.int, hG, slt (by rw [List.length_map]; omega), fun b' y e => ?_, gs ++ [(if z < 0 then -z else z).fmod (10 ^ 60 * 10 ^ 60)], by rw [List.length_append]; simp; omega, fun g hg' => ?_, ?_⟩
      · rw [upd_ne (ne_of_none e nG)]
        exact s2 _ _ e
      · rcases List.mem_append.mp hg' with hg' | hg'
        · exact hg g hg'
        · rw [List.mem_singleton.mp hg']
          exact ⟨b.1, Int.lt_of_lt_of_le b.2 (by decide)⟩
      · rw [upd_same, List.map_append]
        rfl
    · obtain ⟨s2, gs, lg, hg, hG⟩ := h1
      have s12 := s1.trans s2
      have nGH : H G = none := s1.free nG
      refine ⟨_, rfl, 63, rfl, a, _, rfl, s12.seq ha, fun c2 n2 => ?_⟩
      rw [em]
      have s3 := same_upd (o := HO.lst (ms.map V.int)) n2
      have s13 := s12.trans s3
      refine ⟨c2, rfl, ⟨_, SqL.of upd_same⟩, fun S nS => lc_list (xs := ms.map V.int) (fun i H2 => Same (upd H1 c2 (.lst (ms.map V.int))) H2 ∧ ∃ ss : List Int, ss.length ≤ i ∧ (∀ g ∈ ss, 0 ≤ g ∧ g < 2147483563) ∧ H2 S = some (.lst (ss.map V.int))) ⟨same_upd nS, [], Nat.le_refl _, fun _ z => (List.not_mem_nil z).elim, upd_same⟩ (fun i H2 _ h2 => SqL.of (h2.1 _ _ upd_same)) (fun i x H2 hi h2 => ?_) (fun H2 h2 => ?_)⟩
      · obtain ⟨s4, ss, lg2, hg2, hS⟩ := h2
        rw [List.getElem?_map] at hi
        obtain ⟨z, hz, rfl⟩ := Option.map_eq_some_iff.mp hi
        have il := (List.getElem?_eq_some_iff.mp hz).1
        refine ⟨rfl, _, rfl, z, rfl, _, _, rfl, rfl, ⟨by decide, by decide⟩, _, _, rfl, rfl, _, rfl, ite2 (fun _ => ?_) (fun _ => ⟨s4, ss, by omega, hg2, hS⟩)⟩
        have b := fmod_in z (m := 2147483563) (by decide)
        refine ⟨_, rfl, _, _, rfl, rfl, (show (2147483563 : Int) ≠ 0 by decide), ss.map V.int, hS, slt (by rw [List.length_map]; omega), fun b' y e => ?_, ss ++ [z.fmod 2147483563], by rw [List.length_append]; simp; omega, fun g hg' => ?_, ?_⟩
        · rw [upd_ne (ne_of_none e nS)]
          exact s4 _ _ e
        · rcases List.mem_append.mp hg' with hg' | hg'
          · exact hg2 g hg'
          · rw [List.mem_singleton.mp hg']
            exact b
        · rw [upd_same, List.map_append]
          rfl
      · obtain ⟨s4, ss, lg2, hg2, hS⟩ := h2
        rw [List.length_map] at lg lg2
        have s14 := s13.trans s4
        have hG2 := s4 _ _ (s3 _ _ hG)
        have nGS : G ≠ S := ne_of_none (s3 _ _ hG) nS
        have nSH : H S = none := s13.free nS
        refine ⟨_, rfl, S, _, rfl, .inl (SqL.of hS), _, _, rfl, rfl, ?_⟩
        refine ⟨_, rfl, S, rfl, ⟨_, SqL.of hS⟩, for_list (xs := ss.map V.int) (fun i σ H3 => H3 = H2 ∧ ∃ st y1, σ = [some (.ref a), some (.ref G), some (.ref S), some (.int st), y1, none] ∧ 0 ≤ st ∧ st < 2147483563) ⟨rfl, _, none, rfl, by rw [List.length_map]; omega, by rw [List.length_map]; omega⟩ (fun i σ H3 _ h3 => h3.1 ▸ SqL.of hS) (fun i x σ H3 hi h3 => ?_) (fun σ H3 h3 => ?_)⟩
        · obtain ⟨rfl, st, y1, rfl, st0, st1⟩ := h3
          rw [List.getElem?_map] at hi
          obtain ⟨z, hz, rfl⟩ := Option.map_eq_some_iff.mp hi
          have zb := hg2 z (List.mem_of_getElem? hz)
          have b := fmod_in (st * 40014 + z * 3 + 1) (m := 2147483563) (by decide)
          refine ⟨_, rfl, _, _, rfl, rfl, .inl ⟨by omega, by omega⟩, _, rfl, _, _, rfl, rfl, .inl ⟨by omega, by omega⟩, _, _, rfl, rfl, _, _, rfl, rfl, _, _, rfl, rfl, (show (2147483563 : Int) ≠ 0 by decide), rfl, _, _, rfl, b.1, b.2⟩
        · obtain ⟨rfl, st, y1, rfl, st0, st1⟩ := h3
          refine ⟨_, rfl, _, rfl, _, rfl, sl, fun W nW => ?_⟩
          have s5 := same_upd (o := HO.lst [V.ref G, V.ref S, V.int st, V.int 0]) nW
          exact h _ W G S gs ss st (s14.trans s5) (s14.free nW) nGH nSH (ne_of_none hG2 nW).symm (ne_of_none hS nW).symm nGS upd_same (s5 _ _ hG2) (s5 _ _ hS) hg (by omega) hg2 (by omega) st0 st1
abbrev n_law_secrets : List Str := ["_law_well_here", "_law_found", "_law_k", "_law_one"]
theorem sc_law_secrets : FnScope n_law_secrets ["_law_well_here"] (defScope s_law_secrets) := ⟨rfl, rfl, rfl, by decide +kernel, rfl, by decide +kernel, by decide +kernel⟩
theorem ok_law_secrets (T : Tx K mg) : DefOk P w K mg base CX0 2 (He.fAd K d_law_secrets.at_) ["_law_well_here"] (spSecrets K) := by
  refine mk0 (d := d_law_secrets) T.f_law_secrets rfl (fun _ _ _ _ _ _ us hl => match us, hl with | [_], _ => rfl) sc_law_secrets (fun vs H Q E h => ?_) (fun cdv A outer s H vs Q E hr h => ?_)
  · obtain ⟨_, _, _, _, _, rfl, rfl, _⟩ := h
    rfl
  · obtain ⟨_, o, W, c, us, rfl, rfl, Wl, hc, h⟩ := h
    refine ⟨_, (pss_cons (ps_set (i := 1) sc_law_secrets.nd rfl (.inl rfl) (pe_lst pa_nil))
      (pss_cons (ps_for PassesOwn.never rfl (pi_range1 rfl T.b_range (pa_cons (pe_op op_add pe_int (cD (ok_law_take T) T.g_law_take hr (pa_cons (pv 0) (pa_cons pe_int pa_nil)))) pa_nil)) (pg_name (i := 2) sc_law_secrets.nd rfl (.inl rfl)) (pss_cons (ps_set (i := 3) sc_law_secrets.nd rfl (.inl rfl) (cD (ok_law_take T) T.g_law_take hr (pa_cons (pv 0) (pa_cons (pe_ix ix_list (pe_lst (pa_cons pe_int (pa_cons (pe_op op_powL pe_int pe_int) pa_nil))) (cD (ok_law_take T) T.g_law_take hr (pa_cons (pv 0) (pa_cons pe_int pa_nil))) (fun _ _ => rfl)) pa_nil))))
      (pss_one (ps_if (pt_cmpR op_notIn_seq (pv 3) (pv 1) (by rfl)) (pss_one (ps_expr (pe_bm PySem.F.plainAttrs_list PySem.F.slot_list_append PySem.F.type_list_append mt_append (pv 1) (pa_cons (pv 3) pa_nil)))) pss_nil))))
      (pss_one (ps_ret (pv 1))))), ?_⟩
    refine ⟨Nat.zero_le _, fun l nl => ?_⟩
    have s1 := same_upd (o := HO.lst []) nl
    have ol := Wl.dom.free nl
    refine ⟨_, rfl, o, W, c, 4, rfl, by decide, Wl.same s1, by omega, fun r H1 r0 r1 ef1 W1 => ⟨_, _, rfl, rfl, _, rfl, by omega, by omega, ?_⟩⟩
    refine for_range (lo := 0) (n := (2 + r).toNat) (fun i σ H2 => ∃ y1 y2, σ = [some (.ref W), some (.ref l), y1, y2] ∧ Ef K 0 o H o H2 ∧ Well K o H2 W (c + 1 + 2 * i) ∧ ∃ ns : List Int, H2 l = some (.lst (ns.map V.int)) ∧ ns.length ≤ i ∧ (1 ≤ i → ns ≠ []) ∧ ∀ x ∈ ns, 0 ≤ x) ⟨none, none, rfl, (Ef.same s1).trans ef1, W1, [], (ef1.mine upd_same ol).1, Nat.le_refl _, fun z => absurd z (by decide), fun _ z => (List.not_mem_nil z).elim⟩ (fun i σ H2 hi h2 => ?_) (fun σ H2 h2 => ?_)
    · obtain ⟨y1, y2, rfl, ef2, W2, ns, hl, ln, hne, hns⟩ := h2
      refine ⟨_, rfl, _, _, rfl, rfl, ⟨by decide, by decide⟩, sl, fun t2 nt2 => ?_⟩
      have s3 := same_upd (o := HO.lst [V.int 3, V.int (10 ^ (15 : Int).toNat)]) nt2
      have ot := W2.dom.free nt2
      refine ⟨_, rfl, o, W, c + 1 + 2 * i, 2, rfl, by decide, W2.same s3, by omega, fun q H3 q0 q1 ef3 W3 => ?_⟩
      have ht3 := (ef3.mine upd_same ot).1
      have hz : ∃ m : Int, atI [V.int 3, V.int (10 ^ (15 : Int).toNat)] q = some (.int m) ∧ 1 ≤ m := by
        obtain ⟨n, rfl⟩ := Int.eq_ofNat_of_zero_le q0
        match n, q1 with
        | 0, _ => exact ⟨_, rfl, by decide⟩
        | 1, _ => exact ⟨_, rfl, by decide⟩
        | n + 2, h => exact absurd h (by show ¬ (((n + 2 : Nat) : Int) < 2); omega)
      obtain ⟨m, hm, m1⟩ := hz
      refine ⟨t2, _, _, _, rfl, rfl, SqL.of ht3, hm, o, W, c + 1 + 2 * i + 1, m, rfl, m1, W3, by omega, fun x H4 x0 x1 ef4 W4 => ?_⟩
      have ef24 := (ef2.trans (Ef.same s3)).trans (ef3.trans ef4)
      have hl4 := (ef4.mine (ef3.mine (s3 _ _ hl) ol).1 ol).1
      refine ⟨_, rfl, _, rfl, l, _, rfl, .inl (SqL.of hl4), rfl, flat_ints _, _, rfl, ?_⟩
      rw [if_pos rfl, inV_int]
      by_cases e : x ∈ ns
      · rw [decide_eq_true e]
        exact iteF ⟨_, _, rfl, ef24, W4, ns, hl4, by omega, fun _ z => (by rw [z] at e; cases e), hns⟩
      · rw [decide_eq_false e]
        have em : (ns ++ [x]).map V.int = ns.map V.int ++ [V.int x] := by rw [List.map_append]; rfl
        have kl : Ks K H4 (upd H4 l (.lst (ns.map V.int ++ [V.int x]))) := Ks.updL hl4
        refine iteT ⟨_, rfl, .inl ⟨rfl, _, SqL.of hl4⟩, _, rfl, l, _, _, rfl, rfl, hl4, slt (by rw [List.length_map]; omega), _, _, rfl, ef24.tmp nl kl, W4.tmp ol kl, ns ++ [x], by rw [upd_same, em], by rw [List.length_append]; simp; omega, fun _ => by simp, fun y hy => ?_⟩
        rcases List.mem_append.mp hy with hy | hy
        · exact hns y hy
        · rw [List.mem_singleton.mp hy]
          exact x0
    · obtain ⟨y1, y2, rfl, ef2, W2, ns, hl, ln, hne, hns⟩ := h2
      exact ⟨_, rfl, h _ _ ef2 (W2.mono (by omega) (by unfold cMax at hc; omega)) ⟨l, ns, rfl, nl, hl, hne (by omega), by omega, hns⟩⟩
abbrev n_law_parts : List Str := ["_law_well_here", "_law_whole_here", "_law_many", "_law_cuts", "_law_k"]
theorem sc_law_parts : FnScope n_law_parts ["_law_well_here", "_law_whole_here", "_law_many"] (defScope s_law_parts) := ⟨rfl, rfl, rfl, by decide +kernel, rfl, by decide +kernel, by decide +kernel⟩
theorem ok_law_parts (T : Tx K mg) : DefOk P w K mg base CX0 2 (He.fAd K d_law_parts.at_) ["_law_well_here", "_law_whole_here", "_law_many"] (spParts K) := by
  refine mk0 (d := d_law_parts) T.f_law_parts rfl (fun _ _ _ _ _ _ us hl => match us, hl with | [_, _, _], _ => rfl) sc_law_parts (fun vs H Q E h => ?_) (fun cdv A outer s H vs Q E hr h => ?_)
  · obtain ⟨_, _, _, _, _, rfl, ⟨rfl, _⟩, _⟩ := h
    rfl
  · obtain ⟨⟨wh, mn⟩, o, W, c, us, rfl, ⟨rfl, wh0, mn1, mn40⟩, Wl, hc, h⟩ := h
    refine ⟨_, (pss_cons (ps_set (i := 3) sc_law_parts.nd rfl (.inr rfl) (pe_callB cr_sorted (by rfl) T.b_sorted (by decide +kernel) (pa_cons (pe_op op_cat (pe_lst (pa_cons pe_int (pa_cons (pv 1) pa_nil))) (pe_lc (own := [("_law_k", 4)]) (tt := tYes) rfl sc_law_parts.nd (pi_range1 rfl T.b_range (pa_cons (pe_op op_sub (pv 2) pe_int) pa_nil)) (blkOk_by (own := [("_law_k", 4)]) (N := n_law_parts) (sc := defScope s_law_parts) (by decide +kernel)) (fun _ _ _ _ _ => (pg_name (i := 4) sc_law_parts.nd rfl (.inl rfl))) (fun _ _ _ _ _ => pts_nil) (fun _ _ _ _ _ => (cD (ok_law_take (P := P) (w := w) (base := base) T) T.g_law_take hr (pa_cons (pv 0) (pa_cons (pe_op op_add (pv 1) pe_int) pa_nil)))))) pa_nil)))
      (pss_one (ps_ret (pe_lc (own := [("_law_k", 4)]) (tt := tYes) rfl sc_law_parts.nd (pi_range1 rfl T.b_range (pa_cons (pv 2) pa_nil)) (blkOk_by (own := [("_law_k", 4)]) (N := n_law_parts) (sc := defScope s_law_parts) (by decide +kernel)) (fun _ _ _ _ _ => (pg_name (i := 4) sc_law_parts.nd rfl (.inl rfl))) (fun _ _ _ _ _ => pts_nil) (fun _ _ _ _ _ => (pe_op op_sub (pe_ix (r := rIxL K) ix_list (pv 3) (pe_op op_add (pv 4) pe_int) (fun _ _ => rfl)) (pe_ix (r := rIxL K) ix_list (pv 3) (pv 4) (fun _ _ => rfl)))))))), ?_⟩
    have mn1' : 1 ≤ mn := mn1
    have mn40' : mn ≤ 40 := mn40
    have wh0' : 0 ≤ wh := wh0
    refine ⟨_, rfl, sl, fun l1 n1 => ?_⟩
    have s1 := same_upd (o := HO.lst [V.int 0, V.int wh]) n1
    have W1 := Wl.same s1
    have o1 := Wl.dom.free n1
    refine ⟨_, rfl, _, _, rfl, rfl, _, rfl, by omega, by omega, fun D nD => ?_⟩
    have oD := W1.dom.free nD
    have nDH := s1.free nD
    refine lc_range (lo := 0) (n := ((mn : Int) - 1).toNat) (fun i H2 => Ef K 0 o H o H2 ∧ Well K o H2 W (c + i) ∧ H2 l1 = some (.lst [V.int 0, V.int wh]) ∧ ∃ ns : List Int, ns.length = i ∧ H2 D = some (.lst (ns.map V.int))) ⟨(Ef.same s1).trans (Ef.same (same_upd nD)), W1.same (same_upd nD), (same_upd nD) _ _ upd_same, [], rfl, upd_same⟩ (fun i H2 hi h2 => ?_) (fun H2 h2 => ?_)
    · obtain ⟨ef2, W2, hl1, ns, ln, hD⟩ := h2
      refine ⟨rfl, _, rfl, _, rfl, _, _, rfl, rfl, o, W, c + i, wh + 1, rfl, by omega, W2, by omega, fun q H3 q0 q1 ef3 W3 => ?_⟩
      have hD3 := (ef3.mine hD oD).1
      have em : (ns ++ [q]).map V.int = ns.map V.int ++ [V.int q] := by rw [List.map_append]; rfl
      have kD : Ks K H3 (upd H3 D (.lst (ns.map V.int ++ [V.int q]))) := Ks.updL hD3
      refine ⟨_, hD3, slt (by rw [List.length_map]; omega), (ef2.trans ef3).tmp nDH kD, W3.tmp oD kD, ?_, ns ++ [q], by rw [List.length_append, ln]; rfl, by rw [upd_same, em]⟩
      rw [upd_ne (ne_of_none (show upd H l1 (HO.lst [V.int 0, V.int wh]) l1 = some _ from upd_same) nD)]
      exact (ef3.mine hl1 o1).1
    · obtain ⟨ef2, W2, hl1, ns, ln, hD⟩ := h2
      refine ⟨l1, D, _, _, rfl, rfl, hl1, hD, sle (by simp only [List.length_map, List.length_cons, List.length_nil]; omega), fun pc npc => ?_⟩
      have s3 := same_upd (o := HO.lst ([V.int 0, V.int wh] ++ ns.map V.int)) npc
      refine ⟨pc, 0 :: wh :: ns, rfl, SqL.of upd_same, by simp only [List.length_cons]; omega, fun cs p2 perm rise np2 => ?_⟩
      have s4 := same_upd (o := HO.lst (cs.map V.int)) np2
      have lcs : cs.length = mn + 1 := by
        rw [perm.length_eq]
        simp only [List.length_cons]
        omega
      have s34 := s3.trans s4
      have W4 := W2.same s34
      have hp2 : upd (upd H2 pc (.lst ([V.int 0, V.int wh] ++ ns.map V.int))) p2 (.lst (cs.map V.int)) p2 = some (.lst (cs.map V.int)) := upd_same
      refine ⟨_, rfl, _, rfl, by omega, by omega, fun D2 nD2 => ?_⟩
      refine lc_range (lo := 0) (n := mn) (fun i H5 => Same (upd (upd H2 pc (.lst ([V.int 0, V.int wh] ++ ns.map V.int))) p2 (.lst (cs.map V.int))) H5 ∧ ∃ rs : List Int, rs.length = i ∧ (∀ x ∈ rs, 0 ≤ x) ∧ H5 D2 = some (.lst (rs.map V.int))) ⟨same_upd nD2, [], rfl, fun _ z => (List.not_mem_nil z).elim, upd_same⟩ (fun i H5 hi h5 => ?_) (fun H5 h5 => ?_)
      · obtain ⟨s5, rs, lr, hr0, hD2⟩ := h5
        have hp5 := s5 _ _ hp2
        have i1 : i + 1 < cs.length := by omega
        have i0 : i < cs.length := by omega
        have a1 : atI (cs.map V.int) (0 + (i : Int) + 1) = some (.int cs[i + 1]) := atI_of (by omega) (by rw [show (0 + (i : Int) + 1).toNat = i + 1 by omega, List.getElem?_map, List.getElem?_eq_getElem i1]; rfl)
        have a0 : atI (cs.map V.int) (0 + (i : Int)) = some (.int cs[i]) := atI_of (by omega) (by rw [show (0 + (i : Int)).toNat = i by omega, List.getElem?_map, List.getElem?_eq_getElem i0]; rfl)
        have le := List.pairwise_iff_getElem.mp rise i (i + 1) i0 i1 (by omega)
        refine ⟨rfl, _, rfl, _, rfl, _, _, rfl, rfl, p2, _, _, _, rfl, rfl, SqL.of hp5, a1, _, rfl, _, rfl, p2, _, _, _, rfl, rfl, SqL.of hp5, a0, _, _, rfl, rfl, _, hD2, slt (by rw [List.length_map]; omega), fun b' y e => ?_, rs ++ [cs[i + 1] - cs[i]], by rw [List.length_append, lr]; rfl, fun x hx => ?_, by rw [upd_same, List.map_append]; rfl⟩
        · rw [upd_ne (ne_of_none e nD2)]
          exact s5 _ _ e
        · rcases List.mem_append.mp hx with hx | hx
          · exact hr0 x hx
          · rw [List.mem_singleton.mp hx]
            omega
      · obtain ⟨s5, rs, lr, hr0, hD2⟩ := h5
        have ef5 := ef2.trans (Ef.same (t := 0) (o := o) (s34.trans s5))
        exact h _ _ ef5 ((W4.same s5).mono (by omega) (by unfold cMax at hc; omega)) ⟨D2, rs, rfl, ef2.free (s34.free nD2), hD2, lr, hr0⟩
end
end Cn
namespace Cn
open PySem PySem.Spec PyProof.Rows L2
def AllL (z : Str) : Prop := ∀ c ∈ z.cps.toList, c ∈ alpha.cps.toList
theorem str_len (z : Str) : z.length = z.cps.toList.length := by
  rw [Array.length_toList]
  rfl
theorem app_all {a b : Str} (ha : AllL a) (hb : AllL b) : AllL (a ++ b) := fun c hc => by
  have e := TL.tl_append a b
  rw [show (a ++ b).cps.toList = TL.tl (a ++ b) from rfl, e] at hc
  rcases List.mem_append.mp hc with h | h
  · exact ha c h
  · exact hb c h
theorem app_len (a b : Str) : (a ++ b).length = a.length + b.length := by
  rw [str_len, str_len a, str_len b]
  show (TL.tl (a ++ b)).length = _
  rw [TL.tl_append, List.length_append]
theorem cut_all {z : Str} {lo hi : Option Int} (h : AllL z) : AllL (cutS z lo hi) := fun c hc => by
  unfold cutS at hc
  exact h c (List.mem_of_mem_drop (List.mem_of_mem_take (by simpa using hc)))
theorem cut_len (z : Str) (lo hi : Option Int) : (cutS z lo hi).length ≤ z.length := by
  rw [str_len, str_len z]
  unfold cutS
  rw [List.toList_toArray, List.length_take, List.length_drop]
  omega
theorem cut8 {z : Str} (h : AllL z) (h1 : 1 ≤ z.length) : NameOk (cutS z none (some 8)) := by
  have e : (cutS z none (some 8)).length = min 8 z.length := by
    rw [str_len]
    unfold cutS
    rw [List.toList_toArray, show HT.sIx z.length z.length (some 8) = min 8 z.length from HT.sIx_nat _ _ 8, HT.sIx_none, List.drop_zero, List.length_take, ← str_len]
    omega
  exact ⟨by omega, by omega, cut_all h⟩
theorem one_all {z : Str} (h : OneL z) : AllL z := by
  obtain ⟨c, rfl, hc⟩ := h
  intro d hd
  have : d ∈ [c] := hd
  rw [List.mem_singleton.mp this]
  exact hc
theorem me_ok : NameOk "me" := ⟨by decide +kernel, by decide +kernel, by decide +kernel⟩
theorem us_ok : NameOk "us" := ⟨by decide +kernel, by decide +kernel, by decide +kernel⟩
theorem cutV1 (xs : List V) (h : 1 ≤ xs.length) : cutV xs (some 1) none = xs.drop 1 := by
  unfold cutV
  rw [show HT.sIx xs.length 0 (some 1) = min 1 xs.length from HT.sIx_nat _ _ 1, HT.sIx_none, Nat.min_eq_left h, List.take_of_length_le (by rw [List.length_drop]; exact Nat.le_refl _)]
def spFolk (K : PySem.W.Frag) : Sp := spDraw (α := Unit) K 60 (fun _ us _ => us = [.int 8]) (fun _ H v H' _ => ∃ (l : Addr) (zs : List Str), v = .ref l ∧ H l = none ∧ H' l = some (.lst (zs.map V.str)) ∧ zs.Nodup ∧ 1 ≤ zs.length ∧ zs.length ≤ 12 ∧ ∀ z ∈ zs, NameOk z)
section
variable {P : Program} {w : World} {K : PySem.W.Frag} {mg : Str → Option Value} {base : Heap}
abbrev n_law_folk : List Str := ["_law_well_here", "_law_many", "_law_letters", "_law_found", "_law_k", "_law_pick", "_law_first", "_law_letter", "_law_at", "_law_other", "_law_left", "_law_one"]
theorem sc_law_folk : FnScope n_law_folk ["_law_well_here", "_law_many"] (defScope s_law_folk) := ⟨rfl, rfl, rfl, by decide +kernel, rfl, by decide +kernel, by decide +kernel⟩
theorem ok_law_folk (T : Tx K mg) : DefOk P w K mg base CX0 3 (He.fAd K d_law_folk.at_) ["_law_well_here", "_law_many"] (spFolk K) := by
  refine mk0 (d := d_law_folk) T.f_law_folk rfl (fun _ _ _ _ _ _ us hl => match us, hl with | [_, _], _ => rfl) sc_law_folk (fun vs H Q E h => ?_) (fun cdv A outer s H vs Q E hr h => ?_)
  · obtain ⟨_, _, _, _, _, rfl, rfl, _⟩ := h
    rfl
  · obtain ⟨_, o, W, c, us, rfl, rfl, Wl, hc, h⟩ := h
    refine ⟨_, (pss_cons (ps_set (i := 2) sc_law_folk.nd rfl (.inl rfl) pe_str)
      (pss_cons (ps_set (i := 3) sc_law_folk.nd rfl (.inr rfl) (pe_lst (pa_cons (cD (ok_law_name T) T.g_law_name hr (pa_cons (pv 0) (pa_cons pe_int pa_nil))) (pa_cons pe_str pa_nil))))
      (pss_cons (ps_for PassesOwn.never rfl (pi_range1 rfl T.b_range (pa_cons (cD (ok_law_take T) T.g_law_take hr (pa_cons (pv 0) (pa_cons (pe_op op_sub (pv 1) pe_int) pa_nil))) pa_nil)) (pg_name (i := 4) sc_law_folk.nd rfl (.inl rfl)) (pss_cons (ps_set (i := 5) sc_law_folk.nd rfl (.inl rfl) (cD (ok_law_take T) T.g_law_take hr (pa_cons (pv 0) (pa_cons pe_int pa_nil))))
      (pss_cons (ps_set (i := 6) sc_law_folk.nd rfl (.inl rfl) (pe_ix ix_list (pv 3) (cD (ok_law_take T) T.g_law_take hr (pa_cons (pv 0) (pa_cons (pe_callB call_len_seq (by rfl) T.b_len PySem.boot_len (pa_cons (pv 3) pa_nil)) pa_nil))) (fun _ _ => rfl)))
      (pss_cons (ps_set (i := 7) sc_law_folk.nd rfl (.inl rfl) (pe_ix ix_str (pv 2) (cD (ok_law_take T) T.g_law_take hr (pa_cons (pv 0) (pa_cons pe_int pa_nil))) (fun _ _ => rfl)))
      (pss_cons (ps_set (i := 8) sc_law_folk.nd rfl (.inl rfl) (cD (ok_law_take T) T.g_law_take hr (pa_cons (pv 0) (pa_cons (pe_callB call_len_str (by rfl) T.b_len PySem.boot_len (pa_cons (pv 6) pa_nil)) pa_nil))))
      (pss_cons (ps_set (i := 9) sc_law_folk.nd rfl (.inl rfl) (pe_slice sl_str (pe_ix ix_list (pe_lst (pa_cons (pe_op op_add_str (pv 7) (pv 6)) (pa_cons (pe_op op_add_str (pv 6) (pv 7)) (pa_cons (pe_op op_add_str (pe_op op_add_str (pe_slice sl_str (pv 6) po_none (po_some (pv 8))) (pv 7)) (pe_slice sl_str (pv 6) (po_some (pe_op op_add (pv 8) pe_int)) po_none)) (pa_cons (pv 7) pa_nil))))) (pv 5) (fun _ _ => rfl)) po_none (po_some pe_int)))
      (pss_one (ps_if (pt_cmpR op_notIn_seq (pv 9) (pv 3) (by rfl)) (pss_one (ps_expr (pe_bm PySem.F.plainAttrs_list PySem.F.slot_list_append PySem.F.type_list_append mt_append (pv 3) (pa_cons (pv 9) pa_nil)))) pss_nil))))))))
      (pss_cons (ps_if (pt_cmpR op_eq (pe_ix ix_list (pv 3) pe_int (fun _ _ => rfl)) pe_str (nomark _)) (pss_one (ps_asg pe_str (pg_sub (pv 3) pe_int set_list))) pss_nil)
      (pss_cons (ps_setLc (i := 10) (own := [("_law_one", 11)]) rfl sc_law_folk.nd rfl rfl (sw_true rfl rfl rfl (by decide +kernel)) (pi_list (pe_slice sl_list (pv 3) (po_some pe_int) po_none)) (blkOk_by (own := [("_law_one", 11)]) (N := n_law_folk) (sc := defScope s_law_folk) (by decide +kernel)) (fun _ _ _ _ _ => (pg_name (i := 11) sc_law_folk.nd rfl (.inl rfl))) (fun _ _ _ _ _ => (pts_one (pt_cmpR op_ne (pv 11) (pe_ix (r := rIxL K) ix_list (pv 3) pe_int (fun _ _ => rfl)) (nomark _)))) (fun _ _ _ _ _ => (pv 11)))
      (pss_cons (ps_expr (pe_bm PySem.F.plainAttrs_list PySem.F.slot_list_insert PySem.F.type_list_insert mt_insert (pv 10) (pa_cons (cD (ok_law_take T) T.g_law_take hr (pa_cons (pv 0) (pa_cons (pe_op op_add (pe_callB call_len_seq (by rfl) T.b_len PySem.boot_len (pa_cons (pv 10) pa_nil)) pe_int) pa_nil))) (pa_cons (pe_ix ix_list (pv 3) pe_int (fun _ _ => rfl)) pa_nil))))
      (pss_one (ps_ret (pv 10))))))))), ?_⟩
    refine ⟨_, rfl, 7, o, W, c, _, rfl, ⟨rfl, by decide, by decide⟩, Wl, by omega, fun v H1 ef1 W1 hv => ?_⟩
    obtain ⟨f0, rfl, nf0⟩ := hv
    refine ⟨sl, fun l nl => ?_⟩
    have s2 := same_upd (o := HO.lst [V.str f0, V.str "me"]) nl
    have ol := W1.dom.free nl
    have nlH := ef1.free nl
    refine ⟨_, rfl, _, rfl, _, _, rfl, rfl, o, W, c + 10, 7, rfl, by decide, W1.same s2, by omega, fun r H3 r0 r1 ef3 W3 => ⟨_, rfl, by omega, by omega, ?_⟩⟩
    have hl3 := (ef3.mine upd_same ol).1
    refine for_range (lo := 0) (n := r.toNat) (fun i σ H4 => ∃ y1 y2 y3 y4 y5 y6, σ = [some (.ref W), some (.int 8), some (.str alpha), some (.ref l), y1, y2, y3, y4, y5, y6, none, none] ∧ Ef K 0 o H o H4 ∧ Well K o H4 W (c + 11 + 4 * i) ∧ ∃ rest : List Str, H4 l = some (.lst ((f0 :: rest).map V.str)) ∧ rest.Nodup ∧ 1 ≤ rest.length ∧ rest.length ≤ i + 1 ∧ ∀ z ∈ rest, NameOk z) ⟨none, none, none, none, none, none, rfl, (ef1.trans (Ef.same s2)).trans ef3, W3, ["me"], hl3, List.nodup_cons.mpr ⟨List.not_mem_nil, .nil⟩, Nat.le_refl _, Nat.le_refl _, fun z hz => by rw [List.mem_singleton.mp hz]; exact me_ok⟩ (fun i σ H4 hi h4 => ?_) (fun σ H4 h4 => ?_)
    · obtain ⟨y1, y2, y3, y4, y5, y6, rfl, ef4, W4, rest, hl4, nd, lr1, lr2, nok⟩ := h4
      have i7 : i < 7 := by omega
      refine ⟨_, rfl, o, W, _, 4, rfl, by decide, W4, by omega, fun pk H5 p0 p1 ef5 W5 => ?_⟩
      have hl5 := (ef5.mine hl4 ol).1
      refine ⟨_, rfl, _, rfl, _, rfl, l, _, rfl, .inl (SqL.of hl5), o, W, _, _, rfl, by rw [List.length_map, List.length_cons]; omega, W5, by omega, fun fi H6 fi0 fi1 ef6 W6 => ?_⟩
      have hl6 := (ef6.mine hl5 ol).1
      rw [List.length_map] at fi1
      have fil : fi.toNat < (f0 :: rest).length := by omega
      have aF : atI ((f0 :: rest).map V.str) fi = some (.str (f0 :: rest)[fi.toNat]) := atI_of fi0 (by rw [List.getElem?_map, List.getElem?_eq_getElem fil]; rfl)
      have nF : NameOk (f0 :: rest)[fi.toNat] := by
        rcases List.mem_cons.mp (List.getElem_mem fil) with e | e
        · rw [e]; exact nf0
        · exact nok _ e
      generalize hF : (f0 :: rest)[fi.toNat] = F at aF nF
      refine ⟨l, _, _, _, rfl, rfl, SqL.of hl6, aF, ?_⟩
      refine ⟨_, rfl, _, rfl, o, W, _, 26, rfl, by decide, W6, by omega, fun li H7 li0 li1 ef7 W7 => ?_⟩
      have hl7 := (ef7.mine hl6 ol).1
      obtain ⟨cc, hcc, mem⟩ := letter_at li0 li1
      refine ⟨_, _, cc, rfl, rfl, sl, hcc, ?_⟩
      have oneL : OneL ⟨#[cc]⟩ := ⟨cc, rfl, mem⟩
      generalize hLL : (⟨#[cc]⟩ : Str) = L at oneL ⊢
      have lL := one_len oneL
      have aL := one_all oneL
      have aFF : AllL F := nF.2.2
      have lF := nF.2.1
      have lF1 := nF.1
      refine ⟨_, rfl, _, rfl, F, rfl, nameLen nF, o, W, _, _, rfl, by omega, W7, by omega, fun ai H8 ai0 ai1 ef8 W8 => ?_⟩
      have hl8 := (ef8.mine hl7 ol).1
      have cl1 := cut_len F none (some ai)
      have cl2 := cut_len F (some (ai + 1)) none
      refine ⟨_, rfl, _, rfl, _, _, rfl, rfl, sle (by omega), _, rfl, _, rfl, _, _, rfl, rfl, sle (by omega), ?_⟩
      refine ⟨_, rfl, _, rfl, ai, rfl, F, rfl, nameLen nF, _, rfl, _, _, rfl, rfl, sle (by omega), _, rfl, _, rfl, _, _, rfl, rfl, ai + 1, rfl, F, rfl, nameLen nF, _, _, rfl, rfl, sle (by rw [app_len]; omega), _, rfl, sl, fun tl ntl => ?_⟩
      have hz : ∃ z : Str, atI [V.str (L ++ F), V.str (F ++ L), V.str (cutS F none (some ai) ++ L ++ cutS F (some (ai + 1)) none), V.str L] pk = some (.str z) ∧ AllL z ∧ 1 ≤ z.length ∧ z.length ≤ 1000 := by
        obtain ⟨n, rfl⟩ := Int.eq_ofNat_of_zero_le p0
        match n, p1 with
        | 0, _ => exact ⟨_, rfl, app_all aL aFF, by rw [app_len]; omega, by rw [app_len]; omega⟩
        | 1, _ => exact ⟨_, rfl, app_all aFF aL, by rw [app_len]; omega, by rw [app_len]; omega⟩
        | 2, _ => exact ⟨_, rfl, app_all (app_all (cut_all aFF) aL) (cut_all aFF), by rw [app_len, app_len]; omega, by rw [app_len, app_len]; omega⟩
        | 3, _ => exact ⟨_, rfl, aL, by omega, by omega⟩
        | n + 4, h => exact absurd h (by show ¬ (((n + 4 : Nat) : Int) < 4); omega)
      obtain ⟨z, az, aLz, z1, z2⟩ := hz
      have stl := same_upd (o := HO.lst [V.str (L ++ F), V.str (F ++ L), V.str (cutS F none (some ai) ++ L ++ cutS F (some (ai + 1)) none), V.str L]) ntl
      refine ⟨_, rfl, tl, _, _, _, rfl, rfl, SqL.of upd_same, az, 8, rfl, z, rfl, sle (by omega), ?_⟩
      have nz := cut8 aLz z1
      have ef48 := ((ef4.trans ef5).trans (ef6.trans ef7)).trans (ef8.trans (Ef.same stl))
      have hl9 := stl _ _ hl8
      have W9 := W8.same stl
      refine ⟨_, rfl, _, rfl, l, _, rfl, .inl (SqL.of hl9), rfl, flat_strs _, _, rfl, ?_⟩
      rw [if_pos rfl, inV_str]
      by_cases e : cutS z none (some 8) ∈ f0 :: rest
      · rw [decide_eq_true e]
        exact iteF ⟨_, _, _, _, _, _, rfl, ef48, W9, rest, hl9, nd, lr1, by omega, nok⟩
      · rw [decide_eq_false e]
        have em : (f0 :: (rest ++ [cutS z none (some 8)])).map V.str = (f0 :: rest).map V.str ++ [V.str (cutS z none (some 8))] := by rw [← List.cons_append, List.map_append]; rfl
        have kl : Ks K _ (upd (upd H8 tl (HO.lst [V.str (L ++ F), V.str (F ++ L), V.str (cutS F none (some ai) ++ L ++ cutS F (some (ai + 1)) none), V.str L])) l (.lst ((f0 :: rest).map V.str ++ [V.str (cutS z none (some 8))]))) := Ks.updL hl9
        refine iteT ⟨_, rfl, .inl ⟨rfl, _, SqL.of hl9⟩, _, rfl, l, _, _, rfl, rfl, hl9, slt (by rw [List.length_map, List.length_cons]; omega), _, _, _, _, _, _, rfl, ef48.tmp nlH kl, W9.tmp ol kl, rest ++ [cutS z none (some 8)], by rw [upd_same, em], ?_, by rw [List.length_append]; omega, by rw [List.length_append, List.length_singleton]; omega, fun y hy => ?_⟩
        · refine List.nodup_append.mpr ⟨nd, List.nodup_cons.mpr ⟨List.not_mem_nil, .nil⟩, fun b hb b' hb' q => ?_⟩
          rw [List.mem_singleton.mp hb'] at q
          exact e (List.mem_cons_of_mem _ (q ▸ hb))
        · rcases List.mem_append.mp hy with hy | hy
          · exact nok y hy
          · rw [List.mem_singleton.mp hy]
            exact nz
    · obtain ⟨y1, y2, y3, y4, y5, y6, rfl, ef4, W4, rest, hl4, nd, lr1, lr2, nok⟩ := h4
      have rest7 : rest.length ≤ 8 := by omega
      refine ⟨_, rfl, l, _, _, _, rfl, rfl, SqL.of hl4, atI_of (by decide) rfl, rfl, _, rfl, ?_⟩
      refine ite2 (fun c1 => ?_) (fun c1 => ?_)
      · have kl : Ks K H4 (upd H4 l (.lst (((("us" : Str)) :: rest).map V.str))) := Ks.updL hl4
        refine ⟨_, rfl, l, _, _, 0, rfl, rfl, hl4, by simp [ixN], ?_⟩
        have efu := ef4.tmp nlH kl
        have Wu := W4.tmp ol kl
        have hlu : upd H4 l (.lst ((("us" : Str) :: rest).map V.str)) l = some (.lst ((("us" : Str) :: rest).map V.str)) := upd_same
        refine ⟨_, rfl, 1, rfl, l, _, rfl, SqL.of hlu, fun sc nsc => ?_⟩
        rw [cutV1 _ (by rw [List.length_map, List.length_cons]; omega)]
        have s6 := same_upd (o := HO.lst (((("us" : Str) :: rest).map V.str).drop 1)) nsc
        refine ⟨sc, rfl, ⟨_, SqL.of upd_same⟩, fun D nD => lc_list (xs := rest.map V.str) (fun i H6 => Same (upd (upd H4 l (.lst ((("us" : Str) :: rest).map V.str))) sc (HO.lst (((("us" : Str) :: rest).map V.str).drop 1))) H6 ∧ H6 D = some (.lst (((rest.take i).filter fun x => decide (x ≠ ("us" : Str))).map V.str))) ⟨same_upd nD, upd_same⟩ (fun i H6 _ h6 => SqL.of (h6.1 _ _ upd_same)) (fun i x H6 hi h6 => ?_) (fun H6 h6 => ?_)⟩
        · obtain ⟨s7, hD⟩ := h6
          rw [List.getElem?_map] at hi
          obtain ⟨z, hz, rfl⟩ := Option.map_eq_some_iff.mp hi
          have il := (List.getElem?_eq_some_iff.mp hz).1
          refine ⟨rfl, _, rfl, _, rfl, l, _, _, _, rfl, rfl, SqL.of (s7 _ _ (s6 _ _ hlu)), atI_of (by decide) rfl, rfl, _, rfl, ?_⟩
          by_cases e : z = ("us" : Str)
          · refine iFe (by rw [e]; simp) ⟨s7, ?_⟩
            rw [hD, take_succ_of hz, List.filter_append, List.filter_cons_of_neg (by simp [e]), List.filter_nil, List.append_nil]
          · refine iTe (by rw [Bool.not_eq_true']; exact decide_eq_false (fun q => e (V.str.inj q))) ⟨_, rfl, _, hD, slt ?_, fun b' y q => ?_, ?_⟩
            · rw [List.length_map]
              have := List.length_filter_le (fun x => decide (x ≠ ("us" : Str))) (rest.take i)
              rw [List.length_take] at this
              omega
            · rw [upd_ne (ne_of_none q nD)]
              exact s7 _ _ q
            · rw [upd_same, take_succ_of hz, List.filter_append, List.filter_cons_of_pos (by simp [e]), List.filter_nil, List.map_append]
              rfl
        · obtain ⟨s7, hD⟩ := h6
          rw [List.length_map, List.take_length] at hD
          have s67 := s6.trans s7
          have W6 := Wu.same s67
          have nDX : (upd H4 l (.lst ((("us" : Str) :: rest).map V.str))) D = none := s6.free nD
          have oD := Wu.dom.free nDX
          have lq : (rest.filter fun x => decide (x ≠ ("us" : Str))).length ≤ rest.length := List.length_filter_le ..
          refine ⟨_, rfl, .inl ⟨rfl, _, SqL.of hD⟩, _, rfl, _, rfl, D, _, rfl, .inl (SqL.of hD), _, _, rfl, rfl, o, W, _, _, rfl, by rw [List.length_map]; omega, W6, by unfold cMax at *; omega, fun ti H7 ti0 ti1 ef7 W7 => ?_⟩
          rw [List.length_map] at ti1
          have hD7 := (ef7.mine hD oD).1
          have hl7 := (ef7.mine (s67 _ _ hlu) ol).1
          refine ⟨_, rfl, l, _, _, _, rfl, rfl, SqL.of hl7, atI_of (by decide) rfl, D, _, ti, _, rfl, rfl, hD7, slt (by rw [List.length_map]; omega), ti0, by omega, ?_⟩
          have em : ((rest.filter fun x => decide (x ≠ ("us" : Str))).map V.str).take ti.toNat ++ [V.str (("us" : Str))] ++ ((rest.filter fun x => decide (x ≠ ("us" : Str))).map V.str).drop ti.toNat = ((rest.filter fun x => decide (x ≠ ("us" : Str))).take ti.toNat ++ [("us" : Str)] ++ (rest.filter fun x => decide (x ≠ ("us" : Str))).drop ti.toNat).map V.str := by
            rw [List.map_append, List.map_append, List.map_take, List.map_drop]
            rfl
          rw [em]
          have kD : Ks K H7 (upd H7 D (.lst (((rest.filter fun x => decide (x ≠ ("us" : Str))).take ti.toNat ++ [("us" : Str)] ++ (rest.filter fun x => decide (x ≠ ("us" : Str))).drop ti.toNat).map V.str))) := Ks.updL hD7
          have pm : ((rest.filter fun x => decide (x ≠ ("us" : Str))).take ti.toNat ++ [("us" : Str)] ++ (rest.filter fun x => decide (x ≠ ("us" : Str))).drop ti.toNat).Perm (("us" : Str) :: rest.filter fun x => decide (x ≠ ("us" : Str))) := by
            rw [List.append_assoc]
            refine List.perm_append_comm.trans ?_
            rw [List.singleton_append, List.cons_append]
            refine List.Perm.cons _ (List.perm_append_comm.trans ?_)
            rw [List.take_append_drop]
          have nDH := efu.free nDX
          refine ⟨_, rfl, h _ _ (((efu.trans (Ef.same s67)).trans ef7).tmp nDH kD) ((W7.tmp oD kD).mono (by omega) (by unfold cMax at *; omega)) ⟨D, _, rfl, nDH, upd_same, ?_, ?_, ?_, fun z hz => ?_⟩⟩
          · rw [pm.nodup_iff]
            exact List.nodup_cons.mpr ⟨fun hm => by simp at hm, nd.filter _⟩
          · rw [pm.length_eq, List.length_cons]
            omega
          · rw [pm.length_eq, List.length_cons]
            omega
          · rcases List.mem_cons.mp (pm.mem_iff.mp hz) with e | e
            · rw [e]
              exact us_ok
            · exact nok z (List.mem_filter.mp e).1
      · skip
        refine ⟨_, rfl, 1, rfl, l, _, rfl, SqL.of hl4, fun sc nsc => ?_⟩
        rw [cutV1 _ (by rw [List.length_map, List.length_cons]; omega)]
        have s6 := same_upd (o := HO.lst (((f0 :: rest).map V.str).drop 1)) nsc
        refine ⟨sc, rfl, ⟨_, SqL.of upd_same⟩, fun D nD => lc_list (xs := rest.map V.str) (fun i H6 => Same (upd H4 sc (HO.lst (((f0 :: rest).map V.str).drop 1))) H6 ∧ H6 D = some (.lst (((rest.take i).filter fun x => decide (x ≠ f0)).map V.str))) ⟨same_upd nD, upd_same⟩ (fun i H6 _ h6 => SqL.of (h6.1 _ _ upd_same)) (fun i x H6 hi h6 => ?_) (fun H6 h6 => ?_)⟩
        · obtain ⟨s7, hD⟩ := h6
          rw [List.getElem?_map] at hi
          obtain ⟨z, hz, rfl⟩ := Option.map_eq_some_iff.mp hi
          have il := (List.getElem?_eq_some_iff.mp hz).1
          refine ⟨rfl, _, rfl, _, rfl, l, _, _, _, rfl, rfl, SqL.of (s7 _ _ (s6 _ _ hl4)), atI_of (by decide) rfl, rfl, _, rfl, ?_⟩
          by_cases e : z = f0
          · refine iFe (by rw [e]; simp) ⟨s7, ?_⟩
            rw [hD, take_succ_of hz, List.filter_append, List.filter_cons_of_neg (by simp [e]), List.filter_nil, List.append_nil]
          · refine iTe (by rw [Bool.not_eq_true']; exact decide_eq_false (fun q => e (V.str.inj q))) ⟨_, rfl, _, hD, slt ?_, fun b' y q => ?_, ?_⟩
            · rw [List.length_map]
              have := List.length_filter_le (fun x => decide (x ≠ f0)) (rest.take i)
              rw [List.length_take] at this
              omega
            · rw [upd_ne (ne_of_none q nD)]
              exact s7 _ _ q
            · rw [upd_same, take_succ_of hz, List.filter_append, List.filter_cons_of_pos (by simp [e]), List.filter_nil, List.map_append]
              rfl
        · obtain ⟨s7, hD⟩ := h6
          rw [List.length_map, List.take_length] at hD
          have s67 := s6.trans s7
          have W6 := W4.same s67
          have nDX : H4 D = none := s6.free nD
          have oD := W4.dom.free nDX
          have lq : (rest.filter fun x => decide (x ≠ f0)).length ≤ rest.length := List.length_filter_le ..
          refine ⟨_, rfl, .inl ⟨rfl, _, SqL.of hD⟩, _, rfl, _, rfl, D, _, rfl, .inl (SqL.of hD), _, _, rfl, rfl, o, W, _, _, rfl, by rw [List.length_map]; omega, W6, by unfold cMax at *; omega, fun ti H7 ti0 ti1 ef7 W7 => ?_⟩
          rw [List.length_map] at ti1
          have hD7 := (ef7.mine hD oD).1
          have hl7 := (ef7.mine (s67 _ _ hl4) ol).1
          refine ⟨_, rfl, l, _, _, _, rfl, rfl, SqL.of hl7, atI_of (by decide) rfl, D, _, ti, _, rfl, rfl, hD7, slt (by rw [List.length_map]; omega), ti0, by omega, ?_⟩
          have em : ((rest.filter fun x => decide (x ≠ f0)).map V.str).take ti.toNat ++ [V.str (f0)] ++ ((rest.filter fun x => decide (x ≠ f0)).map V.str).drop ti.toNat = ((rest.filter fun x => decide (x ≠ f0)).take ti.toNat ++ [f0] ++ (rest.filter fun x => decide (x ≠ f0)).drop ti.toNat).map V.str := by
            rw [List.map_append, List.map_append, List.map_take, List.map_drop]
            rfl
          rw [em]
          have kD : Ks K H7 (upd H7 D (.lst (((rest.filter fun x => decide (x ≠ f0)).take ti.toNat ++ [f0] ++ (rest.filter fun x => decide (x ≠ f0)).drop ti.toNat).map V.str))) := Ks.updL hD7
          have pm : ((rest.filter fun x => decide (x ≠ f0)).take ti.toNat ++ [f0] ++ (rest.filter fun x => decide (x ≠ f0)).drop ti.toNat).Perm (f0 :: rest.filter fun x => decide (x ≠ f0)) := by
            rw [List.append_assoc]
            refine List.perm_append_comm.trans ?_
            rw [List.singleton_append, List.cons_append]
            refine List.Perm.cons _ (List.perm_append_comm.trans ?_)
            rw [List.take_append_drop]
          have nDH := ef4.free nDX
          refine ⟨_, rfl, h _ _ (((ef4.trans (Ef.same s67)).trans ef7).tmp nDH kD) ((W7.tmp oD kD).mono (by omega) (by unfold cMax at *; omega)) ⟨D, _, rfl, nDH, upd_same, ?_, ?_, ?_, fun z hz => ?_⟩⟩
          · rw [pm.nodup_iff]
            exact List.nodup_cons.mpr ⟨fun hm => by simp at hm, nd.filter _⟩
          · rw [pm.length_eq, List.length_cons]
            omega
          · rw [pm.length_eq, List.length_cons]
            omega
          · rcases List.mem_cons.mp (pm.mem_iff.mp hz) with e | e
            · rw [e]
              exact nf0
            · exact nok z (List.mem_filter.mp e).1
end
end Cn
namespace Cn
open PySem PySem.Spec PyProof.Rows L2
theorem seq_ix {i : Int} {n : Nat} (h0 : 0 ≤ i) (h1 : i < n) : seqIndex? i n = some i.toNat := by
  unfold seqIndex?
  simp only
  rw [if_neg (by omega : ¬ i < 0), if_pos (by rw [Bool.and_eq_true, decide_eq_true_eq, decide_eq_true_eq]; exact ⟨h0, h1⟩)]
theorem erase_map {α β : Type} (f : α → β) : ∀ (l : List α) (i : Nat), (l.map f).eraseIdx i = (l.eraseIdx i).map f
  | [], _ => rfl
  | _ :: _, 0 => rfl
  | x :: r, i + 1 => congrArg (f x :: ·) (erase_map f r i)
theorem erase_perm {α : Type} : ∀ (l : List α) (i : Nat) (h : i < l.length), (l[i] :: l.eraseIdx i).Perm l
  | [], _, h => absurd h (Nat.not_lt_zero _)
  | _ :: _, 0, _ => List.Perm.refl _
  | x :: r, i + 1, h => (List.Perm.swap x _ _).trans (List.Perm.cons x (erase_perm r i (Nat.lt_of_succ_lt_succ h)))
/-- the purses: a tuple whose object is known -/
def PursesAt (K : PySem.W.Frag) (H : Hp) (q : Addr) (b : List Pay) : Prop := ∃ ob vs, H q = some (.frz ob (.tup vs)) ∧ ob.cls = .type "tuple" ∧ ob.dict = none ∧ Paired (IsPay K H) vs b
def spBags (K : PySem.W.Frag) : Sp := spDraw (α := Addr × List Str) K 130 (fun x us H => us = [.ref x.1] ∧ H x.1 = some (.lst (x.2.map V.str)) ∧ x.2.Nodup ∧ x.2.length ≤ 12 ∧ ∀ z ∈ x.2, NameOk z) (fun _ H v H' _ => ∃ (q : Addr) (b : List Pay), v = .ref q ∧ H q = none ∧ PursesAt K H' q b ∧ BagsOk b)
section
variable {P : Program} {w : World} {K : PySem.W.Frag} {mg : Str → Option Value} {base : Heap}
abbrev n_law_bags : List Str := ["_law_well_here", "_law_folk_here", "_law_found", "_law_left", "_law_k"]
theorem sc_law_bags : FnScope n_law_bags ["_law_well_here", "_law_folk_here"] (defScope s_law_bags) := ⟨rfl, rfl, rfl, by decide +kernel, rfl, by decide +kernel, by decide +kernel⟩
theorem ok_law_bags (T : Tx K mg) : DefOk P w K mg base CX0 3 (He.fAd K d_law_bags.at_) ["_law_well_here", "_law_folk_here"] (spBags K) := by
  refine mk0 (d := d_law_bags) T.f_law_bags rfl (fun _ _ _ _ _ _ us hl => match us, hl with | [_, _], _ => rfl) sc_law_bags (fun vs H Q E h => ?_) (fun cdv A outer s H vs Q E hr h => ?_)
  · obtain ⟨_, _, _, _, _, rfl, ⟨rfl, _⟩, _⟩ := h
    rfl
  · obtain ⟨⟨fa, fs⟩, o, W, c, us, rfl, ⟨rfl, hfa, nd, lf, nok⟩, Wl, hc, h⟩ := h
    refine ⟨_, (pss_cons (ps_set (i := 2) sc_law_bags.nd rfl (.inl rfl) (pe_lst pa_nil))
      (pss_cons (ps_set (i := 3) sc_law_bags.nd rfl (.inl rfl) (pe_callTy call_list_of (by rfl) T.b_list (by decide +kernel) (pa_cons (pv 1) pa_nil)))
      (pss_cons (ps_for PassesOwn.never rfl (pi_range1 rfl T.b_range (pa_cons (pe_callB call_len_seq (by rfl) T.b_len PySem.boot_len (pa_cons (pv 1) pa_nil)) pa_nil)) (pg_name (i := 4) sc_law_bags.nd rfl (.inl rfl)) (pss_one (ps_expr (pe_bm PySem.F.plainAttrs_list PySem.F.slot_list_append PySem.F.type_list_append mt_append (pv 2) (pa_cons (pe_tup (pa_cons (pe_bm PySem.F.plainAttrs_list PySem.F.slot_list_pop PySem.F.type_list_pop mt_popAt (pv 3) (pa_cons (cD (ok_law_take T) T.g_law_take hr (pa_cons (pv 0) (pa_cons (pe_callB call_len_seq (by rfl) T.b_len PySem.boot_len (pa_cons (pv 3) pa_nil)) pa_nil))) pa_nil)) (pa_cons (pe_op op_add (pe_op op_mul (cD (ok_law_sum T) T.g_law_sum hr (pa_cons (pv 0) pa_nil)) (cD (ok_law_take T) T.g_law_take hr (pa_cons (pv 0) (pa_cons pe_int pa_nil)))) (cD (ok_law_sum T) T.g_law_sum hr (pa_cons (pv 0) pa_nil))) pa_nil))) pa_nil)))))
      (pss_one (ps_ret (pe_callTy call_tuple_new (by rfl) T.b_tuple (by decide +kernel) (pa_cons (pv 2) pa_nil))))))), ?_⟩
    have lf' : fs.length ≤ 12 := lf
    refine ⟨Nat.zero_le _, fun l nl => ?_⟩
    have s1 := same_upd (o := HO.lst []) nl
    have ol := Wl.dom.free nl
    refine ⟨_, rfl, fa, _, rfl, .inl (SqL.of (s1 _ _ hfa)), fun e ne => ?_⟩
    have s2 := same_upd (H := upd H l (.lst [])) (o := HO.lst (fs.map V.str)) ne
    have oe := Wl.dom.free (s1.free ne)
    have nle : l ≠ e := fun z => by rw [← z, upd_same] at ne; cases ne
    refine ⟨_, rfl, fa, _, rfl, .inl (SqL.of (s2 _ _ (s1 _ _ hfa))), _, rfl, by omega, by rw [List.length_map]; omega, ?_⟩
    refine for_range (lo := 0) (n := (((fs.map V.str).length : Nat) : Int).toNat) (fun i σ H2 => ∃ y, σ = [some (.ref W), some (.ref fa), some (.ref l), some (.ref e), y] ∧ Ef K 0 o H o H2 ∧ Well K o H2 W (c + 6 * i) ∧ ∃ (b : List Pay) (ls : List Str) (vs : List V), H2 l = some (.lst vs) ∧ Paired (IsPay K H2) vs b ∧ H2 e = some (.lst (ls.map V.str)) ∧ b.length = i ∧ b.length + ls.length = fs.length ∧ (b.map (·.1) ++ ls).Nodup ∧ (∀ p ∈ b, NameOk p.1 ∧ 0 ≤ p.2) ∧ ∀ z ∈ ls, NameOk z)
      ⟨none, rfl, Ef.same (s1.trans s2), (Wl.same s1).same s2, [], fs, [], s2 _ _ upd_same, .nil, upd_same, rfl, by simp, nd, fun _ z => (List.not_mem_nil z).elim, nok⟩ (fun i σ H2 hi h2 => ?_) (fun σ H2 h2 => ?_)
    · obtain ⟨y, rfl, ef2, W2, b, ls, vs, hl, pb, he, lb, lt, nd2, bok, lok⟩ := h2
      rw [List.length_map] at hi
      have lv := paired_len pb
      have ls1 : 1 ≤ ls.length := by omega
      refine ⟨_, rfl, .inl ⟨rfl, _, SqL.of hl⟩, _, rfl, .inl ⟨rfl, _, SqL.of he⟩, _, rfl, _, rfl, e, _, rfl, .inl (SqL.of he), o, W, _, _, rfl, by rw [List.length_map]; omega, W2, by omega, fun ti H3 t0 t1 ef3 W3 => ?_⟩
      rw [List.length_map] at t1
      have he3 := (ef3.mine he oe).1
      have hl3 := (ef3.mine hl ol).1
      have tl : ti.toNat < ls.length := by omega
      refine ⟨e, _, ti, ti.toNat, .str ls[ti.toNat], rfl, rfl, he3, by omega, by omega, ?_, by rw [List.getElem?_map, List.getElem?_eq_getElem tl]; rfl, ?_⟩
      · exact seq_ix t0 (by rw [List.length_map]; exact t1)
      · have e1 : (ls.map V.str).eraseIdx ti.toNat = (ls.eraseIdx ti.toNat).map V.str := erase_map _ _ _
        rw [e1]
        have ke : Ks K H3 (upd H3 e (.lst ((ls.eraseIdx ti.toNat).map V.str))) := Ks.updL he3
        have W4 := W3.tmp oe ke
        have ef4 := (ef2.trans ef3).tmp (s1.free ne) ke
        have he4 : upd H3 e (.lst ((ls.eraseIdx ti.toNat).map V.str)) e = some (.lst ((ls.eraseIdx ti.toNat).map V.str)) := upd_same
        have hl4 : upd H3 e (.lst ((ls.eraseIdx ti.toNat).map V.str)) l = some (.lst vs) := by
          rw [upd_ne nle]
          exact hl3
        have k24 := ef3.sq.trans ke
        refine ⟨_, rfl, (), o, W, _, [], rfl, rfl, W4, by omega, fun v5 H5 ef5 W5 h5 => ?_⟩
        obtain ⟨i1, rfl, i10⟩ := h5
        refine ⟨_, rfl, o, W, _, 3, rfl, by decide, W5, by omega, fun r6 H6 r60 r61 ef6 W6 => ⟨_, _, rfl, rfl, .inr ⟨by omega, by omega⟩, ?_⟩⟩
        refine ⟨_, rfl, (), o, W, _, [], rfl, rfl, W6, by omega, fun v7 H7 ef7 W7 h7 => ?_⟩
        obtain ⟨i2, rfl, i20⟩ := h7
        refine ⟨_, _, rfl, rfl, sl, fun tt ntt => ?_⟩
        have ef47 := ef5.trans (ef6.trans ef7)
        have he7 := (ef47.mine he4 oe).1
        have hl7 := (ef47.mine hl4 ol).1
        have s8 := same_upd (o := HO.tup [V.str ls[ti.toNat], V.int (i1 * r6 + i2)]) ntt
        have hl8 := s8 _ _ hl7
        have kl : Ks K _ (upd (upd H7 tt (.tup [V.str ls[ti.toNat], V.int (i1 * r6 + i2)])) l (.lst (vs ++ [.ref tt]))) := Ks.updL hl8
        have kall := ((k24.trans ef47.sq).trans (Ks.same s8)).trans kl
        have nn : 0 ≤ i1 * r6 := Int.mul_nonneg i10 r60
        have pm := erase_perm ls _ tl
        refine ⟨l, vs, _, rfl, rfl, hl8, slt (by omega), _, rfl, ((ef4.trans ef47).trans (Ef.same s8)).tmp nl kl, (W7.same s8).tmp ol kl, b ++ [(ls[ti.toNat], i1 * r6 + i2)], ls.eraseIdx ti.toNat, vs ++ [.ref tt], upd_same, paired_append (paired_imp (fun _ _ z => IsPay.mono (K := K) kall z) pb) (.cons ⟨tt, rfl, kl _ _ (SqT.of upd_same)⟩ .nil), ?_, by rw [List.length_append, lb]; rfl, ?_, ?_, fun p hp => ?_, fun z hz => lok z (List.mem_of_mem_eraseIdx hz)⟩
        · rw [upd_ne nle.symm]
          exact s8 _ _ he7
        · rw [List.length_append, List.length_eraseIdx, if_pos tl, List.length_singleton]
          omega
        · rw [List.map_append, List.append_assoc]
          refine (List.Perm.nodup_iff (List.Perm.append_left _ ?_)).mpr nd2
          exact pm
        · rcases List.mem_append.mp hp with hp | hp
          · exact bok p hp
          · rw [List.mem_singleton.mp hp]
            exact ⟨lok _ (List.getElem_mem tl), by omega⟩
    · obtain ⟨y, rfl, ef2, W2, b, ls, vs, hl, pb, he, lb, lt, nd2, bok, lok⟩ := h2
      rw [List.length_map] at lb
      have lb' : b.length = fs.length := by omega
      have ls0 : ls = [] := List.length_eq_zero_iff.mp (by omega)
      subst ls0
      refine ⟨_, rfl, l, vs, rfl, SqL.of hl, fun q ob nq hc1 hd1 => ?_⟩
      have s3 := same_upd (o := HO.frz ob (.tup vs)) nq
      refine h _ _ (ef2.trans (Ef.same s3)) ((W2.same s3).mono (by rw [List.length_map]; omega) (by unfold cMax at *; omega)) ⟨q, b, rfl, ef2.free nq, ⟨ob, vs, upd_same, hc1, hd1, paired_imp (fun _ _ z => IsPay.mono (K := K) (Ks.same s3) z) pb⟩, ⟨by simpa using nd2, bok, by omega⟩⟩
end
end Cn
namespace Cn
open PySem PySem.Spec PyProof.Rows L2
structure LkA where
  number : Int
  many : Nat
  ka : Addr
  keys : List Int
  clock : Int
def KeysOk (H : Hp) (o : Own) (ka : Addr) (keys : List Int) : Prop := H ka = some (.lst (keys.map V.int)) ∧ (∀ i, o ka ≠ some (0, i)) ∧ 1 ≤ keys.length ∧ keys.length ≤ 10 ∧ ∀ k ∈ keys, 0 ≤ k
theorem KeysOk.ef {K : PySem.W.Frag} {H H' : Hp} {o : Own} {ka : Addr} {keys : List Int} (h : KeysOk H o ka keys) (e : Ef K 0 o H o H') : KeysOk H' o ka keys := ⟨e.keep _ _ h.1 h.2.1, h.2⟩
/-- a lock as the draws make it: a list -/
def IsRaw (o : Own) (H : Hp) (v : V) (k : LK) : Prop := ∃ a, v = .ref a ∧ o a = none ∧ H a = some (.lst k.vs)
theorem IsRaw.ef {K : PySem.W.Frag} {o : Own} {H H' : Hp} {t : Nat} (e : Ef K t o H o H') {v : V} {k : LK} (h : IsRaw o H v k) : IsRaw o H' v k := by
  obtain ⟨a, e1, oa, ha⟩ := h
  exact ⟨a, e1, oa, (e.mine ha oa).1⟩
def spDrawK {α : Type} (K : PySem.W.Frag) (n : Nat) (args : α → List V → Hp → Own → Prop) (R : α → Hp → V → Hp → Own → Prop) : Sp := fun vs H Q _ => ∃ (x : α) (o : Own) (W : Addr) (c : Nat) (us : List V), vs = .ref W :: us ∧ args x us H o ∧ Well K o H W c ∧ c + n ≤ cMax ∧
  ∀ v H', Ef K 0 o H o H' → Well K o H' W (c + n) → R x H v H' o → Q v H'
def spLocks (K : PySem.W.Frag) : Sp := spDrawK (α := LkA) K 200 (fun x us H o => us = [.int x.number, .int x.many, .ref x.ka, .int x.clock] ∧ 1 ≤ x.number ∧ x.many ≤ 31 ∧ KeysOk H o x.ka x.keys ∧ 0 ≤ x.clock)
  (fun x H v H' o => ∃ (l : Addr) (vs : List V) (ks : List LK), v = .ref l ∧ H l = none ∧ H' l = some (.lst vs) ∧ Paired (IsRaw o H') vs ks ∧ ks.length ≤ x.many ∧ (∀ k ∈ ks, 1 ≤ k.id ∧ k.id ≤ x.number ∧ (k.gv = "left" ∨ k.gv = "right") ∧ 0 ≤ k.se ∧ 0 ≤ k.la) ∧ (ks.map LK.id).Pairwise (· < ·))
section
variable {P : Program} {w : World} {K : PySem.W.Frag} {mg : Str → Option Value} {base : Heap}
abbrev n_law_locks : List Str := ["_law_well_here", "_law_number", "_law_many", "_law_keys", "_law_clock", "_law_ids", "_law_found", "_law_one", "_law_giver", "_law_last", "_law_k"]
theorem sc_law_locks : FnScope n_law_locks ["_law_well_here", "_law_number", "_law_many", "_law_keys", "_law_clock"] (defScope s_law_locks) := ⟨rfl, rfl, rfl, by decide +kernel, rfl, by decide +kernel, by decide +kernel⟩
theorem ok_law_locks (T : Tx K mg) : DefOk P w K mg base CX0 2 (He.fAd K d_law_locks.at_) ["_law_well_here", "_law_number", "_law_many", "_law_keys", "_law_clock"] (spLocks K) := by
  refine mk0 (d := d_law_locks) T.f_law_locks rfl (fun _ _ _ _ _ _ us hl => match us, hl with | [_, _, _, _, _], _ => rfl) sc_law_locks (fun vs H Q E h => ?_) (fun cdv A outer s H vs Q E hr h => ?_)
  · obtain ⟨_, _, _, _, _, rfl, ⟨rfl, _⟩, _⟩ := h
    rfl
  · obtain ⟨⟨nu, mn, ka, keys, cl⟩, o, W, c, us, rfl, ⟨rfl, nu1, mn31, kok, cl0⟩, Wl, hc, h⟩ := h
    refine ⟨_, (pss_cons (ps_set (i := 5) sc_law_locks.nd rfl (.inl rfl) (pe_callB (cr_sortedSet rfl) (by rfl) T.b_sorted (by decide +kernel) (pa_cons (pe_callTy (cr_setI rfl) (by rfl) T.b_set (by decide +kernel) (pa_cons (pe_lc (own := [("_law_k", 10)]) (tt := tYes) rfl sc_law_locks.nd (pi_range1 rfl T.b_range (pa_cons (pv 2) pa_nil)) (blkOk_by (own := [("_law_k", 10)]) (N := n_law_locks) (sc := defScope s_law_locks) (by decide +kernel)) (fun _ _ _ _ _ => (pg_name (i := 10) sc_law_locks.nd rfl (.inl rfl))) (fun _ _ _ _ _ => pts_nil) (fun _ _ _ _ _ => (pe_op op_add pe_int (cD (ok_law_take (P := P) (w := w) (base := base) T) T.g_law_take hr (pa_cons (pv 0) (pa_cons (pv 1) pa_nil)))))) pa_nil)) pa_nil)))
      (pss_cons (ps_set (i := 6) sc_law_locks.nd rfl (.inl rfl) (pe_lst pa_nil))
      (pss_cons (ps_for PassesOwn.never rfl (pi_list (pv 5)) (pg_name (i := 7) sc_law_locks.nd rfl (.inl rfl)) (pss_cons (ps_set (i := 8) sc_law_locks.nd rfl (.inl rfl) (pe_ix ix_list (pe_lst (pa_cons pe_str (pa_cons pe_str pa_nil))) (cD (ok_law_take T) T.g_law_take hr (pa_cons (pv 0) (pa_cons pe_int pa_nil))) (fun _ _ => rfl)))
      (pss_cons (ps_set (i := 9) sc_law_locks.nd rfl (.inl rfl) (pe_op op_add (pe_callB (call_max2 rfl) (by rfl) T.b_max (by decide +kernel) (pa_cons pe_int (pa_cons (pe_op op_sub (pv 4) pe_int) pa_nil))) (cD (ok_law_take T) T.g_law_take hr (pa_cons (pv 0) (pa_cons (pe_ix ix_list (pe_lst (pa_cons pe_int (pa_cons pe_int (pa_cons pe_int pa_nil)))) (cD (ok_law_take T) T.g_law_take hr (pa_cons (pv 0) (pa_cons pe_int pa_nil))) (fun _ _ => rfl)) pa_nil)))))
      (pss_one (ps_expr (pe_bm PySem.F.plainAttrs_list PySem.F.slot_list_append PySem.F.type_list_append mt_append (pv 6) (pa_cons (pe_lst (pa_cons (pv 7) (pa_cons (pv 8) (pa_cons pe_int (pa_cons (pe_ix ix_list (pv 3) (cD (ok_law_take T) T.g_law_take hr (pa_cons (pv 0) (pa_cons (pe_callB call_len_seq (by rfl) T.b_len PySem.boot_len (pa_cons (pv 3) pa_nil)) pa_nil))) (fun _ _ => rfl)) (pa_cons (pv 9) pa_nil)))))) pa_nil)))))))
      (pss_one (ps_ret (pv 6)))))), ?_⟩
    have nu1' : 1 ≤ nu := nu1
    have mn31' : mn ≤ 31 := mn31
    have cl0' : 0 ≤ cl := cl0
    refine ⟨_, rfl, _, rfl, by omega, by omega, fun D nD => ?_⟩
    have sD := same_upd (o := HO.lst []) nD
    have oD := Wl.dom.free nD
    refine lc_range (lo := 0) (n := ((mn : Nat) : Int).toNat) (fun i H2 => Ef K 0 o H o H2 ∧ Well K o H2 W (c + i) ∧ ∃ ns : List Int, H2 D = some (.lst (ns.map V.int)) ∧ ns.length = i ∧ ∀ x ∈ ns, 1 ≤ x ∧ x ≤ nu) ⟨Ef.same sD, Wl.same sD, [], upd_same, rfl, fun _ z => (List.not_mem_nil z).elim⟩ (fun i H2 hi h2 => ?_) (fun H2 h2 => ?_)
    · obtain ⟨ef2, W2, ns, hD, ln, hn⟩ := h2
      refine ⟨rfl, _, rfl, _, rfl, o, W, _, nu, rfl, nu1, W2, by omega, fun q H3 q0 q1 ef3 W3 => ?_⟩
      have hD3 := (ef3.mine hD oD).1
      have em : (ns ++ [1 + q]).map V.int = ns.map V.int ++ [V.int (1 + q)] := by rw [List.map_append]; rfl
      have kD : Ks K H3 (upd H3 D (.lst (ns.map V.int ++ [V.int (1 + q)]))) := Ks.updL hD3
      refine ⟨_, _, rfl, rfl, _, hD3, slt (by rw [List.length_map]; omega), (ef2.trans ef3).tmp nD kD, W3.tmp oD kD, ns ++ [1 + q], by rw [upd_same, em], by rw [List.length_append, ln]; rfl, fun x hx => ?_⟩
      rcases List.mem_append.mp hx with hx | hx
      · exact hn x hx
      · rw [List.mem_singleton.mp hx]
        omega
    · obtain ⟨ef2, W2, ns, hD, ln, hn⟩ := h2
      refine ⟨D, ns, rfl, SqL.of hD, by omega, fun ps cc nps hcc => ?_⟩
      have s3 := same_upd (o := SetO w ps (fun j => decide (j ∈ ns)) cc) nps
      refine ⟨ps, _, cc, rfl, upd_same, by omega, fun ids pi rise mem lids npi => ?_⟩
      have s4 := same_upd (H := upd H2 ps (SetO w ps (fun j => decide (j ∈ ns)) cc)) (o := HO.lst (ids.map V.int)) npi
      have s34 := s3.trans s4
      have idin : ∀ x ∈ ids, 1 ≤ x ∧ x ≤ nu := fun x hx => hn x (of_decide_eq_true ((mem x).mp hx))
      have lid : ids.length ≤ mn := by omega
      refine ⟨Nat.zero_le _, fun l nl => ?_⟩
      have s5 := same_upd (H := upd (upd H2 ps (SetO w ps (fun j => decide (j ∈ ns)) cc)) pi (.lst (ids.map V.int))) (o := HO.lst []) nl
      have s35 := s34.trans s5
      have ef5 := ef2.trans (Ef.same (t := 0) (o := o) s35)
      have W5 := W2.same s35
      have nlH : H l = none := ef2.free (s34.free nl)
      have ol := Wl.dom.free nlH
      have npiH : H pi = none := ef2.free (s3.free npi)
      have opi := Wl.dom.free npiH
      refine ⟨_, rfl, pi, rfl, ⟨_, SqL.of (s5 _ _ upd_same)⟩, for_list (xs := ids.map V.int) (fun i σ H6 => ∃ y7 y8 y9, σ = [some (.ref W), some (.int nu), some (.int mn), some (.ref ka), some (.int cl), some (.ref pi), some (.ref l), y7, y8, y9, none] ∧ Ef K 0 o H o H6 ∧ Well K o H6 W (c + 31 + 4 * i) ∧ H6 pi = some (.lst (ids.map V.int)) ∧ ∃ (vs : List V) (ks : List LK), H6 l = some (.lst vs) ∧ Paired (IsRaw o H6) vs ks ∧ ks.map LK.id = ids.take i ∧ ∀ k ∈ ks, 1 ≤ k.id ∧ k.id ≤ nu ∧ (k.gv = "left" ∨ k.gv = "right") ∧ 0 ≤ k.se ∧ 0 ≤ k.la)
        ⟨none, none, none, rfl, ef5, W5.mono (by omega) (by unfold cMax at *; omega), s5 _ _ upd_same, [], [], upd_same, .nil, rfl, fun _ z => (List.not_mem_nil z).elim⟩ (fun i σ H6 _ h6 => ?_) (fun i x σ H6 hi h6 => ?_) (fun σ H6 h6 => ?_)⟩
      · obtain ⟨_, _, _, _, _, _, h6, _⟩ := h6
        exact SqL.of h6
      · obtain ⟨y7, y8, y9, rfl, ef6, W6, hpi6, vs, ks, hl6, pk6, eids, kk⟩ := h6
        rw [List.getElem?_map] at hi
        obtain ⟨id, hid, rfl⟩ := Option.map_eq_some_iff.mp hi
        have il := (List.getElem?_eq_some_iff.mp hid).1
        have idb := idin id (List.mem_of_getElem? hid)
        have lks : ks.length ≤ i := by
          have := congrArg List.length eids
          rw [List.length_map, List.length_take] at this
          omega
        have lvs := paired_len pk6
        refine ⟨sl, fun t1 nt1 => ?_⟩
        have st1 := same_upd (o := HO.lst [V.str "left", V.str "right"]) nt1
        have ot1 := W6.dom.free nt1
        refine ⟨_, rfl, o, W, _, 2, rfl, by decide, W6.same st1, by omega, fun g H7 g0 g1 ef7 W7 => ?_⟩
        have ht1 := (ef7.mine upd_same ot1).1
        have hg : ∃ z : Str, atI [V.str "left", V.str "right"] g = some (.str z) ∧ (z = "left" ∨ z = "right") := by
          obtain ⟨n, rfl⟩ := Int.eq_ofNat_of_zero_le g0
          match n, g1 with
          | 0, _ => exact ⟨_, rfl, .inl rfl⟩
          | 1, _ => exact ⟨_, rfl, .inr rfl⟩
          | n + 2, h => exact absurd h (by show ¬ (((n + 2 : Nat) : Int) < 2); omega)
        obtain ⟨z, hz, zz⟩ := hg
        have ef67 := (Ef.same (K := K) (t := 0) (o := o) st1).trans ef7
        refine ⟨t1, _, _, _, rfl, rfl, SqL.of ht1, hz, ?_⟩
        refine ⟨_, rfl, _, _, rfl, rfl, 0, cl - 3, rfl, ?_⟩
        refine ⟨_, rfl, sl, fun t2 nt2 => ?_⟩
        have st2 := same_upd (o := HO.lst [V.int 9, V.int 9, V.int 40]) nt2
        have ot2 := W7.dom.free nt2
        refine ⟨_, rfl, o, W, _, 3, rfl, by decide, W7.same st2, by omega, fun g2 H8 g20 g21 ef8 W8 => ?_⟩
        have ht2 := (ef8.mine upd_same ot2).1
        have hg2 : ∃ m : Int, atI [V.int 9, V.int 9, V.int 40] g2 = some (.int m) ∧ 1 ≤ m := by
          obtain ⟨n, rfl⟩ := Int.eq_ofNat_of_zero_le g20
          match n, g21 with
          | 0, _ => exact ⟨_, rfl, by decide⟩
          | 1, _ => exact ⟨_, rfl, by decide⟩
          | 2, _ => exact ⟨_, rfl, by decide⟩
          | n + 3, h => exact absurd h (by show ¬ (((n + 3 : Nat) : Int) < 3); omega)
        obtain ⟨m, hm, m1⟩ := hg2
        refine ⟨t2, _, _, _, rfl, rfl, SqL.of ht2, hm, o, W, _, m, rfl, m1, W8, by omega, fun la H9 la0 la1 ef9 W9 => ⟨_, _, rfl, rfl, ?_⟩⟩
        have ef69 := ef67.trans ((Ef.same (K := K) (t := 0) (o := o) st2).trans (ef8.trans ef9))
        have k9 := kok.ef (ef6.trans ef69)
        refine ⟨_, rfl, .inl ⟨rfl, _, SqL.of (ef69.mine hl6 ol).1⟩, _, rfl, _, rfl, _, rfl, _, rfl, _, rfl, ka, _, rfl, .inl (SqL.of k9.1), o, W, _, _, rfl, by rw [List.length_map]; have := k9.2.2.1; omega, W9, by omega, fun ki H10 ki0 ki1 ef10 W10 => ?_⟩
        have ki1' : ki < (keys.length : Int) := by
          rw [List.length_map] at ki1
          exact ki1
        have k10 := k9.ef ef10
        have kil : ki.toNat < keys.length := by omega
        have ak : atI (keys.map V.int) ki = some (.int keys[ki.toNat]) := atI_of ki0 (by rw [List.getElem?_map, List.getElem?_eq_getElem kil]; rfl)
        have kb := kok.2.2.2.2 _ (List.getElem_mem kil)
        have ef610 := ef69.trans ef10
        have hl10 := (ef610.mine hl6 ol).1
        have hpi10 := (ef610.mine hpi6 opi).1
        refine ⟨ka, _, _, _, rfl, rfl, SqL.of k10.1, ak, _, rfl, sl, fun p np => ?_⟩
        have sp := same_upd (o := HO.lst [V.int id, V.str z, V.int 1, V.int keys[ki.toNat], V.int ((if cl - 3 > 0 then cl - 3 else 0) + la)]) np
        have op := W10.dom.free np
        have hl11 := sp _ _ hl10
        have kl : Ks K _ (upd (upd H10 p (.lst [V.int id, V.str z, V.int 1, V.int keys[ki.toNat], V.int ((if cl - 3 > 0 then cl - 3 else 0) + la)])) l (.lst (vs ++ [.ref p]))) := Ks.updL hl11
        have nal : ∀ (a : Addr) (k : LK), H6 a = some (.lst k.vs) → a ≠ l := fun a k ha e => by
          rw [e, hl6] at ha
          have ev : vs = k.vs := HO.lst.inj (Option.some.inj ha)
          cases pk6 with
          | nil => cases ev
          | cons h1 _ =>
            obtain ⟨a', rfl, _⟩ := h1
            cases ev
        have efp := ef610.trans (Ef.same (K := K) (t := 0) (o := o) sp)
        have move : ∀ v k, IsRaw o H6 v k → IsRaw o (upd (upd H10 p (.lst [V.int id, V.str z, V.int 1, V.int keys[ki.toNat], V.int ((if cl - 3 > 0 then cl - 3 else 0) + la)])) l (.lst (vs ++ [.ref p]))) v k := fun v k h => by
          obtain ⟨a, e1, oa, ha⟩ := h
          refine ⟨a, e1, oa, ?_⟩
          rw [upd_ne (nal a k ha)]
          exact (efp.mine ha oa).1
        have npl : p ≠ l := (ne_of_none hl10 np).symm
        refine ⟨l, vs, _, rfl, rfl, hl11, slt (by omega), _, _, _, rfl, (ef6.trans efp).tmp nlH kl, (W10.same sp).tmp ol kl |>.mono (by omega) (by unfold cMax at *; omega), ?_, vs ++ [.ref p], ks ++ [⟨id, z, 1, keys[ki.toNat], (if cl - 3 > 0 then cl - 3 else 0) + la⟩], upd_same, paired_append (paired_imp move pk6) (.cons ⟨p, rfl, op, by rw [upd_ne npl, upd_same]; rfl⟩ .nil), ?_, fun k hk => ?_⟩
        · rw [upd_ne (fun e => by rw [e, hl10] at hpi10; have := HO.lst.inj (Option.some.inj hpi10); rw [this] at pk6; rw [List.getElem?_eq_some_iff] at hid; obtain ⟨q1, q2⟩ := hid; cases ids with | nil => cases q1 | cons _ _ => cases pk6 with | cons h1 _ => obtain ⟨_, e1, _⟩ := h1; cases e1)]
          exact sp _ _ hpi10
        · rw [List.map_append, eids, take_succ_of hid]
          rfl
        · rcases List.mem_append.mp hk with hk | hk
          · exact kk k hk
          · rw [List.mem_singleton.mp hk]
            exact ⟨idb.1, idb.2, zz, kb, by show 0 ≤ (if cl - 3 > 0 then cl - 3 else 0) + la; split <;> omega⟩
      · obtain ⟨y7, y8, y9, rfl, ef6, W6, hpi6, vs, ks, hl6, pk6, eids, kk⟩ := h6
        rw [List.length_map, List.take_length] at eids
        have lks : ks.length = ids.length := by
          have := congrArg List.length eids
          rw [List.length_map] at this
          exact this
        refine ⟨_, rfl, h _ _ ef6 (W6.mono (by rw [List.length_map]; omega) (by unfold cMax at *; omega)) ⟨l, vs, ks, rfl, nlH, hl6, pk6, by show ks.length ≤ mn; omega, kk, by rw [eids]; exact rise⟩⟩
end
end Cn
namespace Cn
open PySem PySem.Spec PyProof.Rows L2
structure StA where
  road : Int
  whole : Int
  ka : Addr
  keys : List Int
  clock : Int
def spStateL (K : PySem.W.Frag) : Sp := spDrawK (α := StA) K 300 (fun x us H o => us = [.int x.road, .int x.whole, .ref x.ka, .int x.clock] ∧ 0 ≤ x.road ∧ 0 ≤ x.whole ∧ KeysOk H o x.ka x.keys ∧ 0 ≤ x.clock)
  (fun x _ v H' _ => ∃ s : ST, IsST K H' v s ∧ s.ok ∧ s.ln = x.road)
theorem four_at {a b c d : Int} {i : Int} (h0 : 0 ≤ i) (h1 : i < 4) (ha : 1 ≤ a) (hb : 1 ≤ b) (hc : 1 ≤ c) (hd : 1 ≤ d) : ∃ m : Int, atI [V.int a, V.int b, V.int c, V.int d] i = some (.int m) ∧ 1 ≤ m ∧ (m = a ∨ m = b ∨ m = c ∨ m = d) := by
  obtain ⟨n, rfl⟩ := Int.eq_ofNat_of_zero_le h0
  match n, h1 with
  | 0, _ => exact ⟨_, rfl, ha, .inl rfl⟩
  | 1, _ => exact ⟨_, rfl, hb, .inr (.inl rfl)⟩
  | 2, _ => exact ⟨_, rfl, hc, .inr (.inr (.inl rfl))⟩
  | 3, _ => exact ⟨_, rfl, hd, .inr (.inr (.inr rfl))⟩
  | n + 4, h => exact absurd h (by show ¬ (((n + 4 : Nat) : Int) < 4); omega)
section
variable {P : Program} {w : World} {K : PySem.W.Frag} {mg : Str → Option Value} {base : Heap}
abbrev n_law_state : List Str := ["_law_well_here", "_law_road", "_law_whole_here", "_law_keys", "_law_clock", "_law_number", "_law_many", "_law_locks_here", "_law_parts_here", "_law_made", "_law_k", "_law_one"]
theorem sc_law_state : FnScope n_law_state ["_law_well_here", "_law_road", "_law_whole_here", "_law_keys", "_law_clock"] (defScope s_law_state) := ⟨rfl, rfl, rfl, by decide +kernel, rfl, by decide +kernel, by decide +kernel⟩
theorem ok_law_state (T : Tx K mg) : DefOk P w K mg base CX0 3 (He.fAd K d_law_state.at_) ["_law_well_here", "_law_road", "_law_whole_here", "_law_keys", "_law_clock"] (spStateL K) := by
  refine mk0 (d := d_law_state) T.f_law_state rfl (fun _ _ _ _ _ _ us hl => match us, hl with | [_, _, _, _, _], _ => rfl) sc_law_state (fun vs H Q E h => ?_) (fun cdv A outer s H vs Q E hr h => ?_)
  · obtain ⟨_, _, _, _, _, rfl, ⟨rfl, _⟩, _⟩ := h
    rfl
  · obtain ⟨⟨road, wh, ka, keys, cl⟩, o, W, c, us, rfl, ⟨rfl, rd0, wh0, kok, cl0⟩, Wl, hc, h⟩ := h
    refine ⟨_, (pss_cons (ps_set (i := 5) sc_law_state.nd rfl (.inl rfl) (cD (ok_law_take T) T.g_law_take hr (pa_cons (pv 0) (pa_cons (pe_ix ix_list (pe_lst (pa_cons pe_int (pa_cons pe_int (pa_cons pe_int (pa_cons (pe_op op_powL pe_int pe_int) pa_nil))))) (cD (ok_law_take T) T.g_law_take hr (pa_cons (pv 0) (pa_cons pe_int pa_nil))) (fun _ _ => rfl)) pa_nil))))
      (pss_cons (ps_set (i := 6) sc_law_state.nd rfl (.inl rfl) pe_int)
      (pss_cons (ps_if (pt_cmpR op_gt (pv 5) pe_int (nomark _)) (pss_one (ps_set (i := 6) sc_law_state.nd rfl (.inl rfl) (cD (ok_law_take T) T.g_law_take hr (pa_cons (pv 0) (pa_cons (pe_ix ix_list (pe_lst (pa_cons pe_int (pa_cons pe_int (pa_cons pe_int (pa_cons pe_int pa_nil))))) (cD (ok_law_take T) T.g_law_take hr (pa_cons (pv 0) (pa_cons pe_int pa_nil))) (fun _ _ => rfl)) pa_nil))))) pss_nil)
      (pss_cons (ps_set (i := 7) sc_law_state.nd rfl (.inl rfl) (cD (ok_law_locks T) T.g_law_locks hr (pa_cons (pv 0) (pa_cons (pe_callB (call_max2 rfl) (by rfl) T.b_max (by decide +kernel) (pa_cons pe_int (pa_cons (pv 5) pa_nil))) (pa_cons (pe_callB (call_min2 rfl) (by rfl) T.b_min (by decide +kernel) (pa_cons (pv 6) (pa_cons (pv 2) pa_nil))) (pa_cons (pv 3) (pa_cons (pv 4) pa_nil)))))))
      (pss_cons (ps_set (i := 8) sc_law_state.nd rfl (.inr rfl) (cD (ok_law_parts T) T.g_law_parts hr (pa_cons (pv 0) (pa_cons (pe_op op_sub (pv 2) (pe_callB call_len_seq (by rfl) T.b_len PySem.boot_len (pa_cons (pv 7) pa_nil))) (pa_cons (pe_op op_add pe_int (pe_callB call_len_seq (by rfl) T.b_len PySem.boot_len (pa_cons (pv 7) pa_nil))) pa_nil)))))
      (pss_cons (ps_set (i := 9) sc_law_state.nd rfl (.inl rfl) (pe_callTy call_tuple_of (by rfl) T.b_tuple (by decide +kernel) (pa_cons (pe_lc (own := [("_law_k", 10), ("_law_one", 11)]) (tt := tYes) (g := gTup K 2 (gCons (gName 10) (gCons (gName 11) gNil))) rfl sc_law_state.nd (pi_enum (by rfl) T.b_enumerate (pa_cons (pv 7) pa_nil)) (blkOk_by (own := [("_law_k", 10), ("_law_one", 11)]) (N := n_law_state) (sc := defScope s_law_state) (by decide +kernel)) (fun _ _ _ _ _ => (pg_tup rfl (pgs_cons (pg_name (i := 10) sc_law_state.nd rfl (.inl rfl)) (pgs_cons (pg_name (i := 11) sc_law_state.nd rfl (.inl rfl)) pgs_nil)))) (fun _ _ _ _ _ => pts_nil) (fun _ _ _ _ _ => (pe_tup (pa_cons (pe_ix (r := rIxL K) ix_list (pv 11) pe_int (fun _ _ => rfl)) (pa_cons (pe_ix (r := rIxL K) ix_list (pv 11) pe_int (fun _ _ => rfl)) (pa_cons (pe_op op_add pe_int (pe_ix (r := rIxL K) ix_list (pv 8) (pe_op op_add pe_int (pv 10)) (fun _ _ => rfl))) (pa_cons (pe_ix (r := rIxL K) ix_list (pv 11) pe_int (fun _ _ => rfl)) (pa_cons (pe_ix (r := rIxL K) ix_list (pv 11) pe_int (fun _ _ => rfl)) pa_nil)))))))) pa_nil)))
      (pss_one (ps_ret (pe_tup (pa_cons (pv 1) (pa_cons (pv 5) (pa_cons (pe_ix ix_list (pv 8) pe_int (fun _ _ => rfl)) (pa_cons (pe_ix ix_list (pv 8) pe_int (fun _ _ => rfl)) (pa_cons (pv 9) pa_nil)))))))))))))), ?_⟩
    have rd0' : 0 ≤ road := rd0
    have wh0' : 0 ≤ wh := wh0
    refine ⟨_, rfl, _, _, rfl, rfl, ⟨by decide, by decide⟩, sl, fun t1 nt1 => ?_⟩
    have st1 := same_upd (o := HO.lst [V.int 4, V.int 12, V.int 12, V.int (10 ^ (14 : Int).toNat)]) nt1
    have ot1 := Wl.dom.free nt1
    refine ⟨_, rfl, o, W, c, 4, rfl, by decide, Wl.same st1, by omega, fun g H2 g0 g1 ef2 W2 => ?_⟩
    have ht1 := (ef2.mine upd_same ot1).1
    obtain ⟨m, hm, m1, _⟩ := four_at (a := 4) (b := 12) (c := 12) (d := 10 ^ (14 : Int).toNat) g0 g1 (by decide) (by decide) (by decide) (by decide)
    refine ⟨t1, _, _, _, rfl, rfl, SqL.of ht1, hm, o, W, _, m, rfl, m1, W2, by omega, fun nu H3 nu0 nu1 ef3 W3 => ?_⟩
    have ef13 := (Ef.same (K := K) (t := 0) (o := o) st1).trans (ef2.trans ef3)
    refine ⟨_, rfl, _, _, rfl, rfl, _, rfl, ite2 (fun c1 => ?_) (fun c1 => ?_)⟩
    · have c1' : nu > 0 := of_decide_eq_true c1
      refine ⟨_, rfl, sl, fun t2 nt2 => ?_⟩
      have st2 := same_upd (o := HO.lst [V.int 1, V.int 3, V.int 6, V.int 31]) nt2
      have ot2 := W3.dom.free nt2
      refine ⟨_, rfl, o, W, _, 4, rfl, by decide, W3.same st2, by omega, fun q H4 q0 q1 ef4 W4 => ?_⟩
      have ht2 := (ef4.mine upd_same ot2).1
      obtain ⟨m2, hm2, m21, m2b⟩ := four_at (a := 1) (b := 3) (c := 6) (d := 31) q0 q1 (by decide) (by decide) (by decide) (by decide)
      refine ⟨t2, _, _, _, rfl, rfl, SqL.of ht2, hm2, o, W, _, m2, rfl, m21, W4, by omega, fun my Hx my_0 my_1 efx Wx => ?_⟩
      have ef0x := ef13.trans ((Ef.same (K := K) (t := 0) (o := o) st2).trans (ef4.trans efx))
      have my0 : 0 ≤ my ∧ my ≤ 30 := ⟨my_0, by omega⟩
      have kX := kok.ef ef0x
      have mm0 : 0 ≤ (if wh < my then wh else my) ∧ (if wh < my then wh else my) ≤ 30 := by
        split <;> omega
      have mmw : (if wh < my then wh else my) ≤ wh ∧ (if wh < my then wh else my) ≤ my := by
        split <;> omega
      refine ⟨_, rfl, _, rfl, 1, nu, rfl, _, rfl, _, rfl, my, wh, rfl, ?_⟩
      have emm : (((if wh < my then wh else my).toNat : Nat) : Int) = (if wh < my then wh else my) := Int.toNat_of_nonneg mm0.1
      refine ⟨_, rfl, _, rfl, ⟨(if nu > 1 then nu else 1), (if wh < my then wh else my).toNat, ka, keys, cl⟩, o, W, _, _, rfl, ⟨?_, ?_, ?_, kX, cl0⟩, Wx, by omega, fun v H5 ef5 W5 h5 => ?_⟩
      · show [V.int (if nu > 1 then nu else 1), V.int (if wh < my then wh else my), V.ref ka, V.int cl] = [V.int (if nu > 1 then nu else 1), V.int (((if wh < my then wh else my).toNat : Nat) : Int), V.ref ka, V.int cl]
        rw [emm]
      · show 1 ≤ (if nu > 1 then nu else 1)
        split <;> omega
      · show (if wh < my then wh else my).toNat ≤ 31
        omega
      obtain ⟨l, vs, ks, rfl, nl, hl, pk, lk, kk, up⟩ := h5
      have ol := Wx.dom.free nl
      have lk' : (ks.length : Int) ≤ (if wh < my then wh else my) := by
        have : ks.length ≤ (if wh < my then wh else my).toNat := lk
        omega
      have lv := paired_len pk
      refine ⟨_, rfl, _, rfl, _, rfl, l, _, rfl, .inl (SqL.of hl), _, _, rfl, rfl, _, rfl, l, _, rfl, .inl (SqL.of hl), _, _, rfl, rfl, ⟨wh - vs.length, 2 + vs.length⟩, o, W, _, _, rfl, ⟨?_, ?_, ?_, ?_⟩, W5, by omega, fun v H6 ef6 W6 h6 => ?_⟩
      · show [V.int (wh - (vs.length : Int)), V.int (2 + (vs.length : Int))] = [V.int (wh - (vs.length : Int)), V.int ((2 + vs.length : Nat) : Int)]
        rw [Int.natCast_add]
        rfl
      · show 0 ≤ wh - (vs.length : Int)
        omega
      · show 1 ≤ 2 + vs.length
        omega
      · show 2 + vs.length ≤ 40
        omega
      obtain ⟨pl, ps, rfl, npl, hpl, lps, ps0⟩ := h6
      have lps' : ps.length = 2 + vs.length := lps
      have pk6 := paired_imp (fun _ _ z => IsRaw.ef ef6 z) pk
      have hl6 := (ef6.mine hl ol).1
      have ef06 := (ef0x.trans ef5).trans ef6
      refine ⟨_, rfl, l, vs, rfl, SqL.of hl6, fun D nD => lc_it (walk_enum (xs := vs)) (fun i H7 => Same H6 H7 ∧ ∃ ts : List V, H7 D = some (.lst ts) ∧ ∃ ls : List LK, Paired (IsLK K H7) ts ls ∧ ls.map LK.id = (ks.take i).map LK.id ∧ ∀ k ∈ ls, k.ok ∧ k.id ≤ (if nu > 1 then nu else 1)) ⟨same_upd nD, [], upd_same, [], .nil, rfl, fun _ z => (List.not_mem_nil z).elim⟩ (fun i H7 _ h7 => SqL.of (h7.1 _ _ hl6)) (fun i x H7 H8 hi h7 hy => ?_) (fun H7 h7 => ?_)⟩
      · obtain ⟨s7, ts, hD, ls, pls, eid, lok⟩ := h7
        obtain ⟨T0, x0, v, rfl, nT, rfl, e0, ev⟩ := hy
        obtain rfl := Option.some.inj e0
        have sT := same_upd (o := .tup [V.int ((i : Nat) : Int), v]) nT
        obtain ⟨k, hk, a, rfl, oa, ha⟩ := paired_get pk6 ev
        have kb := kk k (List.mem_of_getElem? hk)
        have ha8 := sT _ _ (s7 _ _ ha)
        have hp8 := sT _ _ (s7 _ _ hpl)
        have ip : 2 + i < ps.length := by omega
        have ap : atI (ps.map V.int) (2 + ((i : Nat) : Int)) = some (.int ps[2 + i]) := atI_of (by omega) (by rw [show (2 + ((i : Nat) : Int)).toNat = 2 + i by omega, List.getElem?_map, List.getElem?_eq_getElem ip]; rfl)
        have pp0 := ps0 _ (List.getElem_mem ip)
        refine ⟨T0, _, rfl, SqT.of upd_same, rfl, _, _, rfl, _, _, rfl, rfl, rfl, ?_⟩
        refine ⟨_, rfl, a, _, _, _, rfl, rfl, SqL.of ha8, rfl, _, rfl, a, _, _, _, rfl, rfl, SqL.of ha8, rfl, _, rfl, _, rfl, _, _, rfl, rfl, pl, _, _, _, rfl, rfl, SqL.of hp8, ap, _, _, rfl, rfl, _, rfl, a, _, _, _, rfl, rfl, SqL.of ha8, rfl, _, rfl, a, _, _, _, rfl, rfl, SqL.of ha8, rfl, sl, fun tt ntt => ?_⟩
        have stt := same_upd (o := HO.tup [V.int k.id, V.str k.gv, V.int (1 + ps[2 + i]), V.int k.se, V.int k.la]) ntt
        have hD9 := stt _ _ (sT _ _ hD)
        have kD : Ks K _ (upd (upd (upd H7 T0 (.tup [V.int ((i : Nat) : Int), .ref a])) tt (.tup [V.int k.id, V.str k.gv, V.int (1 + ps[2 + i]), V.int k.se, V.int k.la])) D (.lst (ts ++ [.ref tt]))) := Ks.updL hD9
        have kall := ((Ks.same (K := K) sT).trans (Ks.same stt)).trans kD
        have lts := paired_len pls
        have lls : ls.length ≤ ks.length := by
          have := congrArg List.length eid
          rw [List.length_map, List.length_map, List.length_take] at this
          omega
        refine ⟨ts, hD9, slt (by omega), fun b' y e => ?_, ts ++ [.ref tt], upd_same, ls ++ [⟨k.id, k.gv, 1 + ps[2 + i], k.se, k.la⟩], paired_append (paired_imp (fun _ _ z => IsLK.mono kall z) pls) (.cons ⟨tt, rfl, kD _ _ (SqT.of upd_same)⟩ .nil), ?_, fun q hq => ?_⟩
        · rw [upd_ne (ne_of_none e nD)]
          exact stt _ _ (sT _ _ (s7 _ _ e))
        · rw [List.map_append, eid, take_succ_of hk, List.map_append]
          rfl
        · rcases List.mem_append.mp hq with hq | hq
          · exact lok q hq
          · rw [List.mem_singleton.mp hq]
            exact ⟨⟨kb.1, kb.2.2.1, by show 1 ≤ 1 + ps[2 + i]; omega, kb.2.2.2.1, kb.2.2.2.2⟩, kb.2.1⟩
      · obtain ⟨s7, ts, hD, ls, pls, eid, lok⟩ := h7
        rw [lv, List.take_length] at eid
        have lts := paired_len pls
        have lls : ls.length = ks.length := by
          have := congrArg List.length eid
          rw [List.length_map, List.length_map] at this
          exact this
        refine ⟨D, ts, rfl, .inl ⟨SqL.of hD, fun tp ntp => ?_⟩⟩
        have s8 := same_upd (o := HO.tup ts) ntp
        have hp8 := s8 _ _ (s7 _ _ hpl)
        have p0 : 0 < ps.length := by omega
        have p1 : 1 < ps.length := by omega
        have a0 : atI (ps.map V.int) 0 = some (.int ps[0]) := atI_of (by decide) (by rw [show (0 : Int).toNat = 0 from rfl, List.getElem?_map, List.getElem?_eq_getElem p0]; rfl)
        have a1 : atI (ps.map V.int) 1 = some (.int ps[1]) := atI_of (by decide) (by rw [show (1 : Int).toNat = 1 from rfl, List.getElem?_map, List.getElem?_eq_getElem p1]; rfl)
        have z0 := ps0 _ (List.getElem_mem p0)
        have z1 := ps0 _ (List.getElem_mem p1)
        refine ⟨_, rfl, _, rfl, _, rfl, pl, _, _, _, rfl, rfl, SqL.of hp8, a0, _, rfl, pl, _, _, _, rfl, rfl, SqL.of hp8, a1, _, rfl, sl, fun tq ntq => ?_⟩
        have s9 := same_upd (o := HO.tup [V.int road, V.int nu, V.int ps[0], V.int ps[1], V.ref tp]) ntq
        have sall := (s7.trans s8).trans s9
        have k89 := (Ks.same (K := K) s8).trans (Ks.same s9)
        refine h _ _ (ef06.trans (Ef.same sall)) ((W6.same sall).mono (by omega) (by unfold cMax at *; omega)) ⟨⟨road, nu, ps[0], ps[1], ls⟩, ⟨tq, tp, ts, rfl, SqT.of upd_same, Ks.same s9 _ _ (SqT.of upd_same), paired_imp (fun _ _ z => IsLK.mono k89 z) pls⟩, ⟨rd0', nu0, z0, z1, by show ls.length ≤ 30; omega, fun k hk => (lok k hk).1, by show (ls.map LK.id).Pairwise _; rw [eid]; exact up, fun k hk => ?_⟩, rfl⟩
        have := (lok k hk).2
        show k.id ≤ nu
        split at this <;> omega
    · have c1' : ¬ nu > 0 := fun z => c1 (decide_eq_true z)
      have my0 : 0 ≤ (0 : Int) ∧ (0 : Int) ≤ 30 := ⟨by decide, by decide⟩
      have kX := kok.ef ef13
      have mm0 : 0 ≤ (if wh < (0 : Int) then wh else (0 : Int)) ∧ (if wh < (0 : Int) then wh else (0 : Int)) ≤ 30 := by
        split <;> omega
      have mmw : (if wh < (0 : Int) then wh else (0 : Int)) ≤ wh ∧ (if wh < (0 : Int) then wh else (0 : Int)) ≤ (0 : Int) := by
        split <;> omega
      refine ⟨_, rfl, _, rfl, 1, nu, rfl, _, rfl, _, rfl, (0 : Int), wh, rfl, ?_⟩
      have emm : (((if wh < (0 : Int) then wh else (0 : Int)).toNat : Nat) : Int) = (if wh < (0 : Int) then wh else (0 : Int)) := Int.toNat_of_nonneg mm0.1
      refine ⟨_, rfl, _, rfl, ⟨(if nu > 1 then nu else 1), (if wh < (0 : Int) then wh else (0 : Int)).toNat, ka, keys, cl⟩, o, W, _, _, rfl, ⟨?_, ?_, ?_, kX, cl0⟩, W3, by omega, fun v H5 ef5 W5 h5 => ?_⟩
      · show [V.int (if nu > 1 then nu else 1), V.int (if wh < (0 : Int) then wh else (0 : Int)), V.ref ka, V.int cl] = [V.int (if nu > 1 then nu else 1), V.int (((if wh < (0 : Int) then wh else (0 : Int)).toNat : Nat) : Int), V.ref ka, V.int cl]
        rw [emm]
      · show 1 ≤ (if nu > 1 then nu else 1)
        split <;> omega
      · show (if wh < (0 : Int) then wh else (0 : Int)).toNat ≤ 31
        omega
      obtain ⟨l, vs, ks, rfl, nl, hl, pk, lk, kk, up⟩ := h5
      have ol := W3.dom.free nl
      have lk' : (ks.length : Int) ≤ (if wh < (0 : Int) then wh else (0 : Int)) := by
        have : ks.length ≤ (if wh < (0 : Int) then wh else (0 : Int)).toNat := lk
        omega
      have lv := paired_len pk
      refine ⟨_, rfl, _, rfl, _, rfl, l, _, rfl, .inl (SqL.of hl), _, _, rfl, rfl, _, rfl, l, _, rfl, .inl (SqL.of hl), _, _, rfl, rfl, ⟨wh - vs.length, 2 + vs.length⟩, o, W, _, _, rfl, ⟨?_, ?_, ?_, ?_⟩, W5, by omega, fun v H6 ef6 W6 h6 => ?_⟩
      · show [V.int (wh - (vs.length : Int)), V.int (2 + (vs.length : Int))] = [V.int (wh - (vs.length : Int)), V.int ((2 + vs.length : Nat) : Int)]
        rw [Int.natCast_add]
        rfl
      · show 0 ≤ wh - (vs.length : Int)
        omega
      · show 1 ≤ 2 + vs.length
        omega
      · show 2 + vs.length ≤ 40
        omega
      obtain ⟨pl, ps, rfl, npl, hpl, lps, ps0⟩ := h6
      have lps' : ps.length = 2 + vs.length := lps
      have pk6 := paired_imp (fun _ _ z => IsRaw.ef ef6 z) pk
      have hl6 := (ef6.mine hl ol).1
      have ef06 := (ef13.trans ef5).trans ef6
      refine ⟨_, rfl, l, vs, rfl, SqL.of hl6, fun D nD => lc_it (walk_enum (xs := vs)) (fun i H7 => Same H6 H7 ∧ ∃ ts : List V, H7 D = some (.lst ts) ∧ ∃ ls : List LK, Paired (IsLK K H7) ts ls ∧ ls.map LK.id = (ks.take i).map LK.id ∧ ∀ k ∈ ls, k.ok ∧ k.id ≤ (if nu > 1 then nu else 1)) ⟨same_upd nD, [], upd_same, [], .nil, rfl, fun _ z => (List.not_mem_nil z).elim⟩ (fun i H7 _ h7 => SqL.of (h7.1 _ _ hl6)) (fun i x H7 H8 hi h7 hy => ?_) (fun H7 h7 => ?_)⟩
      · obtain ⟨s7, ts, hD, ls, pls, eid, lok⟩ := h7
        obtain ⟨T0, x0, v, rfl, nT, rfl, e0, ev⟩ := hy
        obtain rfl := Option.some.inj e0
        have sT := same_upd (o := .tup [V.int ((i : Nat) : Int), v]) nT
        obtain ⟨k, hk, a, rfl, oa, ha⟩ := paired_get pk6 ev
        have kb := kk k (List.mem_of_getElem? hk)
        have ha8 := sT _ _ (s7 _ _ ha)
        have hp8 := sT _ _ (s7 _ _ hpl)
        have ip : 2 + i < ps.length := by omega
        have ap : atI (ps.map V.int) (2 + ((i : Nat) : Int)) = some (.int ps[2 + i]) := atI_of (by omega) (by rw [show (2 + ((i : Nat) : Int)).toNat = 2 + i by omega, List.getElem?_map, List.getElem?_eq_getElem ip]; rfl)
        have pp0 := ps0 _ (List.getElem_mem ip)
        refine ⟨T0, _, rfl, SqT.of upd_same, rfl, _, _, rfl, _, _, rfl, rfl, rfl, ?_⟩
        refine ⟨_, rfl, a, _, _, _, rfl, rfl, SqL.of ha8, rfl, _, rfl, a, _, _, _, rfl, rfl, SqL.of ha8, rfl, _, rfl, _, rfl, _, _, rfl, rfl, pl, _, _, _, rfl, rfl, SqL.of hp8, ap, _, _, rfl, rfl, _, rfl, a, _, _, _, rfl, rfl, SqL.of ha8, rfl, _, rfl, a, _, _, _, rfl, rfl, SqL.of ha8, rfl, sl, fun tt ntt => ?_⟩
        have stt := same_upd (o := HO.tup [V.int k.id, V.str k.gv, V.int (1 + ps[2 + i]), V.int k.se, V.int k.la]) ntt
        have hD9 := stt _ _ (sT _ _ hD)
        have kD : Ks K _ (upd (upd (upd H7 T0 (.tup [V.int ((i : Nat) : Int), .ref a])) tt (.tup [V.int k.id, V.str k.gv, V.int (1 + ps[2 + i]), V.int k.se, V.int k.la])) D (.lst (ts ++ [.ref tt]))) := Ks.updL hD9
        have kall := ((Ks.same (K := K) sT).trans (Ks.same stt)).trans kD
        have lts := paired_len pls
        have lls : ls.length ≤ ks.length := by
          have := congrArg List.length eid
          rw [List.length_map, List.length_map, List.length_take] at this
          omega
        refine ⟨ts, hD9, slt (by omega), fun b' y e => ?_, ts ++ [.ref tt], upd_same, ls ++ [⟨k.id, k.gv, 1 + ps[2 + i], k.se, k.la⟩], paired_append (paired_imp (fun _ _ z => IsLK.mono kall z) pls) (.cons ⟨tt, rfl, kD _ _ (SqT.of upd_same)⟩ .nil), ?_, fun q hq => ?_⟩
        · rw [upd_ne (ne_of_none e nD)]
          exact stt _ _ (sT _ _ (s7 _ _ e))
        · rw [List.map_append, eid, take_succ_of hk, List.map_append]
          rfl
        · rcases List.mem_append.mp hq with hq | hq
          · exact lok q hq
          · rw [List.mem_singleton.mp hq]
            exact ⟨⟨kb.1, kb.2.2.1, by show 1 ≤ 1 + ps[2 + i]; omega, kb.2.2.2.1, kb.2.2.2.2⟩, kb.2.1⟩
      · obtain ⟨s7, ts, hD, ls, pls, eid, lok⟩ := h7
        rw [lv, List.take_length] at eid
        have lts := paired_len pls
        have lls : ls.length = ks.length := by
          have := congrArg List.length eid
          rw [List.length_map, List.length_map] at this
          exact this
        refine ⟨D, ts, rfl, .inl ⟨SqL.of hD, fun tp ntp => ?_⟩⟩
        have s8 := same_upd (o := HO.tup ts) ntp
        have hp8 := s8 _ _ (s7 _ _ hpl)
        have p0 : 0 < ps.length := by omega
        have p1 : 1 < ps.length := by omega
        have a0 : atI (ps.map V.int) 0 = some (.int ps[0]) := atI_of (by decide) (by rw [show (0 : Int).toNat = 0 from rfl, List.getElem?_map, List.getElem?_eq_getElem p0]; rfl)
        have a1 : atI (ps.map V.int) 1 = some (.int ps[1]) := atI_of (by decide) (by rw [show (1 : Int).toNat = 1 from rfl, List.getElem?_map, List.getElem?_eq_getElem p1]; rfl)
        have z0 := ps0 _ (List.getElem_mem p0)
        have z1 := ps0 _ (List.getElem_mem p1)
        refine ⟨_, rfl, _, rfl, _, rfl, pl, _, _, _, rfl, rfl, SqL.of hp8, a0, _, rfl, pl, _, _, _, rfl, rfl, SqL.of hp8, a1, _, rfl, sl, fun tq ntq => ?_⟩
        have s9 := same_upd (o := HO.tup [V.int road, V.int nu, V.int ps[0], V.int ps[1], V.ref tp]) ntq
        have sall := (s7.trans s8).trans s9
        have k89 := (Ks.same (K := K) s8).trans (Ks.same s9)
        refine h _ _ (ef06.trans (Ef.same sall)) ((W6.same sall).mono (by omega) (by unfold cMax at *; omega)) ⟨⟨road, nu, ps[0], ps[1], ls⟩, ⟨tq, tp, ts, rfl, SqT.of upd_same, Ks.same s9 _ _ (SqT.of upd_same), paired_imp (fun _ _ z => IsLK.mono k89 z) pls⟩, ⟨rd0', nu0, z0, z1, by show ls.length ≤ 30; omega, fun k hk => (lok k hk).1, by show (ls.map LK.id).Pairwise _; rw [eid]; exact up, fun k hk => ?_⟩, rfl⟩
        have := (lok k hk).2
        show k.id ≤ nu
        have nk : ks.length = 0 := by omega
        have nls : ls = [] := List.length_eq_zero_iff.mp (by omega)
        rw [nls] at hk
        cases hk
end
end Cn
namespace Cn
open PySem PySem.Spec PyProof.Rows L2
/-! ### the law's own book -/
structure Rd1 where
  l : Str
  r : Str
  one : Int
  other : Int
  mood : Str
  standing : ST
  ending : Option Int
structure Bk where
  clock : Int
  long : Int
  bags : List Pay
  roads : List Rd1
  seen : List (Int × Int × Int)
  held : List HL
  rows : List Deed
def rdF (r : Rd1) (g : V) : List V := [.str r.l, .str r.r, .int r.one, .int r.other, .str r.mood, g, endV r.ending]
def IsRd (K : PySem.W.Frag) (o : Own) (H : Hp) (v : V) (r : Rd1) : Prop := ∃ p g, v = .ref p ∧ o p = some (3, 3) ∧ H p = some (.lst (rdF r g)) ∧ IsST K H g r.standing
def IsBRow (K : PySem.W.Frag) (H : Hp) (v : V) (d : Deed) : Prop := ∃ p g x, v = .ref p ∧ SqT K H p [g, x] ∧ IsDeed K H g d
def PapAt (K : PySem.W.Frag) (H : Hp) (a : Addr) (k : NestedKey) : Prop := ∃ (hand : Str) (pv : V) (p : Paper), SqT K H a [.str hand, pv] ∧ IsPaper K H pv p ∧ p.ok ∧ k = .tup [.text hand, p.nk]
section
variable {K : PySem.W.Frag} {o o' : Own} {H H' : Hp}
theorem IsRd.fx (f : Pk (3, 3) o H o' H') (m : Ks K H H') {v : V} {r : Rd1} (h : IsRd K o H v r) : IsRd K o' H' v r := by
  obtain ⟨p, g, e, op, hp, s⟩ := h
  have z := f p _ op hp
  exact ⟨p, g, e, z.1, z.2, IsST.mono m s⟩
theorem IsBRow.mono (m : Ks K H H') {v : V} {d : Deed} (h : IsBRow K H v d) : IsBRow K H' v d := by
  obtain ⟨p, g, x, e, s, i⟩ := h
  exact ⟨p, g, x, e, m _ _ s, IsDeed.mono m i⟩
theorem PapAt.mono (m : Ks K H H') {a : Addr} {k : NestedKey} (h : PapAt K H a k) : PapAt K H' a k := by
  obtain ⟨hand, pv, p, s, i, ok, e⟩ := h
  exact ⟨hand, pv, p, m _ _ s, IsPaper.mono m i, ok, e⟩
theorem pap_depth (hand : Str) (p : Paper) : (NestedKey.tup [.text hand, p.nk]).depth ≤ 8 := by
  have h : p.nk.depth ≤ 3 := by
    cases p with
    | op => simp [Paper.nk, NestedKey.depth, NestedKey.depthAll]
    | st s =>
      have := lks_depth s.lks
      simp only [Paper.nk, ST.nk, NestedKey.depth, NestedKey.depthAll]
      omega
  simp only [NestedKey.depth, NestedKey.depthAll]
  omega
theorem PapAt.key {a : Addr} {k : NestedKey} (h : PapAt K H a k) : NKAt K H (.ref a) k ∧ k.depth ≤ 8 := by
  obtain ⟨hand, pv, p, s, i, ok, rfl⟩ := h
  exact ⟨.tup s (.cons (.text _) (.cons i.nk .nil)), pap_depth hand p⟩
end
structure BkB (P : Program) (w : World) (K : PySem.W.Frag) (o : Own) (H : Hp) (a : Addr) (b : Bk) (n : Nat) (bD rL sD hL wL gD : Addr) : Prop where
  ob : o a = some (3, 0) ∧ H a = some (.lst [.int b.clock, .int b.long, .ref bD, .ref rL, .ref sD, .ref hL, .ref wL, .ref gD])
  bags : o bD = some (3, 1) ∧ H bD = some (.dK (bagKV b.bags))
  roads : o rL = some (3, 2) ∧ ∃ xs, H rL = some (.lst xs) ∧ xs.Nodup ∧ Paired (IsRd K o H) xs b.roads
  seen : o sD = some (3, 4) ∧ ∃ kvs, H sD = some (.dK kvs) ∧ Paired (IsSeen K H) kvs b.seen
  held : o hL = some (3, 5) ∧ ∃ xs, H hL = some (.lst xs) ∧ Paired (IsHL K H) xs b.held
  rows : o wL = some (3, 6) ∧ ∃ xs, H wL = some (.lst xs) ∧ Paired (IsBRow K H) xs b.rows
  gd : o gD = some (3, 7) ∧ ∃ xs, IsDN P w H gD xs ∧ (∀ p ∈ xs, PapAt K H p.2 p.1) ∧ xs.length ≤ 3 * n
/-- n things were done at it at most -/
structure Bk.ok (b : Bk) (n : Nat) : Prop where
  small : n ≤ 300
  clock : 0 ≤ b.clock
  bags : b.bags.length ≤ 20
  roadsN : b.roads.length ≤ n
  seenN : b.seen.length ≤ n
  heldN : b.held.length ≤ 10000 * n
  rowsN : b.rows.length ≤ n
  road : ∀ r ∈ b.roads, r.l ∈ b.bags.map (·.1) ∧ r.r ∈ b.bags.map (·.1) ∧ NameOk r.l ∧ NameOk r.r ∧ 0 ≤ r.one ∧ 0 ≤ r.other ∧ r.standing.ok
  held : ∀ x ∈ b.held, 0 ≤ x.1 ∧ x.1.toNat < b.roads.length ∧ x.2.ok
  deeds : ∀ d ∈ b.rows, d.ok
  pos : ∀ p ∈ b.bags, 0 ≤ p.2
  mood : ∀ r ∈ b.roads, PyData.strOk r.mood = true
def BkAt (P : Program) (w : World) (K : PySem.W.Frag) (o : Own) (H : Hp) (a : Addr) (b : Bk) (n : Nat) : Prop := b.ok n ∧ ∃ bD rL sD hL wL gD, BkB P w K o H a b n bD rL sD hL wL gD
section
variable {P : Program} {w : World} {K : PySem.W.Frag} {o o' : Own} {H H' : Hp} {a bD rL sD hL wL gD : Addr} {b : Bk} {n : Nat}
theorem roadsFx {l : List Rd1} (h : o rL = some (3, 2) ∧ ∃ xs, H rL = some (.lst xs) ∧ xs.Nodup ∧ Paired (IsRd K o H) xs l) (f : Pk (3, 2) o H o' H') (f3 : Pk (3, 3) o H o' H') (m : Ks K H H') :
    o' rL = some (3, 2) ∧ ∃ xs, H' rL = some (.lst xs) ∧ xs.Nodup ∧ Paired (IsRd K o' H') xs l := by
  obtain ⟨h1, xs, h2, n, p⟩ := h
  have z := f _ _ h1 h2
  exact ⟨z.1, xs, z.2, n, paired_imp (fun _ _ y => IsRd.fx f3 m y) p⟩
theorem rowsFx {l : List Deed} (h : o wL = some (3, 6) ∧ ∃ xs, H wL = some (.lst xs) ∧ Paired (IsBRow K H) xs l) (f : Pk (3, 6) o H o' H') (m : Ks K H H') :
    o' wL = some (3, 6) ∧ ∃ xs, H' wL = some (.lst xs) ∧ Paired (IsBRow K H') xs l := by
  obtain ⟨h1, xs, h2, p⟩ := h
  have z := f _ _ h1 h2
  exact ⟨z.1, xs, z.2, paired_imp (fun _ _ y => IsBRow.mono m y) p⟩
theorem gdFx {m : Nat} (h : o gD = some (3, 7) ∧ ∃ xs, IsDN P w H gD xs ∧ (∀ p ∈ xs, PapAt K H p.2 p.1) ∧ xs.length ≤ m) (f : Pk (3, 7) o H o' H') (k : Ks K H H') :
    o' gD = some (3, 7) ∧ ∃ xs, IsDN P w H' gD xs ∧ (∀ p ∈ xs, PapAt K H' p.2 p.1) ∧ xs.length ≤ m := by
  obtain ⟨h1, xs, h2, h3, h4⟩ := h
  refine ⟨?_, xs, h2.at (fun x hx => (f _ _ h1 hx).2), fun p hp => (h3 p hp).mono k, h4⟩
  rcases h2 with h2 | ⟨_, h2⟩
  · exact (f _ _ h1 h2).1
  · exact (f _ _ h1 h2).1
theorem BkB.fx (x : BkB P w K o H a b n bD rL sD hL wL gD) (f : Fx K 3 o H o' H') : BkB P w K o' H' a b n bD rL sD hL wL gD :=
  ⟨f.pk _ _ x.ob.1 x.ob.2, bagsFx x.bags f.pk, roadsFx x.roads f.pk f.pk f.2, seenFx x.seen f.pk f.2, keptFx x.held f.pk f.2, rowsFx x.rows f.pk f.2, gdFx x.gd f.pk f.2⟩
theorem BkAt.fx (h : BkAt P w K o H a b n) (f : Fx K 3 o H o' H') : BkAt P w K o' H' a b n := by
  obtain ⟨ok, bD, rL, sD, hL, wL, gD, x⟩ := h
  exact ⟨ok, bD, rL, sD, hL, wL, gD, x.fx f⟩
theorem BkB.mono (x : BkB P w K o H a b n bD rL sD hL wL gD) {m : Nat} (h : n ≤ m) : BkB P w K o H a b m bD rL sD hL wL gD :=
  ⟨x.ob, x.bags, x.roads, x.seen, x.held, x.rows, let ⟨h1, xs, h2, h3, h4⟩ := x.gd; ⟨h1, xs, h2, h3, by omega⟩⟩
theorem Bk.ok.mono (h : b.ok n) {m : Nat} (k : n ≤ m) (s : m ≤ 300) : b.ok m :=
  ⟨s, h.clock, h.bags, Nat.le_trans h.roadsN k, Nat.le_trans h.seenN k, by have := h.heldN; omega, Nat.le_trans h.rowsN k, h.road, h.held, h.deeds, h.pos, h.mood⟩
theorem BkAt.mono (h : BkAt P w K o H a b n) {m : Nat} (k : n ≤ m) (s : m ≤ 300) : BkAt P w K o H a b m := by
  obtain ⟨ok, bD, rL, sD, hL, wL, gD, x⟩ := h
  exact ⟨ok.mono k s, bD, rL, sD, hL, wL, gD, x.mono k⟩
end
theorem look_pos {b : List Pay} (h : ∀ p ∈ b, 0 ≤ p.2) {z : Str} {v : Int} (e : look b z = some v) : 0 ≤ v := by
  induction b with
  | nil => cases e
  | cons p r ih =>
    unfold look at e
    by_cases c : p.1 = z
    · rw [if_pos c] at e
      rw [← Option.some.inj e]
      exact h p List.mem_cons_self
    · rw [if_neg c] at e
      exact ih (fun q hq => h q (List.mem_cons_of_mem _ hq)) e
theorem setBag_pos {z : Str} {i : Int} (hi : 0 ≤ i) : ∀ {b : List Pay}, (∀ p ∈ b, 0 ≤ p.2) → ∀ p ∈ setBag b z i, 0 ≤ p.2
  | [], _, _, hp => (List.not_mem_nil hp).elim
  | q :: r, h, p, hp => by
    unfold setBag at hp
    rcases List.mem_cons.mp hp with e | hp
    · rw [e]
      split
      · exact hi
      · exact h q List.mem_cons_self
    · exact setBag_pos hi (fun y hy => h y (List.mem_cons_of_mem _ hy)) p hp
structure Bw (P : Program) (w : World) (K : PySem.W.Frag) (o0 : Own) (H0 : Hp) (o : Own) (H : Hp) (a : Addr) (b : Bk) (n : Nat) (bD rL sD hL wL gD : Addr) : Prop where
  ef : Ef K 3 o0 H0 o H
  d0 : Dom o0 H0
  dom : Dom o H
  b : BkB P w K o H a b n bD rL sD hL wL gD
section
variable {P : Program} {w : World} {K : PySem.W.Frag} {o0 o : Own} {H0 H H' : Hp} {a bD rL sD hL wL gD : Addr} {b : Bk} {n : Nat}
theorem Bw.start (d : Dom o H) (x : BkB P w K o H a b n bD rL sD hL wL gD) : Bw P w K o H o H a b n bD rL sD hL wL gD := ⟨Ef.refl, d, d, x⟩
theorem Bw.same (x : Bw P w K o0 H0 o H a b n bD rL sD hL wL gD) (s : Same H H') : Bw P w K o0 H0 o H' a b n bD rL sD hL wL gD :=
  ⟨x.ef.trans (Ef.same s), x.d0, x.dom.same s, x.b.fx (Fx.same s)⟩
theorem Bw.tmp (x : Bw P w K o0 H0 o H a b n bD rL sD hL wL gD) {l : Addr} {u : HO} (n0 : H0 l = none) (ol : o l = none) (k : Ks K H (L2.upd H l u)) : Bw P w K o0 H0 o (L2.upd H l u) a b n bD rL sD hL wL gD :=
  ⟨x.ef.tmp n0 k, x.d0, x.dom.upd, x.b.fx (Fx.tmp ol k)⟩
theorem Bw.own (x : Bw P w K o0 H0 o H a b n bD rL sD hL wL gD) {p : Addr} {u : HO} (i : Nat) (n0 : H0 p = none) (hp : H p = some u) (no : o p = none) : Bw P w K o0 H0 (take1 o p (3, i)) H a b n bD rL sD hL wL gD := by
  have f : ∀ i', Pk (3, i') o H (take1 o p (3, i)) H := fun i' => Pk.take no
  exact ⟨x.ef.take x.d0 n0, x.d0, x.dom.take hp, f 0 _ _ x.b.ob.1 x.b.ob.2, bagsFx x.b.bags (f 1), roadsFx x.b.roads (f 2) (f 3) Ks.refl, seenFx x.b.seen (f 4) Ks.refl, keptFx x.b.held (f 5) Ks.refl, rowsFx x.b.rows (f 6) Ks.refl, gdFx x.b.gd (f 7) Ks.refl⟩
theorem Bw.setBags (x : Bw P w K o0 H0 o H a b n bD rL sD hL wL gD) (b' : List Pay) : Bw P w K o0 H0 o (L2.upd H bD (.dK (bagKV b'))) a { b with bags := b' } n bD rL sD hL wL gD := by
  obtain ⟨h1, h2⟩ := x.b.bags
  have k : Ks K H (L2.upd H bD (.dK (bagKV b'))) := Ks.updD h2
  have f : ∀ i, 1 ≠ i → Pk (3, i) o H o (L2.upd H bD (.dK (bagKV b'))) := fun i n => Pk.at h1 (n12 n)
  exact ⟨x.ef.trans (Ef.at h1 k), x.d0, x.dom.upd, f 0 (by decide) _ _ x.b.ob.1 x.b.ob.2, ⟨h1, upd_same⟩, roadsFx x.b.roads (f 2 (by decide)) (f 3 (by decide)) k, seenFx x.b.seen (f 4 (by decide)) k, keptFx x.b.held (f 5 (by decide)) k, rowsFx x.b.rows (f 6 (by decide)) k, gdFx x.b.gd (f 7 (by decide)) k⟩
theorem Bw.setOb (x : Bw P w K o0 H0 o H a b n bD rL sD hL wL gD) (cl : Int) (l : Addr) (ks : List HL) (hl : o l = some (3, 5) ∧ ∃ xs, H l = some (.lst xs) ∧ Paired (IsHL K H) xs ks) :
    Bw P w K o0 H0 o (L2.upd H a (.lst [.int cl, .int b.long, .ref bD, .ref rL, .ref sD, .ref l, .ref wL, .ref gD])) a { b with clock := cl, held := ks } n bD rL sD l wL gD := by
  obtain ⟨h1, h2⟩ := x.b.ob
  have k : Ks K H (L2.upd H a (.lst [.int cl, .int b.long, .ref bD, .ref rL, .ref sD, .ref l, .ref wL, .ref gD])) := Ks.updL h2
  have f : ∀ i, 0 ≠ i → Pk (3, i) o H o (L2.upd H a (.lst [.int cl, .int b.long, .ref bD, .ref rL, .ref sD, .ref l, .ref wL, .ref gD])) := fun i n => Pk.at h1 (n12 n)
  exact ⟨x.ef.trans (Ef.at h1 k), x.d0, x.dom.upd, ⟨h1, upd_same⟩, bagsFx x.b.bags (f 1 (by decide)), roadsFx x.b.roads (f 2 (by decide)) (f 3 (by decide)) k, seenFx x.b.seen (f 4 (by decide)) k, keptFx hl (f 5 (by decide)) k, rowsFx x.b.rows (f 6 (by decide)) k, gdFx x.b.gd (f 7 (by decide)) k⟩
theorem Bw.addRoad (x : Bw P w K o0 H0 o H a b n bD rL sD hL wL gD) {xs : List V} {v : V} {r : Rd1} (hx : H rL = some (.lst xs)) (hv : IsRd K o H v r) (hn : v ∉ xs) : Bw P w K o0 H0 o (L2.upd H rL (.lst (xs ++ [v]))) a { b with roads := b.roads ++ [r] } n bD rL sD hL wL gD := by
  obtain ⟨h1, xs', h2, nd, pr⟩ := x.b.roads
  obtain rfl : xs = xs' := by
    rw [hx] at h2
    exact HO.lst.inj (Option.some.inj h2)
  have k : Ks K H (L2.upd H rL (.lst (xs ++ [v]))) := Ks.updL h2
  have f : ∀ i, 2 ≠ i → Pk (3, i) o H o (L2.upd H rL (.lst (xs ++ [v]))) := fun i n => Pk.at h1 (n12 n)
  refine ⟨x.ef.trans (Ef.at h1 k), x.d0, x.dom.upd, f 0 (by decide) _ _ x.b.ob.1 x.b.ob.2, bagsFx x.b.bags (f 1 (by decide)), ⟨h1, xs ++ [v], upd_same, ?_, ?_⟩, seenFx x.b.seen (f 4 (by decide)) k, keptFx x.b.held (f 5 (by decide)) k, rowsFx x.b.rows (f 6 (by decide)) k, gdFx x.b.gd (f 7 (by decide)) k⟩
  · refine List.nodup_append.mpr ⟨nd, List.nodup_cons.mpr ⟨List.not_mem_nil, .nil⟩, fun c hc c' hc' e => ?_⟩
    rw [List.mem_singleton.mp hc'] at e
    exact hn (e ▸ hc)
  · exact paired_app (paired_imp (fun _ _ y => IsRd.fx (f 3 (by decide)) k y) pr) (IsRd.fx (f 3 (by decide)) k hv)
theorem Bw.setRoad (x : Bw P w K o0 H0 o H a b n bD rL sD hL wL gD) {xs : List V} {i : Nat} {p : Addr} {g : V} {r : Rd1} {ys : List V} (hx : H rL = some (.lst xs)) (hi : xs[i]? = some (.ref p)) (op : o p = some (3, 3)) (hp : H p = some (.lst ys)) (hg : IsST K H g r.standing) :
    Bw P w K o0 H0 o (L2.upd H p (.lst (rdF r g))) a { b with roads := b.roads.set i r } n bD rL sD hL wL gD := by
  obtain ⟨h1, xs', h2, nd, pr⟩ := x.b.roads
  obtain rfl : xs = xs' := by
    rw [hx] at h2
    exact HO.lst.inj (Option.some.inj h2)
  have k : Ks K H (L2.upd H p (.lst (rdF r g))) := Ks.updL hp
  have f : ∀ i, 3 ≠ i → Pk (3, i) o H o (L2.upd H p (.lst (rdF r g))) := fun i n => Pk.at op (n12 n)
  refine ⟨x.ef.trans (Ef.at op k), x.d0, x.dom.upd, f 0 (by decide) _ _ x.b.ob.1 x.b.ob.2, bagsFx x.b.bags (f 1 (by decide)), ⟨h1, xs, (f 2 (by decide) _ _ h1 h2).2, nd, ?_⟩, seenFx x.b.seen (f 4 (by decide)) k, keptFx x.b.held (f 5 (by decide)) k, rowsFx x.b.rows (f 6 (by decide)) k, gdFx x.b.gd (f 7 (by decide)) k⟩
  refine paired_set (V.ref p) r (fun u y nx z => ?_) ?_ pr nd hi
  · obtain ⟨p', g', rfl, op', hp', hs'⟩ := z
    refine ⟨p', g', rfl, op', ?_, IsST.mono k hs'⟩
    rw [upd_ne (fun e => nx (by rw [e]))]
    exact hp'
  · exact ⟨p, g, rfl, op, upd_same, IsST.mono k hg⟩
theorem Bw.addRow (x : Bw P w K o0 H0 o H a b n bD rL sD hL wL gD) {xs : List V} {v : V} {d : Deed} (hx : H wL = some (.lst xs)) (hv : IsBRow K H v d) : Bw P w K o0 H0 o (L2.upd H wL (.lst (xs ++ [v]))) a { b with rows := b.rows ++ [d] } n bD rL sD hL wL gD := by
  obtain ⟨h1, xs', h2, pr⟩ := x.b.rows
  obtain rfl : xs = xs' := by
    rw [hx] at h2
    exact HO.lst.inj (Option.some.inj h2)
  have k : Ks K H (L2.upd H wL (.lst (xs ++ [v]))) := Ks.updL h2
  have f : ∀ i, 6 ≠ i → Pk (3, i) o H o (L2.upd H wL (.lst (xs ++ [v]))) := fun i n => Pk.at h1 (n12 n)
  exact ⟨x.ef.trans (Ef.at h1 k), x.d0, x.dom.upd, f 0 (by decide) _ _ x.b.ob.1 x.b.ob.2, bagsFx x.b.bags (f 1 (by decide)), roadsFx x.b.roads (f 2 (by decide)) (f 3 (by decide)) k, seenFx x.b.seen (f 4 (by decide)) k, keptFx x.b.held (f 5 (by decide)) k, ⟨h1, xs ++ [v], upd_same, paired_app (paired_imp (fun _ _ y => IsBRow.mono k y) pr) (IsBRow.mono k hv)⟩, gdFx x.b.gd (f 7 (by decide)) k⟩
theorem Bw.addSeen (x : Bw P w K o0 H0 o H a b n bD rL sD hL wL gD) {kvs : List (Key × V)} {s : Int} {e : Int × Int} {q : Addr} (hs : H sD = some (.dK kvs)) (hn : valV kvs (Sum.inl s) = none) (hq : SqT K H q [.int e.1, .int e.2]) :
    Bw P w K o0 H0 o (L2.upd H sD (.dK (putK kvs (Sum.inl s) (.ref q)))) a { b with seen := seenAdd b.seen s e } n bD rL sD hL wL gD := by
  obtain ⟨h1, kvs', h2, pr⟩ := x.b.seen
  obtain rfl : kvs = kvs' := by
    rw [hs] at h2
    exact HO.dK.inj (Option.some.inj h2)
  have k : Ks K H (L2.upd H sD (.dK (putK kvs (Sum.inl s) (.ref q)))) := Ks.updD h2
  have f : ∀ i, 4 ≠ i → Pk (3, i) o H o (L2.upd H sD (.dK (putK kvs (Sum.inl s) (.ref q)))) := fun i n => Pk.at h1 (n12 n)
  refine ⟨x.ef.trans (Ef.at h1 k), x.d0, x.dom.upd, f 0 (by decide) _ _ x.b.ob.1 x.b.ob.2, bagsFx x.b.bags (f 1 (by decide)), roadsFx x.b.roads (f 2 (by decide)) (f 3 (by decide)) k, ⟨h1, _, upd_same, ?_⟩, keptFx x.b.held (f 5 (by decide)) k, rowsFx x.b.rows (f 6 (by decide)) k, gdFx x.b.gd (f 7 (by decide)) k⟩
  have e1 : seenAt b.seen s = none := by
    rcases val_seen s pr with ⟨z, _⟩ | ⟨_, _, _, z, _⟩
    · exact z
    · rw [hn] at z
      cases z
  have e2 : putK kvs (Sum.inl s) (.ref q) = kvs ++ [(Sum.inl s, .ref q)] := by
    unfold putK
    have := valV_any (Sum.inl s : Key) kvs
    rw [hn] at this
    rw [if_neg (by rw [this]; exact Bool.false_ne_true)]
  have e3 : seenAdd b.seen s e = b.seen ++ [(s, e)] := by
    unfold seenAdd
    rw [e1]
  have last : IsSeen K (L2.upd H sD (.dK (putK kvs (Sum.inl s) (.ref q)))) (Sum.inl s, .ref q) (s, e) := ⟨rfl, q, rfl, k _ _ hq⟩
  have fin := paired_app (paired_imp (fun _ _ y => IsSeen.mono k y) pr) last
  rw [← e3, ← e2] at fin
  exact fin
theorem Bw.addPaper (x : Bw P w K o0 H0 o H a b n bD rL sD hL wL gD) {xs : List (NestedKey × Addr)} {q : Addr} {k : NestedKey} (hx : IsDN P w H gD xs) (hall : ∀ p ∈ xs, PapAt K H p.2 p.1) (hq : PapAt K H q k) (hlen : (stN xs k q).length ≤ 3 * n) :
    Bw P w K o0 H0 o (L2.upd H gD (DN P w gD (stN xs k q))) a b n bD rL sD hL wL gD := by
  obtain ⟨h1, _⟩ := x.b.gd
  have kk : Ks K H (L2.upd H gD (DN P w gD (stN xs k q))) := Ks.updN hx
  have f : ∀ i, 7 ≠ i → Pk (3, i) o H o (L2.upd H gD (DN P w gD (stN xs k q))) := fun i n => Pk.at h1 (n12 n)
  refine ⟨x.ef.trans (Ef.at h1 kk), x.d0, x.dom.upd, f 0 (by decide) _ _ x.b.ob.1 x.b.ob.2, bagsFx x.b.bags (f 1 (by decide)), roadsFx x.b.roads (f 2 (by decide)) (f 3 (by decide)) kk, seenFx x.b.seen (f 4 (by decide)) kk, keptFx x.b.held (f 5 (by decide)) kk, rowsFx x.b.rows (f 6 (by decide)) kk, ⟨h1, stN xs k q, .inl upd_same, fun p hp => ?_, hlen⟩⟩
  unfold stN at hp
  split at hp
  · exact (hall p hp).mono kk
  · rcases List.mem_append.mp hp with hp | hp
    · exact (hall p hp).mono kk
    · rw [List.mem_singleton.mp hp]
      exact hq.mono kk
end
end Cn
namespace Cn
open PySem PySem.Spec PyProof.Rows L2
def spWholeL (K : PySem.W.Frag) : Sp := fun vs H Q _ => ∃ (v : V) (k : ST), vs = [v] ∧ IsST K H v k ∧ k.lks.length ≤ 30 ∧ ∀ H', Same H H' → Q (.int k.worth) H'
def spOpenDue (P : Program) (w : World) (K : PySem.W.Frag) : Sp := fun vs H Q _ => ∃ (o : Own) (a : Addr) (b : Bk) (n : Nat) (v : V) (l r : Str) (x y : Int), vs = [.ref a, v] ∧ BkAt P w K o H a b n ∧ IsDeed K H v (.op l r x y) ∧
  ∀ (H' : Hp) (z : Str), Same H H' → (z = "" → l ≠ r ∧ (∃ i, look b.bags l = some i ∧ x ≤ i) ∧ ∃ i, look b.bags r = some i ∧ y ≤ i) → Q (.str z) H'
def spTellDue (P : Program) (w : World) (K : PySem.W.Frag) : Sp := fun vs H Q _ => ∃ (o : Own) (a : Addr) (b : Bk) (n : Nat) (v : V) (s : ST), vs = [.ref a, v] ∧ BkAt P w K o H a b n ∧ IsST K H v s ∧ s.ok ∧
  ∀ (H' : Hp) (z : Str), Same H H' → (z = "" → s.ln.toNat < b.roads.length) → Q (.str z) H'
theorem keysOf {K : PySem.W.Frag} {H : Hp} {xs : List (NestedKey × Addr)} (h : ∀ p ∈ xs, PapAt K H p.2 p.1) : KeysAt K H xs := fun p hp => (h p hp).key
section
variable {P : Program} {w : World} {K : PySem.W.Frag} {mg : Str → Option Value} {base : Heap}
abbrev n_law_whole : List Str := ["_law_state_here", "_law_lock"]
theorem sc_law_whole : FnScope n_law_whole ["_law_state_here"] (defScope s_law_whole) := ⟨rfl, rfl, rfl, by decide +kernel, rfl, by decide +kernel, by decide +kernel⟩
theorem ok_law_whole (T : Tx K mg) : DefOk P w K mg base CX0 1 (He.fAd K d_law_whole.at_) ["_law_state_here"] (spWholeL K) := by
  refine mk0 (d := d_law_whole) T.f_law_whole rfl (fun _ _ _ _ _ _ us hl => match us, hl with | [_], _ => rfl) sc_law_whole (fun vs H Q E h => ?_) (fun cdv A outer s H vs Q E hr h => ?_)
  · obtain ⟨v, k, rfl, _⟩ := h
    rfl
  · obtain ⟨v, k, rfl, ⟨a, b, xs, rfl, hq, hb, hp⟩, l30, h⟩ := h
    refine ⟨_, (pss_one (ps_ret (pe_op op_add (pe_op op_add (pe_ix ix_tup (pv 0) pe_int (fun _ _ => rfl)) (pe_ix ix_tup (pv 0) pe_int (fun _ _ => rfl))) (pe_callB (cr_sum rfl) (by rfl) T.b_sum (by decide +kernel) (pa_cons (pe_lc (own := [("_law_lock", 1)]) (tt := tYes) rfl sc_law_whole.nd (pi_tup (pe_ix ix_tup (pv 0) pe_int (fun _ _ => rfl))) (blkOk_by (own := [("_law_lock", 1)]) (N := n_law_whole) (sc := defScope s_law_whole) (by decide +kernel)) (fun _ _ _ _ _ => (pg_name (i := 1) sc_law_whole.nd rfl (.inl rfl))) (fun _ _ _ _ _ => pts_nil) (fun _ _ _ _ _ => (pe_ix (r := rIxT K) ix_tup (pv 1) pe_int (fun _ _ => rfl)))) pa_nil))))), ?_⟩
    refine ⟨_, rfl, a, _, _, _, rfl, rfl, hq, rfl, _, rfl, a, _, _, _, rfl, rfl, hq, rfl, _, _, rfl, rfl, ?_⟩
    refine ⟨_, rfl, a, _, _, _, rfl, rfl, hq, rfl, b, rfl, ⟨_, hb⟩, fun D hD => lc_tup (xs := xs) (fun i H2 => Same H H2 ∧ H2 D = some (.lst (((k.lks.take i).map LK.am).map V.int))) ⟨same_upd hD, upd_same⟩ (fun i H2 _ h2 => Ks.same h2.1 _ _ hb) (fun i x H2 hx h2 => ?_) (fun H2 h2 => ?_)⟩
    · obtain ⟨s2, hd⟩ := h2
      obtain ⟨kk, hk, p, rfl, hq2⟩ := paired_get hp hx
      refine ⟨rfl, _, rfl, p, _, _, _, rfl, rfl, Ks.same s2 _ _ hq2, rfl, _, hd, slt ?_, fun b y e => ?_, ?_⟩
      · rw [List.length_map, List.length_map, List.length_take]
        omega
      · rw [upd_ne (ne_of_none e hD)]
        exact s2 _ _ e
      · rw [upd_same, take_succ_of hk, List.map_append, List.map_append]
        rfl
    · obtain ⟨s2, hd⟩ := h2
      refine ⟨D, _, rfl, SqL.of hd, _, _, rfl, rfl, ?_⟩
      rw [paired_len hp, List.take_length]
      exact h _ s2
abbrev n_law_is_coins : List Str := ["_law_thing"]
theorem sc_law_is_coins : FnScope n_law_is_coins ["_law_thing"] (defScope s_law_is_coins) := ⟨rfl, rfl, rfl, by decide +kernel, rfl, by decide +kernel, by decide +kernel⟩
theorem ok_law_is_coins (T : Tx K mg) : DefOk P w K mg base CX0 1 (He.fAd K d_law_is_coins.at_) ["_law_thing"] spCount := by
  refine mk0 (d := d_law_is_coins) T.f_law_is_coins rfl (fun _ _ _ _ _ _ us hl => match us, hl with | [_], _ => rfl) sc_law_is_coins (fun vs H Q E h => ?_) (fun cdv A outer s H vs Q E hr h => ?_)
  · obtain ⟨i, rfl, _⟩ := h
    rfl
  · obtain ⟨i, rfl, h⟩ := h
    refine ⟨_, (pss_one (ps_ret (pe_and (pe_callB call_isi (by rfl) T.b_isinstance boot_isinstance (pa_cons (pv 0) (pa_cons (pe_bltn (v := .ty "int") (by rfl) T.b_int PyProof.Rows.boot_int rfl) pa_nil))) (pe_and (pe_not (pe_callB call_isi (by rfl) T.b_isinstance boot_isinstance (pa_cons (pv 0) (pa_cons (pe_bltn (v := .ty "bool") (by rfl) T.b_bool PyProof.Rows.boot_bool rfl) pa_nil)))) (pe_one (pe_cmpR op_ge (pv 0) pe_int (nomark _))))))), ?_⟩
    refine ⟨_, rfl, _, _, _, _, true, rfl, .ty _, .base (.int _), kit_ty (by decide +kernel), true, rfl, iteT ?_⟩
    refine ⟨_, rfl, _, _, _, _, false, rfl, .ty _, .base (.int _), kit_ty (by decide +kernel), false, rfl, true, rfl, iteT ?_⟩
    exact ⟨_, rfl, _, _, rfl, rfl, h⟩
abbrev n_law_open_due : List Str := ["_law_book_here", "_law_deed_here", "_law_word", "_law_left", "_law_right", "_law_one", "_law_other", "_law_hand", "_law_paper"]
theorem sc_law_open_due : FnScope n_law_open_due ["_law_book_here", "_law_deed_here"] (defScope s_law_open_due) := ⟨rfl, rfl, rfl, by decide +kernel, rfl, by decide +kernel, by decide +kernel⟩
theorem ok_law_open_due (T : Tx K mg) : DefOk P w K mg base CX0 2 (He.fAd K d_law_open_due.at_) ["_law_book_here", "_law_deed_here"] (spOpenDue P w K) := by
  refine mk0 (d := d_law_open_due) T.f_law_open_due rfl (fun _ _ _ _ _ _ us hl => match us, hl with | [_, _], _ => rfl) sc_law_open_due (fun vs H Q E h => ?_) (fun cdv A outer s H vs Q E hr h => ?_)
  · obtain ⟨_, _, _, _, _, _, _, _, _, rfl, _⟩ := h
    rfl
  · obtain ⟨o, a, b, n, v, l, r, x, y, rfl, ⟨ok, bD, rL, sD, hL, wL, gD, B⟩, ⟨q, rfl, hq⟩, h⟩ := h
    refine ⟨_, (pss_cons (ps_asg (pv 1) (pg_tup rfl (pgs_cons (pg_name (i := 2) sc_law_open_due.nd rfl (.inl rfl)) (pgs_cons (pg_name (i := 3) sc_law_open_due.nd rfl (.inl rfl)) (pgs_cons (pg_name (i := 4) sc_law_open_due.nd rfl (.inl rfl)) (pgs_cons (pg_name (i := 5) sc_law_open_due.nd rfl (.inl rfl)) (pgs_cons (pg_name (i := 6) sc_law_open_due.nd rfl (.inl rfl)) pgs_nil)))))))
      (pss_cons (ps_for PassesOwn.never rfl (pi_list (pe_lst (pa_cons (pv 3) (pa_cons (pv 4) pa_nil)))) (pg_name (i := 7) sc_law_open_due.nd rfl (.inl rfl)) (pss_one (ps_if (PW.pt (pw_or (pt_not (pt_val (pe_callB call_isi (by rfl) T.b_isinstance boot_isinstance (pa_cons (pv 7) (pa_cons (pe_bltn (v := .ty "str") (by rfl) T.b_str PyProof.Rows.boot_str rfl) pa_nil))))) (pw_or1 (pt_cmp (pc_dnotin (hu1 (hu_of hr)) (pv 7) (pe_ix ix_list (pv 0) pe_int (fun _ _ => rfl))))))) (pss_one (ps_ret pe_str)) pss_nil)))
      (pss_cons (ps_if (pt_cmpR op_eq (pv 3) (pv 4) (nomark _)) (pss_one (ps_ret pe_str)) pss_nil)
      (pss_cons (ps_if (PW.pt (pw_or (pt_not (pt_val (cD (ok_law_is_coins T) T.g_law_is_coins hr (pa_cons (pv 5) pa_nil)))) (pw_or1 (pt_not (pt_val (cD (ok_law_is_coins T) T.g_law_is_coins hr (pa_cons (pv 6) pa_nil))))))) (pss_one (ps_ret pe_str)) pss_nil)
      (pss_cons (ps_if (PW.pt (pw_or (pt_cmpR op_gt (pv 5) (pe_dget (hu1 (hu_of hr)) (pe_ix ix_list (pv 0) pe_int (fun _ _ => rfl)) (pv 3) (fun _ _ => rfl)) (nomark _)) (pw_or (pt_cmpR op_gt (pv 6) (pe_dget (hu1 (hu_of hr)) (pe_ix ix_list (pv 0) pe_int (fun _ _ => rfl)) (pv 4) (fun _ _ => rfl)) (nomark _)) (pw_or1 (pt_cmpR op_eq (pe_op op_add (pv 5) (pv 6)) pe_int (nomark _)))))) (pss_one (ps_ret pe_str)) pss_nil)
      (pss_cons (ps_set (i := 8) sc_law_open_due.nd rfl (.inl rfl) (pe_tup (pa_cons pe_str (pa_cons (pe_callB call_len_seq (by rfl) T.b_len PySem.boot_len (pa_cons (pe_ix ix_list (pv 0) pe_int (fun _ _ => rfl)) pa_nil)) (pa_cons (pv 3) (pa_cons (pv 4) (pa_cons (pv 5) (pa_cons (pv 6) pa_nil))))))))
      (pss_cons (ps_if (PW.pt (pw_or (pt_cmpR (op_notInN hr.units) (pe_tup (pa_cons (pv 3) (pa_cons (pv 8) pa_nil))) (pe_ix ix_list (pv 0) pe_int (fun _ _ => rfl)) (by rfl)) (pw_or1 (pt_cmpR (op_notInN hr.units) (pe_tup (pa_cons (pv 4) (pa_cons (pv 8) pa_nil))) (pe_ix ix_list (pv 0) pe_int (fun _ _ => rfl)) (by rfl))))) (pss_one (ps_ret pe_str)) pss_nil)
      (pss_one (ps_ret pe_str))))))))), ?_⟩
    refine ⟨_, rfl, q, _, rfl, hq, rfl, _, _, rfl, _, _, rfl, _, _, rfl, _, _, rfl, _, _, rfl, rfl, ?_⟩
    refine ⟨_, rfl, _, rfl, sl, fun hl nhl => ?_⟩
    have s1 := same_upd (o := HO.lst [V.str l, V.str r]) nhl
    refine ⟨hl, rfl, ⟨_, SqL.of upd_same⟩, for_list (xs := [V.str l, V.str r]) (fun i σ H1 => H1 = upd H hl (.lst [V.str l, V.str r]) ∧ (1 ≤ i → ∃ j, look b.bags l = some j) ∧ (2 ≤ i → ∃ j, look b.bags r = some j) ∧ ∃ y1, σ = [some (.ref a), some (.ref q), some (.str "open"), some (.str l), some (.str r), some (.int x), some (.int y), y1, none]) ⟨rfl, fun z => by omega, fun z => by omega, none, rfl⟩ (fun i σ H1 _ h1 => h1.1 ▸ SqL.of upd_same) (fun i v σ H1 hi h1 => ?_) (fun σ H1 h1 => ?_)⟩
    · obtain ⟨rfl, g1, g2, y1, rfl⟩ := h1
      have hz : ∃ z : Str, v = .str z ∧ ((i = 0 ∧ z = l) ∨ (i = 1 ∧ z = r)) := by
        match i, hi with
        | 0, hi => exact ⟨l, (Option.some.inj hi).symm, .inl ⟨rfl, rfl⟩⟩
        | 1, hi => exact ⟨r, (Option.some.inj hi).symm, .inr ⟨rfl, rfl⟩⟩
      obtain ⟨z, rfl, hz⟩ := hz
      have B1 := B.fx (Fx.same s1)
      refine ⟨_, rfl, _, _, _, _, true, rfl, .ty _, .base (.str _), kit_ty (by decide +kernel), true, rfl, iteF ?_⟩
      refine ⟨_, rfl, _, rfl, a, _, _, _, rfl, rfl, SqL.of B1.ob.2, rfl, bD, _, rfl, DGet.k (k := Sum.inr z) B1.bags.2, _, rfl, ?_⟩
      cases e : look b.bags z with
      | none =>
        rw [look_none_val e]
        exact iteT (h _ _ s1 (fun z => absurd z (by decide)))
      | some j =>
        rw [look_some_val e]
        refine iteF ⟨rfl, fun hi1 => ?_, fun hi2 => ?_, _, rfl⟩
        · rcases hz with ⟨_, rfl⟩ | ⟨e1, rfl⟩
          · exact ⟨j, e⟩
          · exact g1 (by omega)
        · rcases hz with ⟨e0, rfl⟩ | ⟨e1, rfl⟩
          · omega
          · exact ⟨j, e⟩
    · obtain ⟨rfl, g1, g2, y1, rfl⟩ := h1
      obtain ⟨vl, hvl⟩ := g1 (by show 1 ≤ 2; decide)
      obtain ⟨vr, hvr⟩ := g2 (by show 2 ≤ 2; decide)
      have B1 := B.fx (Fx.same s1)
      refine ⟨_, rfl, _, rfl, rfl, _, rfl, ite2 (fun _ => h _ _ s1 (fun z => absurd z (by decide))) (fun k0 => ?_)⟩
      have nlr : l ≠ r := fun e => k0 (decide_eq_true (congrArg V.str e))
      refine ⟨_, rfl, x, rfl, _, rfl, ?_⟩
      cases d1 : decide (0 ≤ x) with
      | false => exact iteT (h _ _ s1 (fun z => absurd z (by decide)))
      | true =>
        refine iteF ⟨_, rfl, y, rfl, _, rfl, ?_⟩
        cases d2 : decide (0 ≤ y) with
        | false => exact iteT (h _ _ s1 (fun z => absurd z (by decide)))
        | true =>
          refine iteF ?_
          refine ⟨_, rfl, _, rfl, a, _, _, _, rfl, rfl, SqL.of B1.ob.2, rfl, _, rfl, bD, _, rfl, look_some_val hvl ▸ DGet.k (k := Sum.inr l) B1.bags.2, _, _, rfl, rfl, _, rfl, ite2 (fun _ => h _ _ s1 (fun z => absurd z (by decide))) (fun k1 => ?_)⟩
          have xl : x ≤ vl := by
            have : ¬ (vl < x) := fun z => k1 (decide_eq_true z)
            omega
          refine ⟨_, rfl, _, rfl, a, _, _, _, rfl, rfl, SqL.of B1.ob.2, rfl, _, rfl, bD, _, rfl, look_some_val hvr ▸ DGet.k (k := Sum.inr r) B1.bags.2, _, _, rfl, rfl, _, rfl, ite2 (fun _ => h _ _ s1 (fun z => absurd z (by decide))) (fun k2 => ?_)⟩
          have yr : y ≤ vr := by
            have : ¬ (vr < y) := fun z => k2 (decide_eq_true z)
            omega
          refine ⟨_, rfl, _, rfl, _, _, rfl, rfl, rfl, _, rfl, ite2 (fun _ => h _ _ s1 (fun z => absurd z (by decide))) (fun _ => ?_)⟩
          obtain ⟨_, rxs, hrx, _, _⟩ := B1.roads
          refine ⟨_, rfl, a, _, _, _, rfl, rfl, SqL.of B1.ob.2, rfl, rL, _, rfl, .inl (SqL.of hrx), _, rfl, _, rfl, _, rfl, _, rfl, sl, fun pp npp => ?_⟩
          have s2 := same_upd (H := upd H hl (.lst [V.str l, V.str r])) (o := HO.tup [V.str "open", V.int rxs.length, V.str l, V.str r, V.int x, V.int y]) npp
          have B2 := B1.fx (Fx.same s2)
          have pk : IsPaper K (upd (upd H hl (.lst [V.str l, V.str r])) pp (.tup [V.str "open", V.int rxs.length, V.str l, V.str r, V.int x, V.int y])) (.ref pp) (.op rxs.length l r x y) := ⟨pp, rfl, SqT.of upd_same⟩
          refine ⟨_, rfl, _, rfl, sl, fun t1 nt1 => ?_⟩
          have s3 := same_upd (H := upd (upd H hl (.lst [V.str l, V.str r])) pp (.tup [V.str "open", V.int rxs.length, V.str l, V.str r, V.int x, V.int y])) (o := HO.tup [V.str l, V.ref pp]) nt1
          have B3 := B2.fx (Fx.same s3)
          obtain ⟨_, gx, hgx, gall, _⟩ := B3.gd
          refine ⟨_, rfl, a, _, _, _, rfl, rfl, SqL.of B3.ob.2, rfl, t1, gD, gx, .tup [.text l, (Paper.op rxs.length l r x y).nk], rfl, rfl, hgx, keysOf gall, .tup (SqT.of upd_same) (.cons (.text _) (.cons (IsPaper.nk (IsPaper.mono (Ks.same s3) pk)) .nil)), pap_depth _ _, _, rfl, ite2 (fun _ => h _ _ ((s1.trans s2).trans s3) (fun z => absurd z (by decide))) (fun _ => ?_)⟩
          refine ⟨_, rfl, _, rfl, sl, fun t2 nt2 => ?_⟩
          have s4 := same_upd (o := HO.tup [V.str r, V.ref pp]) nt2
          have B4 := B3.fx (Fx.same s4)
          obtain ⟨_, gx2, hgx2, gall2, _⟩ := B4.gd
          refine ⟨_, rfl, a, _, _, _, rfl, rfl, SqL.of B4.ob.2, rfl, t2, gD, gx2, .tup [.text r, (Paper.op rxs.length l r x y).nk], rfl, rfl, hgx2, keysOf gall2, .tup (SqT.of upd_same) (.cons (.text _) (.cons (IsPaper.nk (IsPaper.mono ((Ks.same s3).trans (Ks.same s4)) pk)) .nil)), pap_depth _ _, _, rfl, ite2 (fun _ => h _ _ (((s1.trans s2).trans s3).trans s4) (fun z => absurd z (by decide))) (fun _ => h _ _ (((s1.trans s2).trans s3).trans s4) (fun _ => ⟨nlr, ⟨_, hvl, xl⟩, ⟨_, hvr, yr⟩⟩))⟩
abbrev n_law_tell_due : List Str := ["_law_book_here", "_law_state_here", "_law_road"]
theorem sc_law_tell_due : FnScope n_law_tell_due ["_law_book_here", "_law_state_here"] (defScope s_law_tell_due) := ⟨rfl, rfl, rfl, by decide +kernel, rfl, by decide +kernel, by decide +kernel⟩
theorem ok_law_tell_due (T : Tx K mg) : DefOk P w K mg base CX0 2 (He.fAd K d_law_tell_due.at_) ["_law_book_here", "_law_state_here"] (spTellDue P w K) := by
  refine mk0 (d := d_law_tell_due) T.f_law_tell_due rfl (fun _ _ _ _ _ _ us hl => match us, hl with | [_, _], _ => rfl) sc_law_tell_due (fun vs H Q E h => ?_) (fun cdv A outer s H vs Q E hr h => ?_)
  · obtain ⟨_, _, _, _, _, _, rfl, _⟩ := h
    rfl
  · obtain ⟨o, a, b, n, v, s, rfl, ⟨ok, bD, rL, sD, hL, wL, gD, B⟩, hv, sok, h⟩ := h
    refine ⟨_, (pss_cons (ps_if (pt_cmpR op_ge (pe_ix ix_tup (pv 1) pe_int (fun _ _ => rfl)) (pe_callB call_len_seq (by rfl) T.b_len PySem.boot_len (pa_cons (pe_ix ix_list (pv 0) pe_int (fun _ _ => rfl)) pa_nil)) (nomark _)) (pss_one (ps_ret pe_str)) pss_nil)
      (pss_cons (ps_set (i := 2) sc_law_tell_due.nd rfl (.inl rfl) (pe_ix ix_list (pe_ix ix_list (pv 0) pe_int (fun _ _ => rfl)) (pe_ix ix_tup (pv 1) pe_int (fun _ _ => rfl)) (fun _ _ => rfl)))
      (pss_cons (ps_if (pt_cmpR op_eq (pe_ix ix_list (pv 2) pe_int (fun _ _ => rfl)) pe_str (nomark _)) (pss_one (ps_ret pe_str)) pss_nil)
      (pss_cons (ps_if (pt_cmpR (op_neD hr.units) (pv 1) (pe_tup (pa_cons (pe_ix ix_tup (pv 1) pe_int (fun _ _ => rfl)) (pa_cons pe_int (pa_cons (pe_ix ix_list (pv 2) pe_int (fun _ _ => rfl)) (pa_cons (pe_ix ix_list (pv 2) pe_int (fun _ _ => rfl)) (pa_cons (pe_tup pa_nil) pa_nil)))))) (nomark _)) (pss_cons (ps_if (pt_cmpR op_ne (cD (ok_law_whole T) T.g_law_whole hr (pa_cons (pv 1) pa_nil)) (pe_op op_add (pe_ix ix_list (pv 2) pe_int (fun _ _ => rfl)) (pe_ix ix_list (pv 2) pe_int (fun _ _ => rfl))) (nomark _)) (pss_one (ps_ret pe_str)) pss_nil)
      (pss_one (ps_if (PW.pt (pw_or (pt_cmpR (op_notInN hr.units) (pe_tup (pa_cons (pe_ix ix_list (pv 2) pe_int (fun _ _ => rfl)) (pa_cons (pv 1) pa_nil))) (pe_ix ix_list (pv 0) pe_int (fun _ _ => rfl)) (by rfl)) (pw_or1 (pt_cmpR (op_notInN hr.units) (pe_tup (pa_cons (pe_ix ix_list (pv 2) pe_int (fun _ _ => rfl)) (pa_cons (pv 1) pa_nil))) (pe_ix ix_list (pv 0) pe_int (fun _ _ => rfl)) (by rfl))))) (pss_one (ps_ret pe_str)) pss_nil))) pss_nil)
      (pss_cons (ps_if (PW.pt (pw_and (pt_cmpR op_eq (pe_ix ix_list (pv 2) pe_int (fun _ _ => rfl)) pe_str (nomark _)) (pw_and1 (pt_cmpR op_le (pe_ix ix_tup (pv 1) pe_int (fun _ _ => rfl)) (pe_ix ix_tup (pe_ix ix_list (pv 2) pe_int (fun _ _ => rfl)) pe_int (fun _ _ => rfl)) (nomark _))))) (pss_one (ps_ret pe_str)) pss_nil)
      (pss_one (ps_ret pe_str))))))), ?_⟩
    obtain ⟨va, vb, vxs, rfl, hq, hb, hp⟩ := id hv
    obtain ⟨orL, rxs, hrx, nd, pr⟩ := B.roads
    have lr := paired_len pr
    have s0 := sok.ln
    refine ⟨_, rfl, va, _, _, _, rfl, rfl, hq, rfl, _, rfl, a, _, _, _, rfl, rfl, SqL.of B.ob.2, rfl, rL, _, rfl, .inl (SqL.of hrx), _, _, rfl, rfl, _, rfl, ite2 (fun _ => h _ _ (Same.refl _) (fun z => absurd z (by decide))) (fun c1 => ?_)⟩
    have lt : s.ln.toNat < rxs.length := by
      have : ¬ ((rxs.length : Int) ≤ s.ln) := fun z => c1 (decide_eq_true z)
      omega
    have yes : ∀ {z : Str}, z = "" → s.ln.toNat < b.roads.length := fun _ => by omega
    obtain ⟨rd, hrd, p, g, er, op, hpr, hg⟩ := paired_get pr (List.getElem?_eq_getElem lt)
    refine ⟨_, rfl, a, _, _, _, rfl, rfl, SqL.of B.ob.2, rfl, _, rfl, va, _, _, _, rfl, rfl, hq, rfl, rL, _, _, _, rfl, rfl, SqL.of hrx, atI_of s0 (by rw [List.getElem?_eq_getElem lt, er]), ?_⟩
    refine ⟨_, rfl, p, _, _, _, rfl, rfl, SqL.of hpr, rfl, rfl, _, rfl, ite2 (fun _ => h _ _ (Same.refl _) (fun z => absurd z (by decide))) (fun _ => ?_)⟩
    refine ⟨_, rfl, _, rfl, va, _, _, _, rfl, rfl, hq, rfl, _, rfl, p, _, _, _, rfl, rfl, SqL.of hpr, rfl, _, rfl, p, _, _, _, rfl, rfl, SqL.of hpr, rfl, sl, fun te nte => ⟨sl, fun tf ntf => ?_⟩⟩
    have s1 := same_upd (o := HO.tup []) nte
    have s2 := same_upd (H := upd H te (.tup [])) (o := HO.tup [V.int s.ln, V.int 0, V.int rd.one, V.int rd.other, V.ref te]) ntf
    have s12 := s1.trans s2
    have hv2 := IsST.mono (Ks.same (K := K) s12) hv
    refine ⟨_, .tuple [.int s.ln, .int 0, .int rd.one, .int rd.other, .tuple []], hv2.dp, .tup (SqT.of upd_same) (.cons (.int _) (.cons (.int _) (.cons (.int _) (.cons (.int _) (.cons (.tup (Ks.same s2 _ _ (SqT.of upd_same)) .nil) .nil))))), st_shaped sok, by rfl, _, rfl, ?_⟩
    refine ite2 (fun _ => ?_) (fun _ => ?_)
    · refine ⟨_, rfl, _, s, rfl, hv2, sok.len, fun H3 s3 => ?_⟩
      have s13 := s12.trans s3
      have hp3 := s13 _ _ hpr
      refine ⟨_, rfl, p, _, _, _, rfl, rfl, SqL.of hp3, rfl, _, rfl, p, _, _, _, rfl, rfl, SqL.of hp3, rfl, _, _, rfl, rfl, rfl, _, rfl, ite2 (fun _ => h _ _ s13 (fun z => absurd z (by decide))) (fun _ => ?_)⟩
      refine ⟨_, rfl, p, _, _, _, rfl, rfl, SqL.of hp3, rfl, _, rfl, sl, fun t1 nt1 => ?_⟩
      have s4 := same_upd (o := HO.tup [V.str rd.l, V.ref va]) nt1
      have s14 := s13.trans s4
      have B4 := B.fx (Fx.same s14)
      have hv4 := IsST.mono (Ks.same (K := K) s14) hv
      obtain ⟨_, gx, hgx, gall, _⟩ := B4.gd
      refine ⟨_, rfl, a, _, _, _, rfl, rfl, SqL.of B4.ob.2, rfl, t1, gD, gx, .tup [.text rd.l, (Paper.st s).nk], rfl, rfl, hgx, keysOf gall, .tup (SqT.of upd_same) (.cons (.text _) (.cons hv4.nk .nil)), pap_depth _ (.st s), _, rfl, ite2 (fun _ => h _ _ s14 (fun z => absurd z (by decide))) (fun _ => ?_)⟩
      refine ⟨_, rfl, p, _, _, _, rfl, rfl, SqL.of (s14 _ _ hpr), rfl, _, rfl, sl, fun t2 nt2 => ?_⟩
      have s5 := same_upd (o := HO.tup [V.str rd.r, V.ref va]) nt2
      have s15 := s14.trans s5
      have B5 := B.fx (Fx.same s15)
      have hv5 := IsST.mono (Ks.same (K := K) s15) hv
      obtain ⟨_, gx5, hgx5, gall5, _⟩ := B5.gd
      refine ⟨_, rfl, a, _, _, _, rfl, rfl, SqL.of B5.ob.2, rfl, t2, gD, gx5, .tup [.text rd.r, (Paper.st s).nk], rfl, rfl, hgx5, keysOf gall5, .tup (SqT.of upd_same) (.cons (.text _) (.cons hv5.nk .nil)), pap_depth _ (.st s), _, rfl, ite2 (fun _ => h _ _ s15 (fun z => absurd z (by decide))) (fun _ => ?_)⟩
      have hp9 := s15 _ _ hpr
      have hg9 := IsST.mono (Ks.same (K := K) s15) hg
      have hq9 := Ks.same (K := K) s15 _ _ hq
      obtain ⟨ga, gb, gxs, eg, gq, _, _⟩ := id hg9
      refine ⟨_, rfl, p, _, _, _, rfl, rfl, SqL.of hp9, rfl, rfl, _, rfl, ite2 (fun _ => ?_) (fun _ => h _ _ s15 yes)⟩
      refine ⟨_, rfl, va, _, _, _, rfl, rfl, hq9, rfl, _, rfl, p, _, _, _, rfl, rfl, SqL.of hp9, rfl, ga, _, _, _, eg, rfl, gq, rfl, _, _, rfl, rfl, _, rfl, ite2 (fun _ => h _ _ s15 (fun z => absurd z (by decide))) (fun _ => h _ _ s15 yes)⟩
    · skip
      have hp9 := s12 _ _ hpr
      have hg9 := IsST.mono (Ks.same (K := K) s12) hg
      have hq9 := Ks.same (K := K) s12 _ _ hq
      obtain ⟨ga, gb, gxs, eg, gq, _, _⟩ := id hg9
      refine ⟨_, rfl, p, _, _, _, rfl, rfl, SqL.of hp9, rfl, rfl, _, rfl, ite2 (fun _ => ?_) (fun _ => h _ _ s12 yes)⟩
      refine ⟨_, rfl, va, _, _, _, rfl, rfl, hq9, rfl, _, rfl, p, _, _, _, rfl, rfl, SqL.of hp9, rfl, ga, _, _, _, eg, rfl, gq, rfl, _, _, rfl, rfl, _, rfl, ite2 (fun _ => h _ _ s12 (fun z => absurd z (by decide))) (fun _ => h _ _ s12 yes)⟩
end
end Cn
namespace Cn
open PySem PySem.Spec PyProof.Rows L2
def spTurned (P : Program) (w : World) (K : PySem.W.Frag) : Sp := fun vs H Q _ => ∃ (o : Own) (a : Addr) (b : Bk) (n : Nat), vs = [.ref a] ∧ Dom o H ∧ BkAt P w K o H a b n ∧ n + 1 ≤ 300 ∧
  ∀ (o' : Own) (H' : Hp) (l : Addr) (ys : List V) (b' : Bk), Ef K 3 o H o' H' → Dom o' H' → BkAt P w K o' H' a b' (n + 1) → b'.rows = b.rows → o' l = none → H' l = some (.lst ys) → ys.length ≤ 4000000 → Q (.ref l) H'
theorem Bk.ok.held' {b : Bk} {n : Nat} (h : b.ok n) (hn : n + 1 ≤ 300) (hl : List HL) (h1 : hl.length ≤ 10000 * (n + 1)) (h2 : ∀ x ∈ hl, 0 ≤ x.1 ∧ x.1.toNat < b.roads.length ∧ x.2.ok) (cl : Int) (c0 : 0 ≤ cl) : ({ b with clock := cl, held := hl } : Bk).ok (n + 1) :=
  ⟨hn, c0, h.bags, Nat.le_trans h.roadsN (Nat.le_succ _), Nat.le_trans h.seenN (Nat.le_succ _), h1, Nat.le_trans h.rowsN (Nat.le_succ _), h.road, h2, h.deeds, h.pos, h.mood⟩
section
variable {P : Program} {w : World} {K : PySem.W.Frag} {mg : Str → Option Value} {base : Heap}
abbrev n_law_turned : List Str := ["_law_book_here", "_law_found", "_law_number", "_law_road", "_law_still", "_law_lock", "_law_hands", "_law_giver", "_law_hand", "_law_many"]
theorem sc_law_turned : FnScope n_law_turned ["_law_book_here"] (defScope s_law_turned) := ⟨rfl, rfl, rfl, by decide +kernel, rfl, by decide +kernel, by decide +kernel⟩
theorem ok_law_turned (T : Tx K mg) : DefOk P w K mg base CX0 1 (He.fAd K d_law_turned.at_) ["_law_book_here"] (spTurned P w K) := by
  refine mk0 (d := d_law_turned) T.f_law_turned rfl (fun _ _ _ _ _ _ us hl => match us, hl with | [_], _ => rfl) sc_law_turned (fun vs H Q E h => ?_) (fun cdv A outer s H vs Q E hr h => ?_)
  · obtain ⟨_, _, _, _, rfl, _⟩ := h
    rfl
  · obtain ⟨o, a, b, n, rfl, dm, ⟨ok, bD, rL, sD, hL, wL, gD, B⟩, hn, h⟩ := h
    refine ⟨_, (pss_cons (ps_asg (pe_op op_add (pe_ix ix_list (pv 0) pe_int (fun _ _ => rfl)) pe_int) (pg_sub (pv 0) pe_int set_list))
      (pss_cons (ps_set (i := 1) sc_law_turned.nd rfl (.inl rfl) (pe_lst pa_nil))
      (pss_cons (ps_for PassesOwn.never rfl (pi_range1 rfl T.b_range (pa_cons (pe_callB call_len_seq (by rfl) T.b_len PySem.boot_len (pa_cons (pe_ix ix_list (pv 0) pe_int (fun _ _ => rfl)) pa_nil)) pa_nil)) (pg_name (i := 2) sc_law_turned.nd rfl (.inr rfl)) (pss_cons (ps_set (i := 3) sc_law_turned.nd rfl (.inl rfl) (pe_ix ix_list (pe_ix ix_list (pv 0) pe_int (fun _ _ => rfl)) (pv 2) (fun _ _ => rfl)))
      (pss_one (ps_if (PW.pt (pw_and (pt_cmpR op_eq (pe_ix ix_list (pv 3) pe_int (fun _ _ => rfl)) pe_str (nomark _)) (pw_and1 (pt_cmpR op_eq (pe_ix ix_list (pv 3) pe_int (fun _ _ => rfl)) (pe_ix ix_list (pv 0) pe_int (fun _ _ => rfl)) (nomark _))))) (pss_cons (ps_asg pe_str (pg_sub (pv 3) pe_int set_list))
      (pss_cons (ps_set (i := 1) sc_law_turned.nd rfl (.inl rfl) (pe_op op_cat (pv 1) (pe_lst (pa_cons (pe_tup (pa_cons (pe_ix ix_list (pv 3) pe_int (fun _ _ => rfl)) (pa_cons (pe_ix ix_tup (pe_ix ix_list (pv 3) pe_int (fun _ _ => rfl)) pe_int (fun _ _ => rfl)) pa_nil))) (pa_cons (pe_tup (pa_cons (pe_ix ix_list (pv 3) pe_int (fun _ _ => rfl)) (pa_cons (pe_ix ix_tup (pe_ix ix_list (pv 3) pe_int (fun _ _ => rfl)) pe_int (fun _ _ => rfl)) pa_nil))) pa_nil)))))
      (pss_one (ps_asg (pe_op op_cat (pe_ix ix_list (pv 0) pe_int (fun _ _ => rfl)) (pe_lc (own := [("_law_lock", 5)]) (tt := tYes) rfl sc_law_turned.nd (pi_tup (pe_ix ix_tup (pe_ix ix_list (pv 3) pe_int (fun _ _ => rfl)) pe_int (fun _ _ => rfl))) (blkOk_by (own := [("_law_lock", 5)]) (N := n_law_turned) (sc := defScope s_law_turned) (by decide +kernel)) (fun _ _ _ _ _ => (pg_name (i := 5) sc_law_turned.nd rfl (.inl rfl))) (fun _ _ _ _ _ => pts_nil) (fun _ _ _ _ _ => (pe_tup (pa_cons (pv 2) (pa_cons (pv 5) pa_nil)))))) (pg_sub (pv 0) pe_int set_list))))) pss_nil))))
      (pss_cons (ps_set (i := 4) sc_law_turned.nd rfl (.inl rfl) (pe_lst pa_nil))
      (pss_cons (ps_for PassesOwn.never rfl (pi_list (pe_callB (cr_sortH hr.units) (by rfl) T.b_sorted (by decide +kernel) (pa_cons (pe_ix ix_list (pv 0) pe_int (fun _ _ => rfl)) pa_nil))) (pg_tup rfl (pgs_cons (pg_name (i := 2) sc_law_turned.nd rfl (.inr rfl)) (pgs_cons (pg_name (i := 5) sc_law_turned.nd rfl (.inl rfl)) pgs_nil))) (pss_cons (ps_set (i := 6) sc_law_turned.nd rfl (.inl rfl) (pe_lst (pa_cons (pe_ix ix_list (pe_ix ix_list (pe_ix ix_list (pv 0) pe_int (fun _ _ => rfl)) (pv 2) (fun _ _ => rfl)) pe_int (fun _ _ => rfl)) (pa_cons (pe_ix ix_list (pe_ix ix_list (pe_ix ix_list (pv 0) pe_int (fun _ _ => rfl)) (pv 2) (fun _ _ => rfl)) pe_int (fun _ _ => rfl)) pa_nil))))
      (pss_cons (ps_set (i := 7) sc_law_turned.nd rfl (.inl rfl) (pe_callTy call_int1 (by rfl) T.b_int (by decide +kernel) (pa_cons (pe_cmpR op_eq (pe_ix ix_tup (pv 5) pe_int (fun _ _ => rfl)) pe_str (nomark _)) pa_nil)))
      (pss_one (ps_if (PW.pt (pw_and (pt_cmp (pc_din (hu1 (hu_of hr)) (pe_ix ix_tup (pv 5) pe_int (fun _ _ => rfl)) (pe_ix ix_list (pv 0) pe_int (fun _ _ => rfl)))) (pw_and1 (pt_cmpR op_le (pe_ix ix_tup (pe_dget (hu1 (hu_of hr)) (pe_ix ix_list (pv 0) pe_int (fun _ _ => rfl)) (pe_ix ix_tup (pv 5) pe_int (fun _ _ => rfl)) (fun _ _ => rfl)) pe_int (fun _ _ => rfl)) (pe_ix ix_tup (pv 5) pe_int (fun _ _ => rfl)) (nomark _))))) (pss_one (ps_expr (pe_bm PySem.F.plainAttrs_list PySem.F.slot_list_append PySem.F.type_list_append mt_append (pv 1) (pa_cons (pe_tup (pa_cons (pe_ix ix_list (pv 6) (pe_op op_sub pe_int (pv 7)) (fun _ _ => rfl)) (pa_cons (pe_ix ix_tup (pv 5) pe_int (fun _ _ => rfl)) pa_nil))) pa_nil)))) (pss_one (ps_if (pt_cmpR op_gt (pe_ix ix_list (pv 0) pe_int (fun _ _ => rfl)) (pe_ix ix_tup (pv 5) pe_int (fun _ _ => rfl)) (nomark _)) (pss_one (ps_expr (pe_bm PySem.F.plainAttrs_list PySem.F.slot_list_append PySem.F.type_list_append mt_append (pv 1) (pa_cons (pe_tup (pa_cons (pe_ix ix_list (pv 6) (pv 7) (fun _ _ => rfl)) (pa_cons (pe_ix ix_tup (pv 5) pe_int (fun _ _ => rfl)) pa_nil))) pa_nil)))) (pss_one (ps_expr (pe_bm PySem.F.plainAttrs_list PySem.F.slot_list_append PySem.F.type_list_append mt_append (pv 4) (pa_cons (pe_tup (pa_cons (pv 2) (pa_cons (pv 5) pa_nil))) pa_nil)))))))))))
      (pss_cons (ps_asg (pv 4) (pg_sub (pv 0) pe_int set_list))
      (pss_cons (ps_setLc (i := 1) (own := [("_law_hand", 8), ("_law_many", 9)]) (g := gTup K 2 (gCons (gName 8) (gCons (gName 9) gNil))) rfl sc_law_turned.nd rfl rfl (sw_true rfl rfl rfl (by decide +kernel)) (pi_list (pv 1)) (blkOk_by (own := [("_law_hand", 8), ("_law_many", 9)]) (N := n_law_turned) (sc := defScope s_law_turned) (by decide +kernel)) (fun _ _ _ _ _ => (pg_tup rfl (pgs_cons (pg_name (i := 8) sc_law_turned.nd rfl (.inl rfl)) (pgs_cons (pg_name (i := 9) sc_law_turned.nd rfl (.inl rfl)) pgs_nil)))) (fun _ _ _ _ _ => (pts_one (pt_cmpR op_gt (pv 9) pe_int (nomark _)))) (fun _ _ _ _ _ => (pe_tup (pa_cons (pv 8) (pa_cons (pv 9) pa_nil)))))
      (pss_cons (ps_for PassesOwn.never rfl (pi_list (pv 1)) (pg_tup rfl (pgs_cons (pg_name (i := 8) sc_law_turned.nd rfl (.inl rfl)) (pgs_cons (pg_name (i := 9) sc_law_turned.nd rfl (.inl rfl)) pgs_nil))) (pss_one (ps_dput (hu1 (hu_of hr)) (pe_ix ix_list (pv 0) pe_int (fun _ _ => rfl)) (pv 8) (pe_op op_add (pe_dget (hu1 (hu_of hr)) (pe_ix ix_list (pv 0) pe_int (fun _ _ => rfl)) (pv 8) (fun _ _ => rfl)) (pv 9)) rfl)))
      (pss_one (ps_ret (pv 1))))))))))), ?_⟩
    obtain ⟨orL, rxs, hrx, nd, pr⟩ := B.roads
    have lr := paired_len pr
    have W0 := Bw.start dm B
    have W1 := W0.setOb (b.clock + 1) hL b.held B.held
    refine ⟨_, rfl, a, _, _, _, rfl, rfl, SqL.of B.ob.2, rfl, _, _, rfl, rfl, _, rfl, a, _, _, 0, rfl, rfl, B.ob.2, by simp [ixN], ?_⟩
    have ok1 := ok.held' hn b.held (by have := ok.heldN; omega) ok.held (b.clock + 1) (by have := ok.clock; omega)
    have ner : rL ≠ a := own_ne orL B.ob.1 (by decide)
    have hr1 : upd H a (.lst [.int (b.clock + 1), .int b.long, .ref bD, .ref rL, .ref sD, .ref hL, .ref wL, .ref gD]) rL = some (.lst rxs) := by
      rw [upd_ne ner]
      exact hrx
    refine ⟨Nat.zero_le _, fun fl0 nfl0 => ?_⟩
    have s2 := same_upd (H := upd H a (.lst [.int (b.clock + 1), .int b.long, .ref bD, .ref rL, .ref sD, .ref hL, .ref wL, .ref gD])) (o := HO.lst []) nfl0
    have W2 := W1.same s2
    refine ⟨_, rfl, a, _, _, _, rfl, rfl, SqL.of (s2 _ _ upd_same), rfl, rL, _, rfl, .inl (SqL.of (s2 _ _ hr1)), _, rfl, by omega, by have := ok.roadsN; omega, ?_⟩
    refine for_range (lo := 0) (n := ((rxs.length : Nat) : Int).toNat) (fun i σ H3 => ∃ (b1 : Bk) (h1 fl : Addr) (fv : List V) (fp : List Pay) (y2 y3 : Option V) (o3 : Own), σ = [some (.ref a), some (.ref fl), y2, y3, none, none, none, none, none, none] ∧ Bw P w K o H o3 H3 a b1 n bD rL sD h1 wL gD ∧ b1.ok (n + 1) ∧ b1.held.length ≤ b.held.length + 30 * i ∧ b1.bags = b.bags ∧ b1.rows = b.rows ∧ b1.roads.length = b.roads.length ∧ H3 rL = some (.lst rxs) ∧ o3 fl = none ∧ H fl = none ∧ H3 fl = some (.lst fv) ∧ Paired (IsPay K H3) fv fp ∧ fp.length ≤ 2 * i ∧ ∀ p ∈ fp, p.1 ∈ b.bags.map (·.1) ∧ 0 ≤ p.2)
      ⟨_, hL, fl0, [], [], none, none, o, rfl, W2, ok1, Nat.le_refl _, rfl, rfl, rfl, s2 _ _ hr1, W1.dom.free nfl0, W1.ef.free nfl0, upd_same, .nil, Nat.le_refl _, fun _ z => (List.not_mem_nil z).elim⟩ (fun i σ H3 hi h3 => ?_) (fun σ H3 h3 => ?_)
    · obtain ⟨b1, h1, fl, fv, fp, y2, y3, o3, rfl, W3, ok3, hl3, eb, er, el, hr3, ofl, nfl, hfl, pf, lfp, fin⟩ := h3
      obtain ⟨orL3, rxs3, hrx3, nd3, pr3⟩ := W3.b.roads
      obtain rfl : rxs = rxs3 := HO.lst.inj (Option.some.inj (hr3.symm.trans hrx3))
      have ir : i < rxs.length := by omega
      obtain ⟨rd, hrd, p, g, erp, op, hpr, hg⟩ := paired_get pr3 (List.getElem?_eq_getElem ir)
      have rdm := ok3.road rd (List.mem_of_getElem? hrd)
      obtain ⟨ga, gb, gxs, rfl, gq, gqb, gp⟩ := id hg
      have at3 : atI rxs (0 + (i : Int)) = some (.ref p) := atI_of (by omega) (by rw [show (0 + (i : Int)).toNat = i by omega, List.getElem?_eq_getElem ir, erp])
      refine ⟨_, rfl, a, _, _, _, rfl, rfl, SqL.of W3.b.ob.2, rfl, _, rfl, rL, _, _, _, rfl, rfl, SqL.of hr3, at3, ?_⟩
      refine ⟨_, rfl, p, _, _, _, rfl, rfl, SqL.of hpr, rfl, rfl, _, rfl, ite2 (fun _ => ?_) (fun _ => ⟨b1, h1, fl, fv, fp, _, _, o3, rfl, W3, ok3, by omega, eb, er, el, hr3, ofl, nfl, hfl, pf, by omega, fin⟩)⟩
      refine ⟨_, rfl, p, _, _, _, rfl, rfl, SqL.of hpr, rfl, _, rfl, a, _, _, _, rfl, rfl, SqL.of W3.b.ob.2, rfl, by cases rd.ending <;> rfl, _, rfl, ite2 (fun _ => ?_) (fun _ => ⟨b1, h1, fl, fv, fp, _, _, o3, rfl, W3, ok3, by omega, eb, er, el, hr3, ofl, nfl, hfl, pf, by omega, fin⟩)⟩
      refine ⟨_, rfl, p, _, _, 4, rfl, rfl, hpr, by simp [ixN, rdF], ?_⟩
      rw [show (rdF rd (.ref ga)).set 4 (.str "settled") = rdF { rd with mood := "settled" } (.ref ga) from rfl]
      have W4 := W3.setRoad (r := { rd with mood := "settled" }) (g := .ref ga) hr3 (by rw [List.getElem?_eq_getElem ir, erp]) op hpr hg
      have k4 : Ks K H3 (upd H3 p (.lst (rdF { rd with mood := "settled" } (.ref ga)))) := Ks.updL hpr
      have nfp : fl ≠ p := fun e => by rw [← e, ofl] at op; cases op
      have hfl4 : (upd H3 p (.lst (rdF { rd with mood := "settled" } (.ref ga)))) fl = some (.lst fv) := by
        rw [upd_ne nfp]
        exact hfl
      have nrp : rL ≠ p := own_ne orL3 op (by decide)
      have hr4 : (upd H3 p (.lst (rdF { rd with mood := "settled" } (.ref ga)))) rL = some (.lst rxs) := by
        rw [upd_ne nrp]
        exact hr3
      have hp4 : (upd H3 p (.lst (rdF { rd with mood := "settled" } (.ref ga)))) p = some (.lst (rdF { rd with mood := "settled" } (.ref ga))) := upd_same
      have gq4 := k4 _ _ gq
      refine ⟨_, rfl, _, rfl, p, _, _, _, rfl, rfl, SqL.of hp4, rfl, _, rfl, p, _, _, _, rfl, rfl, SqL.of hp4, rfl, ga, _, _, _, rfl, rfl, gq4, rfl, sl, fun t1 nt1 => ?_⟩
      have sa := same_upd (o := (HO.tup [V.str rd.l, V.int rd.standing.l])) nt1
      refine ⟨_, rfl, p, _, _, _, rfl, rfl, SqL.of (sa _ _ hp4), rfl, _, rfl, p, _, _, _, rfl, rfl, SqL.of (sa _ _ hp4), rfl, ga, _, _, _, rfl, rfl, Ks.same sa _ _ gq4, rfl, sl, fun t2 nt2 => ?_⟩
      have sb := same_upd (o := (HO.tup [V.str rd.r, V.int rd.standing.r])) nt2
      refine ⟨sl, fun tl ntl => ?_⟩
      have sc := same_upd (o := HO.lst [V.ref t1, V.ref t2]) ntl
      have hflc := sc _ _ (sb _ _ (sa _ _ hfl4))
      have lfv := paired_len pf
      refine ⟨fl, tl, fv, _, rfl, rfl, hflc, upd_same, sle (by simp only [List.length_cons, List.length_nil]; have := ok.roadsN; omega), fun nf nnf => ?_⟩
      have sd := same_upd (o := HO.lst (fv ++ [V.ref t1, V.ref t2])) nnf
      have s45 := ((sa.trans sb).trans sc).trans sd
      have W5 := W4.same s45
      have k35 := k4.trans (Ks.same (K := K) s45)
      have onf : o3 nf = none := W4.dom.free (((sa.trans sb).trans sc).free nnf)
      have nnfH : H nf = none := W4.ef.free (((sa.trans sb).trans sc).free nnf)
      have e1 : (upd (upd (upd (upd (upd H3 p (.lst (rdF { rd with mood := "settled" } (.ref ga)))) t1 (.tup [V.str rd.l, V.int rd.standing.l])) t2 (.tup [V.str rd.r, V.int rd.standing.r])) tl (.lst [V.ref t1, V.ref t2])) nf (.lst (fv ++ [V.ref t1, V.ref t2]))) t1 = some (HO.tup [V.str rd.l, V.int rd.standing.l]) := ((sb.trans sc).trans sd) _ _ upd_same
      have e2 : (upd (upd (upd (upd (upd H3 p (.lst (rdF { rd with mood := "settled" } (.ref ga)))) t1 (.tup [V.str rd.l, V.int rd.standing.l])) t2 (.tup [V.str rd.r, V.int rd.standing.r])) tl (.lst [V.ref t1, V.ref t2])) nf (.lst (fv ++ [V.ref t1, V.ref t2]))) t2 = some (HO.tup [V.str rd.r, V.int rd.standing.r]) := (sc.trans sd) _ _ upd_same
      have hnf5 : (upd (upd (upd (upd (upd H3 p (.lst (rdF { rd with mood := "settled" } (.ref ga)))) t1 (.tup [V.str rd.l, V.int rd.standing.l])) t2 (.tup [V.str rd.r, V.int rd.standing.r])) tl (.lst [V.ref t1, V.ref t2])) nf (.lst (fv ++ [V.ref t1, V.ref t2]))) nf = some (.lst (fv ++ [V.ref t1, V.ref t2])) := upd_same
      have pf5 : Paired (IsPay K (upd (upd (upd (upd (upd H3 p (.lst (rdF { rd with mood := "settled" } (.ref ga)))) t1 (.tup [V.str rd.l, V.int rd.standing.l])) t2 (.tup [V.str rd.r, V.int rd.standing.r])) tl (.lst [V.ref t1, V.ref t2])) nf (.lst (fv ++ [V.ref t1, V.ref t2])))) (fv ++ [V.ref t1, V.ref t2]) (fp ++ [(rd.l, rd.standing.l), (rd.r, rd.standing.r)]) := paired_append (paired_imp (fun _ _ z => IsPay.mono (K := K) k35 z) pf) (.cons ⟨t1, rfl, SqT.of e1⟩ (.cons ⟨t2, rfl, SqT.of e2⟩ .nil))
      have hp5 := s45 _ _ hp4
      have hr5 := s45 _ _ hr4
      have gq5 := Ks.same (K := K) s45 _ _ gq4
      have gqb5 := k35 _ _ gqb
      have gp5 := paired_imp (fun _ _ z => IsLK.mono (K := K) k35 z) gp
      obtain ⟨ohl, hxs, hhx, ph⟩ := W5.b.held
      refine ⟨_, rfl, a, _, _, _, rfl, rfl, SqL.of W5.b.ob.2, rfl, ?_⟩
      refine ⟨_, rfl, p, _, _, _, rfl, rfl, SqL.of hp5, rfl, ga, _, _, _, rfl, rfl, gq5, rfl, gb, rfl, ⟨_, gqb5⟩, fun D nD => lc_tup (xs := gxs) (fun j H6 => Same (upd (upd (upd (upd (upd H3 p (.lst (rdF { rd with mood := "settled" } (.ref ga)))) t1 (.tup [V.str rd.l, V.int rd.standing.l])) t2 (.tup [V.str rd.r, V.int rd.standing.r])) tl (.lst [V.ref t1, V.ref t2])) nf (.lst (fv ++ [V.ref t1, V.ref t2]))) H6 ∧ ∃ vs, H6 D = some (.lst vs) ∧ Paired (IsHL K H6) vs ((rd.standing.lks.take j).map fun k => (0 + (i : Int), k))) ⟨same_upd nD, [], upd_same, .nil⟩ (fun j H6 _ h6 => Ks.same h6.1 _ _ gqb5) (fun j x H6 hj h6 => ?_) (fun H6 h6 => ?_)⟩
      · obtain ⟨s6, vs, hD, pv⟩ := h6
        obtain ⟨lk, hlk, b', rfl, hb'⟩ := paired_get gp5 hj
        refine ⟨rfl, _, rfl, _, rfl, sl, fun tt ntt => ⟨vs, (same_upd ntt) _ _ hD, slt ?_, fun c' y e => ?_, vs ++ [.ref tt], upd_same, ?_⟩⟩
        · have := paired_len pv
          rw [List.length_map, List.length_take] at this
          have := rdm.2.2.2.2.2.2.len
          omega
        · rw [upd_ne (ne_of_none e nD)]
          exact (same_upd ntt) _ _ (s6 _ _ e)
        · have kq : Ks K H6 (upd (upd H6 tt (.tup [V.int (0 + (i : Int)), .ref b'])) D (.lst (vs ++ [.ref tt]))) := (Ks.same (same_upd ntt)).trans (Ks.updL ((same_upd ntt) _ _ hD))
          rw [take_succ_of hlk, List.map_append]
          exact paired_append (paired_imp (fun _ _ z => isHL_mono kq z) pv) (.cons ⟨tt, b', rfl, (Ks.updL ((same_upd ntt) _ _ hD)) _ _ (SqT.of upd_same), kq _ _ (Ks.same s6 _ _ hb')⟩ .nil)
      · obtain ⟨s6, vs, hD, pv⟩ := h6
        rw [paired_len gp5, List.take_length] at pv
        have W6 := W5.same s6
        have lh : hxs.length = b1.held.length := paired_len ph
        have lv := paired_len pv
        rw [List.length_map] at lv
        have l30 := rdm.2.2.2.2.2.2.len
        have hN := ok.heldN
        have rN := ok.roadsN
        refine ⟨h1, D, hxs, vs, rfl, rfl, s6 _ _ hhx, hD, sle (by omega), fun pc npc => ?_⟩
        have s7 := same_upd (o := HO.lst (hxs ++ vs)) npc
        have W7 := W6.same s7
        have k57 := (Ks.same (K := K) s6).trans (Ks.same s7)
        have opc : o3 pc = none := W6.dom.free npc
        have W8 := W7.own (p := pc) 5 (W6.ef.free npc) upd_same opc
        have ph7 : Paired (IsHL K (upd H6 pc (.lst (hxs ++ vs)))) (hxs ++ vs) (b1.held ++ rd.standing.lks.map fun k => (0 + (i : Int), k)) := paired_append (paired_imp (fun _ _ z => isHL_mono k57 z) ph) (paired_imp (fun _ _ z => isHL_mono (Ks.same (K := K) s7) z) pv)
        have W9 := W8.setOb b1.clock pc (b1.held ++ rd.standing.lks.map fun k => (0 + (i : Int), k)) ⟨take1_same, _, upd_same, ph7⟩
        refine ⟨_, rfl, a, _, _, 5, rfl, rfl, W7.b.ob.2, by simp [ixN], ?_⟩
        have k8 : Ks K _ (upd (upd H6 pc (.lst (hxs ++ vs))) a (.lst [.int b1.clock, .int b1.long, .ref bD, .ref rL, .ref sD, .ref pc, .ref wL, .ref gD])) := Ks.updL W7.b.ob.2
        have nfa : nf ≠ a := fun e => by have z := W7.b.ob.1; rw [← e, onf] at z; cases z
        have nfpc : nf ≠ pc := ne_of_none (s6 _ _ hnf5) npc
        have nra : rL ≠ a := own_ne orL3 W3.b.ob.1 (by decide)
        have okr : ∀ r ∈ b1.roads.set i { rd with mood := "settled" }, r.l ∈ b1.bags.map (·.1) ∧ r.r ∈ b1.bags.map (·.1) ∧ NameOk r.l ∧ NameOk r.r ∧ 0 ≤ r.one ∧ 0 ≤ r.other ∧ r.standing.ok := fun r hr => by
          rcases List.mem_or_eq_of_mem_set hr with h | rfl
          · exact ok3.road r h
          · exact rdm
        have okm : ∀ r ∈ b1.roads.set i { rd with mood := "settled" }, PyData.strOk r.mood = true := fun r hr => by
          rcases List.mem_or_eq_of_mem_set hr with h | rfl
          · exact ok3.mood r h
          · exact (by decide +kernel : PyData.strOk "settled" = true)
        have lset : (b1.roads.set i { rd with mood := "settled" }).length = b1.roads.length := List.length_set ..
        have hN3 : (b1.held ++ rd.standing.lks.map fun k => (0 + (i : Int), k)).length ≤ b.held.length + 30 * (i + 1) := by
          rw [List.length_append, List.length_map]
          omega
        refine ⟨_, pc, nf, fv ++ [V.ref t1, V.ref t2], fp ++ [(rd.l, rd.standing.l), (rd.r, rd.standing.r)], _, _, take1 o3 pc (3, 5), rfl, W9, ⟨hn, ok3.clock, ok3.bags, by rw [lset]; exact ok3.roadsN, ok3.seenN, by show (b1.held ++ _).length ≤ _; omega, ok3.rowsN, okr, fun x hx => ?_, ok3.deeds, ok3.pos, okm⟩, hN3, eb, er, by rw [lset]; exact el, ?_, ?_, nnfH, ?_, paired_imp (fun _ _ z => IsPay.mono (K := K) (k57.trans k8) z) pf5, by rw [List.length_append]; simp only [List.length_cons, List.length_nil]; omega, fun q hq => ?_⟩
        · show 0 ≤ x.1 ∧ x.1.toNat < (b1.roads.set i { rd with mood := "settled" }).length ∧ x.2.ok
          rw [lset]
          rcases List.mem_append.mp hx with hx | hx
          · exact ok3.held x hx
          · obtain ⟨k, hk, rfl⟩ := List.mem_map.mp hx
            refine ⟨by show 0 ≤ 0 + (i : Int); omega, by show (0 + (i : Int)).toNat < _; omega, rdm.2.2.2.2.2.2.lk k hk⟩
        · show upd (upd H6 pc _) a _ rL = _
          rw [upd_ne nra]
          exact s7 _ _ (s6 _ _ hr5)
        · rw [take1_ne nfpc]
          exact onf
        · show upd (upd H6 pc _) a _ nf = _
          rw [upd_ne nfa]
          exact s7 _ _ (s6 _ _ hnf5)
        · rcases List.mem_append.mp hq with hq | hq
          · exact fin q hq
          · rw [← eb]
            have sto := rdm.2.2.2.2.2.2
            rcases List.mem_cons.mp hq with rfl | hq
            · exact ⟨rdm.1, sto.l⟩
            · rw [List.mem_singleton.mp hq]
              exact ⟨rdm.2.1, sto.r⟩
    · obtain ⟨b1, h1, fl, fv, fp, y2, y3, o3, rfl, W3, ok3, hl3, eb, er, el, hr3, ofl, nfl, hfl, pf, lfp, fin⟩ := h3
      have rN := ok.roadsN
      have hN := ok.heldN
      have orL3 := W3.b.roads.1
      refine ⟨Nat.zero_le _, fun st nst => ?_⟩
      have s1 := same_upd (o := HO.lst []) nst
      have W3a := W3.same s1
      have ost := W3.dom.free nst
      have nstH := W3.ef.free nst
      have nstfl : st ≠ fl := (ne_of_none hfl nst).symm
      obtain ⟨ohl, hxs, hhx, ph⟩ := W3a.b.held
      refine ⟨_, rfl, a, _, _, _, rfl, rfl, SqL.of W3a.b.ob.2, rfl, h1, hxs, b1.held, rfl, SqL.of hhx, ph, fun ys sp py nsp => ?_⟩
      have s2 := same_upd (H := upd H3 st (.lst [])) (o := HO.lst ys) nsp
      have W3b := W3a.same s2
      have nspfl : sp ≠ fl := (ne_of_none (s1 _ _ hfl) nsp).symm
      have nspst : sp ≠ st := fun e => by rw [e, upd_same] at nsp; cases nsp
      have s12 := s1.trans s2
      have py2 := paired_imp (fun _ _ z => isHL_mono (Ks.same (K := K) s2) z) py
      refine ⟨sp, rfl, ⟨_, SqL.of upd_same⟩, for_list (xs := ys) (fun i σ H4 => ∃ (fv4 : List V) (fp4 : List Pay) (lv4 : List V) (lp4 : List HL) (z2 z3 z5 z6 z7 : Option V), σ = [some (.ref a), some (.ref fl), z2, z3, some (.ref st), z5, z6, z7, none, none] ∧ Bw P w K o H o3 H4 a b1 n bD rL sD h1 wL gD ∧ H4 rL = some (.lst rxs) ∧ H4 sp = some (.lst ys) ∧ H4 fl = some (.lst fv4) ∧ Paired (IsPay K H4) fv4 fp4 ∧ fp4.length ≤ 2 * n + i ∧ (∀ p ∈ fp4, p.1 ∈ b.bags.map (·.1) ∧ 0 ≤ p.2) ∧ H4 st = some (.lst lv4) ∧ Paired (IsHL K H4) lv4 lp4 ∧ lp4.length ≤ i ∧ (∀ x ∈ lp4, 0 ≤ x.1 ∧ x.1.toNat < b1.roads.length ∧ x.2.ok) ∧ Paired (IsHL K H4) ys (b1.held.mergeSort hle))
        ⟨fv, fp, [], [], _, _, none, none, none, rfl, W3b, s12 _ _ hr3, upd_same, s12 _ _ hfl, paired_imp (fun _ _ z => IsPay.mono (K := K) (Ks.same s12) z) pf, by omega, fin, s2 _ _ upd_same, .nil, Nat.le_refl _, fun _ z => (List.not_mem_nil z).elim, py2⟩ (fun i σ H4 _ h4 => ?_) (fun i v σ H4 hi h4 => ?_) (fun σ H4 h4 => ?_)⟩
      · obtain ⟨_, _, _, _, _, _, _, _, _, _, _, _, h4, _⟩ := h4
        exact SqL.of h4
      · obtain ⟨fv4, fp4, lv4, lp4, z2, z3, z5, z6, z7, rfl, W4, hr4, hsp4, hfl4, pf4, lf4, fin4, hst4, pl4, ll4, lin4, py4⟩ := h4
        obtain ⟨x, hx, q, la, rfl, hq, hla⟩ := paired_get py4 hi
        have xm := List.mem_of_getElem? hx
        rw [List.mem_mergeSort] at xm
        have xin := ok3.held x xm
        have ilt := (List.getElem?_eq_some_iff.mp hx).1
        rw [List.length_mergeSort] at ilt
        have lfv4 := paired_len pf4
        have llv4 := paired_len pl4
        obtain ⟨_, rxs4, hrx4, _, pr4⟩ := W4.b.roads
        obtain rfl : rxs = rxs4 := HO.lst.inj (Option.some.inj (hr4.symm.trans hrx4))
        have xl : x.1.toNat < rxs.length := by rw [paired_len pr4]; exact xin.2.1
        obtain ⟨rd, hrd, p, g, erp, op, hpr, hg⟩ := paired_get pr4 (List.getElem?_eq_getElem xl)
        have rdm := ok3.road rd (List.mem_of_getElem? hrd)
        have at3 : atI rxs x.1 = some (.ref p) := atI_of xin.1 (by rw [List.getElem?_eq_getElem xl, erp])
        refine ⟨q, _, rfl, hq, rfl, _, _, rfl, _, _, rfl, rfl, ?_⟩
        refine ⟨_, rfl, a, _, _, _, rfl, rfl, SqL.of W4.b.ob.2, rfl, _, rfl, rL, _, _, _, rfl, rfl, SqL.of hr4, at3, p, _, _, _, rfl, rfl, SqL.of hpr, rfl, _, rfl, a, _, _, _, rfl, rfl, SqL.of W4.b.ob.2, rfl, _, rfl, rL, _, _, _, rfl, rfl, SqL.of hr4, at3, p, _, _, _, rfl, rfl, SqL.of hpr, rfl, sl, fun hl nhl => ?_⟩
        have sh := same_upd (o := HO.lst [V.str rd.l, V.str rd.r]) nhl
        have hla5 := Ks.same (K := K) sh _ _ hla
        have hands : ∀ G : Int, (G = 0 ∨ G = 1) → ∃ z : Str, atI [V.str rd.l, V.str rd.r] G = some (.str z) ∧ z ∈ b.bags.map (·.1) := fun G hG => by
          rw [← eb]
          rcases hG with rfl | rfl
          · exact ⟨_, rfl, rdm.1⟩
          · exact ⟨_, rfl, rdm.2.1⟩
        refine ⟨_, rfl, la, _, _, _, rfl, rfl, hla5, rfl, rfl, .inr ⟨_, rfl, ?_⟩⟩
        have G01 : (if decide (V.str x.2.gv = V.str ("right" : Str)) = true then (1 : Int) else 0) = 0 ∨ (if decide (V.str x.2.gv = V.str ("right" : Str)) = true then (1 : Int) else 0) = 1 := by
          split
          · exact .inr rfl
          · exact .inl rfl
        generalize hG : (if decide (V.str x.2.gv = V.str ("right" : Str)) = true then (1 : Int) else 0) = G at G01 ⊢
        have B5 := W4.b.fx (Fx.same sh)
        obtain ⟨_, kvs, hkv, pkv⟩ := B5.seen
        refine ⟨_, rfl, la, _, _, _, rfl, rfl, hla5, rfl, _, rfl, a, _, _, _, rfl, rfl, SqL.of B5.ob.2, rfl, sD, _, rfl, DGet.k (k := Sum.inl x.2.se) hkv, _, rfl, ?_⟩
        rcases val_seen x.2.se pkv with ⟨_, ev⟩ | ⟨e, pq, _, ev, hpq⟩
        · rw [ev]
          refine iteF ?_
          refine ⟨_, rfl, a, _, _, _, rfl, rfl, SqL.of (sh _ _ W4.b.ob.2), rfl, _, rfl, la, _, _, _, rfl, rfl, hla5, rfl, _, _, rfl, rfl, _, rfl, ite2 (fun _ => ?_) (fun _ => ?_)⟩
          · obtain ⟨z, atz, zin⟩ := hands G G01
            refine ⟨_, rfl, .inl ⟨rfl, _, SqL.of (sh _ _ hfl4)⟩, _, rfl, _, rfl, hl, _, _, _, rfl, rfl, SqL.of upd_same, atz, _, rfl, la, _, _, _, rfl, rfl, hla5, rfl, sl, fun tt ntt => ?_⟩
            have st2 := same_upd (o := HO.tup [V.str z, V.int x.2.am]) ntt
            have hfl6 := st2 _ _ (sh _ _ hfl4)
            have kl : Ks K _ (upd (upd (upd H4 hl (.lst [V.str rd.l, V.str rd.r])) tt (.tup [V.str z, V.int x.2.am])) fl (.lst (fv4 ++ [.ref tt]))) := Ks.updL hfl6
            have kall := ((Ks.same (K := K) sh).trans (Ks.same st2)).trans kl
            refine ⟨fl, fv4, _, rfl, rfl, hfl6, slt (by omega), fv4 ++ [.ref tt], fp4 ++ [(z, x.2.am)], lv4, lp4, _, _, _, _, _, rfl, ((W4.same sh).same st2).tmp nfl ofl kl, ?_, ?_, upd_same, paired_append (paired_imp (fun _ _ z => IsPay.mono (K := K) kall z) pf4) (.cons ⟨tt, rfl, kl _ _ (SqT.of upd_same)⟩ .nil), by rw [List.length_append]; simp only [List.length_cons, List.length_nil]; omega, fun q hq => ?_, ?_, paired_imp (fun _ _ z => isHL_mono kall z) pl4, by omega, lin4, paired_imp (fun _ _ z => isHL_mono kall z) py4⟩
            · rw [upd_ne (own_ne_none orL3 ofl)]
              exact st2 _ _ (sh _ _ hr4)
            · rw [upd_ne nspfl]
              exact st2 _ _ (sh _ _ hsp4)
            · rcases List.mem_append.mp hq with hq | hq
              · exact fin4 q hq
              · rw [List.mem_singleton.mp hq]
                exact ⟨zin, by show 0 ≤ x.2.am; have := xin.2.2.2.2.1; omega⟩
            · rw [upd_ne nstfl]
              exact st2 _ _ (sh _ _ hst4)
          · refine ⟨_, rfl, .inl ⟨rfl, _, SqL.of (sh _ _ hst4)⟩, _, rfl, _, rfl, sl, fun tt ntt => ?_⟩
            have st2 := same_upd (o := HO.tup [V.int x.1, V.ref la]) ntt
            have hst6 := st2 _ _ (sh _ _ hst4)
            have kl : Ks K _ (upd (upd (upd H4 hl (.lst [V.str rd.l, V.str rd.r])) tt (.tup [V.int x.1, V.ref la])) st (.lst (lv4 ++ [.ref tt]))) := Ks.updL hst6
            have kall := ((Ks.same (K := K) sh).trans (Ks.same st2)).trans kl
            refine ⟨st, lv4, _, rfl, rfl, hst6, slt (by omega), fv4, fp4, lv4 ++ [.ref tt], lp4 ++ [x], _, _, _, _, _, rfl, ((W4.same sh).same st2).tmp nstH ost kl, ?_, ?_, ?_, paired_imp (fun _ _ z => IsPay.mono (K := K) kall z) pf4, by omega, fin4, upd_same, paired_append (paired_imp (fun _ _ z => isHL_mono kall z) pl4) (.cons ⟨tt, la, rfl, kl _ _ (SqT.of upd_same), kl _ _ (Ks.same st2 _ _ hla5)⟩ .nil), by rw [List.length_append]; simp only [List.length_cons, List.length_nil]; omega, fun y hy => ?_, paired_imp (fun _ _ z => isHL_mono kall z) py4⟩
            · rw [upd_ne (own_ne_none orL3 ost)]
              exact st2 _ _ (sh _ _ hr4)
            · rw [upd_ne nspst]
              exact st2 _ _ (sh _ _ hsp4)
            · rw [upd_ne nstfl.symm]
              exact st2 _ _ (sh _ _ hfl4)
            · rcases List.mem_append.mp hy with hy | hy
              · exact lin4 y hy
              · rw [List.mem_singleton.mp hy]
                exact xin
        · rw [ev]
          refine iteT ?_
          refine ⟨_, rfl, a, _, _, _, rfl, rfl, SqL.of B5.ob.2, rfl, _, rfl, la, _, _, _, rfl, rfl, hla5, rfl, sD, _, rfl, ev ▸ DGet.k (k := Sum.inl x.2.se) hkv, pq, _, _, _, rfl, rfl, hpq, rfl, _, rfl, la, _, _, _, rfl, rfl, hla5, rfl, _, _, rfl, rfl, _, rfl, ite2 (fun _ => ?_) (fun _ => ?_)⟩
          · obtain ⟨z, atz, zin⟩ := hands (1 - G) (by omega)
            refine ⟨_, rfl, .inl ⟨rfl, _, SqL.of (sh _ _ hfl4)⟩, _, rfl, _, rfl, _, _, rfl, rfl, hl, _, _, _, rfl, rfl, SqL.of upd_same, atz, _, rfl, la, _, _, _, rfl, rfl, hla5, rfl, sl, fun tt ntt => ?_⟩
            have st2 := same_upd (o := HO.tup [V.str z, V.int x.2.am]) ntt
            have hfl6 := st2 _ _ (sh _ _ hfl4)
            have kl : Ks K _ (upd (upd (upd H4 hl (.lst [V.str rd.l, V.str rd.r])) tt (.tup [V.str z, V.int x.2.am])) fl (.lst (fv4 ++ [.ref tt]))) := Ks.updL hfl6
            have kall := ((Ks.same (K := K) sh).trans (Ks.same st2)).trans kl
            refine ⟨fl, fv4, _, rfl, rfl, hfl6, slt (by omega), fv4 ++ [.ref tt], fp4 ++ [(z, x.2.am)], lv4, lp4, _, _, _, _, _, rfl, ((W4.same sh).same st2).tmp nfl ofl kl, ?_, ?_, upd_same, paired_append (paired_imp (fun _ _ z => IsPay.mono (K := K) kall z) pf4) (.cons ⟨tt, rfl, kl _ _ (SqT.of upd_same)⟩ .nil), by rw [List.length_append]; simp only [List.length_cons, List.length_nil]; omega, fun q hq => ?_, ?_, paired_imp (fun _ _ z => isHL_mono kall z) pl4, by omega, lin4, paired_imp (fun _ _ z => isHL_mono kall z) py4⟩
            · rw [upd_ne (own_ne_none orL3 ofl)]
              exact st2 _ _ (sh _ _ hr4)
            · rw [upd_ne nspfl]
              exact st2 _ _ (sh _ _ hsp4)
            · rcases List.mem_append.mp hq with hq | hq
              · exact fin4 q hq
              · rw [List.mem_singleton.mp hq]
                exact ⟨zin, by show 0 ≤ x.2.am; have := xin.2.2.2.2.1; omega⟩
            · rw [upd_ne nstfl]
              exact st2 _ _ (sh _ _ hst4)
          · skip
            refine ⟨_, rfl, a, _, _, _, rfl, rfl, SqL.of (sh _ _ W4.b.ob.2), rfl, _, rfl, la, _, _, _, rfl, rfl, hla5, rfl, _, _, rfl, rfl, _, rfl, ite2 (fun _ => ?_) (fun _ => ?_)⟩
            · obtain ⟨z, atz, zin⟩ := hands G G01
              refine ⟨_, rfl, .inl ⟨rfl, _, SqL.of (sh _ _ hfl4)⟩, _, rfl, _, rfl, hl, _, _, _, rfl, rfl, SqL.of upd_same, atz, _, rfl, la, _, _, _, rfl, rfl, hla5, rfl, sl, fun tt ntt => ?_⟩
              have st2 := same_upd (o := HO.tup [V.str z, V.int x.2.am]) ntt
              have hfl6 := st2 _ _ (sh _ _ hfl4)
              have kl : Ks K _ (upd (upd (upd H4 hl (.lst [V.str rd.l, V.str rd.r])) tt (.tup [V.str z, V.int x.2.am])) fl (.lst (fv4 ++ [.ref tt]))) := Ks.updL hfl6
              have kall := ((Ks.same (K := K) sh).trans (Ks.same st2)).trans kl
              refine ⟨fl, fv4, _, rfl, rfl, hfl6, slt (by omega), fv4 ++ [.ref tt], fp4 ++ [(z, x.2.am)], lv4, lp4, _, _, _, _, _, rfl, ((W4.same sh).same st2).tmp nfl ofl kl, ?_, ?_, upd_same, paired_append (paired_imp (fun _ _ z => IsPay.mono (K := K) kall z) pf4) (.cons ⟨tt, rfl, kl _ _ (SqT.of upd_same)⟩ .nil), by rw [List.length_append]; simp only [List.length_cons, List.length_nil]; omega, fun q hq => ?_, ?_, paired_imp (fun _ _ z => isHL_mono kall z) pl4, by omega, lin4, paired_imp (fun _ _ z => isHL_mono kall z) py4⟩
              · rw [upd_ne (own_ne_none orL3 ofl)]
                exact st2 _ _ (sh _ _ hr4)
              · rw [upd_ne nspfl]
                exact st2 _ _ (sh _ _ hsp4)
              · rcases List.mem_append.mp hq with hq | hq
                · exact fin4 q hq
                · rw [List.mem_singleton.mp hq]
                  exact ⟨zin, by show 0 ≤ x.2.am; have := xin.2.2.2.2.1; omega⟩
              · rw [upd_ne nstfl]
                exact st2 _ _ (sh _ _ hst4)
            · refine ⟨_, rfl, .inl ⟨rfl, _, SqL.of (sh _ _ hst4)⟩, _, rfl, _, rfl, sl, fun tt ntt => ?_⟩
              have st2 := same_upd (o := HO.tup [V.int x.1, V.ref la]) ntt
              have hst6 := st2 _ _ (sh _ _ hst4)
              have kl : Ks K _ (upd (upd (upd H4 hl (.lst [V.str rd.l, V.str rd.r])) tt (.tup [V.int x.1, V.ref la])) st (.lst (lv4 ++ [.ref tt]))) := Ks.updL hst6
              have kall := ((Ks.same (K := K) sh).trans (Ks.same st2)).trans kl
              refine ⟨st, lv4, _, rfl, rfl, hst6, slt (by omega), fv4, fp4, lv4 ++ [.ref tt], lp4 ++ [x], _, _, _, _, _, rfl, ((W4.same sh).same st2).tmp nstH ost kl, ?_, ?_, ?_, paired_imp (fun _ _ z => IsPay.mono (K := K) kall z) pf4, by omega, fin4, upd_same, paired_append (paired_imp (fun _ _ z => isHL_mono kall z) pl4) (.cons ⟨tt, la, rfl, kl _ _ (SqT.of upd_same), kl _ _ (Ks.same st2 _ _ hla5)⟩ .nil), by rw [List.length_append]; simp only [List.length_cons, List.length_nil]; omega, fun y hy => ?_, paired_imp (fun _ _ z => isHL_mono kall z) py4⟩
              · rw [upd_ne (own_ne_none orL3 ost)]
                exact st2 _ _ (sh _ _ hr4)
              · rw [upd_ne nspst]
                exact st2 _ _ (sh _ _ hsp4)
              · rw [upd_ne nstfl.symm]
                exact st2 _ _ (sh _ _ hfl4)
              · rcases List.mem_append.mp hy with hy | hy
                · exact lin4 y hy
                · rw [List.mem_singleton.mp hy]
                  exact xin
      · obtain ⟨fv4, fp4, lv4, lp4, z2, z3, z5, z6, z7, rfl, W4, hr4, hsp4, hfl4, pf4, lf4, fin4, hst4, pl4, ll4, lin4, py4⟩ := h4
        have lys : ys.length = b1.held.length := by rw [paired_len py2, List.length_mergeSort]
        have W5 := W4.own (p := st) 5 nstH hst4 ost
        have W6 := W5.setOb b1.clock st lp4 ⟨take1_same, lv4, hst4, pl4⟩
        refine ⟨_, rfl, _, rfl, a, _, _, 5, rfl, rfl, W4.b.ob.2, by simp [ixN], ?_⟩
        have ok6 : ({ b1 with clock := b1.clock, held := lp4 } : Bk).ok (n + 1) := ⟨hn, ok3.clock, ok3.bags, ok3.roadsN, ok3.seenN, by show lp4.length ≤ _; omega, ok3.rowsN, ok3.road, lin4, ok3.deeds, ok3.pos, ok3.mood⟩
        have k6 : Ks K H4 (upd H4 a (.lst [.int b1.clock, .int b1.long, .ref bD, .ref rL, .ref sD, .ref st, .ref wL, .ref gD])) := Ks.updL W4.b.ob.2
        have nfa : fl ≠ a := fun e => by have z := W4.b.ob.1; rw [← e, ofl] at z; cases z
        have hfl6 : upd H4 a (.lst [.int b1.clock, .int b1.long, .ref bD, .ref rL, .ref sD, .ref st, .ref wL, .ref gD]) fl = some (.lst fv4) := by
          rw [upd_ne nfa]
          exact hfl4
        have pf6 := paired_imp (fun _ _ z => IsPay.mono (K := K) k6 z) pf4
        have lfv4 := paired_len pf4
        refine ⟨_, rfl, fl, rfl, ⟨_, SqL.of hfl6⟩, fun D nD => lc_list (xs := fv4) (fun i H7 => Same (upd H4 a (.lst [.int b1.clock, .int b1.long, .ref bD, .ref rL, .ref sD, .ref st, .ref wL, .ref gD])) H7 ∧ ∃ vs ps, H7 D = some (.lst vs) ∧ Paired (IsPay K H7) vs ps ∧ ps.length ≤ i ∧ ∀ p ∈ ps, p.1 ∈ b.bags.map (·.1) ∧ 0 ≤ p.2) ⟨same_upd nD, [], [], upd_same, .nil, Nat.le_refl _, fun _ z => (List.not_mem_nil z).elim⟩ (fun i H7 _ h7 => SqL.of (h7.1 _ _ hfl6)) (fun i v H7 hi h7 => ?_) (fun H7 h7 => ?_)⟩
        · obtain ⟨s7, vs, ps, hD, pv, lp, pin⟩ := h7
          obtain ⟨p, hp, r, rfl, hr⟩ := paired_get pf6 hi
          have il := (List.getElem?_eq_some_iff.mp hi).1
          have lvs := paired_len pv
          refine ⟨r, _, rfl, Ks.same s7 _ _ hr, rfl, _, _, rfl, _, _, rfl, rfl, rfl, _, rfl, _, _, rfl, rfl, _, rfl, ite2 (fun _ => ?_) (fun _ => ⟨s7, vs, ps, hD, pv, by omega, pin⟩)⟩
          refine ⟨_, rfl, _, rfl, sl, fun tt ntt => ⟨vs, (same_upd ntt) _ _ hD, slt (by omega), fun b' y e => ?_, vs ++ [.ref tt], ps ++ [p], upd_same, ?_, by rw [List.length_append]; simp only [List.length_cons, List.length_nil]; omega, fun y hy => ?_⟩⟩
          · rw [upd_ne (ne_of_none e nD)]
            exact (same_upd ntt) _ _ (s7 _ _ e)
          · have kq : Ks K H7 (upd (upd H7 tt (.tup [V.str p.1, V.int p.2])) D (.lst (vs ++ [.ref tt]))) := (Ks.same (same_upd ntt)).trans (Ks.updL ((same_upd ntt) _ _ hD))
            exact paired_append (paired_imp (fun _ _ z => IsPay.mono (K := K) kq z) pv) (.cons ⟨tt, rfl, (Ks.updL ((same_upd ntt) _ _ hD)) _ _ (SqT.of upd_same)⟩ .nil)
          · rcases List.mem_append.mp hy with hy | hy
            · exact pin y hy
            · rw [List.mem_singleton.mp hy]
              exact fin4 p (List.mem_of_getElem? hp)
        · obtain ⟨s7, vs, ps, hD, pv, lp, pin⟩ := h7
          have W7 := W6.same s7
          have oD : (take1 o3 st (3, 5)) D = none := W6.dom.free nD
          have nDH := W6.ef.free nD
          have lvs := paired_len pv
          refine ⟨_, rfl, D, rfl, ⟨_, SqL.of hD⟩, for_list (xs := vs) (fun i σ H8 => ∃ (bb : List Pay) (z2 z3 z5 z6 z7 z8 z9 : Option V), σ = [some (.ref a), some (.ref D), z2, z3, some (.ref st), z5, z6, z7, z8, z9] ∧ Bw P w K o H (take1 o3 st (3, 5)) H8 a { b1 with clock := b1.clock, held := lp4, bags := bb } n bD rL sD st wL gD ∧ bb.map (·.1) = b.bags.map (·.1) ∧ (∀ p ∈ bb, 0 ≤ p.2) ∧ H8 D = some (.lst vs) ∧ Paired (IsPay K H8) vs ps) ⟨b1.bags, _, _, _, _, _, _, _, rfl, W7, by rw [eb], ok3.pos, hD, pv⟩ (fun i σ H8 _ h8 => ?_) (fun i v σ H8 hi h8 => ?_) (fun σ H8 h8 => ?_)⟩
          · obtain ⟨_, _, _, _, _, _, _, _, _, _, _, _, h8, _⟩ := h8
            exact SqL.of h8
          · obtain ⟨bb, z2, z3, z5, z6, z7, z8, z9, rfl, W8, ebb, bpos, hD8, pv8⟩ := h8
            obtain ⟨p, hp, r, rfl, hr⟩ := paired_get pv8 hi
            have hk := pin p (List.mem_of_getElem? hp)
            obtain ⟨i0, hv⟩ := look_of_mem (b := bb) (h := p.1) (by rw [ebb]; exact hk.1)
            have e1 := put_bag (i := i0 + p.2) hv
            have W9 := W8.setBags (setBag bb p.1 (i0 + p.2))
            have k9 := Ks.updD (K := K) (u := HO.dK (bagKV (setBag bb p.1 (i0 + p.2)))) W8.b.bags.2
            have lb : bb.length ≤ 20 := by
              rw [← List.length_map (f := (·.1)), ebb, List.length_map]
              exact ok.bags
            refine ⟨r, _, rfl, hr, rfl, _, _, rfl, _, _, rfl, rfl, ?_⟩
            refine ⟨_, rfl, a, _, _, _, rfl, rfl, SqL.of W8.b.ob.2, rfl, _, rfl, bD, _, rfl, look_some_val hv ▸ DGet.k (k := Sum.inr p.1) W8.b.bags.2, _, rfl, _, _, rfl, rfl, _, rfl, a, _, _, _, rfl, rfl, SqL.of W8.b.ob.2, rfl, _, rfl, bD, _, rfl, DPut.k (k := Sum.inr p.1) W8.b.bags.2 (slt (by show (bagKV bb).length ≤ _; unfold bagKV; rw [List.length_map]; omega)), ?_⟩
            rw [e1]
            refine ⟨_, _, _, _, _, _, _, _, rfl, W9, by rw [setBag_keys, ebb], setBag_pos (by have := look_pos bpos hv; have := hk.2; omega) bpos, ?_, paired_imp (fun _ _ z => IsPay.mono (K := K) k9 z) pv8⟩
            rw [upd_ne (own_ne_none W8.b.bags.1 oD).symm]
            exact hD8
          · obtain ⟨bb, z2, z3, z5, z6, z7, z8, z9, rfl, W8, ebb, bpos, hD8, pv8⟩ := h8
            have lb : bb.length ≤ 20 := by
              rw [← List.length_map (f := (·.1)), ebb, List.length_map]
              exact ok.bags
            have ebk : ∀ {z : Str}, z ∈ b1.bags.map (·.1) → z ∈ bb.map (·.1) := fun hz => by
              rw [ebb, ← eb]
              exact hz
            refine ⟨_, rfl, h _ _ D vs ({ b1 with clock := b1.clock, held := lp4, bags := bb } : Bk) W8.ef W8.dom ⟨⟨hn, ok3.clock, lb, ok6.roadsN, ok6.seenN, ok6.heldN, ok6.rowsN, fun r hr => ?_, lin4, ok3.deeds, bpos, ok3.mood⟩, bD, rL, sD, st, wL, gD, W8.b.mono (Nat.le_succ _)⟩ er oD hD8 (by omega)⟩
            have z := ok3.road r hr
            exact ⟨ebk z.1, ebk z.2.1, z.2.2⟩
end
end Cn
namespace Cn
open PySem PySem.Spec PyProof.Rows L2
def spDone (P : Program) (w : World) (K : PySem.W.Frag) : Sp := fun vs H Q _ => ∃ (o : Own) (a : Addr) (b : Bk) (n : Nat) (v : V) (d : Deed), vs = [.ref a, v] ∧ Dom o H ∧ BkAt P w K o H a b n ∧ n + 1 ≤ 300 ∧ IsDeed K H v d ∧ d.ok ∧
  ∀ (o' : Own) (H' : Hp) (r : V) (b' : Bk), Ef K 3 o H o' H' → Dom o' H' → BkAt P w K o' H' a b' (n + 1) → Q r H'
theorem Bk.ok.row {b : Bk} {n : Nat} (h : b.ok (n + 1)) (d : Deed) (dk : d.ok) (hr : b.rows.length ≤ n) : ({ b with rows := b.rows ++ [d] } : Bk).ok (n + 1) :=
  ⟨h.small, h.clock, h.bags, h.roadsN, h.seenN, h.heldN, by rw [List.length_append, List.length_singleton]; omega, h.road, h.held, fun x hx => by
    rcases List.mem_append.mp hx with hx | hx
    · exact h.deeds x hx
    · rw [List.mem_singleton.mp hx]
      exact dk, h.pos, h.mood⟩
section
variable {P : Program} {w : World} {K : PySem.W.Frag} {mg : Str → Option Value} {base : Heap}
abbrev n_law_done : List Str := ["_law_book_here", "_law_deed_here", "_law_due", "_law_tells", "_law_word", "_law_left", "_law_right", "_law_one", "_law_other", "_law_road"]
theorem sc_law_done : FnScope n_law_done ["_law_book_here", "_law_deed_here"] (defScope s_law_done) := ⟨rfl, rfl, rfl, by decide +kernel, rfl, by decide +kernel, by decide +kernel⟩
theorem ok_law_done (T : Tx K mg) : DefOk P w K mg base CX0 4 (He.fAd K d_law_done.at_) ["_law_book_here", "_law_deed_here"] (spDone P w K) := by
  refine mk0 (d := d_law_done) T.f_law_done rfl (fun _ _ _ _ _ _ us hl => match us, hl with | [_, _], _ => rfl) sc_law_done (fun vs H Q E h => ?_) (fun cdv A outer s H vs Q E hr h => ?_)
  · obtain ⟨_, _, _, _, _, _, rfl, _⟩ := h
    rfl
  · obtain ⟨o, a, b, n, v, d, rfl, dm, ⟨ok, bD, rL, sD, hL, wL, gD, B⟩, hn, hd, dok, h⟩ := h
    refine ⟨_, (pss_cons (ps_set (i := 2) sc_law_done.nd rfl (.inl rfl) pe_str)
      (pss_cons (ps_set (i := 3) sc_law_done.nd rfl (.inl rfl) pe_non)
      (pss_cons (ps_if (pt_cmpR op_eq (pe_ix ix_tup (pv 1) pe_int (fun _ _ => rfl)) pe_str (nomark _)) (pss_cons (ps_set (i := 2) sc_law_done.nd rfl (.inl rfl) (cD (ok_law_open_due T) T.g_law_open_due hr (pa_cons (pv 0) (pa_cons (pv 1) pa_nil))))
      (pss_one (ps_if (pt_cmpR op_eq (pv 2) pe_str (nomark _)) (pss_cons (ps_asg (pv 1) (pg_tup rfl (pgs_cons (pg_name (i := 4) sc_law_done.nd rfl (.inl rfl)) (pgs_cons (pg_name (i := 5) sc_law_done.nd rfl (.inl rfl)) (pgs_cons (pg_name (i := 6) sc_law_done.nd rfl (.inl rfl)) (pgs_cons (pg_name (i := 7) sc_law_done.nd rfl (.inl rfl)) (pgs_cons (pg_name (i := 8) sc_law_done.nd rfl (.inl rfl)) pgs_nil)))))))
      (pss_cons (ps_set (i := 3) sc_law_done.nd rfl (.inl rfl) (pe_callB call_len_seq (by rfl) T.b_len PySem.boot_len (pa_cons (pe_ix ix_list (pv 0) pe_int (fun _ _ => rfl)) pa_nil)))
      (pss_cons (ps_dput (hu1 (hu_of hr)) (pe_ix ix_list (pv 0) pe_int (fun _ _ => rfl)) (pv 5) (pe_op op_sub (pe_dget (hu1 (hu_of hr)) (pe_ix ix_list (pv 0) pe_int (fun _ _ => rfl)) (pv 5) (fun _ _ => rfl)) (pv 7)) rfl)
      (pss_cons (ps_dput (hu1 (hu_of hr)) (pe_ix ix_list (pv 0) pe_int (fun _ _ => rfl)) (pv 6) (pe_op op_sub (pe_dget (hu1 (hu_of hr)) (pe_ix ix_list (pv 0) pe_int (fun _ _ => rfl)) (pv 6) (fun _ _ => rfl)) (pv 8)) rfl)
      (pss_one (ps_expr (pe_bm PySem.F.plainAttrs_list PySem.F.slot_list_append PySem.F.type_list_append mt_append (pe_ix ix_list (pv 0) pe_int (fun _ _ => rfl)) (pa_cons (pe_lst (pa_cons (pv 5) (pa_cons (pv 6) (pa_cons (pv 7) (pa_cons (pv 8) (pa_cons pe_str (pa_cons (pe_tup (pa_cons (pv 3) (pa_cons pe_int (pa_cons (pv 7) (pa_cons (pv 8) (pa_cons (pe_tup pa_nil) pa_nil)))))) (pa_cons pe_non pa_nil)))))))) pa_nil)))))))) pss_nil))) pss_nil)
      (pss_cons (ps_if (pt_cmpR op_eq (pe_ix ix_tup (pv 1) pe_int (fun _ _ => rfl)) pe_str (nomark _)) (pss_cons (ps_set (i := 2) sc_law_done.nd rfl (.inl rfl) (cD (ok_law_tell_due T) T.g_law_tell_due hr (pa_cons (pv 0) (pa_cons (pe_ix ix_tup (pv 1) pe_int (fun _ _ => rfl)) pa_nil))))
      (pss_one (ps_if (pt_cmpR op_eq (pv 2) pe_str (nomark _)) (pss_cons (ps_set (i := 9) sc_law_done.nd rfl (.inl rfl) (pe_ix ix_list (pe_ix ix_list (pv 0) pe_int (fun _ _ => rfl)) (pe_ix ix_tup (pe_ix ix_tup (pv 1) pe_int (fun _ _ => rfl)) pe_int (fun _ _ => rfl)) (fun _ _ => rfl)))
      (pss_cons (ps_if (pt_cmpR op_eq (pe_ix ix_list (pv 9) pe_int (fun _ _ => rfl)) pe_str (nomark _)) (pss_one (ps_asg (pe_op op_add (pe_ix ix_list (pv 0) pe_int (fun _ _ => rfl)) (pe_ix ix_list (pv 0) pe_int (fun _ _ => rfl))) (pg_sub (pv 9) pe_int set_list))) pss_nil)
      (pss_cons (ps_asg pe_str (pg_sub (pv 9) pe_int set_list))
      (pss_one (ps_asg (pe_ix ix_tup (pv 1) pe_int (fun _ _ => rfl)) (pg_sub (pv 9) pe_int set_list)))))) pss_nil))) pss_nil)
      (pss_cons (ps_if (pt_cmpR op_eq (pe_ix ix_tup (pv 1) pe_int (fun _ _ => rfl)) pe_str (nomark _)) (pss_one (ps_expr (pe_dsetd (pe_ix ix_list (pv 0) pe_int (fun _ _ => rfl)) (cD (ok_seal_of T) T.g_seal_of hr (pa_cons (pe_ix ix_tup (pv 1) pe_int (fun _ _ => rfl)) pa_nil)) (pe_tup (pa_cons (pe_ix ix_list (pv 0) pe_int (fun _ _ => rfl)) (pa_cons (pe_ix ix_tup (pv 1) pe_int (fun _ _ => rfl)) pa_nil))) ⟨rfl, rfl, rfl, rfl⟩))) pss_nil)
      (pss_cons (ps_if (pt_cmpR op_eq (pe_ix ix_tup (pv 1) pe_int (fun _ _ => rfl)) pe_str (nomark _)) (pss_one (ps_set (i := 3) sc_law_done.nd rfl (.inl rfl) (cD (ok_law_turned T) T.g_law_turned hr (pa_cons (pv 0) pa_nil)))) pss_nil)
      (pss_cons (ps_if (pt_cmpR op_eq (pv 2) pe_str (nomark _)) (pss_one (ps_expr (pe_bm PySem.F.plainAttrs_list PySem.F.slot_list_append PySem.F.type_list_append mt_append (pe_ix ix_list (pv 0) pe_int (fun _ _ => rfl)) (pa_cons (pe_tup (pa_cons (pv 1) (pa_cons (pe_ifExp (pt_cmpR op_eq (pe_ix ix_tup (pv 1) pe_int (fun _ _ => rfl)) pe_str (nomark _)) (pe_callTy call_list_of (by rfl) T.b_list (by decide +kernel) (pa_cons (pv 3) pa_nil)) (pe_lst pa_nil)) pa_nil))) pa_nil)))) pss_nil)
      (pss_one (ps_ret (pe_tup (pa_cons (pv 2) (pa_cons (pv 3) pa_nil)))))))))))), ?_⟩
    have W0 := Bw.start dm B
    have rN := ok.roadsN
    have wN := ok.rowsN
    have okn : b.ok (n + 1) := ok.mono (Nat.le_succ _) hn
    cases d with
    | op l r x y =>
      obtain ⟨q, rfl, hq⟩ := id hd
      refine ⟨_, rfl, q, _, _, _, rfl, rfl, hq, rfl, rfl, _, rfl, iteT ?_⟩
      refine ⟨_, rfl, _, rfl, o, a, b, n, _, l, r, x, y, rfl, ⟨ok, bD, rL, sD, hL, wL, gD, B⟩, hd, fun H1 z s1 hz => ?_⟩
      have W1 := W0.same s1
      have hq1 := Ks.same (K := K) s1 _ _ hq
      have hd1 : IsDeed K H1 (.ref q) (.op l r x y) := IsDeed.mono (Ks.same s1) hd
      by_cases ez : z = ""
      · subst ez
        obtain ⟨nlr, ⟨i1, hi1, xi1⟩, ⟨i2, hi2, yi2⟩⟩ := hz rfl
        refine ⟨_, rfl, rfl, _, rfl, iteT ?_⟩
        refine ⟨_, rfl, q, _, rfl, hq1, rfl, _, _, rfl, _, _, rfl, _, _, rfl, _, _, rfl, _, _, rfl, rfl, ?_⟩
        obtain ⟨orL, rxs, hrx, nd, pr⟩ := W1.b.roads
        have lr : rxs.length = b.roads.length := paired_len pr
        refine ⟨_, rfl, a, _, _, _, rfl, rfl, SqL.of W1.b.ob.2, rfl, rL, _, rfl, .inl (SqL.of hrx), ?_⟩
        have lbk : (bagKV b.bags).length ≤ 20 := by unfold bagKV; rw [List.length_map]; exact ok.bags
        refine ⟨_, rfl, a, _, _, _, rfl, rfl, SqL.of W1.b.ob.2, rfl, _, rfl, bD, _, rfl, look_some_val hi1 ▸ DGet.k (k := Sum.inr l) W1.b.bags.2, _, rfl, _, _, rfl, rfl, _, rfl, a, _, _, _, rfl, rfl, SqL.of W1.b.ob.2, rfl, _, rfl, bD, _, rfl, DPut.k (k := Sum.inr l) W1.b.bags.2 (slt (by omega)), ?_⟩
        rw [put_bag (i := i1 - x) hi1]
        have W2 := W1.setBags (setBag b.bags l (i1 - x))
        obtain ⟨j2, hj2, ej⟩ : ∃ j2, look (setBag b.bags l (i1 - x)) r = some j2 ∧ j2 = i2 := ⟨i2, by rw [look_set, if_neg (fun z => nlr z.symm), hi2], rfl⟩
        have lbk2 : (bagKV (setBag b.bags l (i1 - x))).length ≤ 20 := by unfold bagKV; rw [List.length_map, setBag_len]; exact ok.bags
        refine ⟨_, rfl, a, _, _, _, rfl, rfl, SqL.of W2.b.ob.2, rfl, _, rfl, bD, _, rfl, look_some_val hj2 ▸ DGet.k (k := Sum.inr r) W2.b.bags.2, _, rfl, _, _, rfl, rfl, _, rfl, a, _, _, _, rfl, rfl, SqL.of W2.b.ob.2, rfl, _, rfl, bD, _, rfl, DPut.k (k := Sum.inr r) W2.b.bags.2 (slt (show (bagKV (setBag b.bags l (i1 - x))).length ≤ _ by omega)), ?_⟩
        rw [put_bag (i := j2 - y) hj2]
        have W3 := W2.setBags (setBag (setBag b.bags l (i1 - x)) r (j2 - y))
        have k13 := (Ks.updD (K := K) (u := HO.dK (bagKV (setBag b.bags l (i1 - x)))) W1.b.bags.2).trans (Ks.updD (K := K) (u := HO.dK (bagKV (setBag (setBag b.bags l (i1 - x)) r (j2 - y)))) W2.b.bags.2)
        have hrx3 : upd (upd H1 bD (.dK (bagKV (setBag b.bags l (i1 - x))))) bD (.dK (bagKV (setBag (setBag b.bags l (i1 - x)) r (j2 - y)))) rL = some (.lst rxs) := by
          rw [upd_ne (own_ne orL B.bags.1 (by decide)), upd_ne (own_ne orL B.bags.1 (by decide))]
          exact hrx
        refine ⟨_, rfl, a, _, _, _, rfl, rfl, SqL.of W3.b.ob.2, rfl, .inl ⟨rfl, _, SqL.of hrx3⟩, _, rfl, _, rfl, _, rfl, _, rfl, _, rfl, _, rfl, _, rfl, Nat.zero_le _, fun te nte => ⟨sl, fun tf ntf => ⟨sl, fun ln nln => ?_⟩⟩⟩
        have sa := same_upd (o := HO.tup []) nte
        have sb := same_upd (o := HO.tup [V.int rxs.length, V.int 0, V.int x, V.int y, V.ref te]) ntf
        have sc := same_upd (o := HO.lst [V.str l, V.str r, V.int x, V.int y, V.str "open", V.ref tf, V.non]) nln
        have sabc := (sa.trans sb).trans sc
        have W4 := W3.same sabc
        have nlnH : H ln = none := W3.ef.free ((sa.trans sb).free nln)
        have oln := W3.dom.free ((sa.trans sb).free nln)
        have hln := upd_same (H := upd (upd (upd (upd H1 bD (.dK (bagKV (setBag b.bags l (i1 - x))))) bD (.dK (bagKV (setBag (setBag b.bags l (i1 - x)) r (j2 - y))))) te (.tup [])) tf (.tup [V.int rxs.length, V.int 0, V.int x, V.int y, V.ref te])) (a := ln) (o := HO.lst [V.str l, V.str r, V.int x, V.int y, V.str "open", V.ref tf, V.non])
        have W5 := W4.own (p := ln) 3 nlnH hln oln
        have fst : IsST K (upd (upd (upd (upd (upd H1 bD (.dK (bagKV (setBag b.bags l (i1 - x))))) bD (.dK (bagKV (setBag (setBag b.bags l (i1 - x)) r (j2 - y))))) te (.tup [])) tf (.tup [V.int rxs.length, V.int 0, V.int x, V.int y, V.ref te])) ln (.lst [V.str l, V.str r, V.int x, V.int y, V.str "open", V.ref tf, V.non])) (.ref tf) (ST.first rxs.length x y) :=
          ⟨tf, te, [], rfl, Ks.same sc _ _ (SqT.of upd_same), Ks.same (sb.trans sc) _ _ (SqT.of upd_same), .nil⟩
        have hrx5 := sabc _ _ hrx3
        have nin : V.ref ln ∉ rxs := fun hm => by
          obtain ⟨i, hi⟩ := List.getElem?_of_mem hm
          obtain ⟨g, _, p', _, e, _, hp', _⟩ := paired_get pr hi
          obtain rfl := V.ref.inj e
          have := s1.free (H := H) (H' := H1) (l := ln)
          obtain ⟨_, z⟩ := W3.b.roads
          obtain ⟨xs', hx', _, pr'⟩ := z
          obtain rfl : rxs = xs' := HO.lst.inj (Option.some.inj (hrx3.symm.trans hx'))
          obtain ⟨g2, _, p2, _, e2, op2, _⟩ := paired_get pr' hi
          obtain rfl := V.ref.inj e2
          rw [oln] at op2
          cases op2
        have W6 := W5.addRoad (r := ⟨l, r, x, y, "open", ST.first rxs.length x y, none⟩) hrx5 ⟨ln, .ref tf, rfl, take1_same, hln, fst⟩ nin
        refine ⟨rL, rxs, _, rfl, rfl, hrx5, slt (by omega), ?_⟩
        have k6 := ((Ks.same (K := K) s1).trans k13).trans ((Ks.same sabc).trans (Ks.updL (u := HO.lst (rxs ++ [.ref ln])) hrx5))
        have hq6 := k6 _ _ hq
        have hd6 : IsDeed K _ (.ref q) (.op l r x y) := IsDeed.mono k6 hd
        have kk : ∀ {z : Str}, z ∈ b.bags.map (·.1) → z ∈ (setBag (setBag b.bags l (i1 - x)) r (j2 - y)).map (·.1) := fun hz => by rw [setBag_keys, setBag_keys]; exact hz
        have ok6 : ({ b with bags := setBag (setBag b.bags l (i1 - x)) r (j2 - y), roads := b.roads ++ [⟨l, r, x, y, "open", ST.first rxs.length x y, none⟩] } : Bk).ok (n + 1) := by
          refine ⟨hn, ok.clock, by rw [setBag_len, setBag_len]; exact ok.bags, by rw [List.length_append, List.length_singleton]; omega, okn.seenN, okn.heldN, okn.rowsN, fun u hu => ?_, fun u hu => ?_, ok.deeds, setBag_pos (by omega) (setBag_pos (by omega) ok.pos), fun u hu => ?_⟩
          · rcases List.mem_append.mp hu with hu | hu
            · have z := ok.road u hu
              exact ⟨kk z.1, kk z.2.1, z.2.2⟩
            · rw [List.mem_singleton.mp hu]
              exact ⟨kk (look_mem hi1), kk (look_mem hi2), dok.1, dok.2.1, dok.2.2.1, dok.2.2.2, first_ok (by omega) dok.2.2.1 dok.2.2.2⟩
          · obtain ⟨c1, c2, c3⟩ := ok.held u hu
            refine ⟨c1, ?_, c3⟩
            rw [List.length_append]
            omega
          · rcases List.mem_append.mp hu with hu | hu
            · exact ok.mood u hu
            · rw [List.mem_singleton.mp hu]
              exact (by decide +kernel : PyData.strOk "open" = true)
        refine ⟨_, rfl, q, _, _, _, rfl, rfl, hq6, rfl, rfl, _, rfl, iteF ?_⟩
        refine ⟨_, rfl, q, _, _, _, rfl, rfl, hq6, rfl, rfl, _, rfl, iteF ?_⟩
        refine ⟨_, rfl, q, _, _, _, rfl, rfl, hq6, rfl, rfl, _, rfl, iteF ?_⟩
        refine ⟨_, rfl, rfl, _, rfl, iteT ?_⟩
        obtain ⟨_, ws, hws, pw⟩ := W6.b.rows
        have lws := paired_len pw
        refine ⟨_, rfl, a, _, _, _, rfl, rfl, SqL.of W6.b.ob.2, rfl, .inl ⟨rfl, _, SqL.of hws⟩, _, rfl, _, rfl, q, _, _, _, rfl, rfl, hq6, rfl, rfl, _, rfl, iteF ?_⟩
        refine ⟨Nat.zero_le _, fun mm nmm => ⟨sl, fun tt ntt => ?_⟩⟩
        have y1 := same_upd (o := HO.lst []) nmm
        have y2 := same_upd (o := HO.tup [V.ref q, V.ref mm]) ntt
        have Wy := (W6.same y1).same y2
        have hd9 : IsDeed K _ (.ref q) (.op l r x y) := IsDeed.mono (Ks.same (y1.trans y2)) hd6
        have Wr := Wy.addRow (d := (.op l r x y)) (y2 _ _ (y1 _ _ hws)) ⟨tt, _, _, rfl, SqT.of upd_same, hd9⟩
        refine ⟨wL, ws, _, rfl, rfl, y2 _ _ (y1 _ _ hws), slt (by have e : ws.length = b.rows.length := lws; omega), ?_⟩
        refine ⟨_, rfl, _, rfl, sl, fun rr nrr => ?_⟩
        have Wz := Wr.same (same_upd (o := HO.tup [V.str "", V.int rxs.length]) nrr)
        exact h _ _ _ _ Wz.ef Wz.dom ⟨(ok6).row (.op l r x y) dok wN, bD, rL, sD, hL, wL, gD, Wz.b.mono (Nat.le_succ _)⟩
      · have DNE0 : ¬ V.str z = V.str "" := fun e => ez (V.str.inj e)
        refine ⟨_, rfl, rfl, _, rfl, iFe (decide_eq_false DNE0) ?_⟩
        refine ⟨_, rfl, q, _, _, _, rfl, rfl, hq1, rfl, rfl, _, rfl, iteF ?_⟩
        refine ⟨_, rfl, q, _, _, _, rfl, rfl, hq1, rfl, rfl, _, rfl, iteF ?_⟩
        refine ⟨_, rfl, q, _, _, _, rfl, rfl, hq1, rfl, rfl, _, rfl, iteF ?_⟩
        refine ⟨_, rfl, rfl, _, rfl, iFe (decide_eq_false DNE0) ?_⟩
        refine ⟨_, rfl, _, rfl, sl, fun rr nrr => ?_⟩
        have Wz := W1.same (same_upd (o := HO.tup [V.str z, V.non]) nrr)
        exact h _ _ _ _ Wz.ef Wz.dom ⟨okn, bD, rL, sD, hL, wL, gD, Wz.b.mono (Nat.le_succ _)⟩
    | tell s =>
      obtain ⟨q, g, rfl, hq, hg⟩ := id hd
      refine ⟨_, rfl, q, _, _, _, rfl, rfl, hq, rfl, rfl, _, rfl, iteF ?_⟩
      refine ⟨_, rfl, q, _, _, _, rfl, rfl, hq, rfl, rfl, _, rfl, iteT ?_⟩
      refine ⟨_, rfl, _, rfl, q, _, _, _, rfl, rfl, hq, rfl, o, a, b, n, _, s, rfl, ⟨ok, bD, rL, sD, hL, wL, gD, B⟩, hg, dok, fun H1 z s1 hz => ?_⟩
      have W1 := W0.same s1
      have hq1 := Ks.same (K := K) s1 _ _ hq
      have hg1 := IsST.mono (Ks.same (K := K) s1) hg
      by_cases ez : z = ""
      · subst ez
        have lt := hz rfl
        refine ⟨_, rfl, rfl, _, rfl, iteT ?_⟩
        obtain ⟨orL, rxs, hrx, nd, pr⟩ := W1.b.roads
        have lr : rxs.length = b.roads.length := paired_len pr
        have ir : s.ln.toNat < rxs.length := by omega
        obtain ⟨rd, hrd, p, g0, erp, op, hpr, hg0⟩ := paired_get pr (List.getElem?_eq_getElem ir)
        have rdm := ok.road rd (List.mem_of_getElem? hrd)
        have eip : rxs[s.ln.toNat]? = some (.ref p) := by rw [List.getElem?_eq_getElem ir, erp]
        obtain ⟨va, vb, vxs, rfl, vq, vqb, vp⟩ := id hg1
        have sln := ST.ok.ln dok
        refine ⟨_, rfl, a, _, _, _, rfl, rfl, SqL.of W1.b.ob.2, rfl, _, rfl, q, _, _, _, rfl, rfl, hq1, rfl, va, _, _, _, rfl, rfl, vq, rfl, rL, _, _, _, rfl, rfl, SqL.of hrx, atI_of sln eip, ?_⟩
        have fin : ∀ (H2 : Hp) (o2 : Own) (rd2 : Rd1), Bw P w K o H o2 H2 a { b with roads := b.roads.set s.ln.toNat rd2 } n bD rL sD hL wL gD → Ks K H1 H2 → (rd2.l = rd.l ∧ rd2.r = rd.r ∧ rd2.one = rd.one ∧ rd2.other = rd.other ∧ rd2.standing = s ∧ PyData.strOk rd2.mood = true) → ({ b with roads := b.roads.set s.ln.toNat rd2 } : Bk).ok (n + 1) := fun H2 o2 rd2 W2 k2 e2 => by
          have ls : (b.roads.set s.ln.toNat rd2).length = b.roads.length := List.length_set ..
          refine ⟨hn, ok.clock, ok.bags, by rw [ls]; exact okn.roadsN, okn.seenN, okn.heldN, okn.rowsN, fun u hu => ?_, fun u hu => ?_, ok.deeds, ok.pos, fun u hu => ?_⟩
          · rcases List.mem_or_eq_of_mem_set hu with hu | rfl
            · exact ok.road u hu
            · rw [e2.1, e2.2.1, e2.2.2.1, e2.2.2.2.1, e2.2.2.2.2.1]
              exact ⟨rdm.1, rdm.2.1, rdm.2.2.1, rdm.2.2.2.1, rdm.2.2.2.2.1, rdm.2.2.2.2.2.1, dok⟩
          · rw [ls]
            exact ok.held u hu
          · rcases List.mem_or_eq_of_mem_set hu with hu | rfl
            · exact ok.mood u hu
            · exact e2.2.2.2.2.2
        refine ⟨_, rfl, p, _, _, _, rfl, rfl, SqL.of hpr, rfl, rfl, _, rfl, ite2 (fun _ => ?_) (fun _ => ?_)⟩
        · skip
          refine ⟨_, rfl, a, _, _, _, rfl, rfl, SqL.of W1.b.ob.2, rfl, _, rfl, a, _, _, _, rfl, rfl, SqL.of W1.b.ob.2, rfl, _, _, rfl, rfl, _, rfl, p, _, _, 6, rfl, rfl, hpr, by simp [ixN, rdF], ?_⟩
          rw [show (rdF rd g0).set 6 ((fun i j => V.int (i + j)) b.clock b.long) = rdF { rd with ending := some (b.clock + b.long) } g0 from rfl]
          have Wa := W1.setRoad (r := { rd with ending := some (b.clock + b.long) }) (g := g0) hrx eip op hpr hg0
          have ka := Ks.updL (K := K) (u := HO.lst (rdF { rd with ending := some (b.clock + b.long) } g0)) hpr
          have hra := (Pk.at (x := HO.lst (rdF { rd with ending := some (b.clock + b.long) } g0)) op (n12 (by decide)) rL _ orL hrx).2
          have hpa := upd_same (H := H1) (a := p) (o := HO.lst (rdF { rd with ending := some (b.clock + b.long) } g0))
          refine ⟨_, rfl, p, _, _, 4, rfl, rfl, hpa, by simp [ixN, rdF], ?_⟩
          rw [show (rdF { rd with ending := some (b.clock + b.long) } g0).set 4 (.str "closing") = rdF { rd with ending := some (b.clock + b.long), mood := "closing" } g0 from rfl]
          have Wb := Wa.setRoad (i := s.ln.toNat) (r := { rd with ending := some (b.clock + b.long), mood := "closing" }) (g := g0) hra eip op hpa (IsST.mono ka hg0)
          have kb := ka.trans (Ks.updL (K := K) (u := HO.lst (rdF { rd with ending := some (b.clock + b.long), mood := "closing" } g0)) hpa)
          have hrb := (Pk.at (x := HO.lst (rdF { rd with ending := some (b.clock + b.long), mood := "closing" } g0)) op (n12 (by decide)) rL _ orL hra).2
          have hpb := upd_same (H := (upd H1 p (.lst (rdF { rd with ending := some (b.clock + b.long) } g0)))) (a := p) (o := HO.lst (rdF { rd with ending := some (b.clock + b.long), mood := "closing" } g0))
          have hqb := kb _ _ hq1
          refine ⟨_, rfl, q, _, _, _, rfl, rfl, hqb, rfl, _, rfl, p, _, _, 5, rfl, rfl, hpb, by simp [ixN, rdF], ?_⟩
          rw [show (rdF { rd with ending := some (b.clock + b.long), mood := "closing" } g0).set 5 (.ref va) = rdF { rd with ending := some (b.clock + b.long), mood := "closing", standing := s } (.ref va) from rfl]
          have Wc := Wb.setRoad (i := s.ln.toNat) (r := { rd with ending := some (b.clock + b.long), mood := "closing", standing := s }) (g := .ref va) hrb eip op hpb (IsST.mono kb hg1)
          have kc := kb.trans (Ks.updL (K := K) (u := HO.lst (rdF { rd with ending := some (b.clock + b.long), mood := "closing", standing := s } (.ref va))) hpb)
          have hqc := kc _ _ hq1
          have hdc : IsDeed K _ (.ref q) (.tell s) := IsDeed.mono ((Ks.same s1).trans kc) hd
          simp only [List.set_set] at Wc
          have okc := fin _ _ { rd with ending := some (b.clock + b.long), mood := "closing", standing := s } Wc kc ⟨rfl, rfl, rfl, rfl, rfl, by first | exact ok.mood _ (List.mem_of_getElem? hrd) | exact (by decide +kernel : PyData.strOk "closing" = true)⟩
          refine ⟨_, rfl, q, _, _, _, rfl, rfl, hqc, rfl, rfl, _, rfl, iteF ?_⟩
          refine ⟨_, rfl, q, _, _, _, rfl, rfl, hqc, rfl, rfl, _, rfl, iteF ?_⟩
          refine ⟨_, rfl, rfl, _, rfl, iteT ?_⟩
          obtain ⟨_, ws, hws, pw⟩ := Wc.b.rows
          have lws := paired_len pw
          refine ⟨_, rfl, a, _, _, _, rfl, rfl, SqL.of Wc.b.ob.2, rfl, .inl ⟨rfl, _, SqL.of hws⟩, _, rfl, _, rfl, q, _, _, _, rfl, rfl, hqc, rfl, rfl, _, rfl, iteF ?_⟩
          refine ⟨Nat.zero_le _, fun mm nmm => ⟨sl, fun tt ntt => ?_⟩⟩
          have y1 := same_upd (o := HO.lst []) nmm
          have y2 := same_upd (o := HO.tup [V.ref q, V.ref mm]) ntt
          have Wy := (Wc.same y1).same y2
          have hd9 : IsDeed K _ (.ref q) (.tell s) := IsDeed.mono (Ks.same (y1.trans y2)) hdc
          have Wr := Wy.addRow (d := (.tell s)) (y2 _ _ (y1 _ _ hws)) ⟨tt, _, _, rfl, SqT.of upd_same, hd9⟩
          refine ⟨wL, ws, _, rfl, rfl, y2 _ _ (y1 _ _ hws), slt (by have e : ws.length = b.rows.length := lws; omega), ?_⟩
          refine ⟨_, rfl, _, rfl, sl, fun rr nrr => ?_⟩
          have Wz := Wr.same (same_upd (o := HO.tup [V.str "", V.non]) nrr)
          exact h _ _ _ _ Wz.ef Wz.dom ⟨(okc).row (.tell s) dok wN, bD, rL, sD, hL, wL, gD, Wz.b.mono (Nat.le_succ _)⟩
        · skip
          have Wa := W1
          have ka := Ks.refl (K := K) (H := H1)
          have hra := hrx
          have hpa := hpr
          refine ⟨_, rfl, p, _, _, 4, rfl, rfl, hpa, by simp [ixN, rdF], ?_⟩
          rw [show (rdF rd g0).set 4 (.str "closing") = rdF { rd with mood := "closing" } g0 from rfl]
          have Wb := Wa.setRoad (i := s.ln.toNat) (r := { rd with mood := "closing" }) (g := g0) hra eip op hpa (IsST.mono ka hg0)
          have kb := ka.trans (Ks.updL (K := K) (u := HO.lst (rdF { rd with mood := "closing" } g0)) hpa)
          have hrb := (Pk.at (x := HO.lst (rdF { rd with mood := "closing" } g0)) op (n12 (by decide)) rL _ orL hra).2
          have hpb := upd_same (H := H1) (a := p) (o := HO.lst (rdF { rd with mood := "closing" } g0))
          have hqb := kb _ _ hq1
          refine ⟨_, rfl, q, _, _, _, rfl, rfl, hqb, rfl, _, rfl, p, _, _, 5, rfl, rfl, hpb, by simp [ixN, rdF], ?_⟩
          rw [show (rdF { rd with mood := "closing" } g0).set 5 (.ref va) = rdF { rd with mood := "closing", standing := s } (.ref va) from rfl]
          have Wc := Wb.setRoad (i := s.ln.toNat) (r := { rd with mood := "closing", standing := s }) (g := .ref va) hrb eip op hpb (IsST.mono kb hg1)
          have kc := kb.trans (Ks.updL (K := K) (u := HO.lst (rdF { rd with mood := "closing", standing := s } (.ref va))) hpb)
          have hqc := kc _ _ hq1
          have hdc : IsDeed K _ (.ref q) (.tell s) := IsDeed.mono ((Ks.same s1).trans kc) hd
          simp only [List.set_set] at Wc
          have okc := fin _ _ { rd with mood := "closing", standing := s } Wc kc ⟨rfl, rfl, rfl, rfl, rfl, by first | exact ok.mood _ (List.mem_of_getElem? hrd) | exact (by decide +kernel : PyData.strOk "closing" = true)⟩
          refine ⟨_, rfl, q, _, _, _, rfl, rfl, hqc, rfl, rfl, _, rfl, iteF ?_⟩
          refine ⟨_, rfl, q, _, _, _, rfl, rfl, hqc, rfl, rfl, _, rfl, iteF ?_⟩
          refine ⟨_, rfl, rfl, _, rfl, iteT ?_⟩
          obtain ⟨_, ws, hws, pw⟩ := Wc.b.rows
          have lws := paired_len pw
          refine ⟨_, rfl, a, _, _, _, rfl, rfl, SqL.of Wc.b.ob.2, rfl, .inl ⟨rfl, _, SqL.of hws⟩, _, rfl, _, rfl, q, _, _, _, rfl, rfl, hqc, rfl, rfl, _, rfl, iteF ?_⟩
          refine ⟨Nat.zero_le _, fun mm nmm => ⟨sl, fun tt ntt => ?_⟩⟩
          have y1 := same_upd (o := HO.lst []) nmm
          have y2 := same_upd (o := HO.tup [V.ref q, V.ref mm]) ntt
          have Wy := (Wc.same y1).same y2
          have hd9 : IsDeed K _ (.ref q) (.tell s) := IsDeed.mono (Ks.same (y1.trans y2)) hdc
          have Wr := Wy.addRow (d := (.tell s)) (y2 _ _ (y1 _ _ hws)) ⟨tt, _, _, rfl, SqT.of upd_same, hd9⟩
          refine ⟨wL, ws, _, rfl, rfl, y2 _ _ (y1 _ _ hws), slt (by have e : ws.length = b.rows.length := lws; omega), ?_⟩
          refine ⟨_, rfl, _, rfl, sl, fun rr nrr => ?_⟩
          have Wz := Wr.same (same_upd (o := HO.tup [V.str "", V.non]) nrr)
          exact h _ _ _ _ Wz.ef Wz.dom ⟨(okc).row (.tell s) dok wN, bD, rL, sD, hL, wL, gD, Wz.b.mono (Nat.le_succ _)⟩
      · have DNE0 : ¬ V.str z = V.str "" := fun e => ez (V.str.inj e)
        refine ⟨_, rfl, rfl, _, rfl, iFe (decide_eq_false DNE0) ?_⟩
        refine ⟨_, rfl, q, _, _, _, rfl, rfl, hq1, rfl, rfl, _, rfl, iteF ?_⟩
        refine ⟨_, rfl, q, _, _, _, rfl, rfl, hq1, rfl, rfl, _, rfl, iteF ?_⟩
        refine ⟨_, rfl, rfl, _, rfl, iFe (decide_eq_false DNE0) ?_⟩
        refine ⟨_, rfl, _, rfl, sl, fun rr nrr => ?_⟩
        have Wz := W1.same (same_upd (o := HO.tup [V.str z, V.non]) nrr)
        exact h _ _ _ _ Wz.ef Wz.dom ⟨okn, bD, rL, sD, hL, wL, gD, Wz.b.mono (Nat.le_succ _)⟩
    | shw x =>
      obtain ⟨q, rfl, hq⟩ := id hd
      refine ⟨_, rfl, q, _, _, _, rfl, rfl, hq, rfl, rfl, _, rfl, iteF ?_⟩
      refine ⟨_, rfl, q, _, _, _, rfl, rfl, hq, rfl, rfl, _, rfl, iteF ?_⟩
      refine ⟨_, rfl, q, _, _, _, rfl, rfl, hq, rfl, rfl, _, rfl, iteT ?_⟩
      obtain ⟨osD, kvs, hkv, pkv⟩ := B.seen
      have lkv := paired_len pkv
      refine ⟨_, rfl, a, _, _, _, rfl, rfl, SqL.of B.ob.2, rfl, sD, rfl, .inl ⟨kvs, .inl hkv⟩, _, rfl, q, _, _, _, rfl, rfl, hq, rfl, x, rfl, dok, _, rfl, a, _, _, _, rfl, rfl, SqL.of B.ob.2, rfl, _, rfl, q, _, _, _, rfl, rfl, hq, rfl, sl, fun tq ntq => ?_⟩
      have s1 := same_upd (o := HO.tup [V.int b.clock, V.int x]) ntq
      have W1 := W0.same s1
      have hq1 := Ks.same (K := K) s1 _ _ hq
      refine ⟨kvs, Sum.inl (3 * x + 17), s1 _ _ hkv, rfl, slt (by have := ok.seenN; omega), fun v hv => ?_, fun hv => ?_⟩
      · have hd1 : IsDeed K _ (.ref q) (.shw x) := IsDeed.mono (Ks.same (K := K) s1) hd
        refine ⟨_, rfl, q, _, _, _, rfl, rfl, hq1, rfl, rfl, _, rfl, iteF ?_⟩
        refine ⟨_, rfl, rfl, _, rfl, iteT ?_⟩
        obtain ⟨_, ws, hws, pw⟩ := W1.b.rows
        have lws := paired_len pw
        refine ⟨_, rfl, a, _, _, _, rfl, rfl, SqL.of W1.b.ob.2, rfl, .inl ⟨rfl, _, SqL.of hws⟩, _, rfl, _, rfl, q, _, _, _, rfl, rfl, hq1, rfl, rfl, _, rfl, iteF ?_⟩
        refine ⟨Nat.zero_le _, fun mm nmm => ⟨sl, fun tt ntt => ?_⟩⟩
        have y1 := same_upd (o := HO.lst []) nmm
        have y2 := same_upd (o := HO.tup [V.ref q, V.ref mm]) ntt
        have Wy := (W1.same y1).same y2
        have hd9 : IsDeed K _ (.ref q) (.shw x) := IsDeed.mono (Ks.same (y1.trans y2)) hd1
        have Wr := Wy.addRow (d := (.shw x)) (y2 _ _ (y1 _ _ hws)) ⟨tt, _, _, rfl, SqT.of upd_same, hd9⟩
        refine ⟨wL, ws, _, rfl, rfl, y2 _ _ (y1 _ _ hws), slt (by have e : ws.length = b.rows.length := lws; omega), ?_⟩
        refine ⟨_, rfl, _, rfl, sl, fun rr nrr => ?_⟩
        have Wz := Wr.same (same_upd (o := HO.tup [V.str "", V.non]) nrr)
        exact h _ _ _ _ Wz.ef Wz.dom ⟨(okn).row (.shw x) dok wN, bD, rL, sD, hL, wL, gD, Wz.b.mono (Nat.le_succ _)⟩
      · have W2 := W1.addSeen (e := (b.clock, x)) (s1 _ _ hkv) hv (SqT.of upd_same)
        have k2 := (Ks.same (K := K) s1).trans (Ks.updD (u := HO.dK (putK kvs (Sum.inl (3 * x + 17)) (.ref tq))) (s1 _ _ hkv))
        have hq2 := k2 _ _ hq
        have hd2 : IsDeed K _ (.ref q) (.shw x) := IsDeed.mono k2 hd
        have ok2 : ({ b with seen := seenAdd b.seen (3 * x + 17) (b.clock, x) } : Bk).ok (n + 1) := ⟨hn, ok.clock, ok.bags, okn.roadsN, Nat.le_trans (seenAdd_len _ _ _) (by have := ok.seenN; omega), okn.heldN, okn.rowsN, ok.road, ok.held, ok.deeds, ok.pos, ok.mood⟩
        refine ⟨_, rfl, q, _, _, _, rfl, rfl, hq2, rfl, rfl, _, rfl, iteF ?_⟩
        refine ⟨_, rfl, rfl, _, rfl, iteT ?_⟩
        obtain ⟨_, ws, hws, pw⟩ := W2.b.rows
        have lws := paired_len pw
        refine ⟨_, rfl, a, _, _, _, rfl, rfl, SqL.of W2.b.ob.2, rfl, .inl ⟨rfl, _, SqL.of hws⟩, _, rfl, _, rfl, q, _, _, _, rfl, rfl, hq2, rfl, rfl, _, rfl, iteF ?_⟩
        refine ⟨Nat.zero_le _, fun mm nmm => ⟨sl, fun tt ntt => ?_⟩⟩
        have y1 := same_upd (o := HO.lst []) nmm
        have y2 := same_upd (o := HO.tup [V.ref q, V.ref mm]) ntt
        have Wy := (W2.same y1).same y2
        have hd9 : IsDeed K _ (.ref q) (.shw x) := IsDeed.mono (Ks.same (y1.trans y2)) hd2
        have Wr := Wy.addRow (d := (.shw x)) (y2 _ _ (y1 _ _ hws)) ⟨tt, _, _, rfl, SqT.of upd_same, hd9⟩
        refine ⟨wL, ws, _, rfl, rfl, y2 _ _ (y1 _ _ hws), slt (by have e : ws.length = b.rows.length := lws; omega), ?_⟩
        refine ⟨_, rfl, _, rfl, sl, fun rr nrr => ?_⟩
        have Wz := Wr.same (same_upd (o := HO.tup [V.str "", V.non]) nrr)
        exact h _ _ _ _ Wz.ef Wz.dom ⟨(ok2).row (.shw x) dok wN, bD, rL, sD, hL, wL, gD, Wz.b.mono (Nat.le_succ _)⟩
    | turn =>
      obtain ⟨q, rfl, hq⟩ := id hd
      refine ⟨_, rfl, q, _, _, _, rfl, rfl, hq, rfl, rfl, _, rfl, iteF ?_⟩
      refine ⟨_, rfl, q, _, _, _, rfl, rfl, hq, rfl, rfl, _, rfl, iteF ?_⟩
      refine ⟨_, rfl, q, _, _, _, rfl, rfl, hq, rfl, rfl, _, rfl, iteF ?_⟩
      refine ⟨_, rfl, q, _, _, _, rfl, rfl, hq, rfl, rfl, _, rfl, iteT ?_⟩
      refine ⟨_, rfl, o, a, b, n, rfl, dm, ⟨ok, bD, rL, sD, hL, wL, gD, B⟩, hn, fun o1 H1 l ys b1 ef1 dm1 bk1 er ol hl ly => ?_⟩
      obtain ⟨ok1, bD1, rL1, sD1, hL1, wL1, gD1, B1⟩ := bk1
      have W1 : Bw P w K o H o1 H1 a b1 (n + 1) bD1 rL1 sD1 hL1 wL1 gD1 := ⟨ef1, dm, dm1, B1⟩
      have hq1 := ef1.sq _ _ hq
      refine ⟨_, rfl, rfl, _, rfl, iteT ?_⟩
      obtain ⟨_, ws, hws, pw⟩ := W1.b.rows
      have lws := paired_len pw
      refine ⟨_, rfl, a, _, _, _, rfl, rfl, SqL.of W1.b.ob.2, rfl, .inl ⟨rfl, _, SqL.of hws⟩, _, rfl, _, rfl, q, _, _, _, rfl, rfl, hq1, rfl, rfl, _, rfl, iteT ?_⟩
      refine ⟨_, rfl, l, ys, rfl, .inl (SqL.of hl), fun mm nmm => ⟨sl, fun tt ntt => ?_⟩⟩
      have y1 := same_upd (o := HO.lst ys) nmm
      have y2 := same_upd (o := HO.tup [V.ref q, V.ref mm]) ntt
      have Wy := (W1.same y1).same y2
      have hd9 : IsDeed K _ (.ref q) .turn := IsDeed.mono ((ef1.sq).trans (Ks.same (y1.trans y2))) hd
      have Wr := Wy.addRow (d := .turn) (y2 _ _ (y1 _ _ hws)) ⟨tt, _, _, rfl, SqT.of upd_same, hd9⟩
      refine ⟨wL1, ws, _, rfl, rfl, y2 _ _ (y1 _ _ hws), slt (by have e : ws.length = b1.rows.length := lws; rw [er] at e; omega), ?_⟩
      refine ⟨_, rfl, _, rfl, sl, fun rr nrr => ?_⟩
      have Wz := Wr.same (same_upd (o := HO.tup [V.str "", V.ref l]) nrr)
      exact h _ _ _ _ Wz.ef Wz.dom ⟨ok1.row .turn dok (by rw [er]; exact wN), bD1, rL1, sD1, hL1, wL1, gD1, Wz.b⟩
end
end Cn
namespace Cn
open PySem PySem.Spec PyProof.Rows L2
/-- what is done by one who may change what those of T own -/
structure Eff (K : PySem.W.Frag) (T : List Nat) (o : Own) (H : Hp) (o' : Own) (H' : Hp) : Prop where
  fx : ∀ u, u ∉ T → Fx K u o H o' H'
  mine : ∀ p x, H p = some x → o p = none → H' p = some x ∧ o' p = none
  sq : Ks K H H'
  live : ∀ b x, H b = some x → ∃ y, H' b = some y
theorem Eff.of {K : PySem.W.Frag} {T : List Nat} {t : Nat} {o o' : Own} {H H' : Hp} (e : Ef K t o H o' H') (h : t ∈ T) : Eff K T o H o' H' :=
  ⟨fun u hu => e.fx (fun z => hu (z ▸ h)), fun p x h1 h2 => e.mine h1 h2, e.sq, e.live⟩
theorem Eff.trans {K : PySem.W.Frag} {T : List Nat} {o o1 o2 : Own} {H H1 H2 : Hp} (a : Eff K T o H o1 H1) (b : Eff K T o1 H1 o2 H2) : Eff K T o H o2 H2 :=
  ⟨fun u hu => (a.fx u hu).trans (b.fx u hu), fun p x h1 h2 => let z := a.mine p x h1 h2; b.mine p x z.1 z.2, a.sq.trans b.sq, fun c x h => let ⟨y, z⟩ := a.live c x h; b.live c y z⟩
theorem Eff.same {K : PySem.W.Frag} {T : List Nat} {o : Own} {H H' : Hp} (s : Same H H') : Eff K T o H o H' :=
  ⟨fun _ _ => Fx.same s, fun p x h1 h2 => ⟨s _ _ h1, h2⟩, Ks.same s, fun b x h => ⟨x, s _ _ h⟩⟩
theorem Eff.refl {K : PySem.W.Frag} {T : List Nat} {o : Own} {H : Hp} : Eff K T o H o H := Eff.same (Same.refl H)
theorem Eff.free {K : PySem.W.Frag} {T : List Nat} {o o' : Own} {H H' : Hp} (e : Eff K T o H o' H') {p : Addr} (h : H' p = none) : H p = none := by
  cases q : H p with
  | none => rfl
  | some x =>
    obtain ⟨y, z⟩ := e.live p x q
    rw [h] at z
    cases z
/-- a store at what stood not then and nobody owns -/
theorem Eff.tmp {K : PySem.W.Frag} {T : List Nat} {o o' : Own} {H0 H : Hp} {p : Addr} {u : HO} (e : Eff K T o H0 o' H) (h : H0 p = none) (ho : o' p = none) (k : Ks K H (L2.upd H p u)) : Eff K T o H0 o' (L2.upd H p u) :=
  ⟨fun t ht => (e.fx t ht).trans (Fx.tmp ho k), fun q x h1 h2 => by
    have z := e.mine q x h1 h2
    refine ⟨?_, z.2⟩
    rw [upd_ne (ne_of_none h1 h)]
    exact z.1, e.sq.trans k, fun b x hb => by
    by_cases c : b = p
    · exact ⟨u, by rw [c, upd_same]⟩
    · rw [upd_ne c]
      exact e.live b x hb⟩
abbrev T013 : List Nat := [0, 1, 3]
/-- the well, the signs and the law's book, as the draws of deeds change them -/
structure Wd (P : Program) (w : World) (K : PySem.W.Frag) (o : Own) (H : Hp) (W sgA a : Addr) (c : Nat) (sg : Sg) (m : Nat) (b : Bk) (n : Nat) : Prop where
  well : Well K o H W c
  sgs : SgAt P w K o H sgA sg m
  bk : BkAt P w K o H a b n
theorem Wd.same {P : Program} {w : World} {K : PySem.W.Frag} {o : Own} {H H' : Hp} {W sgA a : Addr} {c : Nat} {sg : Sg} {m : Nat} {b : Bk} {n : Nat} (x : Wd P w K o H W sgA a c sg m b n) (s : Same H H') : Wd P w K o H' W sgA a c sg m b n :=
  ⟨x.well.same s, x.sgs.fx (Fx.same s), x.bk.fx (Fx.same s)⟩
theorem Wd.drawn {P : Program} {w : World} {K : PySem.W.Frag} {o : Own} {H H' : Hp} {W sgA a : Addr} {c c' : Nat} {sg : Sg} {m : Nat} {b : Bk} {n : Nat} (x : Wd P w K o H W sgA a c sg m b n) (e : Ef K 0 o H o H') (wl : Well K o H' W c') : Wd P w K o H' W sgA a c' sg m b n :=
  ⟨wl, x.sgs.fx (e.fx (by decide)), x.bk.fx (e.fx (by decide))⟩
theorem Wd.tmp {P : Program} {w : World} {K : PySem.W.Frag} {o : Own} {H : Hp} {W sgA a : Addr} {c : Nat} {sg : Sg} {m : Nat} {b : Bk} {n : Nat} (x : Wd P w K o H W sgA a c sg m b n) {p : Addr} {u : HO} (ho : o p = none) (k : Ks K H (L2.upd H p u)) : Wd P w K o (L2.upd H p u) W sgA a c sg m b n :=
  ⟨x.well.tmp ho k, x.sgs.fx (Fx.tmp ho k), x.bk.fx (Fx.tmp ho k)⟩
theorem Wd.dom {P : Program} {w : World} {K : PySem.W.Frag} {o : Own} {H : Hp} {W sgA a : Addr} {c : Nat} {sg : Sg} {m : Nat} {b : Bk} {n : Nat} (x : Wd P w K o H W sgA a c sg m b n) : Dom o H := x.well.dom
theorem SgLe.refl (s : Sg) : SgLe s s := fun _ _ h => h
theorem SgLe.trans {a b c : Sg} (x : SgLe a b) (y : SgLe b c) : SgLe a c := fun h k z => y h k (x h k z)
theorem SgLe.add (s : Sg) (h : Str) (k : NestedKey) : SgLe s (sgAdd s h k) := fun h' k' z => by
  unfold sgAdd
  rw [z]
  rfl
def spSigning (P : Program) (w : World) (K : PySem.W.Frag) : Sp := fun vs H Q _ => ∃ (o : Own) (W sgA a hl : Addr) (c : Nat) (sg : Sg) (m : Nat) (b : Bk) (n : Nat) (v : V) (p : Paper) (l r : Str), vs = [.ref W, .ref sgA, .ref a, v, .ref hl] ∧ Wd P w K o H W sgA a c sg m b n ∧ c + 1 ≤ cMax ∧ m + 2 ≤ 10000 ∧ n + 1 ≤ 300 ∧
  IsPaper K H v p ∧ p.ok ∧ H hl = some (.lst [.str l, .str r]) ∧ o hl = none ∧ NameOk l ∧ NameOk r ∧
  ∀ (o' : Own) (H' : Hp) (sg' : Sg) (x : V), Eff K T013 o H o' H' → Wd P w K o' H' W sgA a (c + 1) sg' (m + 2) b (n + 1) → SgLe sg sg' → Q x H'
section
variable {P : Program} {w : World} {K : PySem.W.Frag} {mg : Str → Option Value} {base : Heap}
abbrev n_law_signing : List Str := ["_law_well_here", "_law_signs", "_law_book_here", "_law_paper", "_law_hands", "_law_pick", "_law_k", "_law_hand"]
theorem sc_law_signing : FnScope n_law_signing ["_law_well_here", "_law_signs", "_law_book_here", "_law_paper", "_law_hands"] (defScope s_law_signing) := ⟨rfl, rfl, rfl, by decide +kernel, rfl, by decide +kernel, by decide +kernel⟩
theorem ok_law_signing (T : Tx K mg) : DefOk P w K mg base CX0 7 (He.fAd K d_law_signing.at_) ["_law_well_here", "_law_signs", "_law_book_here", "_law_paper", "_law_hands"] (spSigning P w K) := by
  refine mk0 (d := d_law_signing) T.f_law_signing rfl (fun _ _ _ _ _ _ us hl => match us, hl with | [_, _, _, _, _], _ => rfl) sc_law_signing (fun vs H Q E h => ?_) (fun cdv A outer s H vs Q E hr h => ?_)
  · obtain ⟨_, _, _, _, _, _, _, _, _, _, _, _, _, _, rfl, _⟩ := h
    rfl
  · obtain ⟨o, W, sgA, a, hl, c, sg, m, b, n, v, p, l, r, rfl, X, hc, hm, hn, hp, pok, hhl, ohl, nl, nr, h⟩ := h
    refine ⟨_, (pss_cons (ps_set (i := 5) sc_law_signing.nd rfl (.inl rfl) (cD (ok_law_take T) T.g_law_take hr (pa_cons (pv 0) (pa_cons pe_int pa_nil))))
      (pss_one (ps_for PassesOwn.never rfl (pi_enum (by rfl) T.b_enumerate (pa_cons (pv 4) pa_nil)) (pg_tup rfl (pgs_cons (pg_name (i := 6) sc_law_signing.nd rfl (.inl rfl)) (pgs_cons (pg_name (i := 7) sc_law_signing.nd rfl (.inl rfl)) pgs_nil))) (pss_one (ps_if (PW.pt (pw_or (pt_cmpR op_lt (pv 5) pe_int (nomark _)) (pw_or1 (pt_cmpR op_eq (pv 5) (pe_op op_add pe_int (pv 6)) (nomark _))))) (pss_cons (ps_expr (mD (ok_Signs_sign T) (T.c_Signs) (T.m_Signs_sign) hr (pv 1) (pa_cons (pv 7) (pa_cons (pv 3) pa_nil))))
      (pss_one (ps_asg pe_bl (pg_sub (pe_ix ix_list (pv 2) pe_int (fun _ _ => rfl)) (pe_tup (pa_cons (pv 7) (pa_cons (pv 3) pa_nil))) (set_dN hr.units))))) pss_nil))))), ?_⟩
    obtain ⟨pa, rfl⟩ := hp.ref
    refine ⟨_, rfl, o, W, c, 8, rfl, by decide, X.well, hc, fun pk H1 p0 p1 ef1 W1 => ?_⟩
    have X1 := X.drawn ef1 W1
    have hl1 := (ef1.mine hhl ohl).1
    have hp1 := IsPaper.mono ef1.sq hp
    refine ⟨_, rfl, hl, _, rfl, SqL.of hl1, for_it (walk_enum (xs := [V.str l, V.str r])) (fun i σ H2 => ∃ (o2 : Own) (sg2 : Sg) (y1 y2 : Option V), σ = [some (.ref W), some (.ref sgA), some (.ref a), some (.ref pa), some (.ref hl), some (.int pk), y1, y2] ∧ Eff K T013 o H o2 H2 ∧ Well K o2 H2 W (c + 1) ∧ SgAt P w K o2 H2 sgA sg2 (m + i) ∧ (b.ok n ∧ ∃ bD rL sD hL wL gD, BkB P w K o2 H2 a b (n + 1) bD rL sD hL wL gD ∧ ∃ xs, IsDN P w H2 gD xs ∧ (∀ p ∈ xs, PapAt K H2 p.2 p.1) ∧ xs.length ≤ 3 * n + i) ∧ SgLe sg sg2 ∧ H2 hl = some (.lst [V.str l, V.str r]) ∧ o2 hl = none) ?_ (fun i σ H2 _ h2 => ?_) (fun i x σ H2 H3 hi h2 hy => ?_) (fun σ H2 h2 => ?_)⟩
    · obtain ⟨ok, bD, rL, sD, hL, wL, gD, B⟩ := X1.bk
      obtain ⟨_, xs, g1, g2, g3⟩ := B.gd
      exact ⟨o, sg, none, none, rfl, Eff.of ef1 (by decide), W1, X1.sgs, ⟨ok, bD, rL, sD, hL, wL, gD, B.mono (Nat.le_succ _), xs, g1, g2, g3⟩, SgLe.refl _, hl1, ohl⟩
    · obtain ⟨_, _, _, _, _, _, _, _, _, _, h2, _⟩ := h2
      exact SqL.of h2
    · obtain ⟨o2, sg2, y1, y2, rfl, e2, W2, S2, ⟨ok, bD, rL, sD, hL, wL, gD, B, xs, g1, g2, g3⟩, le2, hl2, ohl2⟩ := h2
      obtain ⟨T0, x0, u, rfl, nT, rfl, e0, ev⟩ := hy
      obtain rfl := Option.some.inj e0
      have hz : ∃ z : Str, u = .str z ∧ NameOk z := by
        match i, ev with
        | 0, ev => exact ⟨l, (Option.some.inj ev).symm, nl⟩
        | 1, ev => exact ⟨r, (Option.some.inj ev).symm, nr⟩
      obtain ⟨z, rfl, nz⟩ := hz
      have i2 : i < 2 := hi
      have sT := same_upd (o := .tup [V.int ((i : Nat) : Int), V.str z]) nT
      have e3 := e2.trans (Eff.same (K := K) (T := T013) (o := o2) sT)
      have W3 := W2.same sT
      have S3 := S2.fx (Fx.same sT)
      have B3 := B.fx (Fx.same (K := K) sT)
      have hp3 := IsPaper.mono e3.sq hp
      have hl3 := sT _ _ hl2
      have G1 : IsDN P w _ gD xs := g1.at fun x hx => sT _ _ hx
      have G2 : ∀ p ∈ xs, PapAt K (upd H2 T0 (.tup [V.int ((i : Nat) : Int), V.str z])) p.2 p.1 := fun p hp => (g2 p hp).mono (Ks.same sT)
      refine ⟨T0, _, rfl, SqT.of upd_same, rfl, _, _, rfl, _, _, rfl, rfl, ?_⟩
      refine ⟨_, rfl, _, _, rfl, rfl, _, rfl, ite2 (fun _ => ?_) (fun _ => ?_)⟩
      · obtain ⟨dxS, bS, hob⟩ := S3.ob
        refine ⟨_, rfl, sgA, dxS, _, rfl, hob, rfl, _, rfl, _, rfl, o2, sgA, sg2, m + i, z, _, p, rfl, W3.dom, S3, by omega, nz, hp3, pok, fun o4 H4 ef4 dm4 S4 => ?_⟩
        have B4 := B3.fx (ef4.fx (by decide))
        have hp4 := IsPaper.mono ef4.sq hp3
        have hl4 := ef4.mine hl3 ohl2
        have W4 := W3.fx (ef4.fx (by decide)) dm4
        refine ⟨_, rfl, a, _, _, _, rfl, rfl, SqL.of B4.ob.2, rfl, _, rfl, _, rfl, sl, fun tk ntk => ?_⟩
        have s5 := same_upd (o := HO.tup [V.str z, V.ref pa]) ntk
        have B5 := B4.fx (Fx.same (K := K) s5)
        have hp5 := IsPaper.mono (Ks.same (K := K) s5) hp4
        have k25 : Ks K (upd H2 T0 (.tup [V.int ((i : Nat) : Int), V.str z])) (upd H4 tk (.tup [V.str z, V.ref pa])) := ef4.sq.trans (Ks.same s5)
        have H5d : IsDN P w (upd H4 tk (.tup [V.str z, V.ref pa])) gD xs := G1.at fun x hx => s5 _ _ ((ef4.fx (by decide : (3 : Nat) ≠ 1)).1 7 _ _ B3.gd.1 hx).2
        have H5p : ∀ p ∈ xs, PapAt K (upd H4 tk (.tup [V.str z, V.ref pa])) p.2 p.1 := fun p hp => (G2 p hp).mono k25
        have pa5 : PapAt K (upd H4 tk (.tup [V.str z, V.ref pa])) tk (.tup [.text z, p.nk]) := ⟨z, _, p, SqT.of upd_same, hp5, pok, rfl⟩
        have lst := stN_len xs (NestedKey.tup [.text z, p.nk]) tk
        have Bs : Bw P w K o4 (upd H4 tk (.tup [V.str z, V.ref pa])) o4 (upd H4 tk (.tup [V.str z, V.ref pa])) a b (n + 1) bD rL sD hL wL gD := Bw.start (dm4.same s5) B5
        have B6 := Bs.addPaper H5d H5p pa5 (by omega)
        refine ⟨tk, gD, xs, .tup [.text z, p.nk], rfl, rfl, rfl, H5d, keysOf H5p, pa5.key.1, pa5.key.2, sle (by omega), ?_⟩
        have ef46 : Eff K T013 o4 H4 o4 (upd (upd H4 tk (.tup [V.str z, V.ref pa])) gD (DN P w gD (stN xs (.tup [.text z, p.nk]) tk))) := (Eff.same s5).trans (Eff.of B6.ef (by decide))
        have mine6 := ef46.mine _ _ hl4.1 hl4.2
        refine ⟨o4, _, _, _, rfl, (e3.trans (Eff.of ef4 (by decide))).trans ef46, (W4.same s5).fx (B6.ef.fx (by decide)) B6.dom, ((S4.fx (Fx.same s5)).fx (B6.ef.fx (by decide))).mono (by omega), ⟨ok, bD, rL, sD, hL, wL, gD, B6.b, stN xs (.tup [.text z, p.nk]) tk, .inl upd_same, fun q hq => ?_, by omega⟩, le2.trans (SgLe.add _ _ _), mine6.1, mine6.2⟩
        have kk : Ks K (upd H4 tk (.tup [V.str z, V.ref pa])) (upd (upd H4 tk (.tup [V.str z, V.ref pa])) gD (DN P w gD (stN xs (.tup [.text z, p.nk]) tk))) := B6.ef.sq
        unfold stN at hq
        split at hq
        · exact (H5p q hq).mono kk
        · rcases List.mem_append.mp hq with hq | hq
          · exact (H5p q hq).mono kk
          · rw [List.mem_singleton.mp hq]
            exact pa5.mono kk
      · refine ⟨_, rfl, _, rfl, _, _, rfl, rfl, rfl, _, rfl, ite2 (fun _ => ?_) (fun _ => ?_)⟩
        · obtain ⟨dxS, bS, hob⟩ := S3.ob
          refine ⟨_, rfl, sgA, dxS, _, rfl, hob, rfl, _, rfl, _, rfl, o2, sgA, sg2, m + i, z, _, p, rfl, W3.dom, S3, by omega, nz, hp3, pok, fun o4 H4 ef4 dm4 S4 => ?_⟩
          have B4 := B3.fx (ef4.fx (by decide))
          have hp4 := IsPaper.mono ef4.sq hp3
          have hl4 := ef4.mine hl3 ohl2
          have W4 := W3.fx (ef4.fx (by decide)) dm4
          refine ⟨_, rfl, a, _, _, _, rfl, rfl, SqL.of B4.ob.2, rfl, _, rfl, _, rfl, sl, fun tk ntk => ?_⟩
          have s5 := same_upd (o := HO.tup [V.str z, V.ref pa]) ntk
          have B5 := B4.fx (Fx.same (K := K) s5)
          have hp5 := IsPaper.mono (Ks.same (K := K) s5) hp4
          have k25 : Ks K (upd H2 T0 (.tup [V.int ((i : Nat) : Int), V.str z])) (upd H4 tk (.tup [V.str z, V.ref pa])) := ef4.sq.trans (Ks.same s5)
          have H5d : IsDN P w (upd H4 tk (.tup [V.str z, V.ref pa])) gD xs := G1.at fun x hx => s5 _ _ ((ef4.fx (by decide : (3 : Nat) ≠ 1)).1 7 _ _ B3.gd.1 hx).2
          have H5p : ∀ p ∈ xs, PapAt K (upd H4 tk (.tup [V.str z, V.ref pa])) p.2 p.1 := fun p hp => (G2 p hp).mono k25
          have pa5 : PapAt K (upd H4 tk (.tup [V.str z, V.ref pa])) tk (.tup [.text z, p.nk]) := ⟨z, _, p, SqT.of upd_same, hp5, pok, rfl⟩
          have lst := stN_len xs (NestedKey.tup [.text z, p.nk]) tk
          have Bs : Bw P w K o4 (upd H4 tk (.tup [V.str z, V.ref pa])) o4 (upd H4 tk (.tup [V.str z, V.ref pa])) a b (n + 1) bD rL sD hL wL gD := Bw.start (dm4.same s5) B5
          have B6 := Bs.addPaper H5d H5p pa5 (by omega)
          refine ⟨tk, gD, xs, .tup [.text z, p.nk], rfl, rfl, rfl, H5d, keysOf H5p, pa5.key.1, pa5.key.2, sle (by omega), ?_⟩
          have ef46 : Eff K T013 o4 H4 o4 (upd (upd H4 tk (.tup [V.str z, V.ref pa])) gD (DN P w gD (stN xs (.tup [.text z, p.nk]) tk))) := (Eff.same s5).trans (Eff.of B6.ef (by decide))
          have mine6 := ef46.mine _ _ hl4.1 hl4.2
          refine ⟨o4, _, _, _, rfl, (e3.trans (Eff.of ef4 (by decide))).trans ef46, (W4.same s5).fx (B6.ef.fx (by decide)) B6.dom, ((S4.fx (Fx.same s5)).fx (B6.ef.fx (by decide))).mono (by omega), ⟨ok, bD, rL, sD, hL, wL, gD, B6.b, stN xs (.tup [.text z, p.nk]) tk, .inl upd_same, fun q hq => ?_, by omega⟩, le2.trans (SgLe.add _ _ _), mine6.1, mine6.2⟩
          have kk : Ks K (upd H4 tk (.tup [V.str z, V.ref pa])) (upd (upd H4 tk (.tup [V.str z, V.ref pa])) gD (DN P w gD (stN xs (.tup [.text z, p.nk]) tk))) := B6.ef.sq
          unfold stN at hq
          split at hq
          · exact (H5p q hq).mono kk
          · rcases List.mem_append.mp hq with hq | hq
            · exact (H5p q hq).mono kk
            · rw [List.mem_singleton.mp hq]
              exact pa5.mono kk
        · exact ⟨o2, sg2, _, _, rfl, e3, W3, S3.mono (by omega), ⟨ok, bD, rL, sD, hL, wL, gD, B3, xs, G1, G2, by omega⟩, le2, hl3, ohl2⟩
    · obtain ⟨o2, sg2, y1, y2, rfl, e2, W2, S2, ⟨ok, bD, rL, sD, hL, wL, gD, B, _⟩, le2, hl2, ohl2⟩ := h2
      exact h o2 H2 sg2 _ e2 ⟨W2, S2, ok.mono (Nat.le_succ _) hn, bD, rL, sD, hL, wL, gD, B⟩ le2
end
end Cn
namespace Cn
open PySem PySem.Spec PyProof.Rows L2
def FolkAt (o : Own) (H : Hp) (fl : Addr) (zs : List Str) : Prop := o fl = some (6, 0) ∧ H fl = some (.lst (zs.map V.str)) ∧ 1 ≤ zs.length ∧ zs.length ≤ 12 ∧ ∀ z ∈ zs, NameOk z
theorem FolkAt.fx {K : PySem.W.Frag} {o o' : Own} {H H' : Hp} {fl : Addr} {zs : List Str} (h : FolkAt o H fl zs) (f : Fx K 6 o H o' H') : FolkAt o' H' fl zs := by
  have z := f.1 0 _ _ h.1 h.2.1
  exact ⟨z.1, z.2, h.2.2⟩
theorem nobody_ok : NameOk "nobody" := ⟨by decide +kernel, by decide +kernel, by decide +kernel⟩
def spOpeningL (P : Program) (w : World) (K : PySem.W.Frag) : Sp := fun vs H Q _ => ∃ (o : Own) (W sgA a fl : Addr) (c : Nat) (sg : Sg) (m : Nat) (b : Bk) (n : Nat) (zs : List Str), vs = [.ref W, .ref sgA, .ref a, .ref fl] ∧ Wd P w K o H W sgA a c sg m b n ∧ c + 20 ≤ cMax ∧ m + 2 ≤ 10000 ∧ n + 1 ≤ 300 ∧ FolkAt o H fl zs ∧
  ∀ (o' : Own) (H' : Hp) (sg' : Sg) (v : V) (d : Deed), Eff K T013 o H o' H' → Wd P w K o' H' W sgA a (c + 20) sg' (m + 2) b (n + 1) → SgLe sg sg' → IsDeed K H' v d → d.ok → Q v H'
theorem Wd.mono {P : Program} {w : World} {K : PySem.W.Frag} {o : Own} {H : Hp} {W sgA a : Addr} {c c' : Nat} {sg : Sg} {m m' : Nat} {b : Bk} {n n' : Nat} (x : Wd P w K o H W sgA a c sg m b n) (hc : c ≤ c') (hc' : c' ≤ cMax) (hm : m ≤ m') (hn : n ≤ n') (hn' : n' ≤ 300) : Wd P w K o H W sgA a c' sg m' b n' :=
  ⟨x.well.mono hc (by unfold cMax at hc'; omega), x.sgs.mono hm, x.bk.mono hn hn'⟩
theorem eight_at {f h : Int} {i : Int} (h0 : 0 ≤ i) (h1 : i < 8) (hf : 0 ≤ f) (hh : 0 ≤ h) : ∃ m : Int, atI [V.int f, V.int f, V.int f, V.int f, V.int h, V.int (h + 1), V.int 0, V.int 0] i = some (.int m) ∧ 0 ≤ m := by
  obtain ⟨n, rfl⟩ := Int.eq_ofNat_of_zero_le h0
  match n, h1 with
  | 0, _ => exact ⟨_, rfl, hf⟩
  | 1, _ => exact ⟨_, rfl, hf⟩
  | 2, _ => exact ⟨_, rfl, hf⟩
  | 3, _ => exact ⟨_, rfl, hf⟩
  | 4, _ => exact ⟨_, rfl, hh⟩
  | 5, _ => exact ⟨_, rfl, by omega⟩
  | 6, _ => exact ⟨_, rfl, by decide⟩
  | 7, _ => exact ⟨_, rfl, by decide⟩
  | n + 8, h => exact absurd h (by show ¬ (((n + 8 : Nat) : Int) < 8); omega)
theorem eight_at2 {i : Int} (h0 : 0 ≤ i) (h1 : i < 8) : ∃ m : Int, atI [V.int 0, V.int 0, V.int 0, V.int 0, V.int 0, V.int 0, V.int 0, V.int 1] i = some (.int m) ∧ 0 ≤ m := by
  obtain ⟨n, rfl⟩ := Int.eq_ofNat_of_zero_le h0
  match n, h1 with
  | 0, _ => exact ⟨_, rfl, by decide⟩
  | 1, _ => exact ⟨_, rfl, by decide⟩
  | 2, _ => exact ⟨_, rfl, by decide⟩
  | 3, _ => exact ⟨_, rfl, by decide⟩
  | 4, _ => exact ⟨_, rfl, by decide⟩
  | 5, _ => exact ⟨_, rfl, by decide⟩
  | 6, _ => exact ⟨_, rfl, by decide⟩
  | 7, _ => exact ⟨_, rfl, by decide⟩
  | n + 8, h => exact absurd h (by show ¬ (((n + 8 : Nat) : Int) < 8); omega)
section
variable {P : Program} {w : World} {K : PySem.W.Frag} {mg : Str → Option Value} {base : Heap}
abbrev n_law_opening : List Str := ["_law_well_here", "_law_signs", "_law_book_here", "_law_folk_here", "_law_names", "_law_left", "_law_right", "_law_parts_here", "_law_hand", "_law_has", "_law_few", "_law_paper"]
theorem sc_law_opening : FnScope n_law_opening ["_law_well_here", "_law_signs", "_law_book_here", "_law_folk_here"] (defScope s_law_opening) := ⟨rfl, rfl, rfl, by decide +kernel, rfl, by decide +kernel, by decide +kernel⟩
theorem ok_law_opening (T : Tx K mg) : DefOk P w K mg base CX0 8 (He.fAd K d_law_opening.at_) ["_law_well_here", "_law_signs", "_law_book_here", "_law_folk_here"] (spOpeningL P w K) := by
  refine mk0 (d := d_law_opening) T.f_law_opening rfl (fun _ _ _ _ _ _ us hl => match us, hl with | [_, _, _, _], _ => rfl) sc_law_opening (fun vs H Q E h => ?_) (fun cdv A outer s H vs Q E hr h => ?_)
  · obtain ⟨_, _, _, _, _, _, _, _, _, _, _, rfl, _⟩ := h
    rfl
  · obtain ⟨o, W, sgA, a, fl, c, sg, m, b, n, zs, rfl, X, hc, hm, hn, hf, h⟩ := h
    refine ⟨_, (pss_cons (ps_set (i := 4) sc_law_opening.nd rfl (.inl rfl) (pe_op op_cat (pe_op op_cat (pv 3) (pv 3)) (pe_lst (pa_cons pe_str pa_nil))))
      (pss_cons (ps_set (i := 5) sc_law_opening.nd rfl (.inl rfl) (pe_ix ix_list (pv 4) (cD (ok_law_take T) T.g_law_take hr (pa_cons (pv 0) (pa_cons (pe_callB call_len_seq (by rfl) T.b_len PySem.boot_len (pa_cons (pv 4) pa_nil)) pa_nil))) (fun _ _ => rfl)))
      (pss_cons (ps_set (i := 6) sc_law_opening.nd rfl (.inl rfl) (pe_ix ix_list (pv 4) (cD (ok_law_take T) T.g_law_take hr (pa_cons (pv 0) (pa_cons (pe_callB call_len_seq (by rfl) T.b_len PySem.boot_len (pa_cons (pv 4) pa_nil)) pa_nil))) (fun _ _ => rfl)))
      (pss_cons (ps_set (i := 7) sc_law_opening.nd rfl (.inl rfl) (pe_lst pa_nil))
      (pss_cons (ps_for PassesOwn.never rfl (pi_list (pe_lst (pa_cons (pv 5) (pa_cons (pv 6) pa_nil)))) (pg_name (i := 8) sc_law_opening.nd rfl (.inl rfl)) (pss_cons (ps_set (i := 9) sc_law_opening.nd rfl (.inl rfl) (pe_dget2 (hu1 (hu_of hr)) (pe_ix ix_list (pv 2) pe_int (fun _ _ => rfl)) (pv 8) pe_int ⟨rfl, rfl, rfl, rfl⟩))
      (pss_cons (ps_set (i := 10) sc_law_opening.nd rfl (.inl rfl) (pe_callB (call_min2 rfl) (by rfl) T.b_min (by decide +kernel) (pa_cons (pv 9) (pa_cons (cD (ok_law_sum T) T.g_law_sum hr (pa_cons (pv 0) pa_nil)) pa_nil))))
      (pss_one (ps_expr (pe_bm PySem.F.plainAttrs_list PySem.F.slot_list_append PySem.F.type_list_append mt_append (pv 7) (pa_cons (pe_ix ix_list (pe_lst (pa_cons (pv 10) (pa_cons (pv 10) (pa_cons (pv 10) (pa_cons (pv 10) (pa_cons (pv 9) (pa_cons (pe_op op_add (pv 9) pe_int) (pa_cons pe_int (pa_cons pe_int pa_nil))))))))) (cD (ok_law_take T) T.g_law_take hr (pa_cons (pv 0) (pa_cons pe_int pa_nil))) (fun _ _ => rfl)) pa_nil)))))))
      (pss_cons (ps_set (i := 11) sc_law_opening.nd rfl (.inl rfl) (pe_tup (pa_cons pe_str (pa_cons (pe_op op_add (pe_callB call_len_seq (by rfl) T.b_len PySem.boot_len (pa_cons (pe_ix ix_list (pv 2) pe_int (fun _ _ => rfl)) pa_nil)) (pe_ix ix_list (pe_lst (pa_cons pe_int (pa_cons pe_int (pa_cons pe_int (pa_cons pe_int (pa_cons pe_int (pa_cons pe_int (pa_cons pe_int (pa_cons pe_int pa_nil))))))))) (cD (ok_law_take T) T.g_law_take hr (pa_cons (pv 0) (pa_cons pe_int pa_nil))) (fun _ _ => rfl))) (pa_cons (pv 5) (pa_cons (pv 6) (pa_cons (pe_ix ix_list (pv 7) pe_int (fun _ _ => rfl)) (pa_cons (pe_ix ix_list (pv 7) pe_int (fun _ _ => rfl)) pa_nil))))))))
      (pss_cons (ps_if (PW.pt (pw_and (pt_cmpR op_ne (pv 5) (pv 6) (nomark _)) (pw_and1 (pt_cmpR op_gt (pe_callB (cr_sum rfl) (by rfl) T.b_sum (by decide +kernel) (pa_cons (pv 7) pa_nil)) pe_int (nomark _))))) (pss_one (ps_expr (cD (ok_law_signing T) T.g_law_signing hr (pa_cons (pv 0) (pa_cons (pv 1) (pa_cons (pv 2) (pa_cons (pv 11) (pa_cons (pe_lst (pa_cons (pv 5) (pa_cons (pv 6) pa_nil))) pa_nil)))))))) pss_nil)
      (pss_one (ps_ret (pe_tup (pa_cons pe_str (pa_cons (pv 5) (pa_cons (pv 6) (pa_cons (pe_ix ix_list (pv 7) pe_int (fun _ _ => rfl)) (pa_cons (pe_ix ix_list (pv 7) pe_int (fun _ _ => rfl)) pa_nil))))))))))))))), ?_⟩
    obtain ⟨ofl, hfl, lz1, lz, znm⟩ := hf
    have dm := X.dom
    refine ⟨_, rfl, _, rfl, fl, fl, _, _, rfl, rfl, hfl, hfl, sle (by simp only [List.length_map]; omega), fun c1 n1 => ?_⟩
    have s1 := same_upd (o := HO.lst (zs.map V.str ++ zs.map V.str)) n1
    refine ⟨sl, fun c2 n2 => ?_⟩
    have s2 := same_upd (o := HO.lst [V.str "nobody"]) n2
    refine ⟨c1, c2, _, _, rfl, rfl, s2 _ _ upd_same, upd_same, sle (by simp only [List.length_append, List.length_map, List.length_cons, List.length_nil]; omega), fun c3 n3 => ?_⟩
    have s3 := same_upd (o := HO.lst (zs.map V.str ++ zs.map V.str ++ [V.str "nobody"])) n3
    have s13 := (s1.trans s2).trans s3
    have X1 := X.same s13
    have o3 := dm.free ((s1.trans s2).free n3)
    have enm : zs.map V.str ++ zs.map V.str ++ [V.str "nobody"] = (zs ++ zs ++ [("nobody" : Str)]).map V.str := by rw [List.map_append, List.map_append]; rfl
    have nms : ∀ z ∈ zs ++ zs ++ [("nobody" : Str)], NameOk z := fun z hz => by
      rcases List.mem_append.mp hz with hz | hz
      · rcases List.mem_append.mp hz with hz | hz
        · exact znm z hz
        · exact znm z hz
      · rw [List.mem_singleton.mp hz]
        exact nobody_ok
    have hc3 : upd (upd (upd H c1 (.lst (zs.map V.str ++ zs.map V.str))) c2 (.lst [V.str "nobody"])) c3 (.lst (zs.map V.str ++ zs.map V.str ++ [V.str "nobody"])) c3 = some (.lst ((zs ++ zs ++ [("nobody" : Str)]).map V.str)) := by rw [upd_same, enm]
    have lnm : (zs ++ zs ++ [("nobody" : Str)]).length ≤ 25 := by simp only [List.length_append, List.length_cons, List.length_nil]; omega
    have lnm0 : 1 ≤ (zs ++ zs ++ [("nobody" : Str)]).length := by simp only [List.length_append, List.length_cons, List.length_nil]; omega
    generalize hNM : zs ++ zs ++ [("nobody" : Str)] = nm at hc3 nms lnm lnm0
    refine ⟨_, rfl, _, rfl, _, rfl, c3, _, rfl, .inl (SqL.of hc3), o, W, c, _, rfl, by rw [List.length_map]; omega, X1.well, by omega, fun li H2 l0 l1 ef2 W2 => ?_⟩
    rw [List.length_map] at l1
    have lil : li.toNat < nm.length := by omega
    have hc32 := (ef2.mine hc3 o3).1
    have X2 := X1.drawn ef2 W2
    refine ⟨c3, _, _, _, rfl, rfl, SqL.of hc32, atI_of (v := .str nm[li.toNat]) l0 (by rw [List.getElem?_map, List.getElem?_eq_getElem lil]; rfl), ?_⟩
    have nl := nms _ (List.getElem_mem lil)
    generalize hlL : nm[li.toNat] = l at nl ⊢
    refine ⟨_, rfl, _, rfl, _, rfl, c3, _, rfl, .inl (SqL.of hc32), o, W, _, _, rfl, by rw [List.length_map]; omega, W2, by omega, fun ri H3 r0 r1 ef3 W3 => ?_⟩
    rw [List.length_map] at r1
    have ril : ri.toNat < nm.length := by omega
    have hc33 := (ef3.mine hc32 o3).1
    have X3 := X2.drawn ef3 W3
    refine ⟨c3, _, _, _, rfl, rfl, SqL.of hc33, atI_of (v := .str nm[ri.toNat]) r0 (by rw [List.getElem?_map, List.getElem?_eq_getElem ril]; rfl), ?_⟩
    have nr := nms _ (List.getElem_mem ril)
    generalize hrR : nm[ri.toNat] = r at nr ⊢
    have ef13 := ((Ef.same (K := K) (t := 0) (o := o) s13).trans ef2).trans ef3
    refine ⟨Nat.zero_le _, fun pl npl => ?_⟩
    have s4 := same_upd (o := HO.lst []) npl
    have opl := X3.dom.free npl
    have nplH := ef13.free npl
    refine ⟨_, rfl, _, rfl, sl, fun hl nhl => ?_⟩
    have s5 := same_upd (o := HO.lst [V.str l, V.str r]) nhl
    have ohl := X3.dom.free (s4.free nhl)
    have nhp : hl ≠ pl := fun e => by rw [e, upd_same] at nhl; cases nhl
    have X5 := (X3.same s4).same s5
    refine ⟨hl, rfl, ⟨_, SqL.of upd_same⟩, for_list (xs := [V.str l, V.str r]) (fun i σ H6 => ∃ (y8 y9 y10 : Option V) (ns : List Int), σ = [some (.ref W), some (.ref sgA), some (.ref a), some (.ref fl), some (.ref c3), some (.str l), some (.str r), some (.ref pl), y8, y9, y10, none] ∧ Ef K 0 o H o H6 ∧ Wd P w K o H6 W sgA a (c + 2 + 3 * i) sg m b n ∧ H6 hl = some (.lst [V.str l, V.str r]) ∧ H6 pl = some (.lst (ns.map V.int)) ∧ ns.length = i ∧ ∀ x ∈ ns, 0 ≤ x) ⟨none, none, none, [], rfl, (ef13.trans (Ef.same s4)).trans (Ef.same s5), X5, upd_same, s5 _ _ upd_same, rfl, fun _ z => (List.not_mem_nil z).elim⟩ (fun i σ H6 _ h6 => ?_) (fun i v σ H6 hi h6 => ?_) (fun σ H6 h6 => ?_)⟩
    · obtain ⟨_, _, _, _, _, _, _, h6, _⟩ := h6
      exact SqL.of h6
    · obtain ⟨y8, y9, y10, ns, rfl, ef6, X6, hhl6, hpl6, ln, ns0⟩ := h6
      have hz : ∃ z : Str, v = .str z := by
        match i, hi with
        | 0, hi => exact ⟨l, (Option.some.inj hi).symm⟩
        | 1, hi => exact ⟨r, (Option.some.inj hi).symm⟩
      obtain ⟨z, rfl⟩ := hz
      have i2 : i < 2 := (List.getElem?_eq_some_iff.mp hi).1
      obtain ⟨okb, bD, rL, sD, hL, wL, gD, B⟩ := X6.bk
      have hh : ∃ h0 : Int, (valV (bagKV b.bags) (Sum.inr z)).getD (.int 0) = .int h0 ∧ 0 ≤ h0 := by
        rw [val_bag]
        cases e : look b.bags z with
        | none => exact ⟨0, rfl, Int.le_refl 0⟩
        | some h0 => exact ⟨h0, rfl, look_pos okb.pos e⟩
      obtain ⟨h0, eh, hpos⟩ := hh
      refine ⟨_, rfl, a, _, _, _, rfl, rfl, SqL.of B.ob.2, rfl, bD, rfl, .inl ⟨_, .inl B.bags.2⟩, _, rfl, _, DGet.k (k := Sum.inr z) B.bags.2, ?_⟩
      rw [eh]
      refine ⟨_, rfl, _, rfl, (), o, W, _, [], rfl, rfl, X6.well, by omega, fun v7 H7 ef7 W7 h7 => ?_⟩
      obtain ⟨sv, rfl, sv0⟩ := h7
      refine ⟨h0, sv, rfl, ?_⟩
      have fpos : 0 ≤ (if sv < h0 then sv else h0) := by split <;> omega
      generalize hfew : (if sv < h0 then sv else h0) = few at fpos ⊢
      refine ⟨_, rfl, .inl ⟨rfl, _, SqL.of (ef7.mine hpl6 opl).1⟩, _, rfl, _, rfl, _, rfl, _, rfl, _, rfl, _, rfl, _, _, rfl, rfl, sl, fun tl ntl => ?_⟩
      have s8 := same_upd (o := HO.lst [V.int few, V.int few, V.int few, V.int few, V.int h0, V.int (h0 + 1), V.int 0, V.int 0]) ntl
      have otl := W7.dom.free ntl
      refine ⟨_, rfl, o, W, _, 8, rfl, by decide, W7.same s8, by omega, fun ti H9 t0 t1 ef9 W9 => ?_⟩
      obtain ⟨pv, hpv, pv0⟩ := eight_at t0 t1 fpos hpos
      have ef69 := (ef7.trans (Ef.same s8)).trans ef9
      have hpl9 := (ef69.mine hpl6 opl).1
      have hhl9 := (ef69.mine hhl6 ohl).1
      have em : (ns ++ [pv]).map V.int = ns.map V.int ++ [V.int pv] := by rw [List.map_append]; rfl
      have kl : Ks K H9 (upd H9 pl (.lst (ns.map V.int ++ [V.int pv]))) := Ks.updL hpl9
      refine ⟨tl, _, _, _, rfl, rfl, SqL.of (ef9.mine upd_same otl).1, hpv, pl, _, _, rfl, rfl, hpl9, slt (by rw [List.length_map]; omega), _, _, _, ns ++ [pv], rfl, (ef6.trans ef69).tmp nplH kl, (X6.drawn ef69 W9).tmp opl kl, ?_, by rw [upd_same, em], by rw [List.length_append, ln]; rfl, fun x hx => ?_⟩
      · rw [upd_ne nhp]
        exact hhl9
      · rcases List.mem_append.mp hx with hx | hx
        · exact ns0 x hx
        · rw [List.mem_singleton.mp hx]
          exact pv0
    · obtain ⟨y8, y9, y10, ns, rfl, ef6, X6, hhl6, hpl6, ln, ns0⟩ := h6
      have X6 : Wd P w K o H6 W sgA a (c + 8) sg m b n := X6
      obtain ⟨p0, p1, rfl⟩ : ∃ p0 p1, ns = [p0, p1] := by
        match ns, ln with
        | [p0, p1], _ => exact ⟨p0, p1, rfl⟩
      have z0 := ns0 p0 List.mem_cons_self
      have z1 := ns0 p1 (List.mem_cons_of_mem _ List.mem_cons_self)
      obtain ⟨okb, bD, rL, sD, hL, wL, gD, B⟩ := X6.bk
      obtain ⟨_, rxs, hrx, _, _⟩ := B.roads
      refine ⟨_, rfl, a, _, _, _, rfl, rfl, SqL.of B.ob.2, rfl, rL, _, rfl, .inl (SqL.of hrx), sl, fun tl ntl => ?_⟩
      have s8 := same_upd (o := HO.lst [V.int 0, V.int 0, V.int 0, V.int 0, V.int 0, V.int 0, V.int 0, V.int 1]) ntl
      have otl := X6.dom.free ntl
      refine ⟨_, rfl, o, W, _, 8, rfl, by decide, X6.well.same s8, by omega, fun ti H9 t0 t1 ef9 W9 => ?_⟩
      obtain ⟨pv, hpv, pv0⟩ := eight_at2 t0 t1
      have ef69 := (Ef.same (K := K) (t := 0) (o := o) s8).trans ef9
      have hpl9 := (ef69.mine hpl6 opl).1
      have X9 := X6.drawn ef69 W9
      refine ⟨tl, _, _, _, rfl, rfl, SqL.of (ef9.mine upd_same otl).1, hpv, _, _, rfl, rfl, _, rfl, _, rfl, _, rfl, pl, _, _, _, rfl, rfl, SqL.of hpl9, rfl, _, rfl, pl, _, _, _, rfl, rfl, SqL.of hpl9, rfl, sl, fun pp npp => ?_⟩
      have s10 := same_upd (o := HO.tup [V.str "open", V.int (rxs.length + pv), V.str l, V.str r, V.int p0, V.int p1]) npp
      have X10 := X9.same s10
      have hpl10 := s10 _ _ hpl9
      have ef10 := (ef6.trans ef69).trans (Ef.same s10)
      have e10 : Eff K T013 o H o _ := Eff.of ef10 (by decide)
      refine ⟨_, rfl, _, rfl, rfl, _, rfl, ite2 (fun k1 => ?_) (fun k1 => ?_)⟩
      · have nlr : l ≠ r := fun e => by
          rw [e] at k1
          simp at k1
        refine ⟨_, rfl, pl, [p0, p1], rfl, SqL.of hpl10, _, _, rfl, rfl, _, rfl, ite2 (fun k2 => ?_) (fun k2 => ?_)⟩
        · have sp : 0 < p0 + p1 := by
            have z := of_decide_eq_true k2
            simp only [List.sum_cons, List.sum_nil] at z
            omega
          refine ⟨_, rfl, _, rfl, _, rfl, _, rfl, _, rfl, _, rfl, sl, fun h2 nh2 => ?_⟩
          have s12 := same_upd (o := HO.lst [V.str l, V.str r]) nh2
          have X12 := X10.same s12
          have pk : IsPaper K _ (.ref pp) (.op (rxs.length + pv) l r p0 p1) := ⟨pp, rfl, Ks.same (K := K) s12 _ _ (SqT.of upd_same)⟩
          refine ⟨o, W, sgA, a, h2, c + 9, sg, m, b, n, _, _, l, r, rfl, X12.mono (by omega) (by omega) (Nat.le_refl _) (Nat.le_refl _) (by omega), by omega, hm, hn, pk, ⟨by omega, nl, nr, nlr, z0, z1, sp⟩, upd_same, X10.dom.free nh2, nl, nr, fun o' H' sg' x e' X' le' => ?_⟩
          have hpl13 := (e'.mine _ _ (s12 _ _ hpl10) opl).1
          have e13 := (e10.trans (Eff.same s12)).trans e'
          refine ⟨_, rfl, _, rfl, _, rfl, pl, _, _, _, rfl, rfl, SqL.of hpl13, rfl, _, rfl, pl, _, _, _, rfl, rfl, SqL.of hpl13, rfl, sl, fun tq ntq => ?_⟩
          have s11 := same_upd (o := HO.tup [V.str "open", V.str l, V.str r, V.int p0, V.int p1]) ntq
          exact h _ _ _ _ (.op l r p0 p1) (e13.trans (Eff.same s11)) ((X'.same s11).mono (by omega) hc (by omega) (by omega) hn) le' ⟨tq, rfl, SqT.of upd_same⟩ ⟨nl, nr, z0, z1⟩
        · skip
          refine ⟨_, rfl, _, rfl, _, rfl, pl, _, _, _, rfl, rfl, SqL.of hpl10, rfl, _, rfl, pl, _, _, _, rfl, rfl, SqL.of hpl10, rfl, sl, fun tq ntq => ?_⟩
          have s11 := same_upd (o := HO.tup [V.str "open", V.str l, V.str r, V.int p0, V.int p1]) ntq
          exact h _ _ _ _ (.op l r p0 p1) (e10.trans (Eff.same s11)) ((X10.same s11).mono (by omega) hc (by omega) (by omega) hn) (SgLe.refl _) ⟨tq, rfl, SqT.of upd_same⟩ ⟨nl, nr, z0, z1⟩
      · skip
        refine ⟨_, rfl, _, rfl, _, rfl, pl, _, _, _, rfl, rfl, SqL.of hpl10, rfl, _, rfl, pl, _, _, _, rfl, rfl, SqL.of hpl10, rfl, sl, fun tq ntq => ?_⟩
        have s11 := same_upd (o := HO.tup [V.str "open", V.str l, V.str r, V.int p0, V.int p1]) ntq
        exact h _ _ _ _ (.op l r p0 p1) (e10.trans (Eff.same s11)) ((X10.same s11).mono (by omega) hc (by omega) (by omega) hn) (SgLe.refl _) ⟨tq, rfl, SqT.of upd_same⟩ ⟨nl, nr, z0, z1⟩
end
end Cn
namespace Cn
open PySem PySem.Spec PyProof.Rows L2
def spTelling (P : Program) (w : World) (K : PySem.W.Frag) : Sp := fun vs H Q _ => ∃ (o : Own) (W sgA a ka : Addr) (c : Nat) (sg : Sg) (m : Nat) (b : Bk) (n : Nat) (keys : List Int), vs = [.ref W, .ref sgA, .ref a, .ref ka] ∧ Wd P w K o H W sgA a c sg m b n ∧ c + 330 ≤ cMax ∧ m + 2 ≤ 10000 ∧ n + 1 ≤ 300 ∧ 1 ≤ b.roads.length ∧ KeysOk H o ka keys ∧ o ka = none ∧
  ∀ (o' : Own) (H' : Hp) (sg' : Sg) (v : V) (d : Deed), Eff K T013 o H o' H' → Wd P w K o' H' W sgA a (c + 330) sg' (m + 2) b (n + 1) → SgLe sg sg' → IsDeed K H' v d → d.ok → Q v H'
theorem KeysOk.mine {K : PySem.W.Frag} {T : List Nat} {H H' : Hp} {o o' : Own} {ka : Addr} {keys : List Int} (h : KeysOk H o ka keys) (hn : o ka = none) (e : Eff K T o H o' H') : KeysOk H' o' ka keys :=
  ⟨(e.mine _ _ h.1 hn).1, fun i => (by rw [(e.mine _ _ h.1 hn).2]; intro z; cases z), h.2.2⟩
theorem slN2 : ¬ (HT.sIx 5 0 (some 2) = 0 ∧ HT.sIx 5 5 none = 5) := by decide
def IsStates (K : PySem.W.Frag) (H : Hp) (vs : List V) (ss : List ST) : Prop := Paired (IsST K H) vs ss ∧ ∀ s ∈ ss, s.ok
theorem states_nil {K : PySem.W.Frag} {H : Hp} {vs : List V} {ss : List ST} (h : Paired (IsST K H) vs ss) : DpAll K H vs (ss.map ST.data) := dpAll_of (fun _ _ z => IsST.dp z) h
theorem states_shaped {ss : List ST} (h : ∀ s ∈ ss, s.ok) : SeqAt.shaped (.list (ss.map ST.data)) = true := by
  obtain ⟨h1, h2⟩ := fine_all (as := ss) (f := ST.data) fun s hs => fine_st (h s hs)
  have h3 : (PyData.list (ss.map ST.data)).depth = PyData.depthAll (ss.map ST.data) + 1 := by simp [PyData.depth]
  have h4 : (PyData.list (ss.map ST.data)).canLay0 = true := by simp [PyData.canLay0, h1]
  unfold SeqAt.shaped
  rw [h3, h4, decide_eq_true (by omega)]
  rfl
theorem datas_nil (ss : List ST) : PyData.eqv (.list (ss.map ST.data)) (.list []) = ss.isEmpty := by
  cases ss with
  | nil => rfl
  | cons g r => rfl
section
variable {P : Program} {w : World} {K : PySem.W.Frag} {mg : Str → Option Value} {base : Heap}
abbrev n_law_telling : List Str := ["_law_well_here", "_law_signs", "_law_book_here", "_law_keys", "_law_pick", "_law_number", "_law_olds", "_law_left", "_law_right", "_law_one", "_law_other", "_law_mood", "_law_standing", "_law_ending", "_law_some", "_law_state_here", "_law_ids", "_law_deed_here", "_law_paid", "_law_hand", "_law_paper", "_law_lock"]
theorem sc_law_telling : FnScope n_law_telling ["_law_well_here", "_law_signs", "_law_book_here", "_law_keys"] (defScope s_law_telling) := ⟨rfl, rfl, rfl, by decide +kernel, rfl, by decide +kernel, by decide +kernel⟩
theorem ok_law_telling (T : Tx K mg) : DefOk P w K mg base CX0 8 (He.fAd K d_law_telling.at_) ["_law_well_here", "_law_signs", "_law_book_here", "_law_keys"] (spTelling P w K) := by
  refine mk0 (d := d_law_telling) T.f_law_telling rfl (fun _ _ _ _ _ _ us hl => match us, hl with | [_, _, _, _], _ => rfl) sc_law_telling (fun vs H Q E h => ?_) (fun cdv A outer s H vs Q E hr h => ?_)
  · obtain ⟨_, _, _, _, _, _, _, _, _, _, _, rfl, _⟩ := h
    rfl
  · obtain ⟨o, W, sgA, a, ka, c, sg, m, b, n, keys, rfl, X, hc, hm, hn, rl1, kok, kn, h⟩ := h
    obtain ⟨okb, bD, rL, sD, hL, wL, gD, B⟩ := X.bk
    obtain ⟨orL, rxs, hrx, nd, pr⟩ := B.roads
    have lr : rxs.length = b.roads.length := paired_len pr
    have clk := okb.clock
    have lenN : ∀ {q : Nat}, q ≤ 3 * n → q ≤ 900 := fun h => by omega
    obtain ⟨tC, bC, hC⟩ : ∃ tC, PSs (cxOf CX0 P w K mg base n_law_telling d_law_telling.qual d_law_telling.scope (He.fAd K d_law_telling.at_) cdv A outer s H E).nox ((defBody s_law_telling).drop 11) tC ∧ ∀ (H7 : Hp) (pk nu : Int) (rd : Rd1) (g sv : V) (y6 y13 y14 y16 : Option V) (st : ST), NameOk rd.l → NameOk rd.r → Eff K T013 o H o H7 → Wd P w K o H7 W sgA a (c + 325) sg m b n → IsST K H7 sv st → st.ok → tC { nx := fun _ H' => Q .non H', rt := Q } [some (.ref W), some (.ref sgA), some (.ref a), some (.ref ka), some (.int pk), some (.int nu), y6, some (.str rd.l), some (.str rd.r), some (.int rd.one), some (.int rd.other), some (.str rd.mood), some g, y13, y14, some sv, y16, none, none, none, none, none] H7 := by
      refine ⟨_,
        (pss_cons (ps_expr (cD (ok_law_signing T) T.g_law_signing hr (pa_cons (pv 0) (pa_cons (pv 1) (pa_cons (pv 2) (pa_cons (pv 15) (pa_cons (pe_lst (pa_cons (pv 7) (pa_cons (pv 8) pa_nil))) pa_nil)))))))
      (pss_one (ps_ret (pe_tup (pa_cons pe_str (pa_cons (pv 15) pa_nil)))))), ?_⟩
      intro H7 pk nu rd g sv y6 y13 y14 y16 st nl nr e7 X7 hst sok
      obtain ⟨va, vb, vxs, rfl, _, _, _⟩ := id hst
      refine ⟨_, rfl, _, rfl, _, rfl, _, rfl, _, rfl, _, rfl, sl, fun hl9 nhl9 => ?_⟩
      have s99 := same_upd (o := HO.lst [V.str rd.l, V.str rd.r]) nhl9
      have X99 := X7.same s99
      have hst99 := IsST.mono (Ks.same (K := K) s99) hst
      refine ⟨o, W, sgA, a, hl9, c + 325, sg, m, b, n, _, .st st, rd.l, rd.r, rfl, X99, by omega, hm, hn, hst99, sok, upd_same, X7.dom.free nhl9, nl, nr, fun o' H' sg' x' e' X' le' => ?_⟩
      have e99 := (e7.trans (Eff.same s99)).trans e'
      refine ⟨_, rfl, ?_⟩
      refine ⟨sl, fun tq ntq => ?_⟩
      have sq9 := same_upd (o := HO.tup [V.str (Str.ofString "tell"), V.ref va]) ntq
      exact h _ _ _ _ (.tell st) (e99.trans (Eff.same sq9)) ((X'.same sq9).mono (by omega) hc (by omega) (by omega) hn) le' ⟨tq, _, rfl, SqT.of upd_same, IsST.mono (Ks.same sq9) (IsST.mono e'.sq hst99)⟩ sok
    obtain ⟨tB, bB, hB⟩ : ∃ tB, PSs (cxOf CX0 P w K mg base n_law_telling d_law_telling.qual d_law_telling.scope (He.fAd K d_law_telling.at_) cdv A outer s H E).nox ((defBody s_law_telling).drop 9) tB ∧ ∀ (H6 : Hp) (pk nu : Int) (rd : Rd1) (g : V) (y6 y13 y14 : Option V), 0 ≤ nu → rd ∈ b.roads → Fx K 3 o H o H6 → Eff K T013 o H o H6 → Wd P w K o H6 W sgA a (c + 20) sg m b n → IsST K H6 g rd.standing → tB { nx := fun _ H' => Q .non H', rt := Q } [some (.ref W), some (.ref sgA), some (.ref a), some (.ref ka), some (.int pk), some (.int nu), y6, some (.str rd.l), some (.str rd.r), some (.int rd.one), some (.int rd.other), some (.str rd.mood), some g, y13, y14, none, none, none, none, none, none, none] H6 := by
      refine ⟨_,
        (pss_cons (ps_set (i := 15) sc_law_telling.nd rfl (.inl rfl) (cD (ok_law_state T) T.g_law_state hr (pa_cons (pv 0) (pa_cons (pv 5) (pa_cons (pe_op op_add (pe_op op_add (pv 9) (pv 10)) (pe_callTy call_int1 (by rfl) T.b_int (by decide +kernel) (pa_cons (pe_cmpR op_eq (pv 4) pe_int (nomark _)) pa_nil))) (pa_cons (pv 3) (pa_cons (pe_ix ix_list (pv 2) pe_int (fun _ _ => rfl)) pa_nil)))))))
      (pss_cons (ps_if (PW.pt (pw_and (pt_cmpR op_eq (pv 11) pe_str (nomark _)) (pw_and1 (pt_cmpR op_gt (pv 4) pe_int (nomark _))))) (pss_cons (ps_setLc (i := 16) (own := [("_law_lock", 21)]) (tt := tYes) rfl sc_law_telling.nd rfl rfl (sw_true rfl rfl rfl (by decide +kernel)) (pi_tup (pe_ix ix_tup (pv 15) pe_int (fun _ _ => rfl))) (blkOk_by (own := [("_law_lock", 21)]) (N := n_law_telling) (sc := defScope s_law_telling) (by decide +kernel)) (fun _ _ _ _ _ => (pg_name (i := 21) sc_law_telling.nd rfl (.inl rfl))) (fun _ _ _ _ _ => pts_nil) (fun _ _ _ _ _ => (pe_ix (r := rIxT K) ix_tup (pv 21) pe_int (fun _ _ => rfl))))
      (pss_one (ps_set (i := 15) sc_law_telling.nd rfl (.inl rfl) (pe_op op_catT (pe_tup (pa_cons (pv 5) (pa_cons (pe_callB (cr_max rfl) (by rfl) T.b_max (by decide +kernel) (pa_cons (pe_op op_cat (pv 16) (pe_lst (pa_cons (pe_op op_add (pe_ix ix_tup (pv 12) pe_int (fun _ _ => rfl)) (cD (ok_law_take T) T.g_law_take hr (pa_cons (pv 0) (pa_cons pe_int pa_nil)))) pa_nil))) pa_nil)) pa_nil))) (pe_slice sl_tup (pv 15) (po_some pe_int) po_none))))) pss_nil)
      bC)), ?_⟩
      intro H6 pk nu rd g y6 y13 y14 n0 rin f6 e6 X6 hg6
      have rdm := okb.road rd rin
      have B6 := B.fx f6
      have kok6 := kok.mine kn e6
      refine ⟨_, rfl, _, rfl, _, rfl, _, rfl, _, _, rfl, rfl, _, rfl, rfl, .inr ⟨_, rfl, _, _, rfl, rfl, _, rfl, _, rfl, a, _, _, _, rfl, rfl, SqL.of B6.ob.2, rfl, ⟨nu, _, ka, keys, b.clock⟩, o, W, _, _, rfl, ⟨rfl, n0, ?_, kok6, clk⟩, X6.well, by omega, fun v H7 ef7 W7 h7 => ?_⟩⟩
      · show 0 ≤ rd.one + rd.other + (if decide (V.int pk = V.int 3) = true then (1 : Int) else 0)
        have := rdm.2.2.2.2.1
        have := rdm.2.2.2.2.2.1
        split <;> omega
      obtain ⟨s, hs, sok, esl⟩ := h7
      have X7 := X6.drawn ef7 W7
      have e17 := e6.trans (Eff.of ef7 (by decide : (0 : Nat) ∈ T013))
      have B7 := B6.fx (ef7.fx (by decide))
      have hg7 := IsST.mono ef7.sq hg6
      refine ⟨_, rfl, rfl, _, rfl, ite2 (fun _ => ?_) (fun _ => ?_)⟩
      · refine ⟨_, rfl, _, _, rfl, rfl, _, rfl, ite2 (fun _ => ?_) (fun _ => ?_)⟩
        · obtain ⟨sa, sb, sxs, rfl, sq, sqb, sp⟩ := id hs
          obtain ⟨ga, gb, gxs, rfl, gq, gqb, gp⟩ := id hg7
          refine ⟨_, rfl, sa, _, _, _, rfl, rfl, sq, rfl, sb, rfl, ⟨_, sqb⟩, fun D8 nD8 => lc_tup (xs := sxs) (fun i H8 => Same H7 H8 ∧ H8 D8 = some (.lst (((s.lks.take i).map LK.id).map V.int))) ⟨same_upd nD8, upd_same⟩ (fun i H8 _ h8 => Ks.same h8.1 _ _ sqb) (fun i x H8 hi h8 => ?_) (fun H8 h8 => ?_)⟩
          · obtain ⟨s8, hD8⟩ := h8
            obtain ⟨kk, hk, pp, rfl, hpp⟩ := paired_get sp hi
            refine ⟨rfl, _, rfl, pp, _, _, _, rfl, rfl, Ks.same s8 _ _ hpp, rfl, _, hD8, slt ?_, fun b' y e => ?_, ?_⟩
            · rw [List.length_map, List.length_map, List.length_take]
              have := sok.len
              omega
            · rw [upd_ne (ne_of_none e nD8)]
              exact s8 _ _ e
            · rw [upd_same, take_succ_of hk, List.map_append, List.map_append]
              rfl
          · obtain ⟨s8, hD8⟩ := h8
            rw [paired_len sp, List.take_length] at hD8
            have X8 := X7.same s8
            have gq8 := Ks.same (K := K) s8 _ _ gq
            refine ⟨_, rfl, _, rfl, _, rfl, ga, _, _, _, rfl, rfl, gq8, rfl, _, rfl, o, W, _, 3, rfl, by decide, X8.well, by omega, fun q9 H9 q90 q91 ef9 W9 => ⟨_, _, rfl, rfl, sl, fun l9 nl9 => ?_⟩⟩
            have X9 := X8.drawn ef9 W9
            have oD8 := X7.dom.free nD8
            have hD9 := (ef9.mine hD8 oD8).1
            have s10 := same_upd (o := HO.lst [V.int (rd.standing.nu + q9)]) nl9
            refine ⟨D8, l9, _, _, rfl, rfl, s10 _ _ hD9, upd_same, sle (by simp only [List.length_map, List.length_cons, List.length_nil]; have := sok.len; omega), fun l10 nl10 => ?_⟩
            have s11 := same_upd (o := HO.lst ((s.lks.map LK.id).map V.int ++ [V.int (rd.standing.nu + q9)])) nl10
            refine ⟨l10, s.lks.map LK.id ++ [rd.standing.nu + q9], rfl, SqL.of (by rw [upd_same, List.map_append]; rfl), by rw [List.length_append]; exact Nat.succ_pos _, fun mx mxin mxle => ⟨sl, fun t1 nt1 => ?_⟩⟩
            have s12 := same_upd (o := HO.tup [V.int nu, V.int mx]) nt1
            have k712 := (((Ks.same (K := K) s8).trans ef9.sq).trans ((Ks.same s10).trans (Ks.same s11))).trans (Ks.same s12)
            have sq12 := k712 _ _ sq
            refine ⟨_, rfl, 2, rfl, sa, _, rfl, sq12, slN2, fun t2 nt2 => ?_⟩
            have s13 := same_upd (o := HO.tup (cutV [V.int s.ln, V.int s.nu, V.int s.l, V.int s.r, V.ref sb] (some 2) none)) nt2
            refine ⟨t1, t2, _, _, rfl, rfl, Ks.same s13 _ _ (SqT.of upd_same), SqT.of upd_same, List.cons_ne_nil _ _, sl, fun z => (List.cons_ne_nil _ _ z).elim, fun _ t3 nt3 => ?_⟩
            have s14 := same_upd (o := HO.tup ([V.int nu, V.int mx] ++ cutV [V.int s.ln, V.int s.nu, V.int s.l, V.int s.r, V.ref sb] (some 2) none)) nt3
            have sall := (s10.trans s11).trans ((s12.trans s13).trans s14)
            have X14 := X9.same sall
            have e14 := ((e17.trans (Eff.same s8)).trans (Eff.of ef9 (by decide : (0 : Nat) ∈ T013))).trans (Eff.same sall)
            have k714 := k712.trans ((Ks.same s13).trans (Ks.same s14))
            have stn := rdm.2.2.2.2.2.2.nu
            have mx0 : 0 ≤ mx := by
              rcases List.mem_append.mp mxin with hm | hm
              · obtain ⟨k, hk, rfl⟩ := List.mem_map.mp hm
                have := (sok.lk k hk).1
                omega
              · rw [List.mem_singleton.mp hm]
                omega
            have hs14 : IsST K _ (.ref t3) ⟨nu, mx, s.l, s.r, s.lks⟩ := ⟨t3, sb, sxs, rfl, SqT.of upd_same, k714 _ _ sqb, paired_imp (fun _ _ z => IsLK.mono k714 z) sp⟩
            have sok14 : (ST.mk nu mx s.l s.r s.lks).ok := ⟨n0, mx0, sok.l, sok.r, sok.len, sok.lk, sok.up, fun k hk => mxle _ (List.mem_append_left _ (List.mem_map.mpr ⟨k, hk, rfl⟩))⟩
            exact hC _ _ _ _ _ _ _ _ _ _ _ rdm.2.2.1 rdm.2.2.2.1 e14 (X14.mono (by omega) (by omega) (Nat.le_refl _) (Nat.le_refl _) (by omega)) hs14 sok14
        · exact hC _ _ _ _ _ _ _ _ _ _ _ rdm.2.2.1 rdm.2.2.2.1 e17 (X7.mono (by omega) (by omega) (Nat.le_refl _) (Nat.le_refl _) (by omega)) hs sok
      · exact hC _ _ _ _ _ _ _ _ _ _ _ rdm.2.2.1 rdm.2.2.2.1 e17 (X7.mono (by omega) (by omega) (Nat.le_refl _) (Nat.le_refl _) (by omega)) hs sok
    obtain ⟨tA, bA, hA⟩ : ∃ tA, PSs (cxOf CX0 P w K mg base n_law_telling d_law_telling.qual d_law_telling.scope (He.fAd K d_law_telling.at_) cdv A outer s H E).nox ((defBody s_law_telling).drop 7) tA ∧ ∀ (H3 : Hp) (pk nu : Int) (rd : Rd1) (g : V) (y6 y13 : Option V), 0 ≤ nu → rd ∈ b.roads → Fx K 3 o H o H3 → Eff K T013 o H o H3 → Wd P w K o H3 W sgA a (c + 10) sg m b n → IsST K H3 g rd.standing → tA { nx := fun _ H' => Q .non H', rt := Q } [some (.ref W), some (.ref sgA), some (.ref a), some (.ref ka), some (.int pk), some (.int nu), y6, some (.str rd.l), some (.str rd.r), some (.int rd.one), some (.int rd.other), some (.str rd.mood), some g, y13, none, none, none, none, none, none, none, none] H3 := by
      refine ⟨_,
        (pss_cons (ps_lock (ps_setLc (i := 14) (own := [("_law_hand", 19), ("_law_paper", 20)]) (g := gTup K 2 (gCons (gName 19) (gCons (gName 20) gNil))) rfl sc_law_telling.nd rfl rfl (sw_true rfl rfl rfl (by decide +kernel)) (pi_keysN (pe_ix ix_list (pv 2) pe_int (fun _ _ => rfl))) (blkOk_by (own := [("_law_hand", 19), ("_law_paper", 20)]) (N := n_law_telling) (sc := defScope s_law_telling) (by decide +kernel)) (fun _ _ _ _ _ => (pg_tup rfl (pgs_cons (pg_name (i := 19) sc_law_telling.nd rfl (.inl rfl)) (pgs_cons (pg_name (i := 20) sc_law_telling.nd rfl (.inl rfl)) pgs_nil)))) (fun _ _ _ _ _ => (pts_one (pt_cmpR op_eq (pe_ix (r := rIxT K) ix_tup (pv 20) pe_int (fun _ _ => rfl)) (pv 5) (nomark _)))) (fun _ _ _ _ _ => (pv 20))))
      (pss_cons (ps_if (PW.pt (pw_and (pt_cmpR op_eq (pv 4) pe_int (nomark _)) (pw_and1 (pt_cmpR (op_neD hr.units) (pv 14) (pe_lst pa_nil) (nomark _))))) (pss_cons (ps_set (i := 15) sc_law_telling.nd rfl (.inl rfl) (pe_ix ix_list (pv 14) (cD (ok_law_take T) T.g_law_take hr (pa_cons (pv 0) (pa_cons (pe_callB call_len_seq (by rfl) T.b_len PySem.boot_len (pa_cons (pv 14) pa_nil)) pa_nil))) (fun _ _ => rfl)))
      (pss_cons (ps_expr (cD (ok_law_signing T) T.g_law_signing hr (pa_cons (pv 0) (pa_cons (pv 1) (pa_cons (pv 2) (pa_cons (pv 15) (pa_cons (pe_lst (pa_cons (pv 7) (pa_cons (pv 8) pa_nil))) pa_nil)))))))
      (pss_one (ps_ret (pe_tup (pa_cons pe_str (pa_cons (pv 15) pa_nil))))))) pss_nil)
      bB)), ?_⟩
      intro H3 pk nu rd g y6 y13 n0 rin f3 e3 X3 hg3
      have rdm := okb.road rd rin
      have B3 := B.fx f3
      obtain ⟨ogD, gx, gis, gall, gN⟩ := B3.gd
      have locks : ∃ u, H3 gD = some u ∧ Mut (some u) ∧ (∀ od : Obj, DNf P w (upd H3 gD (.frz od u)) gD od gx) := by
        rcases gis with gis | ⟨rfl, gis⟩
        · exact ⟨_, gis, trivial, fun od => .inl upd_same⟩
        · exact ⟨_, gis, trivial, fun od => .inr ⟨rfl, upd_same⟩⟩
      obtain ⟨u, hu, mu, dnf⟩ := locks
      refine ⟨gD, u, hu, mu, fun od => ?_⟩
      have kf : Ks K H3 (upd H3 gD (.frz od u)) := Ks.updN gis
      have obf : upd H3 gD (.frz od u) a = some (.lst [.int b.clock, .int b.long, .ref bD, .ref rL, .ref sD, .ref hL, .ref wL, .ref gD]) := by
        rw [upd_ne (own_ne B3.ob.1 ogD (by decide))]
        exact B3.ob.2
      refine ⟨_, rfl, a, _, _, _, rfl, rfl, SqL.of obf, rfl, gD, od, gx, rfl, dnf od, fun D5 nD5 => lc_it (walk_keysN (P := P) (w := w) (d := gD) (o := od) (xs := gx)) (fun i H5 => Same (upd H3 gD (.frz od u)) H5 ∧ ∃ vs ss, H5 D5 = some (.lst vs) ∧ Paired (IsST K H5) vs ss ∧ (∀ s ∈ ss, s.ok) ∧ ss.length ≤ i) ⟨same_upd nD5, [], [], upd_same, .nil, fun _ z => (List.not_mem_nil z).elim, Nat.le_refl _⟩ (fun i H5 _ h5 => ?_) (fun i x H5 H6 hi h5 hy => ?_) (fun H5 h5 => ?_)⟩
      · rcases dnf od with z | ⟨z1, z⟩
        · exact .inl (h5.1 _ _ z)
        · exact .inr ⟨z1, h5.1 _ _ z⟩
      · obtain ⟨s5, vs, ss, hD5, pv5, sok5, lss5⟩ := h5
        obtain ⟨rfl, k, q, hkq, rfl⟩ := hy
        obtain ⟨hand, pv, pap, hq, hpap, papok, _⟩ := gall _ (List.mem_of_getElem? hkq)
        have k5 := kf.trans (Ks.same (K := K) s5)
        have hpap5 := IsPaper.mono k5 hpap
        have lvs5 := paired_len pv5
        have bN : gx.length ≤ 900 := by omega
        refine ⟨q, _, rfl, k5 _ _ hq, rfl, _, _, rfl, _, _, rfl, rfl, rfl, ?_⟩
        cases pap with
        | op n' l' r' a' b' =>
          obtain ⟨p', rfl, hp'⟩ := hpap5
          exact ⟨_, rfl, p', _, _, _, rfl, rfl, hp', rfl, _, rfl, rfl, _, rfl, iteF ⟨s5, vs, ss, hD5, pv5, sok5, by omega⟩⟩
        | st s =>
          obtain ⟨p', pb', pxs, rfl, hp', hpb', hpp'⟩ := id hpap5
          refine ⟨_, rfl, p', _, _, _, rfl, rfl, hp', rfl, _, rfl, rfl, _, rfl, ite2 (fun _ => ?_) (fun _ => ⟨s5, vs, ss, hD5, pv5, sok5, by omega⟩)⟩
          refine ⟨_, rfl, vs, hD5, slt (by omega), fun b' y e => ?_, vs ++ [.ref p'], ss ++ [s], upd_same, ?_, fun u' hu' => ?_, by rw [List.length_append]; simp only [List.length_cons, List.length_nil]; omega⟩
          · rw [upd_ne (ne_of_none e nD5)]
            exact s5 _ _ e
          · have kl : Ks K H6 (upd H6 D5 (.lst (vs ++ [.ref p']))) := Ks.updL hD5
            exact paired_append (paired_imp (fun _ _ z => IsST.mono kl z) pv5) (.cons (IsST.mono kl hpap5) .nil)
          · rcases List.mem_append.mp hu' with hu' | hu'
            · exact sok5 u' hu'
            · rw [List.mem_singleton.mp hu']
              exact papok
      obtain ⟨s5, svs, sss, hD5, pv5, sok5, lss5⟩ := h5
      refine ⟨s5 _ _ upd_same, ?_⟩
      have sX : Same H3 (upd H5 gD u) := fun b' y e => by
        by_cases c1 : b' = gD
        · rw [c1, upd_same, ← hu, ← c1]
          exact e
        · rw [upd_ne c1]
          exact s5 _ _ (by rw [upd_ne c1]; exact e)
      have nDg : D5 ≠ gD := fun e => by rw [e, upd_same] at nD5; cases nD5
      have hD6 : upd H5 gD u D5 = some (.lst svs) := by
        rw [upd_ne nDg]
        exact hD5
      have kback : Ks K H5 (upd H5 gD u) := by
        refine Ks.upd (s5 _ _ upd_same) (fun _ e => nomatch e) (fun y ys e => ?_)
        have eu : u = .tup ys := by
          injection e
        rw [eu] at mu
        exact mu.elim
      have pv6 := paired_imp (fun _ _ z => IsST.mono kback z) pv5
      have lsv := paired_len pv6
      have bN : gx.length ≤ 900 := by omega
      have lsv9 : svs.length ≤ 900 := by omega
      have nD5X : H3 D5 = none := by
        rw [upd_ne nDg] at nD5
        exact nD5
      have oD5 := X3.dom.free nD5X
      have X6 := X3.same sX
      have e16 := e3.trans (Eff.same (K := K) (T := T013) (o := o) sX)
      have B6 := B3.fx (Fx.same (K := K) sX)
      have hg6 := IsST.mono (Ks.same (K := K) sX) hg3
      have f6 : Fx K 3 o H o (upd H5 gD u) := f3.trans (Fx.same sX)
      refine ⟨_, rfl, rfl, _, rfl, ite2 (fun _ => ?_) (fun _ => ?_)⟩
      · refine ⟨_, rfl, sl, fun ze nze => ?_⟩
        have sz := same_upd (o := HO.lst []) nze
        refine ⟨_, _, .lst (SqL.of (sz _ _ hD6)) (states_nil (paired_imp (fun _ _ z => IsST.mono (Ks.same sz) z) pv6)), .lst (SqL.of upd_same) .nil, states_shaped sok5, states_shaped (ss := []) (fun _ z => (List.not_mem_nil z).elim), _, rfl, ?_⟩
        rw [datas_nil]
        have X6z := X6.same sz
        have e16z := e16.trans (Eff.same (K := K) (T := T013) (o := o) sz)
        cases es : sss.isEmpty with
        | false =>
          refine iteT ?_
          have lss0 : 1 ≤ svs.length := by
            rw [lsv]
            cases sss with
            | nil => cases es
            | cons _ _ => exact Nat.succ_pos _
          refine ⟨_, rfl, _, rfl, _, rfl, D5, _, rfl, .inl (SqL.of (sz _ _ hD6)), o, W, _, _, rfl, by omega, X6z.well, by omega, fun qi H7 qi0 qi1 ef7 W7 => ?_⟩
          have X7 := X6z.drawn ef7 W7
          have hD7 := (ef7.mine (sz _ _ hD6) oD5).1
          have qil : qi.toNat < svs.length := by omega
          have pv7 := paired_imp (fun _ _ z => IsST.mono ((Ks.same (K := K) sz).trans ef7.sq) z) pv6
          obtain ⟨s, hs', hs⟩ := paired_get pv7 (List.getElem?_eq_getElem qil)
          have sok := sok5 s (List.mem_of_getElem? hs')
          have e17 := e16z.trans (Eff.of ef7 (by decide : (0 : Nat) ∈ T013))
          refine ⟨D5, _, _, _, rfl, rfl, SqL.of hD7, atI_of qi0 (List.getElem?_eq_getElem qil), ?_⟩
          generalize svs[qi.toNat] = gv at hs
          obtain ⟨va, _, _, rfl, _, _, _⟩ := id hs
          refine ⟨_, rfl, _, rfl, _, rfl, _, rfl, _, rfl, _, rfl, sl, fun hl9 nhl9 => ?_⟩
          have s99 := same_upd (o := HO.lst [V.str rd.l, V.str rd.r]) nhl9
          have X99 := X7.same s99
          have hst99 := IsST.mono (Ks.same (K := K) s99) hs
          refine ⟨o, W, sgA, a, hl9, c + 325, sg, m, b, n, _, .st s, rd.l, rd.r, rfl, X99.mono (by omega) (by omega) (Nat.le_refl _) (Nat.le_refl _) (by omega), by omega, hm, hn, hst99, sok, upd_same, X7.dom.free nhl9, rdm.2.2.1, rdm.2.2.2.1, fun o' H' sg' x' e' X' le' => ?_⟩
          have e99 := (e17.trans (Eff.same s99)).trans e'
          refine ⟨_, rfl, ?_⟩
          refine ⟨sl, fun tq ntq => ?_⟩
          have sq9 := same_upd (o := HO.tup [V.str (Str.ofString "tell"), V.ref va]) ntq
          exact h _ _ _ _ (.tell s) (e99.trans (Eff.same sq9)) ((X'.same sq9).mono (by omega) hc (by omega) (by omega) hn) le' ⟨tq, _, rfl, SqT.of upd_same, IsST.mono (Ks.same sq9) (IsST.mono e'.sq hst99)⟩ sok
        | true =>
          refine iteF ?_
          exact hB _ _ _ _ _ _ _ _ n0 rin (f6.trans (Fx.same sz)) e16z (X6z.mono (by omega) (by omega) (Nat.le_refl _) (Nat.le_refl _) (by omega)) (IsST.mono (Ks.same (K := K) sz) hg6)
      · exact hB _ _ _ _ _ _ _ _ n0 rin f6 e16 (X6.mono (by omega) (by omega) (Nat.le_refl _) (Nat.le_refl _) (by omega)) hg6
    refine ⟨_,
      (pss_cons (ps_set (i := 4) sc_law_telling.nd rfl (.inl rfl) (cD (ok_law_take T) T.g_law_take hr (pa_cons (pv 0) (pa_cons pe_int pa_nil))))
      (pss_cons (ps_set (i := 5) sc_law_telling.nd rfl (.inr rfl) (cD (ok_law_take T) T.g_law_take hr (pa_cons (pv 0) (pa_cons (pe_op op_add (pe_callB call_len_seq (by rfl) T.b_len PySem.boot_len (pa_cons (pe_ix ix_list (pv 2) pe_int (fun _ _ => rfl)) pa_nil)) (pe_callTy call_int1 (by rfl) T.b_int (by decide +kernel) (pa_cons (pe_cmpR op_eq (pv 4) pe_int (nomark _)) pa_nil))) pa_nil))))
      (pss_cons (ps_setLc (i := 6) (own := [("_law_deed_here", 17), ("_law_paid", 18)]) (g := gTup K 2 (gCons (gName 17) (gCons (gName 18) gNil))) rfl sc_law_telling.nd rfl rfl (sw_true rfl rfl rfl (by decide +kernel)) (pi_list (pe_ix ix_list (pv 2) pe_int (fun _ _ => rfl))) (blkOk_by (own := [("_law_deed_here", 17), ("_law_paid", 18)]) (N := n_law_telling) (sc := defScope s_law_telling) (by decide +kernel)) (fun _ _ _ _ _ => (pg_tup rfl (pgs_cons (pg_name (i := 17) sc_law_telling.nd rfl (.inl rfl)) (pgs_cons (pg_name (i := 18) sc_law_telling.nd rfl (.inl rfl)) pgs_nil)))) (fun _ _ _ _ _ => (pts_one (pt_cmpR op_eq (pe_ix (r := rIxT K) ix_tup (pv 17) pe_int (fun _ _ => rfl)) pe_str (nomark _)))) (fun _ _ _ _ _ => (pe_ix (r := rIxT K) ix_tup (pv 17) pe_int (fun _ _ => rfl))))
      (pss_cons (ps_if (pt_cmpR op_eq (pv 5) (pe_callB call_len_seq (by rfl) T.b_len PySem.boot_len (pa_cons (pe_ix ix_list (pv 2) pe_int (fun _ _ => rfl)) pa_nil)) (nomark _)) (pss_one (ps_ret (pe_tup (pa_cons pe_str (pa_cons (cD (ok_law_state T) T.g_law_state hr (pa_cons (pv 0) (pa_cons (pv 5) (pa_cons (cD (ok_law_sum T) T.g_law_sum hr (pa_cons (pv 0) pa_nil)) (pa_cons (pv 3) (pa_cons (pe_ix ix_list (pv 2) pe_int (fun _ _ => rfl)) pa_nil)))))) pa_nil))))) pss_nil)
      (pss_cons (ps_asg (pe_ix ix_list (pe_ix ix_list (pv 2) pe_int (fun _ _ => rfl)) (pv 5) (fun _ _ => rfl)) (pg_lst rfl (pgs_cons (pg_name (i := 7) sc_law_telling.nd rfl (.inl rfl)) (pgs_cons (pg_name (i := 8) sc_law_telling.nd rfl (.inl rfl)) (pgs_cons (pg_name (i := 9) sc_law_telling.nd rfl (.inl rfl)) (pgs_cons (pg_name (i := 10) sc_law_telling.nd rfl (.inl rfl)) (pgs_cons (pg_name (i := 11) sc_law_telling.nd rfl (.inl rfl)) (pgs_cons (pg_name (i := 12) sc_law_telling.nd rfl (.inl rfl)) (pgs_cons (pg_name (i := 13) sc_law_telling.nd rfl (.inl rfl)) pgs_nil)))))))))
      (pss_cons (ps_if (pt_cmpR op_eq (pv 4) pe_int (nomark _)) (pss_one (ps_ret (pe_tup (pa_cons pe_str (pa_cons (pe_tup (pa_cons (pv 5) (pa_cons pe_int (pa_cons (pv 9) (pa_cons (pv 10) (pa_cons (pe_tup pa_nil) pa_nil)))))) pa_nil))))) pss_nil)
      (pss_cons (ps_if (PW.pt (pw_and (pt_cmpR op_eq (pv 4) pe_int (nomark _)) (pw_and1 (pt_cmpR (op_neD hr.units) (pv 6) (pe_lst pa_nil) (nomark _))))) (pss_one (ps_ret (pe_tup (pa_cons pe_str (pa_cons (pe_ix ix_list (pv 6) (cD (ok_law_take T) T.g_law_take hr (pa_cons (pv 0) (pa_cons (pe_callB call_len_seq (by rfl) T.b_len PySem.boot_len (pa_cons (pv 6) pa_nil)) pa_nil))) (fun _ _ => rfl)) pa_nil))))) pss_nil)
      bA))))))), ?_⟩
    refine ⟨_, rfl, o, W, c, 10, rfl, by decide, X.well, by omega, fun pk H1 p0 p1 ef1 W1 => ?_⟩
    have X1 := X.drawn ef1 W1
    have f1 : Fx K 3 o H o H1 := ef1.fx (by decide)
    have B1 := B.fx f1
    have hrx1 := (f1.1 2 _ _ orL hrx).2
    have i01 : 0 ≤ (if decide (V.int pk = V.int 0) = true then (1 : Int) else 0) ∧ (if decide (V.int pk = V.int 0) = true then (1 : Int) else 0) ≤ 1 := by
      split <;> decide
    refine ⟨_, rfl, _, rfl, a, _, _, _, rfl, rfl, SqL.of B1.ob.2, rfl, rL, _, rfl, .inl (SqL.of hrx1), _, rfl, rfl, .inr ⟨_, rfl, _, _, rfl, rfl, o, W, _, _, rfl, by omega, W1, by omega, fun nu H2 n0 n1 ef2 W2 => ?_⟩⟩
    have X2 := X1.drawn ef2 W2
    have ef12 := ef1.trans ef2
    have B2 := B.fx (ef12.fx (by decide))
    have hrx2 := ((ef12.fx (by decide : (3 : Nat) ≠ 0)).1 2 _ _ orL hrx).2
    obtain ⟨owL, ws, hws, pw⟩ := B2.rows
    refine ⟨_, rfl, a, _, _, _, rfl, rfl, SqL.of B2.ob.2, rfl, wL, rfl, ⟨_, SqL.of hws⟩, fun D nD => lc_list (xs := ws) (fun i H3 => Same H2 H3 ∧ ∃ vs ss, H3 D = some (.lst vs) ∧ Paired (IsST K H3) vs ss ∧ (∀ s ∈ ss, s.ok) ∧ ss.length ≤ i) ⟨same_upd nD, [], [], upd_same, .nil, fun _ z => (List.not_mem_nil z).elim, Nat.le_refl _⟩ (fun i H3 _ h3 => SqL.of (h3.1 _ _ hws)) (fun i x H3 hi h3 => ?_) (fun H3 h3 => ?_)⟩
    · obtain ⟨s3, vs, ss, hD, pv, sok, lss⟩ := h3
      have il := (List.getElem?_eq_some_iff.mp hi).1
      have lw := paired_len pw
      have lvs := paired_len pv
      have rN := okb.rowsN
      obtain ⟨d, hd, q, g, y, rfl, hq, hg⟩ := paired_get pw hi
      have dok := okb.deeds d (List.mem_of_getElem? hd)
      have k3 := Ks.same (K := K) s3
      refine ⟨q, _, rfl, k3 _ _ hq, rfl, _, _, rfl, _, _, rfl, rfl, rfl, ?_⟩
      cases d with
      | op l r xx yy =>
        obtain ⟨p', rfl, hp'⟩ := hg
        exact ⟨_, rfl, p', _, _, _, rfl, rfl, k3 _ _ hp', rfl, rfl, _, rfl, iteF ⟨s3, vs, ss, hD, pv, sok, by omega⟩⟩
      | tell s =>
        obtain ⟨p', g', rfl, hp', hs'⟩ := hg
        refine ⟨_, rfl, p', _, _, _, rfl, rfl, k3 _ _ hp', rfl, rfl, _, rfl, iteT ⟨_, rfl, p', _, _, _, rfl, rfl, k3 _ _ hp', rfl, vs, hD, slt (by omega), fun b' y e => ?_, vs ++ [g'], ss ++ [s], upd_same, ?_, fun u hu => ?_, by rw [List.length_append]; simp only [List.length_cons, List.length_nil]; omega⟩⟩
        · rw [upd_ne (ne_of_none e nD)]
          exact s3 _ _ e
        · have kl : Ks K H3 (upd H3 D (.lst (vs ++ [g']))) := Ks.updL hD
          exact paired_append (paired_imp (fun _ _ z => IsST.mono kl z) pv) (.cons (IsST.mono (k3.trans kl) hs') .nil)
        · rcases List.mem_append.mp hu with hu | hu
          · exact sok u hu
          · rw [List.mem_singleton.mp hu]
            exact dok
      | shw xx =>
        obtain ⟨p', rfl, hp'⟩ := hg
        exact ⟨_, rfl, p', _, _, _, rfl, rfl, k3 _ _ hp', rfl, rfl, _, rfl, iteF ⟨s3, vs, ss, hD, pv, sok, by omega⟩⟩
      | turn =>
        obtain ⟨p', rfl, hp'⟩ := hg
        exact ⟨_, rfl, p', _, _, _, rfl, rfl, k3 _ _ hp', rfl, rfl, _, rfl, iteF ⟨s3, vs, ss, hD, pv, sok, by omega⟩⟩
    obtain ⟨s3, ovs, oss, hD, pov, osok, loss⟩ := h3
    have X3 := X2.same s3
    have ef13 := ef12.trans (Ef.same s3)
    have e13 : Eff K T013 o H o H3 := Eff.of ef13 (by decide)
    have B3 := B2.fx (Fx.same (K := K) s3)
    have hrx3 := s3 _ _ hrx2
    have oD := X2.dom.free nD
    have kok3 := kok.mine kn e13
    have clk := okb.clock
    have lw := paired_len pw
    have lov := paired_len pov
    have rN := okb.rowsN
    refine ⟨_, rfl, _, rfl, a, _, _, _, rfl, rfl, SqL.of B3.ob.2, rfl, rL, _, rfl, .inl (SqL.of hrx3), rfl, _, rfl, ite2 (fun k1 => ?_) (fun k1 => ?_)⟩
    · refine ⟨_, rfl, _, rfl, _, rfl, (), o, W, _, [], rfl, rfl, X3.well, by omega, fun v H4 ef4 W4 h4 => ?_⟩
      obtain ⟨sv, rfl, sv0⟩ := h4
      have X4 := X3.drawn ef4 W4
      have B4 := B3.fx (ef4.fx (by decide))
      refine ⟨_, rfl, _, rfl, a, _, _, _, rfl, rfl, SqL.of B4.ob.2, rfl, ⟨nu, sv, ka, keys, b.clock⟩, o, W, _, _, rfl, ⟨rfl, n0, sv0, kok3.ef ef4, clk⟩, W4, by omega, fun v H5 ef5 W5 h5 => ?_⟩
      obtain ⟨s, hs, sok, _⟩ := h5
      obtain ⟨va, _, _, rfl, _, _, _⟩ := id hs
      have X5 := X4.drawn ef5 W5
      have e15 := e13.trans (Eff.of (ef4.trans ef5) (by decide : (0 : Nat) ∈ T013))
      refine ⟨sl, fun tq ntq => ?_⟩
      have sq9 := same_upd (o := HO.tup [V.str (Str.ofString "tell"), V.ref va]) ntq
      exact h _ _ _ _ (.tell s) (e15.trans (Eff.same sq9)) ((X5.same sq9).mono (by omega) hc (by omega) (by omega) hn) (SgLe.refl _) ⟨tq, _, rfl, SqT.of upd_same, IsST.mono (Ks.same sq9) hs⟩ sok
    have nlt : nu.toNat < rxs.length := by
      have : ¬ nu = (rxs.length : Int) := fun z => k1 (decide_eq_true (congrArg V.int z))
      omega
    obtain ⟨_, rxs', hrx', nd3, pr3⟩ := B3.roads
    obtain rfl : rxs = rxs' := HO.lst.inj (Option.some.inj (hrx3.symm.trans hrx'))
    obtain ⟨rd, hrd, p, g, erp, op, hpr, hg⟩ := paired_get pr3 (List.getElem?_eq_getElem nlt)
    have rdm := okb.road rd (List.mem_of_getElem? hrd)
    have eip : rxs[nu.toNat]? = some (.ref p) := by rw [List.getElem?_eq_getElem nlt, erp]
    refine ⟨_, rfl, a, _, _, _, rfl, rfl, SqL.of B3.ob.2, rfl, _, rfl, rL, _, _, _, rfl, rfl, SqL.of hrx3, atI_of n0 eip, p, _, rfl, SqL.of hpr, rfl, _, _, rfl, _, _, rfl, _, _, rfl, _, _, rfl, _, _, rfl, _, _, rfl, _, _, rfl, rfl, ?_⟩
    refine ⟨_, rfl, rfl, _, rfl, ite2 (fun _ => ?_) (fun _ => ?_)⟩
    · refine ⟨_, rfl, _, rfl, _, rfl, sl, fun te nte => ⟨sl, fun tf ntf => ?_⟩⟩
      have sa := same_upd (o := HO.tup []) nte
      have sb := same_upd (H := upd H3 te (.tup [])) (o := HO.tup [V.int nu, V.int 0, V.int rd.one, V.int rd.other, V.ref te]) ntf
      have sab := sa.trans sb
      have X4 := X3.same sab
      have e14 := e13.trans (Eff.same sab)
      have hs : IsST K (upd (upd H3 te (.tup [])) tf (.tup [V.int nu, V.int 0, V.int rd.one, V.int rd.other, V.ref te])) (.ref tf) (ST.first nu rd.one rd.other) := ⟨tf, te, [], rfl, SqT.of upd_same, Ks.same sb _ _ (SqT.of upd_same), .nil⟩
      refine ⟨sl, fun tq ntq => ?_⟩
      have sq9 := same_upd (o := HO.tup [V.str (Str.ofString "tell"), V.ref tf]) ntq
      exact h _ _ _ _ (.tell (ST.first nu rd.one rd.other)) (e14.trans (Eff.same sq9)) ((X4.same sq9).mono (by omega) hc (by omega) (by omega) hn) (SgLe.refl _) ⟨tq, _, rfl, SqT.of upd_same, IsST.mono (Ks.same sq9) hs⟩ (first_ok n0 rdm.2.2.2.2.1 rdm.2.2.2.2.2.1)
    have rin := List.mem_of_getElem? hrd
    have f3 : Fx K 3 o H o H3 := ef13.fx (by decide)
    refine ⟨_, rfl, rfl, _, rfl, ite2 (fun _ => ?_) (fun _ => ?_)⟩
    · refine ⟨_, rfl, sl, fun ze nze => ?_⟩
      have sz := same_upd (o := HO.lst []) nze
      have X3z := X3.same sz
      have e13z := e13.trans (Eff.same (K := K) (T := T013) (o := o) sz)
      refine ⟨_, _, .lst (SqL.of (sz _ _ hD)) (states_nil (paired_imp (fun _ _ z => IsST.mono (Ks.same sz) z) pov)), .lst (SqL.of upd_same) .nil, states_shaped osok, states_shaped (ss := []) (fun _ z => (List.not_mem_nil z).elim), _, rfl, ?_⟩
      rw [datas_nil]
      cases es0 : oss.isEmpty with
      | false =>
        refine iteT ?_
        have los0 : 1 ≤ ovs.length := by
          rw [lov]
          cases oss with
          | nil => cases es0
          | cons _ _ => exact Nat.succ_pos _
        refine ⟨_, rfl, _, rfl, _, rfl, D, _, rfl, .inl (SqL.of (sz _ _ hD)), o, W, _, _, rfl, by omega, X3z.well, by omega, fun qi H7 qi0 qi1 ef7 W7 => ?_⟩
        have X7 := X3z.drawn ef7 W7
        have hD7 := (ef7.mine (sz _ _ hD) oD).1
        have qil : qi.toNat < ovs.length := by omega
        have pv7 := paired_imp (fun _ _ z => IsST.mono ((Ks.same (K := K) sz).trans ef7.sq) z) pov
        obtain ⟨s, hs', hs⟩ := paired_get pv7 (List.getElem?_eq_getElem qil)
        have sok := osok s (List.mem_of_getElem? hs')
        have e17 := e13z.trans (Eff.of ef7 (by decide : (0 : Nat) ∈ T013))
        refine ⟨D, _, _, _, rfl, rfl, SqL.of hD7, atI_of qi0 (List.getElem?_eq_getElem qil), ?_⟩
        generalize ovs[qi.toNat] = gv at hs
        obtain ⟨va, _, _, rfl, _, _, _⟩ := id hs
        refine ⟨sl, fun tq ntq => ?_⟩
        have sq9 := same_upd (o := HO.tup [V.str (Str.ofString "tell"), V.ref va]) ntq
        exact h _ _ _ _ (.tell s) (e17.trans (Eff.same sq9)) ((X7.same sq9).mono (by omega) hc (by omega) (by omega) hn) (SgLe.refl _) ⟨tq, _, rfl, SqT.of upd_same, IsST.mono (Ks.same sq9) hs⟩ sok
      | true =>
        refine iteF ?_
        exact hA _ _ _ _ _ _ _ n0 rin (f3.trans (Fx.same sz)) e13z (X3z.mono (by omega) (by omega) (Nat.le_refl _) (Nat.le_refl _) (by omega)) (IsST.mono (Ks.same (K := K) sz) hg)
    · exact hA _ _ _ _ _ _ _ n0 rin f3 e13 (X3.mono (by omega) (by omega) (Nat.le_refl _) (Nat.le_refl _) (by omega)) hg
end
end Cn
namespace Cn
open PySem PySem.Spec PyProof.Rows L2
def endP : Option Int → PyData
  | none => .none
  | some i => .int i
def Rd1.data (r : Rd1) : PyData := .list [.str r.l, .str r.r, .int r.one, .int r.other, .str r.mood, r.standing.data, endP r.ending]
theorem endP_dp {K : PySem.W.Frag} {H : Hp} (e : Option Int) : Dp K H (endV e) (endP e) := by
  cases e with
  | none => exact .non
  | some i => exact .int i
theorem IsRd.dp {K : PySem.W.Frag} {o : Own} {H : Hp} {v : V} {r : Rd1} (h : IsRd K o H v r) : Dp K H v r.data := by
  obtain ⟨p, g, rfl, _, hp, hg⟩ := h
  exact .lst (SqL.of hp) (.cons (.str _) (.cons (.str _) (.cons (.int _) (.cons (.int _) (.cons (.str _) (.cons hg.dp (.cons (endP_dp _) .nil)))))))
theorem fine_rd {r : Rd1} (h1 : NameOk r.l) (h2 : NameOk r.r) (h3 : r.standing.ok) (h4 : PyData.strOk r.mood = true) : FineD 4 r.data := by
  obtain ⟨k1, k2⟩ := fine_st h3
  obtain ⟨x1, x2⟩ : FineD 0 (endP r.ending) := by
    cases r.ending with
    | none => exact ⟨by simp [endP, PyData.canLay0], by simp [endP, PyData.depth]⟩
    | some i => exact ⟨by simp [endP, PyData.canLay0], by simp [endP, PyData.depth]⟩
  constructor
  · simp [Rd1.data, PyData.canLay0, PyData.canLayAll0, k1, x1, strOk_name h1, strOk_name h2, h4]
  · simp only [Rd1.data, PyData.depth, PyData.depthAll]
    omega
theorem roads_shaped {l : List Rd1} (h : ∀ r ∈ l, NameOk r.l ∧ NameOk r.r ∧ r.standing.ok ∧ PyData.strOk r.mood = true) : SeqAt.shaped (.list (l.map Rd1.data)) = true := by
  obtain ⟨h1, h2⟩ := fine_all (as := l) (f := Rd1.data) fun s hs => fine_rd (h s hs).1 (h s hs).2.1 (h s hs).2.2.1 (h s hs).2.2.2
  have k1 : (PyData.list (l.map Rd1.data)).canLay0 = true := by
    simp only [PyData.canLay0]
    exact h1
  have k2 : (PyData.list (l.map Rd1.data)).depth ≤ 64 := by
    simp only [PyData.depth]
    omega
  unfold SeqAt.shaped
  rw [k1, decide_eq_true k2]
  rfl
theorem datas_nilR (ss : List Rd1) : PyData.eqv (.list (ss.map Rd1.data)) (.list []) = ss.isEmpty := by
  cases ss with
  | nil => rfl
  | cons g r => rfl
def SecAt (o : Own) (H : Hp) (se : Addr) (ss : List Int) : Prop := o se = some (6, 1) ∧ H se = some (.lst (ss.map V.int)) ∧ 1 ≤ ss.length ∧ ss.length ≤ 10 ∧ ∀ i ∈ ss, 0 ≤ i
theorem SecAt.fx {K : PySem.W.Frag} {o o' : Own} {H H' : Hp} {se : Addr} {ss : List Int} (h : SecAt o H se ss) (f : Fx K 6 o H o' H') : SecAt o' H' se ss := by
  have z := f.1 1 _ _ h.1 h.2.1
  exact ⟨z.1, z.2, h.2.2⟩
def spLawDeed (P : Program) (w : World) (K : PySem.W.Frag) : Sp := fun vs H Q _ => ∃ (o : Own) (W sgA a fl se : Addr) (c : Nat) (sg : Sg) (m : Nat) (b : Bk) (n : Nat) (zs : List Str) (ss : List Int), vs = [.ref W, .ref sgA, .ref a, .ref fl, .ref se] ∧ Wd P w K o H W sgA a c sg m b n ∧ c + 340 ≤ cMax ∧ m + 2 ≤ 10000 ∧ n + 1 ≤ 300 ∧ FolkAt o H fl zs ∧ SecAt o H se ss ∧
  ∀ (o' : Own) (H' : Hp) (sg' : Sg) (v : V) (d : Deed), Eff K T013 o H o' H' → Wd P w K o' H' W sgA a (c + 340) sg' (m + 2) b (n + 1) → SgLe sg sg' → IsDeed K H' v d → d.ok → Q v H'
section
variable {P : Program} {w : World} {K : PySem.W.Frag} {mg : Str → Option Value} {base : Heap}
abbrev n_law_deed : List Str := ["_law_well_here", "_law_signs", "_law_book_here", "_law_folk_here", "_law_secrets_here", "_law_pick", "_law_one"]
theorem sc_law_deed : FnScope n_law_deed ["_law_well_here", "_law_signs", "_law_book_here", "_law_folk_here", "_law_secrets_here"] (defScope s_law_deed) := ⟨rfl, rfl, rfl, by decide +kernel, rfl, by decide +kernel, by decide +kernel⟩
theorem ok_law_deed (T : Tx K mg) : DefOk P w K mg base CX0 9 (He.fAd K d_law_deed.at_) ["_law_well_here", "_law_signs", "_law_book_here", "_law_folk_here", "_law_secrets_here"] (spLawDeed P w K) := by
  refine mk0 (d := d_law_deed) T.f_law_deed rfl (fun _ _ _ _ _ _ us hl => match us, hl with | [_, _, _, _, _], _ => rfl) sc_law_deed (fun vs H Q E h => ?_) (fun cdv A outer s H vs Q E hr h => ?_)
  · obtain ⟨_, _, _, _, _, _, _, _, _, _, _, _, _, rfl, _⟩ := h
    rfl
  · obtain ⟨o, W, sgA, a, fl, se, c, sg, m, b, n, zs, ss, rfl, X, hc, hm, hn, hf, hs, h⟩ := h
    refine ⟨_, (pss_cons (ps_set (i := 5) sc_law_deed.nd rfl (.inl rfl) (cD (ok_law_take T) T.g_law_take hr (pa_cons (pv 0) (pa_cons pe_int pa_nil))))
      (pss_cons (ps_if (PW.pt (pw_or (pt_cmpR op_lt (pv 5) pe_int (nomark _)) (pw_or1 (pt_cmpR (op_eqD hr.units) (pe_ix ix_list (pv 2) pe_int (fun _ _ => rfl)) (pe_lst pa_nil) (nomark _))))) (pss_one (ps_ret (cD (ok_law_opening T) T.g_law_opening hr (pa_cons (pv 0) (pa_cons (pv 1) (pa_cons (pv 2) (pa_cons (pv 3) pa_nil))))))) pss_nil)
      (pss_cons (ps_if (pt_cmpR op_lt (pv 5) pe_int (nomark _)) (pss_one (ps_ret (cD (ok_law_telling T) T.g_law_telling hr (pa_cons (pv 0) (pa_cons (pv 1) (pa_cons (pv 2) (pa_cons (pe_lc (own := [("_law_one", 6)]) (tt := tYes) rfl sc_law_deed.nd (pi_list (pv 4)) (blkOk_by (own := [("_law_one", 6)]) (N := n_law_deed) (sc := defScope s_law_deed) (by decide +kernel)) (fun _ _ _ _ _ => (pg_name (i := 6) sc_law_deed.nd rfl (.inl rfl))) (fun _ _ _ _ _ => pts_nil) (fun _ _ _ _ _ => (cD (ok_seal_of (P := P) (w := w) (base := base) T) T.g_seal_of hr (pa_cons (pv 6) pa_nil)))) pa_nil))))))) pss_nil)
      (pss_cons (ps_if (pt_cmpR op_eq (pv 5) pe_int (nomark _)) (pss_one (ps_ret (pe_tup (pa_cons pe_str (pa_cons (pe_ix ix_list (pv 4) (cD (ok_law_take T) T.g_law_take hr (pa_cons (pv 0) (pa_cons (pe_callB call_len_seq (by rfl) T.b_len PySem.boot_len (pa_cons (pv 4) pa_nil)) pa_nil))) (fun _ _ => rfl)) pa_nil))))) pss_nil)
      (pss_one (ps_ret (pe_tup (pa_cons pe_str pa_nil)))))))), ?_⟩
    refine ⟨_, rfl, o, W, _, 12, rfl, by decide, X.well, by omega, fun pk H1 pk0 pk1 ef1 W1 => ?_⟩
    have X1 := X.drawn ef1 W1
    have e1 := Eff.of ef1 (by decide : (0 : Nat) ∈ T013)
    refine ⟨_, rfl, _, _, rfl, rfl, _, rfl, ?_⟩
    obtain ⟨okb, bD, rL, sD, hL, wL, gD, B⟩ := X1.bk
    have sec : SecAt _ H1 se ss := hs.fx (e1.fx 6 (by decide))
    have fk : FolkAt _ H1 fl zs := hf.fx (e1.fx 6 (by decide))
    refine ite2 (fun lt => ?_) (fun nlt => ?_)
    · refine iteT ?_
      refine ⟨_, rfl, _, rfl, _, rfl, _, rfl, o, W, sgA, a, fl, c + 1, sg, m, b, n, zs, rfl, X1, by omega, hm, hn, fk, fun o' H' sg' v d e' X' le' hd dk => ?_⟩
      exact h _ _ _ _ _ (e1.trans e') (X'.mono (by omega) hc (Nat.le_refl _) (Nat.le_refl _) hn) le' hd dk
    · refine ⟨_, rfl, a, _, _, _, rfl, rfl, SqL.of B.ob.2, rfl, sl, fun tl ntl => ?_⟩
      have s2 := same_upd (o := HO.lst []) ntl
      have X2 := X1.same s2
      have e2 := e1.trans (Eff.same s2)
      have B2 := B.fx (Fx.same s2)
      obtain ⟨orL, rxs, hrx, nd, pr⟩ := B2.roads
      refine ⟨_, _, .lst (SqL.of hrx) (dpAll_of (fun _ _ z => IsRd.dp z) pr), .lst (SqL.of upd_same) .nil, roads_shaped (fun r hr => ?_), roads_shaped (l := []) (fun _ z => (List.not_mem_nil z).elim), _, rfl, ?_⟩
      · have z := okb.road r hr
        exact ⟨z.2.2.1, z.2.2.2.1, z.2.2.2.2.2.2, okb.mood r hr⟩
      rw [datas_nilR]
      cases er : b.roads with
      | nil =>
        refine iteT ?_
        refine ⟨_, rfl, _, rfl, _, rfl, _, rfl, o, W, sgA, a, fl, c + 1, sg, m, b, n, zs, rfl, X2, by omega, hm, hn, fk.fx (Fx.same (K := K) s2), fun o' H' sg' v d e' X' le' hd dk => ?_⟩
        exact h _ _ _ _ _ (e2.trans e') (X'.mono (by omega) hc (Nat.le_refl _) (Nat.le_refl _) hn) le' hd dk
      | cons r0 rs =>
        refine iteF ?_
        have sec2 : SecAt _ _ se ss := sec.fx (Fx.same (K := K) s2)
        obtain ⟨ose, hse, ls1, ls2, spos⟩ := id sec2
        refine ⟨_, rfl, _, _, rfl, rfl, _, rfl, ite2 (fun lt6 => ?_) (fun nlt6 => ?_)⟩
        · refine ⟨_, rfl, _, rfl, _, rfl, _, rfl, se, rfl, ⟨_, SqL.of hse⟩, fun D nD => lc_list (xs := ss.map V.int) (fun i H3 => Same (upd H1 tl (.lst [])) H3 ∧ H3 D = some (.lst ((ss.take i).map fun x => V.int (3 * x + 17)))) ⟨same_upd nD, upd_same⟩ (fun i H3 _ h3 => SqL.of (h3.1 _ _ hse)) (fun i v H3 hi h3 => ?_) (fun H3 h3 => ?_)⟩
          · obtain ⟨s3, hD⟩ := h3
            rw [List.getElem?_map] at hi
            obtain ⟨x, hx, rfl⟩ := Option.map_eq_some_iff.mp hi
            have x0 := spos x (List.mem_of_getElem? hx)
            refine ⟨rfl, _, rfl, x, rfl, x0, _, hD, slt (by rw [List.length_map, List.length_take]; omega), fun b' y e => ?_, ?_⟩
            · rw [upd_ne (ne_of_none e nD)]
              exact s3 _ _ e
            · rw [upd_same, take_succ_of hx, List.map_append]
              rfl
          · obtain ⟨s3, hD⟩ := h3
            rw [List.length_map, List.take_length] at hD
            have X3 := X2.same s3
            have e3 := e2.trans (Eff.same s3)
            have oD := X2.dom.free nD
            have kk : KeysOk H3 o D (ss.map fun x => 3 * x + 17) := ⟨by rw [hD, List.map_map]; rfl, fun i => (by rw [oD]; intro z; cases z), by rw [List.length_map]; exact ls1, by rw [List.length_map]; exact ls2, fun k hk => by
              obtain ⟨x, hx, rfl⟩ := List.mem_map.mp hk
              have := spos x hx
              omega⟩
            refine ⟨o, W, sgA, a, D, c + 1, sg, m, b, n, _, rfl, X3, by omega, hm, hn, by rw [er]; exact Nat.succ_pos _, kk, oD, fun o' H' sg' v d e' X' le' hd dk => ?_⟩
            exact h _ _ _ _ _ (e3.trans e') (X'.mono (by omega) hc (Nat.le_refl _) (Nat.le_refl _) hn) le' hd dk
        · refine ⟨_, rfl, rfl, _, rfl, ite2 (fun e6 => ?_) (fun ne6 => ?_)⟩
          · refine ⟨_, rfl, _, rfl, _, rfl, se, _, rfl, .inl (SqL.of hse), o, W, _, _, rfl, by rw [List.length_map]; omega, X2.well, by omega, fun q H3 q0 q1 ef3 W3 => ?_⟩
            rw [List.length_map] at q1
            have X3 := X2.drawn ef3 W3
            have e3 := e2.trans (Eff.of ef3 (by decide : (0 : Nat) ∈ T013))
            have sec3 : SecAt _ _ se ss := sec2.fx (ef3.fx (by decide))
            have ql : q.toNat < ss.length := by omega
            refine ⟨se, _, _, _, rfl, rfl, SqL.of sec3.2.1, atI_of (v := V.int ss[q.toNat]) q0 (by rw [List.getElem?_map, List.getElem?_eq_getElem ql]; rfl), sl, fun tq ntq => ?_⟩
            have s4 := same_upd (o := HO.tup [V.str (Str.ofString "show"), V.int ss[q.toNat]]) ntq
            exact h _ _ _ _ (.shw ss[q.toNat]) (e3.trans (Eff.same s4)) ((X3.same s4).mono (by omega) hc (by omega) (by omega) hn) (SgLe.refl _) ⟨tq, rfl, SqT.of upd_same⟩ (spos _ (List.getElem_mem ql))
          · refine ⟨sl, fun tq ntq => ?_⟩
            have s3 := same_upd (o := HO.tup [V.str (Str.ofString "turn")]) ntq
            exact h _ _ _ _ .turn (e2.trans (Eff.same s3)) ((X2.same s3).mono (by omega) hc (by omega) (by omega) hn) (SgLe.refl _) ⟨tq, rfl, SqT.of upd_same⟩ trivial
end
end Cn
namespace Cn
open PySem PySem.Spec PyProof.Rows L2
/-! ### many are taken into what one owns -/
def takeL (o : Own) : List (Addr × (Nat × Nat)) → Own
  | [] => o
  | x :: r => take1 (takeL o r) x.1 x.2
theorem takeL_ne {o : Own} {p : Addr} : ∀ {l : List (Addr × (Nat × Nat))}, p ∉ l.map (·.1) → takeL o l p = o p
  | [], _ => rfl
  | x :: r, h => by
    rw [List.map_cons, List.mem_cons, not_or] at h
    unfold takeL
    rw [take1_ne h.1]
    exact takeL_ne h.2
theorem takeL_at {o : Own} : ∀ {l : List (Addr × (Nat × Nat))}, (l.map (·.1)).Nodup → ∀ {p : Addr} {t : Nat × Nat}, (p, t) ∈ l → takeL o l p = some t
  | [], _, _, _, h => (List.not_mem_nil h).elim
  | x :: r, nd, p, t, h => by
    rw [List.map_cons, List.nodup_cons] at nd
    unfold takeL
    rcases List.mem_cons.mp h with e | h
    · rw [← e]
      exact take1_same
    · rw [take1_ne (fun e : p = x.1 => nd.1 (by rw [← e]; exact List.mem_map.mpr ⟨_, h, rfl⟩))]
      exact takeL_at nd.2 h
theorem takeL_old {o : Own} {l : List (Addr × (Nat × Nat))} (h : ∀ p ∈ l.map (·.1), o p = none) {b : Addr} {u : Nat × Nat} (e : o b = some u) : takeL o l b = some u := by
  rw [takeL_ne (fun m => by rw [h b m] at e; cases e)]
  exact e
theorem takeL_fx {K : PySem.W.Frag} {u : Nat} {o : Own} {H : Hp} {l : List (Addr × (Nat × Nat))} (h : ∀ p ∈ l.map (·.1), o p = none) : Fx K u o H (takeL o l) H :=
  ⟨fun _ _ _ e q => ⟨takeL_old h e, q⟩, Ks.refl⟩
theorem takeL_dom {o : Own} {H : Hp} (d : Dom o H) : ∀ {l : List (Addr × (Nat × Nat))}, (∀ p ∈ l.map (·.1), ∃ x, H p = some x) → Dom (takeL o l) H
  | [], _ => d
  | x :: r, h => by
    unfold takeL
    obtain ⟨y, hy⟩ := h x.1 List.mem_cons_self
    exact (takeL_dom d fun p hp => h p (List.mem_cons_of_mem _ hp)).take hy
/-! ### the law's own book is made -/
theorem refs_of {K : PySem.W.Frag} {H : Hp} : ∀ {vs : List V} {b : List Pay}, Paired (IsPay K H) vs b → ∃ ps : List Addr, vs = ps.map V.ref ∧ Paired (fun p (kv : Key × V) => SqT K H p [kV kv.1, kv.2]) ps (bagKV b)
  | _, _, .nil => ⟨[], rfl, .nil⟩
  | _, _, .cons h r => by
    obtain ⟨q, rfl, hq⟩ := h
    obtain ⟨ps, rfl, hp⟩ := refs_of r
    exact ⟨q :: ps, rfl, .cons hq hp⟩
theorem bagKV_app (a b : List Pay) : bagKV (a ++ b) = bagKV a ++ bagKV b := List.map_append
theorem merge_bag : ∀ (b a : List Pay), ((a ++ b).map (·.1)).Nodup → mergeK (bagKV a) (bagKV b) = bagKV (a ++ b)
  | [], a, _ => by
    rw [List.append_nil]
    rfl
  | p :: r, a, nd => by
    have fresh : look a p.1 = none := look_none_of fun hm => by
      rw [List.map_append, List.nodup_append] at nd
      exact nd.2.2 p.1 hm p.1 List.mem_cons_self rfl
    show mergeK (putK (bagKV a) (Sum.inr p.1) (.int p.2)) (bagKV r) = _
    rw [bag_put_new fresh]
    have e : a ++ p :: r = (a ++ [p]) ++ r := by simp
    rw [e]
    exact merge_bag r (a ++ [(p.1, p.2)]) (by rw [← e]; exact nd)
def spBook (K : PySem.W.Frag) : Sp := fun vs H Q _ => ∃ (q : Addr) (long : Int) (b : List Pay), vs = [.ref q, .int long] ∧ PursesAt K H q b ∧ BagsOk b ∧
  ∀ H' a bD rL sD hL wL gD, Same H H' → [a, bD, rL, sD, hL, wL, gD].Nodup → (∀ p ∈ [a, bD, rL, sD, hL, wL, gD], H p = none) → H' a = some (.lst [.int 0, .int long, .ref bD, .ref rL, .ref sD, .ref hL, .ref wL, .ref gD]) → H' bD = some (.dK (bagKV b)) → H' rL = some (.lst []) → H' sD = some (.dK []) → H' hL = some (.lst []) → H' wL = some (.lst []) → H' gD = some (.dK []) → Q (.ref a) H'
def Bk.new (long : Int) (b : List Pay) : Bk := ⟨0, long, b, [], [], [], []⟩
theorem bk_new {P : Program} {w : World} {K : PySem.W.Frag} {o : Own} {H : Hp} {long : Int} {b : List Pay} {a bD rL sD hL wL gD : Addr} (d : Dom o H) (bk : BagsOk b) (nd : [a, bD, rL, sD, hL, wL, gD].Nodup) (fr : ∀ p ∈ [a, bD, rL, sD, hL, wL, gD], o p = none)
    (h0 : H a = some (.lst [.int 0, .int long, .ref bD, .ref rL, .ref sD, .ref hL, .ref wL, .ref gD])) (h1 : H bD = some (.dK (bagKV b))) (h2 : H rL = some (.lst [])) (h3 : H sD = some (.dK [])) (h4 : H hL = some (.lst [])) (h5 : H wL = some (.lst [])) (h6 : H gD = some (.dK [])) :
    ∃ o', Dom o' H ∧ (∀ u, Fx K u o H o' H) ∧ (∀ p, p ∉ [a, bD, rL, sD, hL, wL, gD] → o' p = o p) ∧ BkAt P w K o' H a (Bk.new long b) 0 := by
  refine ⟨takeL o [(a, (3, 0)), (bD, (3, 1)), (rL, (3, 2)), (sD, (3, 4)), (hL, (3, 5)), (wL, (3, 6)), (gD, (3, 7))], takeL_dom d fun p hp => ?_, fun u => takeL_fx fr, fun p hp => takeL_ne hp, ?_, bD, rL, sD, hL, wL, gD, ?_⟩
  · simp only [List.map_cons, List.map_nil, List.mem_cons, List.not_mem_nil, or_false] at hp
    rcases hp with rfl | rfl | rfl | rfl | rfl | rfl | rfl
    · exact ⟨_, h0⟩
    · exact ⟨_, h1⟩
    · exact ⟨_, h2⟩
    · exact ⟨_, h3⟩
    · exact ⟨_, h4⟩
    · exact ⟨_, h5⟩
    · exact ⟨_, h6⟩
  · exact ⟨by omega, Int.le_refl _, bk.len, Nat.zero_le _, Nat.zero_le _, Nat.zero_le _, Nat.zero_le _, fun _ z => (List.not_mem_nil z).elim, fun _ z => (List.not_mem_nil z).elim, fun _ z => (List.not_mem_nil z).elim, fun p hp => (bk.ok p hp).2, fun _ z => (List.not_mem_nil z).elim⟩
  · have at' : ∀ {p t}, (p, t) ∈ [(a, ((3 : Nat), (0 : Nat))), (bD, (3, 1)), (rL, (3, 2)), (sD, (3, 4)), (hL, (3, 5)), (wL, (3, 6)), (gD, (3, 7))] → takeL o [(a, (3, 0)), (bD, (3, 1)), (rL, (3, 2)), (sD, (3, 4)), (hL, (3, 5)), (wL, (3, 6)), (gD, (3, 7))] p = some t := fun h => takeL_at (l := [(a, (3, 0)), (bD, (3, 1)), (rL, (3, 2)), (sD, (3, 4)), (hL, (3, 5)), (wL, (3, 6)), (gD, (3, 7))]) nd h
    exact ⟨⟨at' (by simp), h0⟩, ⟨at' (by simp), h1⟩, ⟨at' (by simp), [], h2, .nil, .nil⟩, ⟨at' (by simp), [], h3, .nil⟩, ⟨at' (by simp), [], h4, .nil⟩, ⟨at' (by simp), [], h5, .nil⟩, ⟨at' (by simp), [], .inr ⟨rfl, h6⟩, fun _ z => (List.not_mem_nil z).elim, Nat.zero_le _⟩⟩
theorem up_here {H : Hp} {p : Addr} {x : HO} (_ : H p = none) : upd H p x p = some x := upd_same
section
variable {P : Program} {w : World} {K : PySem.W.Frag} {mg : Str → Option Value} {base : Heap}
abbrev n_law_book : List Str := ["_law_bags_here", "_law_long"]
theorem sc_law_book : FnScope n_law_book ["_law_bags_here", "_law_long"] (defScope s_law_book) := ⟨rfl, rfl, rfl, by decide +kernel, rfl, by decide +kernel, by decide +kernel⟩
theorem ok_law_book (T : Tx K mg) : DefOk P w K mg base CX0 1 (He.fAd K d_law_book.at_) ["_law_bags_here", "_law_long"] (spBook K) := by
  refine mk0 (d := d_law_book) T.f_law_book rfl (fun _ _ _ _ _ _ us hl => match us, hl with | [_, _], _ => rfl) sc_law_book (fun vs H Q E h => ?_) (fun cdv A outer s H vs Q E hr h => ?_)
  · obtain ⟨_, _, _, rfl, _⟩ := h
    rfl
  · obtain ⟨q, long, b, rfl, hq, bk, h⟩ := h
    refine ⟨_, (pss_one (ps_ret (pe_lst (pa_cons pe_int (pa_cons (pv 1) (pa_cons (pe_callTy (call_dictT rfl) (by rfl) T.b_dict (by decide +kernel) (pa_cons (pv 0) pa_nil)) (pa_cons (pe_lst pa_nil) (pa_cons pe_dnewK (pa_cons (pe_lst pa_nil) (pa_cons (pe_lst pa_nil) (pa_cons pe_dnewK pa_nil))))))))))), ?_⟩
    obtain ⟨ob, vs, hq, oc, od, hp⟩ := hq
    obtain ⟨ps, rfl, hp2⟩ := refs_of hp
    have mg0 : mergeK [] (bagKV b) = bagKV b := merge_bag b [] bk.nd
    refine ⟨_, rfl, _, rfl, q, ps, bagKV b, ob, rfl, hq, oc, od, hp2, fun bD nb => ?_⟩
    rw [mg0]
    refine ⟨Nat.zero_le _, fun rL nr => fun sD ns => ⟨Nat.zero_le _, fun hL nh => ⟨Nat.zero_le _, fun wL nw => fun gD ng => ⟨sl, fun a na => ?_⟩⟩⟩⟩
    have s1 := same_upd (o := HO.dK (bagKV b)) nb
    have s2 := same_upd (o := HO.lst []) nr
    have s3 := same_upd (o := HO.dK []) ns
    have s4 := same_upd (o := HO.lst []) nh
    have s5 := same_upd (o := HO.lst []) nw
    have s6 := same_upd (o := HO.dK []) ng
    have s7 := same_upd (o := HO.lst [V.int 0, V.int long, V.ref bD, V.ref rL, V.ref sD, V.ref hL, V.ref wL, V.ref gD]) na
    have z_bD := nb
    have f_bD := up_here (x := HO.dK (bagKV b)) nb
    have d_bD_rL := ne_of_none f_bD nr
    have f_bD := s2 _ _ f_bD
    have z_rL := s1.free nr
    have c1 := s1
    have f_rL := up_here (x := HO.lst []) nr
    have d_bD_sD := ne_of_none f_bD ns
    have d_rL_sD := ne_of_none f_rL ns
    have f_bD := s3 _ _ f_bD
    have f_rL := s3 _ _ f_rL
    have c2 := c1.trans s2
    have z_sD := c2.free ns
    have f_sD := up_here (x := HO.dK []) ns
    have d_bD_hL := ne_of_none f_bD nh
    have d_rL_hL := ne_of_none f_rL nh
    have d_sD_hL := ne_of_none f_sD nh
    have f_bD := s4 _ _ f_bD
    have f_rL := s4 _ _ f_rL
    have f_sD := s4 _ _ f_sD
    have c3 := c2.trans s3
    have z_hL := c3.free nh
    have f_hL := up_here (x := HO.lst []) nh
    have d_bD_wL := ne_of_none f_bD nw
    have d_rL_wL := ne_of_none f_rL nw
    have d_sD_wL := ne_of_none f_sD nw
    have d_hL_wL := ne_of_none f_hL nw
    have f_bD := s5 _ _ f_bD
    have f_rL := s5 _ _ f_rL
    have f_sD := s5 _ _ f_sD
    have f_hL := s5 _ _ f_hL
    have c4 := c3.trans s4
    have z_wL := c4.free nw
    have f_wL := up_here (x := HO.lst []) nw
    have d_bD_gD := ne_of_none f_bD ng
    have d_rL_gD := ne_of_none f_rL ng
    have d_sD_gD := ne_of_none f_sD ng
    have d_hL_gD := ne_of_none f_hL ng
    have d_wL_gD := ne_of_none f_wL ng
    have f_bD := s6 _ _ f_bD
    have f_rL := s6 _ _ f_rL
    have f_sD := s6 _ _ f_sD
    have f_hL := s6 _ _ f_hL
    have f_wL := s6 _ _ f_wL
    have c5 := c4.trans s5
    have z_gD := c5.free ng
    have f_gD := up_here (x := HO.dK []) ng
    have d_bD_a := ne_of_none f_bD na
    have d_rL_a := ne_of_none f_rL na
    have d_sD_a := ne_of_none f_sD na
    have d_hL_a := ne_of_none f_hL na
    have d_wL_a := ne_of_none f_wL na
    have d_gD_a := ne_of_none f_gD na
    have f_bD := s7 _ _ f_bD
    have f_rL := s7 _ _ f_rL
    have f_sD := s7 _ _ f_sD
    have f_hL := s7 _ _ f_hL
    have f_wL := s7 _ _ f_wL
    have f_gD := s7 _ _ f_gD
    have c6 := c5.trans s6
    have z_a := c6.free na
    have f_a := up_here (x := HO.lst [V.int 0, V.int long, V.ref bD, V.ref rL, V.ref sD, V.ref hL, V.ref wL, V.ref gD]) na
    have c7 := c6.trans s7
    have nd : [a, bD, rL, sD, hL, wL, gD].Nodup := by
      simp only [List.nodup_cons, List.mem_cons, List.not_mem_nil, or_false, not_or, List.nodup_nil, not_false_eq_true, and_true]
      exact ⟨⟨d_bD_a.symm, d_rL_a.symm, d_sD_a.symm, d_hL_a.symm, d_wL_a.symm, d_gD_a.symm⟩, ⟨d_bD_rL, d_bD_sD, d_bD_hL, d_bD_wL, d_bD_gD⟩, ⟨d_rL_sD, d_rL_hL, d_rL_wL, d_rL_gD⟩, ⟨d_sD_hL, d_sD_wL, d_sD_gD⟩, ⟨d_hL_wL, d_hL_gD⟩, d_wL_gD⟩
    refine h _ a bD rL sD hL wL gD c7 nd (fun p hp => ?_) f_a f_bD f_rL f_sD f_hL f_wL f_gD
    simp only [List.mem_cons, List.not_mem_nil, or_false] at hp
    rcases hp with rfl | rfl | rfl | rfl | rfl | rfl | rfl
    · exact z_a
    · exact z_bD
    · exact z_rL
    · exact z_sD
    · exact z_hL
    · exact z_wL
    · exact z_gD
end
end Cn
namespace Cn
open PySem PySem.Spec PyProof.Rows L2
/-! ### law_same: alike, part by part -/
def Flat1 (d : PyData) : Prop := d = .none ∨ (∃ i, d = .int i) ∨ ∃ z, d = .str z
def SmOk : Nat → PyData → Prop
  | 0, d => Flat1 d
  | n + 1, d => Flat1 d ∨ ∃ l, (d = .list l ∨ d = .tuple l) ∧ l.length ≤ 4000000 ∧ ∀ x ∈ l, SmOk n x
def spSame (K : PySem.W.Frag) (n : Nat) : Sp := fun vs H Q _ => ∃ (x y : V) (d : PyData), vs = [x, y] ∧ Dp K H x d ∧ Dp K H y d ∧ SmOk n d ∧ ∀ H', Same H H' → Q (.bl true) H'
theorem kAny2 {K : PySem.W.Frag} {t a b : String} {x y : Bool} (h1 : kitB t a = some x) (h2 : kitB t b = some y) : PySem.W.kitAny K (.type t) [.type a, .type b] = some (x || y) :=
  kitAny_cons (kit_ty h1) (fun e => by rw [e, Bool.false_or]; exact kitAny_cons (kit_ty h2) (fun e => by rw [e]; exact kitAny_nil) (fun e => e)) (fun e => by rw [e]; rfl)
theorem kAny3 {K : PySem.W.Frag} {t a b c : String} {x y z : Bool} (h1 : kitB t a = some x) (h2 : kitB t b = some y) (h3 : kitB t c = some z) : PySem.W.kitAny K (.type t) [.type a, .type b, .type c] = some (x || (y || z)) :=
  kitAny_cons (kit_ty h1) (fun e => by rw [e, Bool.false_or]; exact kAny2 h2 h3) (fun e => by rw [e]; rfl)
theorem sql_ty {K : PySem.W.Frag} {H : Hp} {a : Addr} {xs : List V} (h : SqL K H a xs) : TyX K H (.ref a) (.type "list") := by
  rcases h with (h | ⟨o, h⟩) | h
  · exact .base (.lst h)
  · exact .base (.frz h)
  · obtain ⟨o, its, n, e, c, _⟩ := h
    exact .kList e c
theorem walk_zipT {K : PySem.W.Frag} {a b : Addr} {xs ys : List V} {n : Nat} (hn : n = min xs.length ys.length) : Walk (RZ.ItzT K a b) n (fun H => SqT K H a xs ∧ SqT K H b ys) (YPair (fun i => xs[i]?) (fun i => ys[i]?)) := by
  subst hn
  refine ⟨fun i _ hi q => ?_, fun _ q => ⟨xs, ys, q.1, q.2, by omega⟩, fun i H v H' _ q y => ?_⟩
  · have h1 : i < xs.length := by omega
    have h2 : i < ys.length := by omega
    exact ⟨xs, ys, xs[i], ys[i], q.1, q.2, by simp [h1], by simp [h2]⟩
  · obtain ⟨T, x, z, h1, h2, h3, h4, h5⟩ := y
    exact ⟨T, x, z, h1, h2, h3, h4 xs q.1, h5 ys q.2⟩
theorem dpAll_get {K : PySem.W.Frag} {H : Hp} : ∀ {xs : List V} {ds : List PyData}, DpAll K H xs ds → ∀ {i : Nat} {x : V}, xs[i]? = some x → ∃ d, ds[i]? = some d ∧ Dp K H x d
  | _, _, .nil, _, _, h => by simp at h
  | _, _, .cons a r, 0, x, h => by
    obtain rfl := Option.some.inj h
    exact ⟨_, rfl, a⟩
  | _, _, .cons a r, i + 1, x, h => dpAll_get r (i := i) h
theorem dpAll_len {K : PySem.W.Frag} {H : Hp} : ∀ {xs : List V} {ds : List PyData}, DpAll K H xs ds → xs.length = ds.length
  | _, _, .nil => rfl
  | _, _, .cons _ r => congrArg Nat.succ (dpAll_len r)
mutual
theorem Dp.mono {K : PySem.W.Frag} {H H' : Hp} (s : Same H H') : ∀ (d : PyData) {v : V}, Dp K H v d → Dp K H' v d
  | .none, _, .non => .non
  | .bool _, _, .bl _ => .bl _
  | .int _, _, .int _ => .int _
  | .str _, _, .str _ => .str _
  | .list ds, _, .lst h r => .lst (s.seq h) (DpAll.mono s ds r)
  | .tuple ds, _, .tup h r => .tup (Ks.same s _ _ h) (DpAll.mono s ds r)
theorem DpAll.mono {K : PySem.W.Frag} {H H' : Hp} (s : Same H H') : ∀ (ds : List PyData) {vs : List V}, DpAll K H vs ds → DpAll K H' vs ds
  | [], _, .nil => .nil
  | d :: ds, _, .cons h r => .cons (Dp.mono s d h) (DpAll.mono s ds r)
end
/-- what flat data is -/
theorem flat_is {K : PySem.W.Frag} {H : Hp} {d : PyData} {x y : V} (f : Flat1 d) (hx : Dp K H x d) (hy : Dp K H y d) : x = y ∧ scal x x = true ∧ ∃ t b, (∀ H', TyX K H' x (.type t)) ∧ kitB t "list" = some false ∧ kitB t "tuple" = some false ∧ kitB t "bool" = some false ∧ kitB t "int" = some b := by
  rcases f with rfl | ⟨i, rfl⟩ | ⟨z, rfl⟩
  · cases hx
    cases hy
    exact ⟨rfl, rfl, "NoneType", false, fun _ => .base .non, by decide +kernel, by decide +kernel, by decide +kernel, by decide +kernel⟩
  · cases hx
    cases hy
    exact ⟨rfl, rfl, "int", true, fun _ => .base (.int _), by decide +kernel, by decide +kernel, by decide +kernel, by decide +kernel⟩
  · cases hx
    cases hy
    exact ⟨rfl, rfl, "str", false, fun _ => .base (.str _), by decide +kernel, by decide +kernel, by decide +kernel, by decide +kernel⟩
section
variable {P : Program} {w : World} {K : PySem.W.Frag} {mg : Str → Option Value} {base : Heap}
abbrev n_law_same : List Str := ["_law_found", "_law_due", "_law_one", "_law_other"]
theorem sc_law_same : FnScope n_law_same ["_law_found", "_law_due"] (defScope s_law_same) := ⟨rfl, rfl, rfl, by decide +kernel, rfl, by decide +kernel, by decide +kernel⟩
theorem ok_law_same (T : Tx K mg) : ∀ n : Nat, DefOk P w K mg base CX0 (n + 1) (He.fAd K d_law_same.at_) ["_law_found", "_law_due"] (spSame K n) := by
  intro n
  induction n with
  | zero =>
    refine mk0 (d := d_law_same) T.f_law_same rfl (fun _ _ _ _ _ _ us hl => match us, hl with | [_, _], _ => rfl) sc_law_same (fun vs H Q E h => ?_) (fun cdv A outer s H vs Q E hr h => ?_)
    · obtain ⟨_, _, _, rfl, _⟩ := h
      rfl
    · obtain ⟨x, y, d, rfl, hx, hy, sm, h⟩ := h
      refine ⟨_, (pss_cons (ps_if (pt_val (pe_callB call_isiT (by rfl) T.b_isinstance boot_isinstance (pa_cons (pv 1) (pa_cons (pe_tup (pa_cons (pe_bltn (v := .ty "list") (by rfl) T.b_list PyProof.Rows.boot_list rfl) (pa_cons (pe_bltn (v := .ty "tuple") (by rfl) T.b_tuple PyProof.Rows.boot_tuple rfl) pa_nil))) pa_nil)))) (pss_cons (ps_if (PW.pt (pw_or (pt_cmpR op_ne (pe_callB call_isi (by rfl) T.b_isinstance boot_isinstance (pa_cons (pv 0) (pa_cons (pe_bltn (v := .ty "list") (by rfl) T.b_list PyProof.Rows.boot_list rfl) pa_nil))) (pe_callB call_isi (by rfl) T.b_isinstance boot_isinstance (pa_cons (pv 1) (pa_cons (pe_bltn (v := .ty "list") (by rfl) T.b_list PyProof.Rows.boot_list rfl) pa_nil))) (nomark _)) (pw_or1 (pt_cmpR op_ne (pe_callB call_isi (by rfl) T.b_isinstance boot_isinstance (pa_cons (pv 0) (pa_cons (pe_bltn (v := .ty "tuple") (by rfl) T.b_tuple PyProof.Rows.boot_tuple rfl) pa_nil))) (pe_callB call_isi (by rfl) T.b_isinstance boot_isinstance (pa_cons (pv 1) (pa_cons (pe_bltn (v := .ty "tuple") (by rfl) T.b_tuple PyProof.Rows.boot_tuple rfl) pa_nil))) (nomark _))))) (pss_one (ps_ret pe_bl)) pss_nil)
      (pss_cons (ps_if (pt_cmpR op_ne (pe_callB call_len_seq (by rfl) T.b_len PySem.boot_len (pa_cons (pv 0) pa_nil)) (pe_callB call_len_seq (by rfl) T.b_len PySem.boot_len (pa_cons (pv 1) pa_nil)) (nomark _)) (pss_one (ps_ret pe_bl)) pss_nil)
      (pss_one ps_never))) pss_nil)
      (pss_cons (ps_if (PW.pt (pw_or (pt_val (pe_callB call_isiT (by rfl) T.b_isinstance boot_isinstance (pa_cons (pv 0) (pa_cons (pe_tup (pa_cons (pe_bltn (v := .ty "list") (by rfl) T.b_list PyProof.Rows.boot_list rfl) (pa_cons (pe_bltn (v := .ty "tuple") (by rfl) T.b_tuple PyProof.Rows.boot_tuple rfl) (pa_cons (pe_bltn (v := .ty "bool") (by rfl) T.b_bool PyProof.Rows.boot_bool rfl) pa_nil)))) pa_nil)))) (pw_or1 (pt_cmpR op_ne (pe_callB call_isi (by rfl) T.b_isinstance boot_isinstance (pa_cons (pv 0) (pa_cons (pe_bltn (v := .ty "int") (by rfl) T.b_int PyProof.Rows.boot_int rfl) pa_nil))) (pe_callB call_isi (by rfl) T.b_isinstance boot_isinstance (pa_cons (pv 1) (pa_cons (pe_bltn (v := .ty "int") (by rfl) T.b_int PyProof.Rows.boot_int rfl) pa_nil))) (nomark _))))) (pss_one (ps_ret pe_bl)) pss_nil)
      (pss_one (ps_ret (pe_cmpR op_eq (pv 0) (pv 1) (nomark _)))))), ?_⟩
      obtain ⟨rfl, sc, t, b, ty, k1, k2, k3, k4⟩ := flat_is sm hx hy
      refine ⟨_, rfl, sl, fun tp ntp => ⟨_, tp, _, _, _, _, rfl, upd_same, .cons (.ty _) (.cons (.ty _) .nil), ty _, kAny2 k1 k2, _, rfl, iFe rfl ?_⟩⟩
      have s1 := same_upd (o := HO.tup [V.ty "list", V.ty "tuple"]) ntp
      refine ⟨_, rfl, sl, fun tq ntq => ⟨_, tq, _, _, _, _, rfl, upd_same, .cons (.ty _) (.cons (.ty _) (.cons (.ty _) .nil)), ty _, kAny3 k1 k2 k3, _, rfl, iFe rfl ?_⟩⟩
      have s2 := s1.trans (same_upd (o := HO.tup [V.ty "list", V.ty "tuple", V.ty "bool"]) ntq)
      refine ⟨_, rfl, _, _, _, _, b, rfl, .ty _, ty _, kit_ty k4, _, rfl, _, _, _, _, b, rfl, .ty _, ty _, kit_ty k4, by cases b <;> rfl, _, rfl, iFe (by simp) ?_⟩
      refine ⟨_, rfl, _, rfl, sc, ?_⟩
      rw [decide_eq_true rfl]
      exact h _ s2
  | succ n ih =>
    refine mk0 (d := d_law_same) T.f_law_same rfl (fun _ _ _ _ _ _ us hl => match us, hl with | [_, _], _ => rfl) sc_law_same (fun vs H Q E h => ?_) (fun cdv A outer s H vs Q E hr h => ?_)
    · obtain ⟨_, _, _, rfl, _⟩ := h
      rfl
    · obtain ⟨x, y, d, rfl, hx, hy, sm, h⟩ := h
      refine ⟨_, (pss_cons (ps_if (pt_val (pe_callB call_isiT (by rfl) T.b_isinstance boot_isinstance (pa_cons (pv 1) (pa_cons (pe_tup (pa_cons (pe_bltn (v := .ty "list") (by rfl) T.b_list PyProof.Rows.boot_list rfl) (pa_cons (pe_bltn (v := .ty "tuple") (by rfl) T.b_tuple PyProof.Rows.boot_tuple rfl) pa_nil))) pa_nil)))) (pss_cons (ps_if (PW.pt (pw_or (pt_cmpR op_ne (pe_callB call_isi (by rfl) T.b_isinstance boot_isinstance (pa_cons (pv 0) (pa_cons (pe_bltn (v := .ty "list") (by rfl) T.b_list PyProof.Rows.boot_list rfl) pa_nil))) (pe_callB call_isi (by rfl) T.b_isinstance boot_isinstance (pa_cons (pv 1) (pa_cons (pe_bltn (v := .ty "list") (by rfl) T.b_list PyProof.Rows.boot_list rfl) pa_nil))) (nomark _)) (pw_or1 (pt_cmpR op_ne (pe_callB call_isi (by rfl) T.b_isinstance boot_isinstance (pa_cons (pv 0) (pa_cons (pe_bltn (v := .ty "tuple") (by rfl) T.b_tuple PyProof.Rows.boot_tuple rfl) pa_nil))) (pe_callB call_isi (by rfl) T.b_isinstance boot_isinstance (pa_cons (pv 1) (pa_cons (pe_bltn (v := .ty "tuple") (by rfl) T.b_tuple PyProof.Rows.boot_tuple rfl) pa_nil))) (nomark _))))) (pss_one (ps_ret pe_bl)) pss_nil)
      (pss_cons (ps_if (pt_cmpR op_ne (pe_callB call_len_seq (by rfl) T.b_len PySem.boot_len (pa_cons (pv 0) pa_nil)) (pe_callB call_len_seq (by rfl) T.b_len PySem.boot_len (pa_cons (pv 1) pa_nil)) (nomark _)) (pss_one (ps_ret pe_bl)) pss_nil)
      (pss_one (ps_ret (pe_callB (cr_all rfl) (by rfl) T.b_all (by decide +kernel) (pa_cons (pe_lc (own := [("_law_one", 2), ("_law_other", 3)]) (tt := tYes) (g := gTup K 2 (gCons (gName 2) (gCons (gName 3) gNil))) rfl sc_law_same.nd (RZ.pi_zipA (by rfl) T.b_zip (pa_cons (pv 0) (pa_cons (pv 1) pa_nil))) (blkOk_by (own := [("_law_one", 2), ("_law_other", 3)]) (N := n_law_same) (sc := defScope s_law_same) (by decide +kernel)) (fun _ _ _ _ _ => (pg_tup rfl (pgs_cons (pg_name (i := 2) sc_law_same.nd rfl (.inl rfl)) (pgs_cons (pg_name (i := 3) sc_law_same.nd rfl (.inl rfl)) pgs_nil)))) (fun _ _ _ _ _ => pts_nil) (fun _ _ _ _ _ => (cD (hk := Nat.le_refl _) ih T.g_law_same hr (pa_cons (pv 2) (pa_cons (pv 3) pa_nil))))) pa_nil)))))) pss_nil)
      (pss_cons (ps_if (PW.pt (pw_or (pt_val (pe_callB call_isiT (by rfl) T.b_isinstance boot_isinstance (pa_cons (pv 0) (pa_cons (pe_tup (pa_cons (pe_bltn (v := .ty "list") (by rfl) T.b_list PyProof.Rows.boot_list rfl) (pa_cons (pe_bltn (v := .ty "tuple") (by rfl) T.b_tuple PyProof.Rows.boot_tuple rfl) (pa_cons (pe_bltn (v := .ty "bool") (by rfl) T.b_bool PyProof.Rows.boot_bool rfl) pa_nil)))) pa_nil)))) (pw_or1 (pt_cmpR op_ne (pe_callB call_isi (by rfl) T.b_isinstance boot_isinstance (pa_cons (pv 0) (pa_cons (pe_bltn (v := .ty "int") (by rfl) T.b_int PyProof.Rows.boot_int rfl) pa_nil))) (pe_callB call_isi (by rfl) T.b_isinstance boot_isinstance (pa_cons (pv 1) (pa_cons (pe_bltn (v := .ty "int") (by rfl) T.b_int PyProof.Rows.boot_int rfl) pa_nil))) (nomark _))))) (pss_one (ps_ret pe_bl)) pss_nil)
      (pss_one (ps_ret (pe_cmpR op_eq (pv 0) (pv 1) (nomark _)))))), ?_⟩
      rcases sm with sm | ⟨l, rfl | rfl, ll, sm⟩
      · obtain ⟨rfl, sc, t, b, ty, k1, k2, k3, k4⟩ := flat_is sm hx hy
        refine ⟨_, rfl, sl, fun tp ntp => ⟨_, tp, _, _, _, _, rfl, upd_same, .cons (.ty _) (.cons (.ty _) .nil), ty _, kAny2 k1 k2, _, rfl, iFe rfl ?_⟩⟩
        have s1 := same_upd (o := HO.tup [V.ty "list", V.ty "tuple"]) ntp
        refine ⟨_, rfl, sl, fun tq ntq => ⟨_, tq, _, _, _, _, rfl, upd_same, .cons (.ty _) (.cons (.ty _) (.cons (.ty _) .nil)), ty _, kAny3 k1 k2 k3, _, rfl, iFe rfl ?_⟩⟩
        have s2 := s1.trans (same_upd (o := HO.tup [V.ty "list", V.ty "tuple", V.ty "bool"]) ntq)
        refine ⟨_, rfl, _, _, _, _, b, rfl, .ty _, ty _, kit_ty k4, _, rfl, _, _, _, _, b, rfl, .ty _, ty _, kit_ty k4, by cases b <;> rfl, _, rfl, iFe (by simp) ?_⟩
        refine ⟨_, rfl, _, rfl, sc, ?_⟩
        rw [decide_eq_true rfl]
        exact h _ s2
      · cases hx with
        | @lst a xs _ hx1 hx2 =>
          cases hy with
          | @lst a2 ys _ hy1 hy2 =>
            have l1 := dpAll_len hx2
            have l2 := dpAll_len hy2
            refine ⟨_, rfl, sl, fun tp ntp => ⟨_, tp, _, _, _, true, rfl, upd_same, .cons (.ty _) (.cons (.ty _) .nil), sql_ty ((same_upd ntp).seq hy1), kAny2 (x := true) (y := false) (by decide +kernel) (by decide +kernel), _, rfl, iTe rfl ?_⟩⟩
            have s1 := same_upd (o := HO.tup [V.ty "list", V.ty "tuple"]) ntp
            have tx : TyX K _ (.ref a) _ := sql_ty (s1.seq hx1)
            have ty : TyX K _ (.ref a2) _ := sql_ty (s1.seq hy1)
            refine ⟨_, rfl, _, _, _, _, true, rfl, .ty _, tx, kit_ty (by decide +kernel), _, rfl, _, _, _, _, true, rfl, .ty _, ty, kit_ty (by decide +kernel), rfl, _, rfl, iFe (by simp) ?_⟩
            refine ⟨_, rfl, _, _, _, _, false, rfl, .ty _, tx, kit_ty (by decide +kernel), _, rfl, _, _, _, _, false, rfl, .ty _, ty, kit_ty (by decide +kernel), rfl, _, rfl, iFe (by simp) ?_⟩
            refine ⟨_, rfl, a, xs, rfl, .inl (s1.seq hx1), _, rfl, a2, ys, rfl, .inl (s1.seq hy1), rfl, _, rfl, iFe (by rw [l1, l2]; simp) ?_⟩
            refine ⟨_, rfl, _, rfl, a, a2, xs, ys, rfl, .inl ⟨s1.seq hx1, s1.seq hy1, fun D nD => lc_it (walk_zip (xs := xs) (ys := ys) (n := l.length) (by rw [l1, l2, Nat.min_self])) (fun i H3 => Same (upd H tp (HO.tup [V.ty "list", V.ty "tuple"])) H3 ∧ H3 D = some (.lst (List.replicate i (V.bl true)))) ⟨same_upd nD, upd_same⟩ (fun i H3 _ h3 => ⟨h3.1.seq (s1.seq hx1), h3.1.seq (s1.seq hy1)⟩) (fun i v H3 H4 hi h3 hv => ?_) (fun H3 h3 => ?_)⟩⟩
            · obtain ⟨s3, hD⟩ := h3
              obtain ⟨T0, x0, y0, rfl, nT, rfl, e0, e1⟩ := hv
              obtain ⟨d, hd, dx⟩ := dpAll_get hx2 e0
              obtain ⟨d', hd', dy⟩ := dpAll_get hy2 e1
              rw [hd] at hd'
              obtain rfl := Option.some.inj hd'
              have s4 := (s1.trans s3).trans (same_upd (o := HO.tup [x0, y0]) nT)
              refine ⟨T0, _, rfl, SqT.of upd_same, rfl, _, _, rfl, _, _, rfl, rfl, rfl, _, rfl, _, rfl, x0, y0, d, rfl, Dp.mono s4 d dx, Dp.mono s4 d dy, sm d (List.mem_of_getElem? hd), fun H5 s5 => ⟨_, s5 _ _ (same_upd (o := HO.tup [x0, y0]) nT _ _ hD), slt (by rw [List.length_replicate]; omega), fun b' y e => ?_, ?_⟩⟩
              · rw [upd_ne (ne_of_none e nD)]
                exact s5 _ _ (same_upd (o := HO.tup [x0, y0]) nT _ _ (s3 _ _ e))
              · rw [upd_same, List.replicate_succ']
            · obtain ⟨s3, hD⟩ := h3
              refine ⟨D, List.replicate l.length true, rfl, SqL.of (by rw [hD, List.map_replicate]), ?_⟩
              have e : (List.replicate l.length true).all id = true := by simp
              rw [e]
              exact h _ (s1.trans s3)
      · cases hx with
        | @tup a xs _ hx1 hx2 =>
          cases hy with
          | @tup a2 ys _ hy1 hy2 =>
            have l1 := dpAll_len hx2
            have l2 := dpAll_len hy2
            refine ⟨_, rfl, sl, fun tp ntp => ⟨_, tp, _, _, _, true, rfl, upd_same, .cons (.ty _) (.cons (.ty _) .nil), sqt_ty (Ks.same (K := K) (same_upd ntp) _ _ hy1), kAny2 (x := false) (y := true) (by decide +kernel) (by decide +kernel), _, rfl, iTe rfl ?_⟩⟩
            have s1 := same_upd (o := HO.tup [V.ty "list", V.ty "tuple"]) ntp
            have tx : TyX K _ (.ref a) _ := sqt_ty (Ks.same (K := K) s1 _ _ hx1)
            have ty : TyX K _ (.ref a2) _ := sqt_ty (Ks.same (K := K) s1 _ _ hy1)
            refine ⟨_, rfl, _, _, _, _, false, rfl, .ty _, tx, kit_ty (by decide +kernel), _, rfl, _, _, _, _, false, rfl, .ty _, ty, kit_ty (by decide +kernel), rfl, _, rfl, iFe (by simp) ?_⟩
            refine ⟨_, rfl, _, _, _, _, true, rfl, .ty _, tx, kit_ty (by decide +kernel), _, rfl, _, _, _, _, true, rfl, .ty _, ty, kit_ty (by decide +kernel), rfl, _, rfl, iFe (by simp) ?_⟩
            refine ⟨_, rfl, a, xs, rfl, .inr (Ks.same (K := K) s1 _ _ hx1), _, rfl, a2, ys, rfl, .inr (Ks.same (K := K) s1 _ _ hy1), rfl, _, rfl, iFe (by rw [l1, l2]; simp) ?_⟩
            refine ⟨_, rfl, _, rfl, a, a2, xs, ys, rfl, .inr ⟨Ks.same (K := K) s1 _ _ hx1, Ks.same (K := K) s1 _ _ hy1, fun D nD => lc_it (walk_zipT (xs := xs) (ys := ys) (n := l.length) (by rw [l1, l2, Nat.min_self])) (fun i H3 => Same (upd H tp (HO.tup [V.ty "list", V.ty "tuple"])) H3 ∧ H3 D = some (.lst (List.replicate i (V.bl true)))) ⟨same_upd nD, upd_same⟩ (fun i H3 _ h3 => ⟨Ks.same h3.1 _ _ (Ks.same (K := K) s1 _ _ hx1), Ks.same h3.1 _ _ (Ks.same (K := K) s1 _ _ hy1)⟩) (fun i v H3 H4 hi h3 hv => ?_) (fun H3 h3 => ?_)⟩⟩
            · obtain ⟨s3, hD⟩ := h3
              obtain ⟨T0, x0, y0, rfl, nT, rfl, e0, e1⟩ := hv
              obtain ⟨d, hd, dx⟩ := dpAll_get hx2 e0
              obtain ⟨d', hd', dy⟩ := dpAll_get hy2 e1
              rw [hd] at hd'
              obtain rfl := Option.some.inj hd'
              have s4 := (s1.trans s3).trans (same_upd (o := HO.tup [x0, y0]) nT)
              refine ⟨T0, _, rfl, SqT.of upd_same, rfl, _, _, rfl, _, _, rfl, rfl, rfl, _, rfl, _, rfl, x0, y0, d, rfl, Dp.mono s4 d dx, Dp.mono s4 d dy, sm d (List.mem_of_getElem? hd), fun H5 s5 => ⟨_, s5 _ _ (same_upd (o := HO.tup [x0, y0]) nT _ _ hD), slt (by rw [List.length_replicate]; omega), fun b' y e => ?_, ?_⟩⟩
              · rw [upd_ne (ne_of_none e nD)]
                exact s5 _ _ (same_upd (o := HO.tup [x0, y0]) nT _ _ (s3 _ _ e))
              · rw [upd_same, List.replicate_succ']
            · obtain ⟨s3, hD⟩ := h3
              refine ⟨D, List.replicate l.length true, rfl, SqL.of (by rw [hD, List.map_replicate]), ?_⟩
              have e : (List.replicate l.length true).all id = true := by simp
              rw [e]
              exact h _ (s1.trans s3)
end
end Cn
namespace Cn
open PySem PySem.Spec PyProof.Rows L2
/-! ### law_kind: the name of a refusal -/
theorem boot_VE : bootBuiltins "ValueError" = some (.type "ValueError") := by decide +kernel
def Known (K : PySem.W.Frag) (c : Value) (D : Addr) : Prop := ∃ r, PySem.W.kitOne K (.ref D) c = some r
theorem exc_of {K : PySem.W.Frag} {mg : Str → Option Value} (T : Tx K mg) (b : Bad) : ExcC K (badA K b) ∧ Known K (.type "ValueError") (badA K b) ∧ ∀ y ∈ exNames, Known K (.ref (He.ga K y)) (badA K b) := by
  have h := T.ex
  unfold exB at h
  rw [List.all_eq_true] at h
  obtain ⟨x, hx, e⟩ : ∃ x ∈ raisedNames, badA K b = He.ga K x := by
    cases b with
    | hand => exact ⟨"NoHand", by decide, rfl⟩
    | coins => exact ⟨"NoCoins", by decide, rfl⟩
    | unsigned => exact ⟨"NotSigned", by decide, rfl⟩
    | lane => exact ⟨"NoLane", by decide, rfl⟩
    | settled => exact ⟨"Settled", by decide, rfl⟩
    | old => exact ⟨"Old", by decide, rfl⟩
  rw [e]
  have z := h x hx
  rw [Bool.and_eq_true, Bool.and_eq_true, List.all_eq_true] at z
  obtain ⟨z1, z2, z3⟩ := z
  unfold excB at z1
  simp only [Bool.and_eq_true, decide_eq_true_eq] at z1
  exact ⟨⟨z1.1, z1.2.1, z1.2.2.1, z1.2.2.2.1, z1.2.2.2.2.1, z1.2.2.2.2.2.1, z1.2.2.2.2.2.2.1, z1.2.2.2.2.2.2.2⟩, Option.isSome_iff_exists.mp z2, fun y hy => Option.isSome_iff_exists.mp (z3 y hy)⟩
def IsNm (K : PySem.W.Frag) (H : Hp) (v : V) (z : Str) : Prop := ∃ q b, v = .ref q ∧ SqT K H q [.str z, .bl b]
theorem IsNm.mono {K : PySem.W.Frag} {H H' : Hp} (s : Same H H') {v : V} {z : Str} (h : IsNm K H v z) : IsNm K H' v z := by
  obtain ⟨q, b, e, hq⟩ := h
  exact ⟨q, b, e, Ks.same s _ _ hq⟩
theorem nms {K : PySem.W.Frag} {H H' : Hp} (s : Same H H') {vs : List V} {zs : List Str} (h : Paired (IsNm K H) vs zs) : Paired (IsNm K H') vs zs := paired_imp (fun _ _ z => IsNm.mono s z) h
theorem nms_add {K : PySem.W.Frag} {H : Hp} {vs : List V} {zs : List Str} {t : Addr} (z : Str) (b : Bool) (p : Paired (IsNm K H) vs zs) (n : H t = none) : Paired (IsNm K (upd H t (.tup [.str z, .bl b]))) (vs ++ [.ref t]) (zs ++ [z]) :=
  paired_append (nms (same_upd n) p) (.cons ⟨t, b, rfl, SqT.of upd_same⟩ .nil)
theorem IsNm.ks {K : PySem.W.Frag} {H H' : Hp} (s : Ks K H H') {v : V} {z : Str} (h : IsNm K H v z) : IsNm K H' v z := by
  obtain ⟨q, b, e, hq⟩ := h
  exact ⟨q, b, e, s _ _ hq⟩
theorem lst_here {H : Hp} {l : Addr} {xs : List V} (_ : H l = none) : upd H l (.lst xs) l = some (.lst xs) := upd_same
def spKind (K : PySem.W.Frag) : Sp := fun vs H Q _ => ∃ (e : Addr) (b : Bad), vs = [.ref e] ∧ H e = some (ExK (.ref (badA K b)) e) ∧ ∀ H' z, Same H H' → z ≠ ("" : Str) → Q (.str z) H'
section
variable {P : Program} {w : World} {K : PySem.W.Frag} {mg : Str → Option Value} {base : Heap}
abbrev n_law_kind : List Str := ["_law_e", "_law_named", "_law_found", "_law_one", "_law_so"]
theorem sc_law_kind : FnScope n_law_kind ["_law_e"] (defScope s_law_kind) := ⟨rfl, rfl, rfl, by decide +kernel, rfl, by decide +kernel, by decide +kernel⟩
theorem ok_law_kind (T : Tx K mg) : DefOk P w K mg base CX0 1 (He.fAd K d_law_kind.at_) ["_law_e"] (spKind K) := by
  refine mk0 (d := d_law_kind) T.f_law_kind rfl (fun _ _ _ _ _ _ us hl => match us, hl with | [_], _ => rfl) sc_law_kind (fun vs H Q E h => ?_) (fun cdv A outer s H vs Q E hr h => ?_)
  · obtain ⟨_, _, rfl, _⟩ := h
    rfl
  · obtain ⟨e, b, rfl, he, h⟩ := h
    refine ⟨_, (pss_cons (ps_set (i := 1) sc_law_kind.nd rfl (.inl rfl) (pe_lst (pa_cons (pe_tup (pa_cons pe_str (pa_cons (pe_callB call_isK (by rfl) T.b_isinstance boot_isinstance (pa_cons (pv 0) (pa_cons (pe_glob (v := .ref (He.ga K "NoCoins")) rfl T.g_NoCoins rfl) pa_nil))) pa_nil))) (pa_cons (pe_tup (pa_cons pe_str (pa_cons (pe_callB call_isK (by rfl) T.b_isinstance boot_isinstance (pa_cons (pv 0) (pa_cons (pe_glob (v := .ref (He.ga K "NoHand")) rfl T.g_NoHand rfl) pa_nil))) pa_nil))) pa_nil))))
      (pss_cons (ps_set (i := 1) sc_law_kind.nd rfl (.inl rfl) (pe_op op_cat (pv 1) (pe_lst (pa_cons (pe_tup (pa_cons pe_str (pa_cons (pe_callB call_isK (by rfl) T.b_isinstance boot_isinstance (pa_cons (pv 0) (pa_cons (pe_glob (v := .ref (He.ga K "NoLane")) rfl T.g_NoLane rfl) pa_nil))) pa_nil))) (pa_cons (pe_tup (pa_cons pe_str (pa_cons (pe_callB call_isK (by rfl) T.b_isinstance boot_isinstance (pa_cons (pv 0) (pa_cons (pe_glob (v := .ref (He.ga K "NoName")) rfl T.g_NoName rfl) pa_nil))) pa_nil))) pa_nil)))))
      (pss_cons (ps_set (i := 1) sc_law_kind.nd rfl (.inl rfl) (pe_op op_cat (pv 1) (pe_lst (pa_cons (pe_tup (pa_cons pe_str (pa_cons (pe_callB call_isK (by rfl) T.b_isinstance boot_isinstance (pa_cons (pv 0) (pa_cons (pe_glob (v := .ref (He.ga K "NoNumber")) rfl T.g_NoNumber rfl) pa_nil))) pa_nil))) pa_nil))))
      (pss_cons (ps_set (i := 1) sc_law_kind.nd rfl (.inl rfl) (pe_op op_cat (pv 1) (pe_lst (pa_cons (pe_tup (pa_cons pe_str (pa_cons (pe_callB call_isK (by rfl) T.b_isinstance boot_isinstance (pa_cons (pv 0) (pa_cons (pe_glob (v := .ref (He.ga K "NoState")) rfl T.g_NoState rfl) pa_nil))) pa_nil))) (pa_cons (pe_tup (pa_cons pe_str (pa_cons (pe_callB call_isK (by rfl) T.b_isinstance boot_isinstance (pa_cons (pv 0) (pa_cons (pe_glob (v := .ref (He.ga K "NotSigned")) rfl T.g_NotSigned rfl) pa_nil))) pa_nil))) pa_nil)))))
      (pss_cons (ps_set (i := 1) sc_law_kind.nd rfl (.inl rfl) (pe_op op_cat (pv 1) (pe_lst (pa_cons (pe_tup (pa_cons pe_str (pa_cons (pe_callB call_isK (by rfl) T.b_isinstance boot_isinstance (pa_cons (pv 0) (pa_cons (pe_glob (v := .ref (He.ga K "Old")) rfl T.g_Old rfl) pa_nil))) pa_nil))) (pa_cons (pe_tup (pa_cons pe_str (pa_cons (pe_callB call_isK (by rfl) T.b_isinstance boot_isinstance (pa_cons (pv 0) (pa_cons (pe_glob (v := .ref (He.ga K "Settled")) rfl T.g_Settled rfl) pa_nil))) pa_nil))) pa_nil)))))
      (pss_cons (ps_set (i := 1) sc_law_kind.nd rfl (.inl rfl) (pe_op op_cat (pv 1) (pe_lst (pa_cons (pe_tup (pa_cons pe_str (pa_cons (pe_callB call_isK (by rfl) T.b_isinstance boot_isinstance (pa_cons (pv 0) (pa_cons (pe_glob (v := .ref (He.ga K "NoSecret")) rfl T.g_NoSecret rfl) pa_nil))) pa_nil))) (pa_cons (pe_tup (pa_cons pe_str (pa_cons (pe_callB call_isK (by rfl) T.b_isinstance boot_isinstance (pa_cons (pv 0) (pa_cons (pe_glob (v := .ref (He.ga K "NoPaper")) rfl T.g_NoPaper rfl) pa_nil))) pa_nil))) pa_nil)))))
      (pss_cons (ps_setLc (i := 2) (own := [("_law_one", 3), ("_law_so", 4)]) (g := gTup K 2 (gCons (gName 3) (gCons (gName 4) gNil))) rfl sc_law_kind.nd rfl rfl (sw_true rfl rfl rfl (by decide +kernel)) (pi_list (pv 1)) (blkOk_by (own := [("_law_one", 3), ("_law_so", 4)]) (N := n_law_kind) (sc := defScope s_law_kind) (by decide +kernel)) (fun _ _ _ _ _ => (pg_tup rfl (pgs_cons (pg_name (i := 3) sc_law_kind.nd rfl (.inl rfl)) (pgs_cons (pg_name (i := 4) sc_law_kind.nd rfl (.inl rfl)) pgs_nil)))) (fun _ _ _ _ _ => (pts_one (pt_val (pv 4)))) (fun _ _ _ _ _ => (pv 3)))
      (pss_cons (ps_if (PW.pt (pw_or (pt_cmpR op_ne (pe_callB call_len_seq (by rfl) T.b_len PySem.boot_len (pa_cons (pv 2) pa_nil)) pe_int (nomark _)) (pw_or (pt_not (pt_val (pe_callB call_isK (by rfl) T.b_isinstance boot_isinstance (pa_cons (pv 0) (pa_cons (pe_glob (v := .ref (He.ga K "CoinError")) rfl T.g_CoinError rfl) pa_nil))))) (pw_or1 (pt_not (pt_val (pe_callB call_isK (by rfl) T.b_isinstance boot_isinstance (pa_cons (pv 0) (pa_cons (pe_bltn (v := .ty "ValueError") (by rfl) T.b_ValueError boot_VE rfl) pa_nil))))))))) (pss_one (ps_ret pe_str)) pss_nil)
      (pss_one (ps_ret (pe_ix ix_list (pv 2) pe_int (fun _ _ => rfl)))))))))))), ?_⟩
    obtain ⟨C, ve, cl⟩ := exc_of T b
    have s0 : Same H H := Same.refl H
    have p0 : Paired (IsNm K H) [] [] := .nil
    refine ⟨_, rfl, e, _, _, _, _, rfl, s0 _ _ he, C, fun _ r => r, (cl "NoCoins" (by decide)).choose_spec, sl, fun t1 n1 => ?_⟩
    have s1 := s0.trans (same_upd (o := .tup [V.str (Str.ofString "NoCoins"), V.bl (cl "NoCoins" (by decide)).choose]) n1)
    have p1 := nms_add (Str.ofString "NoCoins") (cl "NoCoins" (by decide)).choose p0 n1
    refine ⟨_, rfl, e, _, _, _, _, rfl, s1 _ _ he, C, fun _ r => r, (cl "NoHand" (by decide)).choose_spec, sl, fun t2 n2 => ?_⟩
    have s2 := s1.trans (same_upd (o := .tup [V.str (Str.ofString "NoHand"), V.bl (cl "NoHand" (by decide)).choose]) n2)
    have p2 := nms_add (Str.ofString "NoHand") (cl "NoHand" (by decide)).choose p1 n2
    refine ⟨sl, fun l0 m0 => ?_⟩
    have s2a := s2.trans (same_upd (o := .lst [V.ref t1, V.ref t2]) m0)
    have p2a := nms (same_upd (o := .lst [V.ref t1, V.ref t2]) m0) p2
    have s2 := s2a
    have p2 := p2a
    have h2 := lst_here m0 (xs := [V.ref t1, V.ref t2])
    refine ⟨_, rfl, _, rfl, e, _, _, _, _, rfl, s2 _ _ he, C, fun _ r => r, (cl "NoLane" (by decide)).choose_spec, sl, fun t3 n3 => ?_⟩
    have s3 := s2.trans (same_upd (o := .tup [V.str (Str.ofString "NoLane"), V.bl (cl "NoLane" (by decide)).choose]) n3)
    have p3 := nms_add (Str.ofString "NoLane") (cl "NoLane" (by decide)).choose p2 n3
    have h3 := same_upd (o := .tup [V.str (Str.ofString "NoLane"), V.bl (cl "NoLane" (by decide)).choose]) n3 _ _ h2
    refine ⟨_, rfl, e, _, _, _, _, rfl, s3 _ _ he, C, fun _ r => r, (cl "NoName" (by decide)).choose_spec, sl, fun t4 n4 => ?_⟩
    have s4 := s3.trans (same_upd (o := .tup [V.str (Str.ofString "NoName"), V.bl (cl "NoName" (by decide)).choose]) n4)
    have p4 := nms_add (Str.ofString "NoName") (cl "NoName" (by decide)).choose p3 n4
    have h4 := same_upd (o := .tup [V.str (Str.ofString "NoName"), V.bl (cl "NoName" (by decide)).choose]) n4 _ _ h3
    refine ⟨sl, fun l1 m1 => ?_⟩
    have s4a := s4.trans (same_upd (o := .lst [V.ref t3, V.ref t4]) m1)
    have p4a := nms (same_upd (o := .lst [V.ref t3, V.ref t4]) m1) p4
    have h4a := same_upd (o := .lst [V.ref t3, V.ref t4]) m1 _ _ h4
    refine ⟨l0, l1, _, _, rfl, rfl, h4a, upd_same, sl, fun c1 q1 => ?_⟩
    have s4 := s4a.trans (same_upd (o := .lst [V.ref t1, V.ref t2, V.ref t3, V.ref t4]) q1)
    have p4 := nms (same_upd (o := .lst [V.ref t1, V.ref t2, V.ref t3, V.ref t4]) q1) p4a
    have h4 := lst_here q1 (xs := [V.ref t1, V.ref t2, V.ref t3, V.ref t4])
    refine ⟨_, rfl, _, rfl, e, _, _, _, _, rfl, s4 _ _ he, C, fun _ r => r, (cl "NoNumber" (by decide)).choose_spec, sl, fun t5 n5 => ?_⟩
    have s5 := s4.trans (same_upd (o := .tup [V.str (Str.ofString "NoNumber"), V.bl (cl "NoNumber" (by decide)).choose]) n5)
    have p5 := nms_add (Str.ofString "NoNumber") (cl "NoNumber" (by decide)).choose p4 n5
    have h5 := same_upd (o := .tup [V.str (Str.ofString "NoNumber"), V.bl (cl "NoNumber" (by decide)).choose]) n5 _ _ h4
    refine ⟨sl, fun l2 m2 => ?_⟩
    have s5a := s5.trans (same_upd (o := .lst [V.ref t5]) m2)
    have p5a := nms (same_upd (o := .lst [V.ref t5]) m2) p5
    have h5a := same_upd (o := .lst [V.ref t5]) m2 _ _ h5
    refine ⟨c1, l2, _, _, rfl, rfl, h5a, upd_same, sl, fun c2 q2 => ?_⟩
    have s5 := s5a.trans (same_upd (o := .lst [V.ref t1, V.ref t2, V.ref t3, V.ref t4, V.ref t5]) q2)
    have p5 := nms (same_upd (o := .lst [V.ref t1, V.ref t2, V.ref t3, V.ref t4, V.ref t5]) q2) p5a
    have h5 := lst_here q2 (xs := [V.ref t1, V.ref t2, V.ref t3, V.ref t4, V.ref t5])
    refine ⟨_, rfl, _, rfl, e, _, _, _, _, rfl, s5 _ _ he, C, fun _ r => r, (cl "NoState" (by decide)).choose_spec, sl, fun t6 n6 => ?_⟩
    have s6 := s5.trans (same_upd (o := .tup [V.str (Str.ofString "NoState"), V.bl (cl "NoState" (by decide)).choose]) n6)
    have p6 := nms_add (Str.ofString "NoState") (cl "NoState" (by decide)).choose p5 n6
    have h6 := same_upd (o := .tup [V.str (Str.ofString "NoState"), V.bl (cl "NoState" (by decide)).choose]) n6 _ _ h5
    refine ⟨_, rfl, e, _, _, _, _, rfl, s6 _ _ he, C, fun _ r => r, (cl "NotSigned" (by decide)).choose_spec, sl, fun t7 n7 => ?_⟩
    have s7 := s6.trans (same_upd (o := .tup [V.str (Str.ofString "NotSigned"), V.bl (cl "NotSigned" (by decide)).choose]) n7)
    have p7 := nms_add (Str.ofString "NotSigned") (cl "NotSigned" (by decide)).choose p6 n7
    have h7 := same_upd (o := .tup [V.str (Str.ofString "NotSigned"), V.bl (cl "NotSigned" (by decide)).choose]) n7 _ _ h6
    refine ⟨sl, fun l3 m3 => ?_⟩
    have s7a := s7.trans (same_upd (o := .lst [V.ref t6, V.ref t7]) m3)
    have p7a := nms (same_upd (o := .lst [V.ref t6, V.ref t7]) m3) p7
    have h7a := same_upd (o := .lst [V.ref t6, V.ref t7]) m3 _ _ h7
    refine ⟨c2, l3, _, _, rfl, rfl, h7a, upd_same, sl, fun c3 q3 => ?_⟩
    have s7 := s7a.trans (same_upd (o := .lst [V.ref t1, V.ref t2, V.ref t3, V.ref t4, V.ref t5, V.ref t6, V.ref t7]) q3)
    have p7 := nms (same_upd (o := .lst [V.ref t1, V.ref t2, V.ref t3, V.ref t4, V.ref t5, V.ref t6, V.ref t7]) q3) p7a
    have h7 := lst_here q3 (xs := [V.ref t1, V.ref t2, V.ref t3, V.ref t4, V.ref t5, V.ref t6, V.ref t7])
    refine ⟨_, rfl, _, rfl, e, _, _, _, _, rfl, s7 _ _ he, C, fun _ r => r, (cl "Old" (by decide)).choose_spec, sl, fun t8 n8 => ?_⟩
    have s8 := s7.trans (same_upd (o := .tup [V.str (Str.ofString "Old"), V.bl (cl "Old" (by decide)).choose]) n8)
    have p8 := nms_add (Str.ofString "Old") (cl "Old" (by decide)).choose p7 n8
    have h8 := same_upd (o := .tup [V.str (Str.ofString "Old"), V.bl (cl "Old" (by decide)).choose]) n8 _ _ h7
    refine ⟨_, rfl, e, _, _, _, _, rfl, s8 _ _ he, C, fun _ r => r, (cl "Settled" (by decide)).choose_spec, sl, fun t9 n9 => ?_⟩
    have s9 := s8.trans (same_upd (o := .tup [V.str (Str.ofString "Settled"), V.bl (cl "Settled" (by decide)).choose]) n9)
    have p9 := nms_add (Str.ofString "Settled") (cl "Settled" (by decide)).choose p8 n9
    have h9 := same_upd (o := .tup [V.str (Str.ofString "Settled"), V.bl (cl "Settled" (by decide)).choose]) n9 _ _ h8
    refine ⟨sl, fun l4 m4 => ?_⟩
    have s9a := s9.trans (same_upd (o := .lst [V.ref t8, V.ref t9]) m4)
    have p9a := nms (same_upd (o := .lst [V.ref t8, V.ref t9]) m4) p9
    have h9a := same_upd (o := .lst [V.ref t8, V.ref t9]) m4 _ _ h9
    refine ⟨c3, l4, _, _, rfl, rfl, h9a, upd_same, sl, fun c4 q4 => ?_⟩
    have s9 := s9a.trans (same_upd (o := .lst [V.ref t1, V.ref t2, V.ref t3, V.ref t4, V.ref t5, V.ref t6, V.ref t7, V.ref t8, V.ref t9]) q4)
    have p9 := nms (same_upd (o := .lst [V.ref t1, V.ref t2, V.ref t3, V.ref t4, V.ref t5, V.ref t6, V.ref t7, V.ref t8, V.ref t9]) q4) p9a
    have h9 := lst_here q4 (xs := [V.ref t1, V.ref t2, V.ref t3, V.ref t4, V.ref t5, V.ref t6, V.ref t7, V.ref t8, V.ref t9])
    refine ⟨_, rfl, _, rfl, e, _, _, _, _, rfl, s9 _ _ he, C, fun _ r => r, (cl "NoSecret" (by decide)).choose_spec, sl, fun t10 n10 => ?_⟩
    have s10 := s9.trans (same_upd (o := .tup [V.str (Str.ofString "NoSecret"), V.bl (cl "NoSecret" (by decide)).choose]) n10)
    have p10 := nms_add (Str.ofString "NoSecret") (cl "NoSecret" (by decide)).choose p9 n10
    have h10 := same_upd (o := .tup [V.str (Str.ofString "NoSecret"), V.bl (cl "NoSecret" (by decide)).choose]) n10 _ _ h9
    refine ⟨_, rfl, e, _, _, _, _, rfl, s10 _ _ he, C, fun _ r => r, (cl "NoPaper" (by decide)).choose_spec, sl, fun t11 n11 => ?_⟩
    have s11 := s10.trans (same_upd (o := .tup [V.str (Str.ofString "NoPaper"), V.bl (cl "NoPaper" (by decide)).choose]) n11)
    have p11 := nms_add (Str.ofString "NoPaper") (cl "NoPaper" (by decide)).choose p10 n11
    have h11 := same_upd (o := .tup [V.str (Str.ofString "NoPaper"), V.bl (cl "NoPaper" (by decide)).choose]) n11 _ _ h10
    refine ⟨sl, fun l5 m5 => ?_⟩
    have s11a := s11.trans (same_upd (o := .lst [V.ref t10, V.ref t11]) m5)
    have p11a := nms (same_upd (o := .lst [V.ref t10, V.ref t11]) m5) p11
    have h11a := same_upd (o := .lst [V.ref t10, V.ref t11]) m5 _ _ h11
    refine ⟨c4, l5, _, _, rfl, rfl, h11a, upd_same, sl, fun c5 q5 => ?_⟩
    have s11 := s11a.trans (same_upd (o := .lst [V.ref t1, V.ref t2, V.ref t3, V.ref t4, V.ref t5, V.ref t6, V.ref t7, V.ref t8, V.ref t9, V.ref t10, V.ref t11]) q5)
    have p11 := nms (same_upd (o := .lst [V.ref t1, V.ref t2, V.ref t3, V.ref t4, V.ref t5, V.ref t6, V.ref t7, V.ref t8, V.ref t9, V.ref t10, V.ref t11]) q5) p11a
    have h11 := lst_here q5 (xs := [V.ref t1, V.ref t2, V.ref t3, V.ref t4, V.ref t5, V.ref t6, V.ref t7, V.ref t8, V.ref t9, V.ref t10, V.ref t11])
    have pn : Paired (IsNm K _) [V.ref t1, V.ref t2, V.ref t3, V.ref t4, V.ref t5, V.ref t6, V.ref t7, V.ref t8, V.ref t9, V.ref t10, V.ref t11] [Str.ofString "NoCoins", Str.ofString "NoHand", Str.ofString "NoLane", Str.ofString "NoName", Str.ofString "NoNumber", Str.ofString "NoState", Str.ofString "NotSigned", Str.ofString "Old", Str.ofString "Settled", Str.ofString "NoSecret", Str.ofString "NoPaper"] := p11
    have nz : ∀ z ∈ ([Str.ofString "NoCoins", Str.ofString "NoHand", Str.ofString "NoLane", Str.ofString "NoName", Str.ofString "NoNumber", Str.ofString "NoState", Str.ofString "NotSigned", Str.ofString "Old", Str.ofString "Settled", Str.ofString "NoSecret", Str.ofString "NoPaper"] : List Str), z ≠ ("" : Str) := by decide +kernel
    refine ⟨_, rfl, c5, rfl, ⟨_, SqL.of h11⟩, fun D nD => lc_list (xs := [V.ref t1, V.ref t2, V.ref t3, V.ref t4, V.ref t5, V.ref t6, V.ref t7, V.ref t8, V.ref t9, V.ref t10, V.ref t11]) (fun i H3 => Same H H3 ∧ H3 c5 = some (.lst [V.ref t1, V.ref t2, V.ref t3, V.ref t4, V.ref t5, V.ref t6, V.ref t7, V.ref t8, V.ref t9, V.ref t10, V.ref t11]) ∧ Paired (IsNm K H3) [V.ref t1, V.ref t2, V.ref t3, V.ref t4, V.ref t5, V.ref t6, V.ref t7, V.ref t8, V.ref t9, V.ref t10, V.ref t11] [Str.ofString "NoCoins", Str.ofString "NoHand", Str.ofString "NoLane", Str.ofString "NoName", Str.ofString "NoNumber", Str.ofString "NoState", Str.ofString "NotSigned", Str.ofString "Old", Str.ofString "Settled", Str.ofString "NoSecret", Str.ofString "NoPaper"] ∧ ∃ zs : List Str, H3 D = some (.lst (zs.map V.str)) ∧ zs.length ≤ i ∧ ∀ z ∈ zs, z ≠ ("" : Str)) ⟨s11.trans (same_upd nD), same_upd nD _ _ h11, nms (same_upd nD) pn, [], upd_same, Nat.le_refl _, fun _ z => (List.not_mem_nil z).elim⟩ (fun i H3 _ h3 => SqL.of h3.2.1) (fun i v H3 hi h3 => ?_) (fun H3 h3 => ?_)⟩
    · obtain ⟨s3, hc3, p3, zs, hD, lz, zz⟩ := h3
      obtain ⟨z, hz, q, b, rfl, hq⟩ := paired_get p3 hi
      have i11 : i < 11 := (List.getElem?_eq_some_iff.mp hi).1
      have nDc : c5 ≠ D := ne_of_none h11 nD
      have nDH : H D = none := s11.free nD
      refine ⟨q, _, rfl, hq, rfl, _, _, rfl, _, _, rfl, rfl, rfl, _, rfl, b, rfl, ite2 (fun _ => ?_) (fun _ => ⟨s3, hc3, p3, zs, hD, by omega, zz⟩)⟩
      refine ⟨_, rfl, _, hD, slt (by rw [List.length_map]; omega), fun b' y e => ?_, ?_, paired_imp (fun _ _ y => IsNm.ks (Ks.updL hD) y) p3, zs ++ [z], by rw [upd_same, List.map_append]; rfl, by rw [List.length_append, List.length_singleton]; omega, fun u hu => ?_⟩
      · rw [upd_ne (ne_of_none e nDH)]
        exact s3 _ _ e
      · rw [upd_ne nDc]
        exact hc3
      · rcases List.mem_append.mp hu with hu | hu
        · exact zz u hu
        · rw [List.mem_singleton.mp hu]
          exact nz z (List.mem_of_getElem? hz)
    · obtain ⟨s3, hc3, p3, zs, hD, lz, zz⟩ := h3
      have odd : ∀ H4, Same H H4 → Q (.str (Str.ofString "odd")) H4 := fun H4 s4 => h H4 _ s4 (by decide +kernel)
      refine ⟨_, rfl, D, _, rfl, .inl (SqL.of hD), rfl, _, rfl, ite2 (fun _ => odd _ s3) (fun ne => ?_)⟩
      refine ⟨_, rfl, e, _, _, _, _, rfl, s3 _ _ he, C, fun _ r => r, (cl "CoinError" (by decide)).choose_spec, _, rfl, ite2 (fun _ => odd _ s3) (fun _ => ?_)⟩
      refine ⟨_, rfl, e, _, _, _, _, rfl, s3 _ _ he, C, fun _ r => r, ve.choose_spec, _, rfl, ite2 (fun _ => odd _ s3) (fun _ => ?_)⟩
      have l1 : zs.length = 1 := by
        simp only [Bool.not_eq_true', decide_eq_false_iff_not, Decidable.not_not, List.length_map, V.int.injEq] at ne
        omega
      obtain ⟨z, rfl⟩ := List.length_eq_one_iff.mp l1
      exact ⟨_, rfl, D, _, _, _, rfl, rfl, SqL.of hD, rfl, h _ _ s3 (zz z List.mem_cons_self)⟩
end
end Cn
namespace Cn
open PySem PySem.Spec PyProof.Rows L2
/-! ### law_asked: a deed done at a court -/
def Told (K : PySem.W.Frag) (o : Own) (H : Hp) (c : Ct) (d : Deed) (u : V) : Prop := d = .turn → ∃ q ys, u = .ref q ∧ o q = none ∧ H q = some (.lst ys) ∧ Paired (IsPay K H) ys c.paidNow
def spAsked (P : Program) (w : World) (K : PySem.W.Frag) : Sp := fun vs H Q _ => ∃ (t : Nat) (o : Own) (a sgA : Addr) (sg : Sg) (m : Nat) (c : Ct) (n : Nat) (v : V) (d : Deed),
  vs = [.ref a, v] ∧ IsDeed K H v d ∧ d.ok ∧ t ≠ 1 ∧ Dom o H ∧ CtAt K t o H a sgA c ∧ SgAt P w K o H sgA sg m ∧ c.ok n ∧
  match c.step sg d with
  | .ok c' => ∀ o' H' p u, Ef K t o H o' H' → Dom o' H' → CtAt K t o' H' a sgA c' → SqT K H' p [.str (Str.ofString ""), u] → Told K o' H' c d u → Q (.ref p) H'
  | .error _ => ∀ H' p z u, Same H H' → SqT K H' p [.str z, u] → z ≠ ("" : Str) → Q (.ref p) H'
theorem exm_bad {K : PySem.W.Frag} {mg : Str → Option Value} (T : Tx K mg) (b : Bad) : PySem.W.exmOne K (.ref (badA K b)) (.ref (He.ga K "CoinError")) = some true := by
  cases b with
  | hand => exact T.e_NoHand
  | coins => exact T.e_NoCoins
  | unsigned => exact T.e_NotSigned
  | lane => exact T.e_NoLane
  | settled => exact T.e_Settled
  | old => exact T.e_Old
section
variable {P : Program} {w : World} {K : PySem.W.Frag} {mg : Str → Option Value} {base : Heap}
abbrev n_law_asked : List Str := ["_law_court", "_law_deed_here", "_law_told", "_law_caught", "_law_e"]
theorem sc_law_asked : FnScope n_law_asked ["_law_court", "_law_deed_here"] (defScope s_law_asked) := ⟨rfl, rfl, rfl, by decide +kernel, rfl, by decide +kernel, by decide +kernel⟩
theorem ok_law_asked (T : Tx K mg) : DefOk P w K mg base CX0 8 (He.fAd K d_law_asked.at_) ["_law_court", "_law_deed_here"] (spAsked P w K) := by
  refine mk0 (d := d_law_asked) T.f_law_asked rfl (fun _ _ _ _ _ _ us hl => match us, hl with | [_, _], _ => rfl) sc_law_asked (fun vs H Q E h => ?_) (fun cdv A outer s H vs Q E hr h => ?_)
  · obtain ⟨_, _, _, _, _, _, _, _, _, _, rfl, _⟩ := h
    rfl
  · obtain ⟨t, o, a, sgA, sg, m, c, n, v, d, rfl, hd, dk, t1, dm, ct, sgs, ok, h⟩ := h
    obtain ⟨fdL, FL⟩ := T.f_Court_lane
    have okL := fn_Court_lane (P := P) (w := w) (base := base) T FL
    obtain ⟨gL, kbL⟩ := kbX (n := 3) (ps := ["self", "left", "right", "left_coins", "right_coins"]) (ks := ["right_coins", "left_coins"]) true FL rfl (fun z => nomatch z) (fun _ _ _ _ _ _ us ws h1 h2 => match us, ws, h1, h2 with | [_, _, _], [_, _], _, _ => rfl)
    refine ⟨_, (pss_cons (ps_set (i := 2) sc_law_asked.nd rfl (.inl rfl) pe_non) (pss_cons (ps_set (i := 3) sc_law_asked.nd rfl (.inl rfl) pe_non)
      (pss_cons (ps_try_keep (i := 4) rfl rfl rfl sc_law_asked.nd rfl rfl ⟨rfl, by decide, .inl T.g_CoinError⟩ (fun W pn xe tk po => (pss_one (ps_if (pt_cmpR op_eq (pe_ix (r := rIxT K) ix_tup (pv 1) pe_int (fun _ _ => rfl)) pe_str (nomark _)) (pss_one (ps_set (i := 2) sc_law_asked.nd rfl (.inl rfl) (mKS (n := 2) (pv 0) T.c_Court T.m_Court_lane okL hr kbL tk (pa_cons (pe_ix (r := rIxT K) ix_tup (pv 1) pe_int (fun _ _ => rfl)) (pa_cons (pe_ix (r := rIxT K) ix_tup (pv 1) pe_int (fun _ _ => rfl)) pa_nil)) (pk_cons (pe_ix (r := rIxT K) ix_tup (pv 1) pe_int (fun _ _ => rfl)) (pk_cons (pe_ix (r := rIxT K) ix_tup (pv 1) pe_int (fun _ _ => rfl)) pk_nil))))) (pss_one (ps_if (pt_cmpR op_eq (pe_ix (r := rIxT K) ix_tup (pv 1) pe_int (fun _ _ => rfl)) pe_str (nomark _)) (pss_one (ps_set (i := 2) sc_law_asked.nd rfl (.inl rfl) (mS (ok_Court_tell (P := P) (w := w) (base := base) T) tk T.c_Court T.m_Court_tell hr (pv 0) (pa_cons (pe_ix (r := rIxT K) ix_tup (pv 1) pe_int (fun _ _ => rfl)) pa_nil)))) (pss_one (ps_if (pt_cmpR op_eq (pe_ix (r := rIxT K) ix_tup (pv 1) pe_int (fun _ _ => rfl)) pe_str (nomark _)) (pss_one (ps_set (i := 2) sc_law_asked.nd rfl (.inl rfl) (mD (ok_Court_show (P := P) (w := w) (base := base) T) (T.c_Court) (T.m_Court_show) hr (pv 0) (pa_cons (pe_ix (r := rIxT K) ix_tup (pv 1) pe_int (fun _ _ => rfl)) pa_nil)))) (pss_one (ps_set (i := 2) sc_law_asked.nd rfl (.inl rfl) (mD0 (ok_Court_turn (P := P) (w := w) (base := base) T) (T.c_Court) (T.m_Court_turn) hr (pv 0))))))))))) (fun a oe pn hf => (pss_one (ps_set (i := 3) sc_law_asked.nd rfl (.inl rfl) (pv 4)))))
      (pss_one (ps_ret (pe_tup (pa_cons (pe_ifExp (pt_cmpR op_isN (pv 3) pe_non (nomark _)) pe_str (cD (ok_law_kind T) T.g_law_kind hr (pa_cons (pv 3) pa_nil))) (pa_cons (pv 2) pa_nil)))))))), ?_⟩
    obtain ⟨dx, bD, lL, sD, kL, dL, B⟩ := id ct
    cases d with
    | op l r x y =>
      obtain ⟨p, rfl, hp⟩ := hd
      refine ⟨_, rfl, p, _, _, _, rfl, rfl, hp, rfl, rfl, _, rfl, iteT ?_⟩
      refine ⟨_, rfl, a, dx, _, rfl, B.ob.2, rfl, _, rfl, p, _, _, _, rfl, rfl, hp, rfl, _, rfl, p, _, _, _, rfl, rfl, hp, rfl, _, rfl, p, _, _, _, rfl, rfl, hp, rfl, _, rfl, p, _, _, _, rfl, rfl, hp, rfl, rfl, rfl, ?_⟩
      refine ⟨t, o, a, sgA, sg, m, c, n, .op l r x y, _, rfl, ⟨l, r, x, y, rfl, rfl⟩, dk, t1, dm, ct, sgs, ok, ?_⟩
      cases e : c.step sg (.op l r x y) with
      | ok c' =>
        rw [e] at h
        intro o' H' u ef dm' ct' _
        refine ⟨_, rfl, rfl, _, rfl, iteT ⟨_, rfl, sl, fun q nq => ?_⟩⟩
        have s1 := same_upd (o := HO.tup [V.str (Str.ofString ""), u]) nq
        exact h o' _ q u (ef.trans (Ef.same s1)) (dm'.same s1) (ct'.fx (Fx.same s1)) (SqT.of upd_same) (fun z => nomatch z)
      | error b =>
        rw [e] at h
        exact fun H' s1 => ⟨rfl, exm_bad T b, fun x nx => ⟨_, rfl, _, rfl, rfl, _, rfl, iteF ⟨_, rfl, x, b, rfl, upd_same, fun H2 z s2 nz => ⟨_, rfl, sl, fun q nq => h _ q z _ ((s1.trans (same_upd nx)).trans (s2.trans (same_upd nq))) (SqT.of upd_same) nz⟩⟩⟩⟩
    | tell st =>
      obtain ⟨p, g, rfl, hp, hg⟩ := hd
      refine ⟨_, rfl, p, _, _, _, rfl, rfl, hp, rfl, rfl, _, rfl, iteF ?_⟩
      refine ⟨_, rfl, p, _, _, _, rfl, rfl, hp, rfl, rfl, _, rfl, iteT ?_⟩
      refine ⟨_, rfl, a, dx, _, rfl, B.ob.2, rfl, _, rfl, p, _, _, _, rfl, rfl, hp, rfl, ?_⟩
      refine ⟨t, o, a, sgA, sg, m, c, n, .tell st, _, rfl, ⟨st, _, rfl, rfl, hg⟩, dk, t1, dm, ct, sgs, ok, ?_⟩
      cases e : c.step sg (.tell st) with
      | ok c' =>
        rw [e] at h
        intro o' H' u ef dm' ct' _
        refine ⟨_, rfl, rfl, _, rfl, iteT ⟨_, rfl, sl, fun q nq => ?_⟩⟩
        have s1 := same_upd (o := HO.tup [V.str (Str.ofString ""), u]) nq
        exact h o' _ q u (ef.trans (Ef.same s1)) (dm'.same s1) (ct'.fx (Fx.same s1)) (SqT.of upd_same) (fun z => nomatch z)
      | error b =>
        rw [e] at h
        exact fun H' s1 => ⟨rfl, exm_bad T b, fun x nx => ⟨_, rfl, _, rfl, rfl, _, rfl, iteF ⟨_, rfl, x, b, rfl, upd_same, fun H2 z s2 nz => ⟨_, rfl, sl, fun q nq => h _ q z _ ((s1.trans (same_upd nx)).trans (s2.trans (same_upd nq))) (SqT.of upd_same) nz⟩⟩⟩⟩
    | shw x =>
      obtain ⟨p, rfl, hp⟩ := hd
      refine ⟨_, rfl, p, _, _, _, rfl, rfl, hp, rfl, rfl, _, rfl, iteF ?_⟩
      refine ⟨_, rfl, p, _, _, _, rfl, rfl, hp, rfl, rfl, _, rfl, iteF ?_⟩
      refine ⟨_, rfl, p, _, _, _, rfl, rfl, hp, rfl, rfl, _, rfl, iteT ?_⟩
      refine ⟨_, rfl, a, dx, _, rfl, B.ob.2, rfl, _, rfl, p, _, _, _, rfl, rfl, hp, rfl, ?_⟩
      refine ⟨t, o, a, sgA, sg, m, c, n, .shw x, _, rfl, ⟨x, rfl, rfl⟩, dk, t1, dm, ct, sgs, ok, ?_⟩
      intro o' H' u ef dm' ct' _
      refine ⟨_, rfl, rfl, _, rfl, iteT ⟨_, rfl, sl, fun q nq => ?_⟩⟩
      have s1 := same_upd (o := HO.tup [V.str (Str.ofString ""), u]) nq
      exact h o' _ q u (ef.trans (Ef.same s1)) (dm'.same s1) (ct'.fx (Fx.same s1)) (SqT.of upd_same) (fun z => nomatch z)
    | turn =>
      obtain ⟨p, rfl, hp⟩ := hd
      refine ⟨_, rfl, p, _, _, _, rfl, rfl, hp, rfl, rfl, _, rfl, iteF ?_⟩
      refine ⟨_, rfl, p, _, _, _, rfl, rfl, hp, rfl, rfl, _, rfl, iteF ?_⟩
      refine ⟨_, rfl, p, _, _, _, rfl, rfl, hp, rfl, rfl, _, rfl, iteF ?_⟩
      refine ⟨_, rfl, a, dx, _, rfl, B.ob.2, rfl, ?_⟩
      refine ⟨t, o, a, sgA, sg, m, c, n, .turn, _, rfl, ⟨rfl, rfl⟩, dk, t1, dm, ct, sgs, ok, ?_⟩
      intro o' H' u ef dm' ct' hu
      obtain ⟨q0, ys, rfl, oq, hq, py⟩ := hu
      refine ⟨_, rfl, rfl, _, rfl, iteT ⟨_, rfl, sl, fun q nq => ?_⟩⟩
      have s1 := same_upd (o := HO.tup [V.str (Str.ofString ""), V.ref q0]) nq
      exact h o' _ q _ (ef.trans (Ef.same s1)) (dm'.same s1) (ct'.fx (Fx.same s1)) (SqT.of upd_same) (fun _ => ⟨q0, ys, rfl, oq, s1 _ _ hq, paired_imp (fun _ _ z => IsPay.mono (K := K) (Ks.same s1) z) py⟩)
end
end Cn
namespace Cn
open PySem PySem.Spec PyProof.Rows L2
/-! ### law_spoil: told rows are changed -/
theorem paired_of_get {A B : Type} {R : A → B → Prop} : ∀ {xs : List A} {ys : List B}, xs.length = ys.length → (∀ (i : Nat) (x : A) (y : B), xs[i]? = some x → ys[i]? = some y → R x y) → Paired R xs ys
  | [], [], _, _ => .nil
  | [], _ :: _, h, _ => by cases h
  | _ :: _, [], h, _ => by cases h
  | a :: r, b :: s, h, k => .cons (k 0 a b rfl rfl) (paired_of_get (Nat.succ.inj h) fun i x y h1 h2 => k (i + 1) x y h1 h2)
def RowIs (K : PySem.W.Frag) (H : Hp) (v : V) (b : Addr) (r : Deed × List Pay) : Prop := ∃ p g ys, v = .ref p ∧ SqT K H p [g, .ref b] ∧ IsDeed K H g r.1 ∧ H b = some (.lst ys) ∧ Paired (IsPay K H) ys r.2
structure RowsI (K : PySem.W.Frag) (H : Hp) (l : Addr) (ls : List Addr) (rows : List (Deed × List Pay)) (xs : List V) : Prop where
  nd : (l :: ls).Nodup
  hl : H l = some (.lst xs)
  lx : xs.length = rows.length
  ll : ls.length = rows.length
  at_ : ∀ (i : Nat) v b r, xs[i]? = some v → ls[i]? = some b → rows[i]? = some r → RowIs K H v b r
theorem RowsAt.ix {K : PySem.W.Frag} {H : Hp} {l : Addr} {ls : List Addr} {rows : List (Deed × List Pay)} (R : RowsAt K H l ls rows) : ∃ xs, RowsI K H l ls rows xs := by
  obtain ⟨xs, h, p⟩ := R.is
  have lz := paired_len p
  have ll := R.len
  refine ⟨xs, R.nd, h, by rw [lz, List.length_zip, ll, Nat.min_self], ll, fun i v b r h1 h2 h3 => ?_⟩
  obtain ⟨y, hy, p', g, ys, e, q⟩ := paired_get p h1
  obtain ⟨y1, y2⟩ := List.getElem?_zip_eq_some.mp hy
  rw [h2] at y1
  rw [h3] at y2
  have e1 := Option.some.inj y1
  have e2 := Option.some.inj y2
  rw [← e1, ← e2] at q
  exact ⟨p', g, ys, e, q⟩
theorem RowIs.mono {K : PySem.W.Frag} {H H' : Hp} (k : Ks K H H') {v : V} {b : Addr} {r : Deed × List Pay} (h : RowIs K H v b r) (e : H' b = H b) : RowIs K H' v b r := by
  obtain ⟨p, g, ys, e1, s, d, hb, py⟩ := h
  exact ⟨p, g, ys, e1, k _ _ s, IsDeed.mono k d, by rw [e]; exact hb, paired_imp (fun _ _ z => IsPay.mono k z) py⟩
theorem RowsI.same {K : PySem.W.Frag} {H H' : Hp} {l : Addr} {ls : List Addr} {rows : List (Deed × List Pay)} {xs : List V} (R : RowsI K H l ls rows xs) (s : Same H H') : RowsI K H' l ls rows xs := by
  refine ⟨R.nd, s _ _ R.hl, R.lx, R.ll, fun i v b r h1 h2 h3 => ?_⟩
  obtain ⟨p, g, ys, e1, sq, d, hb, py⟩ := R.at_ i v b r h1 h2 h3
  exact ⟨p, g, ys, e1, Ks.same s _ _ sq, IsDeed.mono (Ks.same s) d, s _ _ hb, paired_imp (fun _ _ z => IsPay.mono (Ks.same s) z) py⟩
/-- one of the lists within grows -/
theorem RowsI.grow {K : PySem.W.Frag} {H : Hp} {l b : Addr} {ls : List Addr} {rows rows' : List (Deed × List Pay)} {xs ys : List V} {i : Nat} {d : Deed} {ps : List Pay} {x : V} {y : Pay} (R : RowsI K H l ls rows xs) (hb : ls[i]? = some b) (hr : rows[i]? = some (d, ps)) (hy : H b = some (.lst ys)) (py : Paired (IsPay K H) ys ps)
    (hx : IsPay K H x y) (len : rows'.length = rows.length) (here : rows'[i]? = some (d, ps ++ [y])) (else_ : ∀ j, j ≠ i → rows'[j]? = rows[j]?) : RowsI K (upd H b (.lst (ys ++ [x]))) l ls rows' xs := by
  have k : Ks K H (upd H b (.lst (ys ++ [x]))) := Ks.updL hy
  have nd := R.nd
  rw [List.nodup_cons] at nd
  refine ⟨R.nd, ?_, by rw [R.lx, len], by rw [R.ll, len], fun j v c r h1 h2 h3 => ?_⟩
  · rw [upd_ne (fun e : l = b => nd.1 (by rw [e]; exact List.mem_of_getElem? hb))]
    exact R.hl
  · by_cases c1 : j = i
    · subst c1
      rw [hb] at h2
      rw [here] at h3
      obtain rfl := Option.some.inj h2
      obtain rfl := Option.some.inj h3
      obtain ⟨p, g, zs, e1, sq, dd, hb', py'⟩ := R.at_ j v b (d, ps) h1 hb hr
      exact ⟨p, g, ys ++ [x], e1, k _ _ sq, IsDeed.mono k dd, upd_same, paired_append (paired_imp (fun _ _ z => IsPay.mono k z) py) (.cons (IsPay.mono k hx) .nil)⟩
    · rw [else_ j c1] at h3
      refine RowIs.mono k (R.at_ j v c r h1 h2 h3) (upd_ne fun e => c1 ?_)
      have i1 : i < ls.length := (List.getElem?_eq_some_iff.mp hb).1
      have j1 : j < ls.length := (List.getElem?_eq_some_iff.mp h2).1
      exact (List.getElem?_inj j1 nd.2).mp (by rw [h2, hb, e])
theorem RowsI.dp {K : PySem.W.Frag} {H : Hp} {l : Addr} {ls : List Addr} {rows : List (Deed × List Pay)} {xs : List V} (R : RowsI K H l ls rows xs) : Dp K H (.ref l) (.list (rows.map rowD)) := by
  refine .lst (SqL.of R.hl) (dpAll_of (f := rowD) (R := fun v r => ∃ b, RowIs K H v b r) (fun v r z => ?_) (paired_of_get R.lx fun i v r h1 h2 => ?_))
  · obtain ⟨b, p, g, ys, rfl, sq, dd, hb, py⟩ := z
    exact .tup sq (.cons (IsDeed.dp dd) (.cons (.lst (SqL.of hb) (dpAll_of (fun _ _ y => IsPay.dp y) py)) .nil))
  · have l1 : i < ls.length := by
      have := (List.getElem?_eq_some_iff.mp h2).1
      rw [R.ll]
      exact this
    exact ⟨ls[i], R.at_ i v _ r h1 (List.getElem?_eq_getElem l1) h2⟩
/-- rows that may be laid -/
def RowFine (r : Deed × List Pay) : Prop := r.1.ok ∧ r.2.length ≤ 4000001 ∧ ∀ p ∈ r.2, NameOk p.1
theorem fine_deed {d : Deed} (h : d.ok) : FineD 4 d.data := by
  cases d with
  | op l r a b =>
    obtain ⟨h1, h2, _, _⟩ := h
    constructor
    · simp [Deed.data, PyData.canLay0, PyData.canLayAll0, strOk_name h1, strOk_name h2]
      decide +kernel
    · simp [Deed.data, PyData.depth, PyData.depthAll]
  | tell s =>
    obtain ⟨k1, k2⟩ := fine_st h
    constructor
    · simp [Deed.data, PyData.canLay0, PyData.canLayAll0, k1]
      decide +kernel
    · simp only [Deed.data, PyData.depth, PyData.depthAll]
      omega
  | shw x =>
    constructor
    · simp [Deed.data, PyData.canLay0, PyData.canLayAll0]
      decide +kernel
    · simp [Deed.data, PyData.depth, PyData.depthAll]
  | turn =>
    constructor
    · simp [Deed.data, PyData.canLay0, PyData.canLayAll0]
      decide +kernel
    · simp [Deed.data, PyData.depth, PyData.depthAll]
theorem fine_pay {p : Pay} (h : NameOk p.1) : FineD 1 (payD p) := by
  constructor
  · simp [payD, PyData.canLay0, PyData.canLayAll0, strOk_name h]
  · simp [payD, PyData.depth, PyData.depthAll]
theorem fine_row {r : Deed × List Pay} (h : RowFine r) : FineD 5 (rowD r) := by
  obtain ⟨k1, k2⟩ := fine_deed h.1
  obtain ⟨k3, k4⟩ := fine_all (as := r.2) (f := payD) fun p hp => fine_pay (h.2.2 p hp)
  constructor
  · simp [rowD, PyData.canLay0, PyData.canLayAll0, k1, k3]
  · simp only [rowD, PyData.depth, PyData.depthAll]
    omega
theorem rows_shaped {l : List (Deed × List Pay)} (h : ∀ r ∈ l, RowFine r) : SeqAt.shaped (.list (l.map rowD)) = true := by
  obtain ⟨h1, h2⟩ := fine_all (as := l) (f := rowD) fun s hs => fine_row (h s hs)
  have k1 : (PyData.list (l.map rowD)).canLay0 = true := by
    simp only [PyData.canLay0]
    exact h1
  have k2 : (PyData.list (l.map rowD)).depth ≤ 64 := by
    simp only [PyData.depth]
    omega
  unfold SeqAt.shaped
  rw [k1, decide_eq_true k2]
  rfl
theorem rows_nil (l : List (Deed × List Pay)) : PyData.eqv (.list (l.map rowD)) (.list []) = l.isEmpty := by
  cases l with
  | nil => rfl
  | cons g r => rfl
theorem rows_eq {l : List (Deed × List Pay)} (h : ∀ r ∈ l, RowFine r) : PyData.eqv (.list (l.map rowD)) (.list (l.map rowD)) = true := by
  have z := rows_shaped h
  unfold SeqAt.shaped at z
  rw [Bool.and_eq_true] at z
  exact PySem.SeqAt.eqv_refl _ z.1
def intsD (l : List Int) : PyData := .list (l.map PyData.int)
theorem ints_dp1 {K : PySem.W.Frag} {H : Hp} {a : Addr} (l : List Int) (h : H a = some (.lst (l.map V.int))) : Dp K H (.ref a) (intsD l) := by
  refine .lst (SqL.of h) ?_
  clear h
  induction l with
  | nil => exact .nil
  | cons i r ih => exact .cons (.int i) ih
theorem ints_shaped1 (l : List Int) : SeqAt.shaped (intsD l) = true := by
  obtain ⟨h1, h2⟩ := fine_all (n := 0) (as := l) (f := PyData.int) fun i _ => ⟨by simp [PyData.canLay0], by simp [PyData.depth]⟩
  have k1 : (intsD l).canLay0 = true := by
    simp only [intsD, PyData.canLay0]
    exact h1
  have k2 : (intsD l).depth ≤ 64 := by
    simp only [intsD, PyData.depth]
    omega
  unfold SeqAt.shaped
  rw [k1, decide_eq_true k2]
  rfl
theorem ints_eq (l : List Int) : PyData.eqv (intsD l) (intsD l) = true := by
  have z := ints_shaped1 l
  unfold SeqAt.shaped at z
  rw [Bool.and_eq_true] at z
  exact PySem.SeqAt.eqv_refl _ z.1
def bmp (i : Nat) (rows : List (Deed × List Pay)) : List (Deed × List Pay) := rows.mapIdx fun j r => if j < i then (r.1, r.2 ++ [((Str.ofString "me" : Str), (1 : Int))]) else r
theorem bmp_get (i j : Nat) (rows : List (Deed × List Pay)) : (bmp i rows)[j]? = rows[j]?.map fun r => if j < i then (r.1, r.2 ++ [((Str.ofString "me" : Str), (1 : Int))]) else r := by
  unfold bmp
  rw [List.getElem?_mapIdx]
theorem bmp_len (i : Nat) (rows : List (Deed × List Pay)) : (bmp i rows).length = rows.length := by
  unfold bmp
  rw [List.length_mapIdx]
def spSpoil (K : PySem.W.Frag) : Sp := fun vs H Q _ => ∃ (o : Own) (W l : Addr) (ls : List Addr) (c : Nat) (rows : List (Deed × List Pay)), vs = [.ref W, .ref l] ∧ RowsAt K H l ls rows ∧ (∀ b ∈ l :: ls, o b = none) ∧ Well K o H W c ∧ c + 1 ≤ cMax ∧ rows.length ≤ 300 ∧ (∀ r ∈ rows, r.1.ok ∧ r.2.length ≤ 4000000 ∧ ∀ p ∈ r.2, NameOk p.1) ∧
  ∀ H', (∀ u, u ≠ 0 → Fx K u o H o H') → Well K o H' W (c + 1) → Q (.bl true) H'
section
variable {P : Program} {w : World} {K : PySem.W.Frag} {mg : Str → Option Value} {base : Heap}
abbrev n_law_spoil : List Str := ["_law_well_here", "_law_rows", "_law_sizes", "_law_deed_here", "_law_paid", "_law_good", "_law_one"]
theorem sc_law_spoil : FnScope n_law_spoil ["_law_well_here", "_law_rows"] (defScope s_law_spoil) := ⟨rfl, rfl, rfl, by decide +kernel, rfl, by decide +kernel, by decide +kernel⟩
theorem ok_law_spoil (T : Tx K mg) : DefOk P w K mg base CX0 2 (He.fAd K d_law_spoil.at_) ["_law_well_here", "_law_rows"] (spSpoil K) := by
  refine mk0 (d := d_law_spoil) T.f_law_spoil rfl (fun _ _ _ _ _ _ us hl => match us, hl with | [_, _], _ => rfl) sc_law_spoil (fun vs H Q E h => ?_) (fun cdv A outer s H vs Q E hr h => ?_)
  · obtain ⟨_, _, _, _, _, _, rfl, _⟩ := h
    rfl
  · obtain ⟨o, W, l, ls, c, rows, rfl, R, own, Wl, hc, rl, rok, h⟩ := h
    refine ⟨_, (pss_cons (ps_setLc (i := 2) (own := [("_law_deed_here", 3), ("_law_paid", 4)]) (tt := tYes) (g := gTup K 2 (gCons (gName 3) (gCons (gName 4) gNil))) rfl sc_law_spoil.nd rfl rfl (sw_true rfl rfl rfl (by decide +kernel)) (pi_list (pv 1)) (blkOk_by (own := [("_law_deed_here", 3), ("_law_paid", 4)]) (N := n_law_spoil) (sc := defScope s_law_spoil) (by decide +kernel)) (fun _ _ _ _ _ => (pg_tup rfl (pgs_cons (pg_name (i := 3) sc_law_spoil.nd rfl (.inl rfl)) (pgs_cons (pg_name (i := 4) sc_law_spoil.nd rfl (.inl rfl)) pgs_nil)))) (fun _ _ _ _ _ => pts_nil) (fun _ _ _ _ _ => (pe_callB (call_len_seqK (K := K) rfl) (by rfl) T.b_len PySem.boot_len (pa_cons (pv 4) pa_nil))))
      (pss_cons (ps_for PassesOwn.never rfl (pi_list (pv 1)) (pg_tup rfl (pgs_cons (pg_name (i := 3) sc_law_spoil.nd rfl (.inl rfl)) (pgs_cons (pg_name (i := 4) sc_law_spoil.nd rfl (.inl rfl)) pgs_nil))) (pss_one (ps_expr (pe_bm PySem.F.plainAttrs_list PySem.F.slot_list_append PySem.F.type_list_append mt_append (pv 4) (pa_cons (pe_tup (pa_cons pe_str (pa_cons pe_int pa_nil))) pa_nil)))))
      (pss_cons (ps_set (i := 5) sc_law_spoil.nd rfl (.inl rfl) (pe_cmpR (op_eqD hr.units) (pe_lc (own := [("_law_deed_here", 3), ("_law_paid", 4)]) (tt := tYes) (g := gTup K 2 (gCons (gName 3) (gCons (gName 4) gNil))) rfl sc_law_spoil.nd (pi_list (pv 1)) (blkOk_by (own := [("_law_deed_here", 3), ("_law_paid", 4)]) (N := n_law_spoil) (sc := defScope s_law_spoil) (by decide +kernel)) (fun _ _ _ _ _ => (pg_tup rfl (pgs_cons (pg_name (i := 3) sc_law_spoil.nd rfl (.inl rfl)) (pgs_cons (pg_name (i := 4) sc_law_spoil.nd rfl (.inl rfl)) pgs_nil)))) (fun _ _ _ _ _ => pts_nil) (fun _ _ _ _ _ => (pe_callB (call_len_seqK (K := K) rfl) (by rfl) T.b_len PySem.boot_len (pa_cons (pv 4) pa_nil)))) (pe_lc (own := [("_law_one", 6)]) (tt := tYes) rfl sc_law_spoil.nd (pi_list (pv 2)) (blkOk_by (own := [("_law_one", 6)]) (N := n_law_spoil) (sc := defScope s_law_spoil) (by decide +kernel)) (fun _ _ _ _ _ => (pg_name (i := 6) sc_law_spoil.nd rfl (.inl rfl))) (fun _ _ _ _ _ => pts_nil) (fun _ _ _ _ _ => (pe_op op_add (pv 6) pe_int))) (nomark _)))
      (pss_cons (ps_if (pt_cmpR (op_neD hr.units) (pv 1) (pe_lst pa_nil) (nomark _)) (pss_one (ps_expr (pe_bm PySem.F.plainAttrs_list PySem.F.slot_list_pop PySem.F.type_list_pop mt_popAt (pv 1) (pa_cons (cD (ok_law_take T) T.g_law_take hr (pa_cons (pv 0) (pa_cons (pe_callB call_len_seq (by rfl) T.b_len PySem.boot_len (pa_cons (pv 1) pa_nil)) pa_nil))) pa_nil)))) pss_nil)
      (pss_one (ps_ret (pv 5))))))), ?_⟩
    obtain ⟨xs, R⟩ := R.ix
    have nDl : ∀ {D : Addr}, H D = none → D ∉ l :: ls := fun {D} nD hm => by
      rcases List.mem_cons.mp hm with e | hm
      · rw [e, R.hl] at nD
        cases nD
      · obtain ⟨j, hj, e⟩ := List.mem_iff_getElem.mp hm
        have l1 : j < rows.length := by rw [← R.ll]; exact hj
        have l2 : j < xs.length := by rw [R.lx]; exact l1
        obtain ⟨p, g, ys, _, _, _, hb, _⟩ := R.at_ j xs[j] ls[j] rows[j] (List.getElem?_eq_getElem l2) (List.getElem?_eq_getElem hj) (List.getElem?_eq_getElem l1)
        rw [← e, hb] at nD
        cases nD
    refine ⟨_, rfl, l, rfl, ⟨_, SqL.of R.hl⟩, fun D nD => lc_list (xs := xs) (fun i H3 => Same H H3 ∧ H3 D = some (.lst (((rows.take i).map fun r => (r.2.length : Int)).map V.int))) ⟨same_upd nD, upd_same⟩ (fun i H3 _ h3 => SqL.of (h3.1 _ _ R.hl)) (fun i v H3 hi h3 => ?_) (fun H3 h3 => ?_)⟩
    · obtain ⟨s3, hD⟩ := h3
      have R3 := R.same s3
      have i1 : i < rows.length := by
        rw [← R.lx]
        exact (List.getElem?_eq_some_iff.mp hi).1
      have i2 : i < ls.length := by rw [R.ll]; exact i1
      obtain ⟨p, g, ys, rfl, sq, dd, hb, py⟩ := R3.at_ i v ls[i] rows[i] hi (List.getElem?_eq_getElem i2) (List.getElem?_eq_getElem i1)
      refine ⟨p, _, rfl, sq, rfl, _, _, rfl, _, _, rfl, rfl, rfl, _, rfl, ls[i], ys, rfl, .inl (SqL.of hb), _, hD, slt (by rw [List.length_map, List.length_map, List.length_take]; omega), fun b' y e => ?_, ?_⟩
      · rw [upd_ne (ne_of_none e nD)]
        exact s3 _ _ e
      · rw [upd_same, take_succ_of (List.getElem?_eq_getElem i1), List.map_append, List.map_append, paired_len py]
        rfl
    obtain ⟨s3, hD⟩ := h3
    rw [R.lx, List.take_length] at hD
    have R3 := R.same s3
    have bz : bmp 0 rows = rows := by
      refine List.ext_getElem? fun j => ?_
      rw [bmp_get]
      simp
    refine ⟨_, rfl, l, rfl, ⟨_, SqL.of R3.hl⟩, for_it (walk_list (xs := xs)) (fun i σ H4 => ∃ y3 y4 : Option V, σ = [some (.ref W), some (.ref l), some (.ref D), y3, y4, none, none] ∧ (∀ u, Fx K u o H o H4) ∧ Dom o H4 ∧ RowsI K H4 l ls (bmp i rows) xs ∧ H4 D = some (.lst ((rows.map fun r => (r.2.length : Int)).map V.int))) ⟨none, none, rfl, fun _ => Fx.same s3, Wl.dom.same s3, by rw [bz]; exact R3, hD⟩ (fun i σ H4 _ h4 => ?_) (fun i v σ H4 H5 hi h4 hv => ?_) (fun σ H4 h4 => ?_)⟩
    · obtain ⟨_, _, _, _, _, R4, _⟩ := h4
      exact SqL.of R4.hl
    · obtain ⟨y3, y4, rfl, f4, dm4, R4, hD4⟩ := h4
      obtain ⟨rfl, hi⟩ := hv
      have i1 : i < rows.length := by
        rw [← R.lx]
        exact (List.getElem?_eq_some_iff.mp hi).1
      have i2 : i < ls.length := by rw [R.ll]; exact i1
      have gi : (bmp i rows)[i]? = some rows[i] := by
        rw [bmp_get, List.getElem?_eq_getElem i1]
        simp
      obtain ⟨p, g, ys, rfl, sq, dd, hb, py⟩ := R4.at_ i v ls[i] rows[i] hi (List.getElem?_eq_getElem i2) gi
      have lp := paired_len py
      have rb := (rok _ (List.getElem_mem i1)).2.1
      refine ⟨p, _, rfl, sq, rfl, _, _, rfl, _, _, rfl, rfl, _, rfl, .inl ⟨rfl, _, SqL.of hb⟩, sl, fun tq ntq => ?_⟩
      have s5 := same_upd (o := HO.tup [V.str (Str.ofString "me"), V.int 1]) ntq
      have R5 := R4.same s5
      have hb5 := s5 _ _ hb
      have ob : o ls[i] = none := own _ (List.mem_cons_of_mem _ (List.getElem_mem i2))
      have kb : Ks K _ (upd (upd H5 tq (.tup [V.str (Str.ofString "me"), V.int 1])) ls[i] (.lst (ys ++ [.ref tq]))) := Ks.updL hb5
      have py5 := paired_imp (fun _ _ z => IsPay.mono (K := K) (Ks.same s5) z) py
      refine ⟨ls[i], ys, _, rfl, rfl, hb5, slt (by omega), _, _, rfl, fun u => (f4 u).trans ((Fx.same s5).trans (Fx.tmp ob kb)), (dm4.same s5).upd, R5.grow (i := i) (d := rows[i].1) (ps := rows[i].2) (y := (Str.ofString "me", 1)) (List.getElem?_eq_getElem i2) gi hb5 py5 ⟨tq, rfl, SqT.of upd_same⟩ (by rw [bmp_len, bmp_len]) ?_ (fun j hj => ?_), ?_⟩
      · rw [bmp_get, List.getElem?_eq_getElem i1]
        simp
      · rw [bmp_get, bmp_get]
        have : (j < i + 1) = (j < i) := by
          refine propext ⟨fun z => ?_, fun z => ?_⟩ <;> omega
        simp only [this]
      · rw [upd_ne (fun e => nDl nD (by rw [e]; exact List.mem_cons_of_mem _ (List.getElem_mem i2)))]
        exact s5 _ _ hD4
    obtain ⟨y3, y4, rfl, f4, dm4, R4, hD4⟩ := h4
    rw [R.lx] at R4
    have eqs : (bmp rows.length rows).map (fun r => (r.2.length : Int)) = (rows.map fun r => (r.2.length : Int)).map fun z => z + 1 := by
      refine List.ext_getElem? fun j => ?_
      rw [List.getElem?_map, bmp_get, List.getElem?_map, List.getElem?_map]
      cases ej : rows[j]? with
      | none => rfl
      | some r =>
        have j1 := (List.getElem?_eq_some_iff.mp ej).1
        simp [j1]
    refine ⟨_, rfl, l, rfl, ⟨_, SqL.of R4.hl⟩, fun D2 nD2 => lc_list (xs := xs) (fun i H6 => Same H4 H6 ∧ H6 D2 = some (.lst ((((bmp rows.length rows).take i).map fun r => (r.2.length : Int)).map V.int))) ⟨same_upd nD2, upd_same⟩ (fun i H6 _ h6 => SqL.of (h6.1 _ _ R4.hl)) (fun i v H6 hi h6 => ?_) (fun H6 h6 => ?_)⟩
    · obtain ⟨s6, hD2⟩ := h6
      have R6 := R4.same s6
      have i1 : i < (bmp rows.length rows).length := by
        rw [← R4.lx]
        exact (List.getElem?_eq_some_iff.mp hi).1
      have i2 : i < ls.length := by rw [R4.ll]; exact i1
      obtain ⟨p, g, ys, rfl, sq, dd, hb, py⟩ := R6.at_ i v ls[i] (bmp rows.length rows)[i] hi (List.getElem?_eq_getElem i2) (List.getElem?_eq_getElem i1)
      have i3 := i1
      rw [bmp_len] at i3
      refine ⟨p, _, rfl, sq, rfl, _, _, rfl, _, _, rfl, rfl, rfl, _, rfl, ls[i], ys, rfl, .inl (SqL.of hb), _, hD2, slt (by rw [List.length_map, List.length_map, List.length_take]; omega), fun b' y e => ?_, ?_⟩
      · rw [upd_ne (ne_of_none e nD2)]
        exact s6 _ _ e
      · rw [upd_same, take_succ_of (List.getElem?_eq_getElem i1), List.map_append, List.map_append, paired_len py]
        rfl
    obtain ⟨s6, hD2⟩ := h6
    rw [R4.lx, List.take_length] at hD2
    have hD6 := s6 _ _ hD4
    refine ⟨_, rfl, D, rfl, ⟨_, SqL.of hD6⟩, fun D3 nD3 => lc_list (xs := (rows.map fun r => (r.2.length : Int)).map V.int) (fun i H7 => Same H6 H7 ∧ H7 D3 = some (.lst ((((rows.map fun r => (r.2.length : Int)).take i).map fun z => z + 1).map V.int))) ⟨same_upd nD3, upd_same⟩ (fun i H7 _ h7 => SqL.of (h7.1 _ _ hD6)) (fun i v H7 hi h7 => ?_) (fun H7 h7 => ?_)⟩
    · obtain ⟨s7, hD3⟩ := h7
      rw [List.getElem?_map] at hi
      obtain ⟨z, hz, rfl⟩ := Option.map_eq_some_iff.mp hi
      have i1 := (List.getElem?_eq_some_iff.mp hz).1
      rw [List.length_map] at i1
      refine ⟨rfl, _, rfl, z, 1, rfl, rfl, _, hD3, slt (by rw [List.length_map, List.length_map, List.length_take, List.length_map]; omega), fun b' y e => ?_, ?_⟩
      · rw [upd_ne (ne_of_none e nD3)]
        exact s7 _ _ e
      · rw [upd_same, take_succ_of hz, List.map_append, List.map_append]
        rfl
    obtain ⟨s7, hD3⟩ := h7
    rw [List.length_map, List.take_length] at hD3
    have hD27 := s7 _ _ hD2
    have s47 := s6.trans s7
    have R7 := R4.same s47
    have f7 : ∀ u, Fx K u o H o H7 := fun u => (f4 u).trans (Fx.same s47)
    have W7 := Wl.fx (f7 0) (dm4.same s47)
    refine ⟨_, _, ints_dp1 _ hD27, ints_dp1 _ hD3, ints_shaped1 _, ints_shaped1 _, ?_⟩
    rw [eqs, ints_eq]
    have fine : ∀ r ∈ bmp rows.length rows, RowFine r := fun r hr => by
      obtain ⟨j, hj⟩ := List.mem_iff_getElem?.mp hr
      rw [bmp_get] at hj
      obtain ⟨r0, h0, rfl⟩ := Option.map_eq_some_iff.mp hj
      have k := rok r0 (List.mem_of_getElem? h0)
      rw [if_pos (List.getElem?_eq_some_iff.mp h0).1]
      refine ⟨k.1, by rw [List.length_append, List.length_singleton]; omega, fun p hp => ?_⟩
      rcases List.mem_append.mp hp with hp | hp
      · exact k.2.2 p hp
      · rw [List.mem_singleton.mp hp]
        exact me_ok
    refine ⟨_, rfl, Nat.zero_le _, fun ze nze => ?_⟩
    have s8 := same_upd (o := HO.lst []) nze
    have R8 := R7.same s8
    have W8 := W7.same s8
    have f8 : ∀ u, Fx K u o H o _ := fun u => (f7 u).trans (Fx.same s8)
    refine ⟨_, _, R8.dp, .lst (SqL.of upd_same) .nil, rows_shaped fine, rows_shaped (l := []) (fun _ z => (List.not_mem_nil z).elim), _, rfl, ?_⟩
    rw [rows_nil]
    have ol : o l = none := own _ List.mem_cons_self
    cases eb : (bmp rows.length rows).isEmpty with
    | true =>
      refine iteF ⟨_, rfl, ?_⟩
      exact h _ (fun u _ => f8 u) (W8.mono (by omega) (by unfold cMax at hc; omega))
    | false =>
      have n1 : 1 ≤ rows.length := by
        rw [← bmp_len rows.length rows]
        cases hh : bmp rows.length rows with
        | nil => rw [hh] at eb; cases eb
        | cons => exact Nat.succ_pos _
      have lx := R.lx
      refine iteT ?_
      refine ⟨_, rfl, .inl ⟨rfl, _, SqL.of R8.hl⟩, _, rfl, _, rfl, l, _, rfl, .inl (SqL.of R8.hl), o, W, _, _, rfl, by omega, W8, hc, fun r H9 r0 r1 ef9 W9 => ?_⟩
      have hl9 := (ef9.mine R8.hl ol).1
      have rl9 : r.toNat < xs.length := by omega
      refine ⟨l, _, r, r.toNat, xs[r.toNat], rfl, rfl, hl9, by omega, by omega, seq_ix r0 r1, List.getElem?_eq_getElem rl9, ?_⟩
      have kl : Ks K H9 (upd H9 l (.lst (xs.eraseIdx r.toNat))) := Ks.updL hl9
      refine ⟨_, rfl, ?_⟩
      exact h _ (fun u hu => (f8 u).trans ((ef9.fx hu).trans (Fx.tmp ol kl))) (W9.tmp ol kl)
end
end Cn
namespace Cn
open PySem PySem.Spec PyProof.Rows L2
/-! ### law_all: all that a court tells but its rows -/
def noL : PyData → Bool
  | .list _ => false
  | .dict _ => false
  | .tuple xs => noLs xs
  | .none => true
  | .bool _ => true
  | .int _ => true
  | .str _ => true
where noLs : List PyData → Bool
  | [] => true
  | x :: xs => noL x && noLs xs
mutual
theorem Dp.ks {K : PySem.W.Frag} {H H' : Hp} (k : Ks K H H') : ∀ (d : PyData) {v : V}, noL d = true → Dp K H v d → Dp K H' v d
  | .none, _, _, .non => .non
  | .bool _, _, _, .bl _ => .bl _
  | .int _, _, _, .int _ => .int _
  | .str _, _, _, .str _ => .str _
  | .tuple ds, _, n, .tup h r => .tup (k _ _ h) (DpAll.ks k ds (by unfold noL at n; exact n) r)
theorem DpAll.ks {K : PySem.W.Frag} {H H' : Hp} (k : Ks K H H') : ∀ (ds : List PyData) {vs : List V}, noL.noLs ds = true → DpAll K H vs ds → DpAll K H' vs ds
  | [], _, _, .nil => .nil
  | d :: ds, _, n, .cons h r => by
    unfold noL.noLs at n
    rw [Bool.and_eq_true] at n
    exact .cons (Dp.ks k d n.1 h) (DpAll.ks k ds n.2 r)
end
theorem noLs_map {A : Type} {f : A → PyData} : ∀ {l : List A}, (∀ a ∈ l, noL (f a) = true) → noL.noLs (l.map f) = true
  | [], _ => rfl
  | a :: l, h => by
    rw [List.map_cons]
    unfold noL.noLs
    rw [h a List.mem_cons_self, noLs_map fun x hx => h x (List.mem_cons_of_mem _ hx)]
    rfl
theorem noL_lk (k : LK) : noL k.data = true := rfl
theorem noL_st (s : ST) : noL s.data = true := by
  simp only [ST.data, noL, noL.noLs, Bool.true_and, Bool.and_true]
  exact noLs_map fun k _ => noL_lk k
theorem noL_end (e : Option Int) : noL (endD e) = true := by
  cases e <;> rfl
theorem noL_ln (g : Ln) : noL g.data = true := by
  simp only [Ln.data, noL, noL.noLs, noL_st, noL_end, Bool.and_true]
theorem noL_pair (x y : Option Int) : noL (.tuple [endD x, endD y]) = true := by
  simp only [noL, noL.noLs, noL_end, Bool.and_true]
theorem endV_dpD {K : PySem.W.Frag} {H : Hp} (e : Option Int) : Dp K H (endV e) (endD e) := by
  cases e with
  | none => exact .non
  | some i => exact .int i
theorem dpAll_add {K : PySem.W.Frag} {H : Hp} : ∀ {vs : List V} {ds : List PyData} {v : V} {d : PyData}, DpAll K H vs ds → Dp K H v d → DpAll K H (vs ++ [v]) (ds ++ [d])
  | _, _, _, _, .nil, h => .cons h .nil
  | _, _, _, _, .cons a r, h => .cons a (dpAll_add r h)
theorem up_here0 {H : Hp} {p : Addr} {x : HO} (_ : H p = none) : upd H p x p = some x := upd_same
theorem Same.updF {H Hc : Hp} (s : Same H Hc) {f : Addr} {x : HO} (n : H f = none) : Same H (upd Hc f x) := fun b y e => by
  rw [upd_ne (ne_of_none e n)]
  exact s _ _ e
section
variable {P : Program} {w : World} {K : PySem.W.Frag} {mg : Str → Option Value} {base : Heap}
noncomputable def allD (c : Ct) (keys : List Int) : PyData := .list [.int c.clock, .int c.long, .int c.lanes.length, .int c.coins, .list ((sortHands (c.bags.map (·.1))).map PyData.str), .list (c.kept.map encH), .list (c.lanes.map Ln.data), .list ((sortHands (c.bags.map (·.1))).map fun h => .int ((look c.bags h).getD 0)),
  .list (keys.map fun k => .tuple [endD ((seenAt c.seen k).map (·.1)), endD ((seenAt c.seen k).map (·.2))])]
def spAll (K : PySem.W.Frag) : Sp := fun vs H Q _ => ∃ (t : Nat) (o : Own) (a sgA ka : Addr) (c : Ct) (n : Nat) (keys : List Int), vs = [.ref a, .ref ka] ∧ CtAt K t o H a sgA c ∧ c.ok n ∧ H ka = some (.lst (keys.map V.int)) ∧ keys.length ≤ 10 ∧ (∀ k ∈ keys, 0 ≤ k) ∧
  ∀ H' p, Same H H' → Dp K H' (.ref p) (allD c keys) → Q (.ref p) H'
abbrev n_law_all : List Str := ["_law_court", "_law_keys", "_law_found", "_law_k", "_law_hand", "_law_one"]
theorem sc_law_all : FnScope n_law_all ["_law_court", "_law_keys"] (defScope s_law_all) := ⟨rfl, rfl, rfl, by decide +kernel, rfl, by decide +kernel, by decide +kernel⟩
theorem ok_law_all (T : Tx K mg) : DefOk P w K mg base CX0 8 (He.fAd K d_law_all.at_) ["_law_court", "_law_keys"] (spAll K) := by
  refine mk0 (d := d_law_all) T.f_law_all rfl (fun _ _ _ _ _ _ us hl => match us, hl with | [_, _], _ => rfl) sc_law_all (fun vs H Q E h => ?_) (fun cdv A outer s H vs Q E hr h => ?_)
  · obtain ⟨_, _, _, _, _, _, _, _, rfl, _⟩ := h
    rfl
  · obtain ⟨t, o, a, sgA, ka, c, n, keys, rfl, ct, ok, hk, kl, kp, h⟩ := h
    refine ⟨_, (pss_cons (ps_set (i := 2) sc_law_all.nd rfl (.inl rfl) (pe_lst (pa_cons (mD0 (ok_Court_now T) (T.c_Court) (T.m_Court_now) hr (pv 0)) (pa_cons (mD0 (ok_Court_patience T) (T.c_Court) (T.m_Court_patience) hr (pv 0)) (pa_cons (mD0 (ok_Court_lanes T) (T.c_Court) (T.m_Court_lanes) hr (pv 0)) (pa_cons (mD0 (ok_Court_coins T) (T.c_Court) (T.m_Court_coins) hr (pv 0)) (pa_cons (mD0 (ok_Court_hands T) (T.c_Court) (T.m_Court_hands) hr (pv 0)) (pa_cons (mD0 (ok_Court_held T) (T.c_Court) (T.m_Court_held) hr (pv 0)) pa_nil))))))))
      (pss_cons (ps_expr (pe_bm PySem.F.plainAttrs_list PySem.F.slot_list_append PySem.F.type_list_append mt_append (pv 2) (pa_cons (pe_lc (own := [("_law_k", 3)]) (tt := tYes) rfl sc_law_all.nd (pi_range1 rfl T.b_range (pa_cons (mD0 (ok_Court_lanes T) (T.c_Court) (T.m_Court_lanes) hr (pv 0)) pa_nil)) (blkOk_by (own := [("_law_k", 3)]) (N := n_law_all) (sc := defScope s_law_all) (by decide +kernel)) (fun _ _ _ _ _ => (pg_name (i := 3) sc_law_all.nd rfl (.inl rfl))) (fun _ _ _ _ _ => pts_nil) (fun _ _ _ _ _ => (mD (ok_Court_stand (P := P) (w := w) (base := base) T) (T.c_Court) (T.m_Court_stand) hr (pv 0) (pa_cons (pv 3) pa_nil)))) pa_nil)))
      (pss_cons (ps_expr (pe_bm PySem.F.plainAttrs_list PySem.F.slot_list_append PySem.F.type_list_append mt_append (pv 2) (pa_cons (pe_lc (own := [("_law_hand", 4)]) (tt := tYes) rfl sc_law_all.nd (pi_list (mD0 (ok_Court_hands T) (T.c_Court) (T.m_Court_hands) hr (pv 0))) (blkOk_by (own := [("_law_hand", 4)]) (N := n_law_all) (sc := defScope s_law_all) (by decide +kernel)) (fun _ _ _ _ _ => (pg_name (i := 4) sc_law_all.nd rfl (.inl rfl))) (fun _ _ _ _ _ => pts_nil) (fun _ _ _ _ _ => (mD (ok_Court_purse (P := P) (w := w) (base := base) T) (T.c_Court) (T.m_Court_purse) hr (pv 0) (pa_cons (pv 4) pa_nil)))) pa_nil)))
      (pss_one (ps_ret (pe_op op_cat (pv 2) (pe_lst (pa_cons (pe_lc (own := [("_law_one", 5)]) (tt := tYes) rfl sc_law_all.nd (pi_list (pv 1)) (blkOk_by (own := [("_law_one", 5)]) (N := n_law_all) (sc := defScope s_law_all) (by decide +kernel)) (fun _ _ _ _ _ => (pg_name (i := 5) sc_law_all.nd rfl (.inl rfl))) (fun _ _ _ _ _ => pts_nil) (fun _ _ _ _ _ => (pe_tup (pa_cons (mD (ok_Court_shown (P := P) (w := w) (base := base) T) (T.c_Court) (T.m_Court_shown) hr (pv 0) (pa_cons (pv 5) pa_nil)) (pa_cons (mD (ok_Court_secret (P := P) (w := w) (base := base) T) (T.c_Court) (T.m_Court_secret) hr (pv 0) (pa_cons (pv 5) pa_nil)) pa_nil))))) pa_nil)))))))), ?_⟩
    obtain ⟨dx, bD, lL, sD, kL, dL, B⟩ := ct
    have ctAt : ∀ {H' : Hp}, Same H H' → CtAt K t o H' a sgA c := fun s => ⟨dx, bD, lL, sD, kL, dL, B.same s⟩
    refine ⟨_, rfl, a, dx, _, rfl, B.ob.2, rfl, t, o, a, sgA, c, n, [], rfl, ctAt (Same.refl _), ok, rfl, fun H1 v1 s1 e1 => ?_⟩
    subst e1
    refine ⟨_, rfl, a, dx, _, rfl, (B.same s1).ob.2, rfl, t, o, a, sgA, c, n, [], rfl, ctAt s1, ok, rfl, fun H2 v2 s2 e2 => ?_⟩
    subst e2
    have s02 := s1.trans s2
    refine ⟨_, rfl, a, dx, _, rfl, (B.same s02).ob.2, rfl, t, o, a, sgA, c, n, [], rfl, ctAt s02, ok, rfl, fun H3 v3 s3 e3 => ?_⟩
    subst e3
    have s03 := s02.trans s3
    refine ⟨_, rfl, a, dx, _, rfl, (B.same s03).ob.2, rfl, t, o, a, sgA, c, n, rfl, ctAt s03, ok, fun H4 s4 => ?_⟩
    have s04 := s03.trans s4
    refine ⟨_, rfl, a, dx, _, rfl, (B.same s04).ob.2, rfl, t, o, a, sgA, c, n, rfl, ctAt s04, ok, fun H5 ph s5 nph pm hph => ?_⟩
    have s05 := s04.trans s5
    refine ⟨_, rfl, a, dx, _, rfl, (B.same s05).ob.2, rfl, t, o, a, sgA, c, rfl, ctAt s05, fun H6 pk s6 dpk => ?_⟩
    have s06 := s05.trans s6
    have hph6 := s6 _ _ hph
    refine ⟨sl, fun f nf => ?_⟩
    have nfH : H f = none := s06.free nf
    have s07 := s06.trans (same_upd (o := HO.lst [V.int c.clock, V.int c.long, V.int c.lanes.length, V.int c.coins, V.ref ph, V.ref pk]) nf)
    have hf7 := up_here0 (x := HO.lst [V.int c.clock, V.int c.long, V.int c.lanes.length, V.int c.coins, V.ref ph, V.ref pk]) nf
    have s67 := same_upd (o := HO.lst [V.int c.clock, V.int c.long, V.int c.lanes.length, V.int c.coins, V.ref ph, V.ref pk]) nf
    generalize hH7 : upd H6 f (HO.lst [V.int c.clock, V.int c.long, V.int c.lanes.length, V.int c.coins, V.ref ph, V.ref pk]) = H7 at s07 hf7 s67 ⊢
    refine ⟨_, rfl, .inl ⟨rfl, _, SqL.of hf7⟩, ?_⟩
    refine ⟨_, rfl, a, dx, _, rfl, (B.same s07).ob.2, rfl, t, o, a, sgA, c, n, [], rfl, ctAt s07, ok, rfl, fun H8 v8 s8 e8 => ?_⟩
    subst e8
    have s08 := s07.trans s8
    have n300 := ok.small
    have ll := ok.lanesN
    have lbg := ok.bags
    refine ⟨_, rfl, by omega, by omega, fun D nD => lc_range (lo := 0) (n := c.lanes.length) (fun i H9 => Same H8 H9 ∧ ∃ vs, H9 D = some (.lst vs) ∧ vs.length = i ∧ DpAll K H9 vs ((c.lanes.take i).map Ln.data)) ⟨same_upd nD, [], upd_same, rfl, .nil⟩ (fun i H9 hi h9 => ?_) (fun H9 h9 => ?_)⟩
    · obtain ⟨s9, vs, hD, lv, dv⟩ := h9
      have s09 := s08.trans s9
      refine ⟨rfl, _, rfl, a, dx, _, rfl, (B.same s09).ob.2, rfl, _, rfl, t, o, a, sgA, c, n, _, c.lanes[i], rfl, ctAt s09, ok, by omega, by rw [show (0 + (i : Int)).toNat = i by omega]; exact List.getElem?_eq_getElem hi, fun H10 q s10 dq => ⟨vs, s10 _ _ hD, slt (by omega), fun b' y e => ?_, vs ++ [.ref q], upd_same, by rw [List.length_append, lv]; rfl, ?_⟩⟩
      · rw [upd_ne (ne_of_none e nD)]
        exact s10 _ _ (s9 _ _ e)
      · have kk : Ks K H10 (upd H10 D (.lst (vs ++ [.ref q]))) := Ks.updL (s10 _ _ hD)
        rw [take_succ_of (List.getElem?_eq_getElem hi), List.map_append]
        exact dpAll_add (DpAll.ks ((Ks.same s10).trans kk) _ (noLs_map fun g _ => noL_ln g) dv) (Dp.ks kk _ (noL_ln _) dq)
    obtain ⟨s9, vs, hD, lv, dv⟩ := h9
    rw [List.take_length] at dv
    have hf9 := s9 _ _ (s8 _ _ hf7)
    have nDf : D ≠ f := fun e => by
      have := s8 _ _ hf7
      rw [← e, nD] at this
      cases this
    refine ⟨f, _, _, rfl, rfl, hf9, sl, ?_⟩
    have s0a : Same H (upd H9 f (.lst ([V.int c.clock, V.int c.long, V.int c.lanes.length, V.int c.coins, V.ref ph, V.ref pk] ++ [V.ref D]))) := Same.updF (s08.trans s9) nfH
    have s6a : Same H6 (upd H9 f (.lst ([V.int c.clock, V.int c.long, V.int c.lanes.length, V.int c.coins, V.ref ph, V.ref pk] ++ [V.ref D]))) := Same.updF (s67.trans (s8.trans s9)) nf
    have hfa : upd H9 f (.lst ([V.int c.clock, V.int c.long, V.int c.lanes.length, V.int c.coins, V.ref ph, V.ref pk] ++ [V.ref D])) f = some (.lst ([V.int c.clock, V.int c.long, V.int c.lanes.length, V.int c.coins, V.ref ph, V.ref pk] ++ [V.ref D])) := upd_same
    have hDa : upd H9 f (.lst ([V.int c.clock, V.int c.long, V.int c.lanes.length, V.int c.coins, V.ref ph, V.ref pk] ++ [V.ref D])) D = some (.lst vs) := by
      rw [upd_ne nDf]
      exact hD
    have ka9 : Ks K H9 (upd H9 f (.lst ([V.int c.clock, V.int c.long, V.int c.lanes.length, V.int c.coins, V.ref ph, V.ref pk] ++ [V.ref D]))) := Ks.updL hf9
    have dva := DpAll.ks ka9 _ (noLs_map fun g _ => noL_ln g) dv
    generalize upd H9 f (.lst ([V.int c.clock, V.int c.long, V.int c.lanes.length, V.int c.coins, V.ref ph, V.ref pk] ++ [V.ref D])) = Ha at s0a s6a hfa hDa dva ⊢
    refine ⟨_, rfl, .inl ⟨rfl, _, SqL.of hfa⟩, _, rfl, a, dx, _, rfl, (B.same s0a).ob.2, rfl, t, o, a, sgA, c, n, rfl, ctAt s0a, ok, fun Hb ph2 sb nph2 pm2 hph2 => ?_⟩
    have s0b := s0a.trans sb
    have lh := pm2.length_eq
    rw [List.length_map] at lh
    refine ⟨ph2, rfl, ⟨_, SqL.of hph2⟩, fun D2 nD2 => lc_list (xs := (sortHands (c.bags.map (·.1))).map V.str) (fun i H9 => Same Hb H9 ∧ H9 D2 = some (.lst ((((sortHands (c.bags.map (·.1))).take i).map fun h => (look c.bags h).getD 0).map V.int))) ⟨same_upd nD2, upd_same⟩ (fun i H9 _ h9 => SqL.of (h9.1 _ _ hph2)) (fun i v H9 hi h9 => ?_) (fun H9 h9 => ?_)⟩
    · obtain ⟨s9, hD2⟩ := h9
      rw [List.getElem?_map] at hi
      obtain ⟨z, hz, rfl⟩ := Option.map_eq_some_iff.mp hi
      obtain ⟨vl, el⟩ := look_of_mem (pm2.mem_iff.mp (List.mem_of_getElem? hz))
      have s09 := s0b.trans s9
      refine ⟨rfl, _, rfl, a, dx, _, rfl, (B.same s09).ob.2, rfl, _, rfl, t, o, a, sgA, c, n, z, vl, rfl, ctAt s09, ok, el, fun H10 s10 => ⟨_, s10 _ _ hD2, slt (by rw [List.length_map, List.length_map, List.length_take]; omega), fun b' y e => ?_, ?_⟩⟩
      · rw [upd_ne (ne_of_none e nD2)]
        exact s10 _ _ (s9 _ _ e)
      · rw [upd_same, take_succ_of hz, List.map_append, List.map_append]
        show some (HO.lst _) = some (HO.lst (_ ++ [V.int ((look c.bags z).getD 0)]))
        rw [el]
        rfl
    obtain ⟨s9, hD2⟩ := h9
    rw [List.length_map, List.take_length] at hD2
    have sa9 := sb.trans s9
    have hf2 := sa9 _ _ hfa
    have nD2f : D2 ≠ f := fun e => by
      have := sb _ _ hfa
      rw [← e, nD2] at this
      cases this
    refine ⟨f, _, _, rfl, rfl, hf2, sl, ?_⟩
    have s0c : Same H (upd H9 f (.lst ([V.int c.clock, V.int c.long, V.int c.lanes.length, V.int c.coins, V.ref ph, V.ref pk] ++ [V.ref D] ++ [V.ref D2]))) := Same.updF (s0b.trans s9) nfH
    have s6c : Same H6 (upd H9 f (.lst ([V.int c.clock, V.int c.long, V.int c.lanes.length, V.int c.coins, V.ref ph, V.ref pk] ++ [V.ref D] ++ [V.ref D2]))) := Same.updF (s6a.trans sa9) nf
    have hfc : upd H9 f (.lst ([V.int c.clock, V.int c.long, V.int c.lanes.length, V.int c.coins, V.ref ph, V.ref pk] ++ [V.ref D] ++ [V.ref D2])) f = some (.lst ([V.int c.clock, V.int c.long, V.int c.lanes.length, V.int c.coins, V.ref ph, V.ref pk] ++ [V.ref D] ++ [V.ref D2])) := upd_same
    have hDc : upd H9 f (.lst ([V.int c.clock, V.int c.long, V.int c.lanes.length, V.int c.coins, V.ref ph, V.ref pk] ++ [V.ref D] ++ [V.ref D2])) D = some (.lst vs) := by
      rw [upd_ne nDf]
      exact sa9 _ _ hDa
    have hD2c : upd H9 f (.lst ([V.int c.clock, V.int c.long, V.int c.lanes.length, V.int c.coins, V.ref ph, V.ref pk] ++ [V.ref D] ++ [V.ref D2])) D2 = some (.lst (((sortHands (c.bags.map (·.1))).map fun h => (look c.bags h).getD 0).map V.int)) := by
      rw [upd_ne nD2f]
      exact hD2
    have kc : Ks K Ha (upd H9 f (.lst ([V.int c.clock, V.int c.long, V.int c.lanes.length, V.int c.coins, V.ref ph, V.ref pk] ++ [V.ref D] ++ [V.ref D2]))) := (Ks.same sa9).trans (Ks.updL hf2)
    have dvc := DpAll.ks kc _ (noLs_map fun g _ => noL_ln g) dva
    generalize upd H9 f (.lst ([V.int c.clock, V.int c.long, V.int c.lanes.length, V.int c.coins, V.ref ph, V.ref pk] ++ [V.ref D] ++ [V.ref D2])) = Hc at s0c s6c hfc hDc hD2c dvc ⊢
    have hkc := s0c _ _ hk
    refine ⟨_, rfl, _, rfl, ka, rfl, ⟨_, SqL.of hkc⟩, fun D3 nD3 => lc_list (xs := keys.map V.int) (fun i H11 => Same Hc H11 ∧ ∃ us, H11 D3 = some (.lst us) ∧ us.length = i ∧ DpAll K H11 us ((keys.take i).map fun k => .tuple [endD ((seenAt c.seen k).map (·.1)), endD ((seenAt c.seen k).map (·.2))])) ⟨same_upd nD3, [], upd_same, rfl, .nil⟩ (fun i H11 _ h11 => SqL.of (h11.1 _ _ hkc)) (fun i v H11 hi h11 => ?_) (fun H11 h11 => ?_)⟩
    · obtain ⟨s11, us, hD3, lu, du⟩ := h11
      rw [List.getElem?_map] at hi
      obtain ⟨k, hk2, rfl⟩ := Option.map_eq_some_iff.mp hi
      have k0 := kp k (List.mem_of_getElem? hk2)
      have i10 : i < keys.length := (List.getElem?_eq_some_iff.mp hk2).1
      have s011 := s0c.trans s11
      refine ⟨rfl, _, rfl, a, dx, _, rfl, (B.same s011).ob.2, rfl, _, rfl, t, o, a, sgA, c, k, rfl, ctAt s011, k0, fun H12 s12 => ?_⟩
      have s012 := s011.trans s12
      refine ⟨_, rfl, a, dx, _, rfl, (B.same s012).ob.2, rfl, _, rfl, t, o, a, sgA, c, k, rfl, ctAt s012, k0, fun H13 s13 => ⟨sl, fun q nq => ?_⟩⟩
      have s14 := same_upd (o := HO.tup [endV ((seenAt c.seen k).map (·.1)), endV ((seenAt c.seen k).map (·.2))]) nq
      have s1114 := (s12.trans s13).trans s14
      refine ⟨us, s1114 _ _ hD3, slt (by omega), fun b' y e => ?_, us ++ [.ref q], upd_same, by rw [List.length_append, lu]; rfl, ?_⟩
      · rw [upd_ne (ne_of_none e nD3)]
        exact s1114 _ _ (s11 _ _ e)
      · have kk := Ks.updL (K := K) (u := .lst (us ++ [.ref q])) (s1114 _ _ hD3)
        rw [take_succ_of hk2, List.map_append]
        exact dpAll_add (DpAll.ks ((Ks.same s1114).trans kk) _ (noLs_map fun g _ => noL_pair _ _) du) (.tup (kk _ _ (SqT.of upd_same)) (.cons (endV_dpD _) (.cons (endV_dpD _) .nil)))
    obtain ⟨s11, us, hD3, lu, du⟩ := h11
    rw [List.length_map, List.take_length] at du
    refine ⟨sl, fun ln nln => ?_⟩
    have s12 := same_upd (o := HO.lst [V.ref D3]) nln
    have hf12 := s12 _ _ (s11 _ _ hfc)
    refine ⟨f, ln, _, _, rfl, rfl, hf12, upd_same, sl, fun z nz => ?_⟩
    have s13 := same_upd (o := HO.lst ([V.int c.clock, V.int c.long, V.int c.lanes.length, V.int c.coins, V.ref ph, V.ref pk] ++ [V.ref D] ++ [V.ref D2] ++ [V.ref D3])) nz
    have sc13 := s11.trans (s12.trans s13)
    have s613 := s6c.trans sc13
    refine h _ z (s0c.trans sc13) (.lst (SqL.of upd_same) ?_)
    have dStrs : ∀ (zs : List Str) (H' : Hp), DpAll K H' (zs.map V.str) (zs.map PyData.str) := fun zs H' => by
      induction zs with
      | nil => exact .nil
      | cons y r ih => exact .cons (.str y) ih
    have dInts : ∀ (zs : List Int) (H' : Hp), DpAll K H' (zs.map V.int) (zs.map PyData.int) := fun zs H' => by
      induction zs with
      | nil => exact .nil
      | cons y r ih => exact .cons (.int y) ih
    have i2 := dInts ((sortHands (c.bags.map (·.1))).map fun h => (look c.bags h).getD 0) (upd (upd H11 ln (HO.lst [V.ref D3])) z (HO.lst ([V.int c.clock, V.int c.long, V.int c.lanes.length, V.int c.coins, V.ref ph, V.ref pk] ++ [V.ref D] ++ [V.ref D2] ++ [V.ref D3])))
    rw [List.map_map (g := PyData.int)] at i2
    exact .cons (.int _) (.cons (.int _) (.cons (.int _) (.cons (.int _) (.cons (.lst (SqL.of (s613 _ _ hph6)) (dStrs _ _)) (.cons (Dp.mono s613 _ dpk) (.cons (.lst (SqL.of (sc13 _ _ hDc)) (DpAll.mono sc13 _ dvc)) (.cons (.lst (SqL.of (sc13 _ _ hD2c)) i2) (.cons (.lst (SqL.of (s13 _ _ (s12 _ _ hD3))) (DpAll.mono (s12.trans s13) _ du)) .nil))))))))
end
end Cn
namespace Cn
open PySem PySem.Spec PyProof.Rows L2
/-! ### what the law's main walk holds on to -/
def Al (K : PySem.W.Frag) (o : Own) (H : Hp) (o' : Own) (H' : Hp) : Prop := ∀ u, Fx K u o H o' H'
section
variable {K : PySem.W.Frag} {o o' o1 : Own} {H H' H1 : Hp}
theorem Al.same (s : Same H H') : Al K o H o H' := fun _ => Fx.same s
theorem Al.trans (a : Al K o H o1 H1) (b : Al K o1 H1 o' H') : Al K o H o' H' := fun u => (a u).trans (b u)
theorem Al.takeL {l : List (Addr × (Nat × Nat))} (h : ∀ p ∈ l.map (·.1), o p = none) : Al K o H (takeL o l) H := fun _ => takeL_fx h
theorem Al.take1 {p : Addr} {t : Nat × Nat} (h : o p = none) : Al K o H (take1 o p t) H := fun _ => ⟨fun _ => Pk.take h, Ks.refl⟩
theorem Al.sq (a : Al K o H o' H') : Ks K H H' := (a 0).2
end
/-- the well is new -/
theorem well_new {K : PySem.W.Frag} {o : Own} {H : Hp} {W G S : Addr} {gs ss : List Int} {st : Int} (d : Dom o H) (fr : ∀ p ∈ [W, G, S], o p = none) (n1 : W ≠ G) (n2 : W ≠ S) (n3 : G ≠ S) (h0 : H W = some (.lst [.ref G, .ref S, .int st, .int 0])) (h1 : H G = some (.lst (gs.map V.int))) (h2 : H S = some (.lst (ss.map V.int)))
    (g1 : ∀ g ∈ gs, 0 ≤ g ∧ g < 10 ^ 120) (g2 : gs.length ≤ 63) (s1 : ∀ x ∈ ss, 0 ≤ x ∧ x < 2147483563) (s2 : ss.length ≤ 63) (t1 : 0 ≤ st) (t2 : st < 2147483563) : ∃ o', Al K o H o' H ∧ (∀ p, p ∉ [W, G, S] → o' p = o p) ∧ Well K o' H W 0 := by
  have nd : [W, G, S].Nodup := by simp [n1, n2, n3]
  have at' : ∀ {p t}, (p, t) ∈ [(W, ((0 : Nat), (0 : Nat))), (G, (0, 0)), (S, (0, 0))] → takeL o [(W, (0, 0)), (G, (0, 0)), (S, (0, 0))] p = some t := fun h => takeL_at (l := [(W, (0, 0)), (G, (0, 0)), (S, (0, 0))]) nd h
  refine ⟨takeL o [(W, (0, 0)), (G, (0, 0)), (S, (0, 0))], Al.takeL fr, fun p hp => takeL_ne hp, takeL_dom d fun p hp => ?_, G, S, gs, ss, st, 0, at' (by simp), at' (by simp), at' (by simp), n3, h0, h1, h2, g1, g2, s1, s2, t1, t2, Nat.le_refl _, by omega⟩
  simp only [List.map_cons, List.map_nil, List.mem_cons, List.not_mem_nil, or_false] at hp
  rcases hp with rfl | rfl | rfl
  · exact ⟨_, h0⟩
  · exact ⟨_, h1⟩
  · exact ⟨_, h2⟩
/-- the signs are new -/
theorem signs_new {P : Program} {w : World} {K : PySem.W.Frag} {o : Own} {H : Hp} {x b : Addr} {dx : Addr} (d : Dom o H) (fr : ∀ p ∈ [x, b], o p = none) (n1 : x ≠ b) (h0 : H x = some (.ins (He.ga K "Signs") dx [("by_hand", .ref b)])) (h1 : H b = some (.dK [])) :
    ∃ o', Dom o' H ∧ Al K o H o' H ∧ (∀ p, p ∉ [x, b] → o' p = o p) ∧ SgAt P w K o' H x (fun _ _ => false) 0 := by
  have nd : [x, b].Nodup := by simp [n1]
  have at' : ∀ {p t}, (p, t) ∈ [(x, ((1 : Nat), (0 : Nat))), (b, (1, 0))] → takeL o [(x, (1, 0)), (b, (1, 0))] p = some t := fun h => takeL_at (l := [(x, (1, 0)), (b, (1, 0))]) nd h
  refine ⟨takeL o [(x, (1, 0)), (b, (1, 0))], takeL_dom d fun p hp => ?_, Al.takeL fr, fun p hp => takeL_ne hp, ⟨dx, b, [], at' (by simp), at' (by simp), h0, h1, Nat.le_refl _, fun _ _ e => (by cases e), fun _ _ _ => rfl, fun _ _ _ e => (by cases e)⟩⟩
  simp only [List.map_cons, List.map_nil, List.mem_cons, List.not_mem_nil, or_false] at hp
  rcases hp with rfl | rfl
  · exact ⟨_, h0⟩
  · exact ⟨_, h1⟩
/-- a court is new -/
theorem ct_new {K : PySem.W.Frag} {o : Own} {H : Hp} {long : Int} {b : List Pay} {sgA a dx bD lL sD kL dL : Addr} (t : Nat) (d : Dom o H) (nd : [a, bD, lL, sD, kL, dL].Nodup) (fr : ∀ p ∈ [a, bD, lL, sD, kL, dL], o p = none)
    (h0 : H a = some (.ins (He.ga K "Court") dx (ctF sgA bD lL sD kL dL long 0))) (h1 : H bD = some (.dK (bagKV b))) (h2 : H lL = some (.lst [])) (h3 : H sD = some (.dK [])) (h4 : H kL = some (.lst [])) (h5 : H dL = some (.lst [])) :
    ∃ o', Dom o' H ∧ Al K o H o' H ∧ (∀ p, p ∉ [a, bD, lL, sD, kL, dL] → o' p = o p) ∧ CtAt K t o' H a sgA (Ct.new long b) := by
  have at' : ∀ {p u}, (p, u) ∈ [(a, (t, (0 : Nat))), (bD, (t, 1)), (lL, (t, 2)), (sD, (t, 4)), (kL, (t, 5)), (dL, (t, 6))] → takeL o [(a, (t, 0)), (bD, (t, 1)), (lL, (t, 2)), (sD, (t, 4)), (kL, (t, 5)), (dL, (t, 6))] p = some u := fun h => takeL_at (l := [(a, (t, 0)), (bD, (t, 1)), (lL, (t, 2)), (sD, (t, 4)), (kL, (t, 5)), (dL, (t, 6))]) nd h
  refine ⟨takeL o [(a, (t, 0)), (bD, (t, 1)), (lL, (t, 2)), (sD, (t, 4)), (kL, (t, 5)), (dL, (t, 6))], takeL_dom d fun p hp => ?_, Al.takeL fr, fun p hp => takeL_ne hp, dx, bD, lL, sD, kL, dL, ?_⟩
  · simp only [List.map_cons, List.map_nil, List.mem_cons, List.not_mem_nil, or_false] at hp
    rcases hp with rfl | rfl | rfl | rfl | rfl | rfl
    · exact ⟨_, h0⟩
    · exact ⟨_, h1⟩
    · exact ⟨_, h2⟩
    · exact ⟨_, h3⟩
    · exact ⟨_, h4⟩
    · exact ⟨_, h5⟩
  · exact ⟨⟨at' (by simp), h0⟩, ⟨at' (by simp), h1⟩, ⟨at' (by simp), [], h2, .nil, .nil⟩, ⟨at' (by simp), [], h3, .nil⟩, ⟨at' (by simp), [], h4, .nil⟩, ⟨at' (by simp), [], h5, .nil⟩⟩
/-- what the making of an object leaves as it is -/
theorem made_same {H : Hp} {x dx : Addr} {u v : HO} (hx : H x = none) (hd : H dx = none) : Same H (upd (upd H dx u) x v) := fun p y e => by
  rw [upd_ne (ne_of_none e hx), upd_ne (ne_of_none e hd)]
  exact e
theorem free_made {H : Hp} {x dx p : Addr} {u v : HO} (h : upd (upd H dx u) x v p = none) : H p = none ∧ p ≠ x := by
  have n1 : p ≠ x := fun e => by
    rw [e, upd_same] at h
    cases h
  rw [upd_ne n1] at h
  have n2 : p ≠ dx := fun e => by
    rw [e, upd_same] at h
    cases h
  rw [upd_ne n2] at h
  exact ⟨h, n1⟩
/-! ### the list of what was done, and the pairs that were shown -/
def RIn (K : PySem.W.Frag) (o : Own) (H : Hp) (v : V) (rows : List (Deed × List Pay)) : Prop := ∃ l, v = .ref l ∧ o l = some (4, 6) ∧ ∃ xs, H l = some (.lst xs) ∧ Paired (IsRow K (4, 7) o H) xs rows
def DueAt (K : PySem.W.Frag) (o : Own) (H : Hp) (due : Addr) (rows : List (Deed × List Pay)) : Prop := o due = some (4, 5) ∧ ∃ xs, H due = some (.lst xs) ∧ Paired (IsRow K (4, 7) o H) xs rows
def IsShown (K : PySem.W.Frag) (o : Own) (H : Hp) (v : V) (rows : List (Deed × List Pay)) : Prop := ∃ p x y, v = .ref p ∧ SqT K H p [x, y] ∧ RIn K o H x rows ∧ RIn K o H y rows
def ShownAt (K : PySem.W.Frag) (o : Own) (H : Hp) (sh : Addr) (rs : List (List (Deed × List Pay))) : Prop := o sh = some (4, 0) ∧ ∃ xs, H sh = some (.lst xs) ∧ Paired (IsShown K o H) xs rs
section
variable {K : PySem.W.Frag} {o o' : Own} {H H' : Hp}
theorem RIn.fx {v : V} {rows : List (Deed × List Pay)} (h : RIn K o H v rows) (f6 : Pk (4, 6) o H o' H') (f7 : Pk (4, 7) o H o' H') (m : Ks K H H') : RIn K o' H' v rows := by
  obtain ⟨l, e, ol, xs, hl, p⟩ := h
  have z := f6 _ _ ol hl
  exact ⟨l, e, z.1, xs, z.2, paired_imp (fun _ _ y => IsRow.fx f7 m y) p⟩
theorem IsShown.fx {v : V} {rows : List (Deed × List Pay)} (h : IsShown K o H v rows) (f6 : Pk (4, 6) o H o' H') (f7 : Pk (4, 7) o H o' H') (m : Ks K H H') : IsShown K o' H' v rows := by
  obtain ⟨p, x, y, e, s, hx, hy⟩ := h
  exact ⟨p, x, y, e, m _ _ s, hx.fx f6 f7 m, hy.fx f6 f7 m⟩
theorem DueAt.fx {due : Addr} {rows : List (Deed × List Pay)} (h : DueAt K o H due rows) (f5 : Pk (4, 5) o H o' H') (f7 : Pk (4, 7) o H o' H') (m : Ks K H H') : DueAt K o' H' due rows := by
  obtain ⟨ol, xs, hl, p⟩ := h
  have z := f5 _ _ ol hl
  exact ⟨z.1, xs, z.2, paired_imp (fun _ _ y => IsRow.fx f7 m y) p⟩
theorem ShownAt.fx {sh : Addr} {rs : List (List (Deed × List Pay))} (h : ShownAt K o H sh rs) (f0 : Pk (4, 0) o H o' H') (f6 : Pk (4, 6) o H o' H') (f7 : Pk (4, 7) o H o' H') (m : Ks K H H') : ShownAt K o' H' sh rs := by
  obtain ⟨ol, xs, hl, p⟩ := h
  have z := f0 _ _ ol hl
  exact ⟨z.1, xs, z.2, paired_imp (fun _ _ y => IsShown.fx y f6 f7 m) p⟩
/-- both, as they stand -/
structure Sh4 (K : PySem.W.Frag) (o : Own) (H : Hp) (due sh : Addr) (ds : List (Deed × List Pay)) (rs : List (List (Deed × List Pay))) : Prop where
  due : DueAt K o H due ds
  shown : ShownAt K o H sh rs
theorem Sh4.fx {due sh : Addr} {ds : List (Deed × List Pay)} {rs : List (List (Deed × List Pay))} (h : Sh4 K o H due sh ds rs) (f : Fx K 4 o H o' H') : Sh4 K o' H' due sh ds rs :=
  ⟨h.due.fx f.pk f.pk f.2, h.shown.fx f.pk f.pk f.pk f.2⟩
theorem pk_else {u v : Nat × Nat} {p : Addr} {x : HO} (h : o p = some v) (n : v ≠ u) : Pk u o H o (upd H p x) := Pk.at h n
theorem Fx.at4 {i u : Nat} {p : Addr} {x : HO} (h : o p = some (4, i)) (k : Ks K H (upd H p x)) (n : u ≠ 4) : Fx K u o H o (upd H p x) :=
  ⟨fun _ => Pk.at h (fun e => n (congrArg Prod.fst e).symm), k⟩
theorem Sh4.add {due sh : Addr} {ds : List (Deed × List Pay)} {rs : List (List (Deed × List Pay))} (h : Sh4 K o H due sh ds rs) {xs : List V} {v : V} {d : Deed × List Pay} (hx : H due = some (.lst xs)) (hv : IsRow K (4, 7) o H v d) :
    Sh4 K o (upd H due (.lst (xs ++ [v]))) due sh (ds ++ [d]) rs ∧ ∀ u, u ≠ 4 → Fx K u o H o (upd H due (.lst (xs ++ [v]))) := by
  obtain ⟨⟨od, xs', hx', p⟩, S⟩ := h
  obtain rfl : xs = xs' := by
    rw [hx] at hx'
    exact HO.lst.inj (Option.some.inj hx')
  have k : Ks K H (upd H due (.lst (xs ++ [v]))) := Ks.updL hx
  have f : ∀ i, 5 ≠ i → Pk (4, i) o H o (upd H due (.lst (xs ++ [v]))) := fun i n => Pk.at od (n12 n)
  exact ⟨⟨⟨od, xs ++ [v], upd_same, paired_app (paired_imp (fun _ _ y => IsRow.fx (f 7 (by decide)) k y) p) (IsRow.fx (f 7 (by decide)) k hv)⟩, S.fx (f 0 (by decide)) (f 6 (by decide)) (f 7 (by decide)) k⟩, fun u n => Fx.at4 od k n⟩
theorem Sh4.show1 {due sh : Addr} {ds : List (Deed × List Pay)} {rs : List (List (Deed × List Pay))} (h : Sh4 K o H due sh ds rs) {xs : List V} {v : V} {d : List (Deed × List Pay)} (hx : H sh = some (.lst xs)) (hv : IsShown K o H v d) :
    Sh4 K o (upd H sh (.lst (xs ++ [v]))) due sh ds (rs ++ [d]) ∧ ∀ u, u ≠ 4 → Fx K u o H o (upd H sh (.lst (xs ++ [v]))) := by
  obtain ⟨D, od, xs', hx', p⟩ := h
  obtain rfl : xs = xs' := by
    rw [hx] at hx'
    exact HO.lst.inj (Option.some.inj hx')
  have k : Ks K H (upd H sh (.lst (xs ++ [v]))) := Ks.updL hx
  have f : ∀ i, 0 ≠ i → Pk (4, i) o H o (upd H sh (.lst (xs ++ [v]))) := fun i n => Pk.at od (n12 n)
  exact ⟨⟨D.fx (f 5 (by decide)) (f 7 (by decide)) k, od, xs ++ [v], upd_same, paired_app (paired_imp (fun _ _ y => IsShown.fx y (f 6 (by decide)) (f 7 (by decide)) k) p) (IsShown.fx hv (f 6 (by decide)) (f 7 (by decide)) k)⟩, fun u n => Fx.at4 od k n⟩
theorem paired_map_r {A B C : Type} {R : A → B → Prop} {R' : A → C → Prop} {f : B → C} (h : ∀ a b, R a b → R' a (f b)) : ∀ {xs : List A} {ys : List B}, Paired R xs ys → Paired R' xs (ys.map f)
  | _, _, .nil => .nil
  | _, _, .cons a r => .cons (h _ _ a) (paired_map_r h r)
/-- told rows become one's own -/
theorem rows_own {l : Addr} {ls : List Addr} {rows : List (Deed × List Pay)} (R : RowsAt K H l ls rows) (d : Dom o H) (fr : ∀ b ∈ l :: ls, o b = none) : ∃ o', Dom o' H ∧ Al K o H o' H ∧ (∀ p, p ∉ l :: ls → o' p = o p) ∧ RIn K o' H (.ref l) rows := by
  have em : ((l, ((4 : Nat), (6 : Nat))) :: ls.map fun b => (b, ((4 : Nat), (7 : Nat)))).map (·.1) = l :: ls := by
    rw [List.map_cons, List.map_map]
    show l :: ls.map (fun b => b) = _
    rw [List.map_id']
  have nd : (((l, ((4 : Nat), (6 : Nat))) :: ls.map fun b => (b, ((4 : Nat), (7 : Nat)))).map (·.1)).Nodup := by
    rw [em]
    exact R.nd
  obtain ⟨xs, hl, p⟩ := R.is
  refine ⟨takeL o ((l, (4, 6)) :: ls.map fun b => (b, (4, 7))), takeL_dom d fun q hq => ?_, Al.takeL (by rw [em]; exact fr), fun q hq => takeL_ne (by rw [em]; exact hq), l, rfl, takeL_at nd List.mem_cons_self, xs, hl, ?_⟩
  · rw [em] at hq
    rcases List.mem_cons.mp hq with rfl | hq
    · exact ⟨_, hl⟩
    · exact R.stands hq
  · have q := paired_mem p
    have e2 : (ls.zip rows).map (·.2) = rows := List.map_snd_zip (Nat.le_of_eq R.len.symm)
    rw [← e2]
    refine paired_map_r ?_ q
    intro v y z
    obtain ⟨⟨p', g, ys, e, s, dd, hb, py⟩, mem⟩ := z
    have m1 : y.1 ∈ ls := (List.of_mem_zip mem).1
    exact ⟨p', g, y.1, e, s, dd, takeL_at nd (List.mem_cons_of_mem _ (List.mem_map.mpr ⟨_, m1, rfl⟩)), ys, hb, py⟩
end
end Cn
namespace Cn
open PySem PySem.Spec PyProof.Rows L2
/-! ### the data that the law compares; a deed's row -/
section
variable {n : Nat}
theorem sm_flat {d : PyData} (h : Flat1 d) : ∀ {n : Nat}, SmOk n d
  | 0 => h
  | _ + 1 => .inl h
theorem sm_int {i : Int} : SmOk n (.int i) := sm_flat (.inr (.inl ⟨i, rfl⟩))
theorem sm_str {z : Str} : SmOk n (.str z) := sm_flat (.inr (.inr ⟨z, rfl⟩))
theorem sm_non : SmOk n .none := sm_flat (.inl rfl)
theorem sm_list {l : List PyData} (h : ∀ x ∈ l, SmOk n x) (k : l.length ≤ 4000000) : SmOk (n + 1) (.list l) := .inr ⟨l, .inl rfl, k, h⟩
theorem sm_tup {l : List PyData} (h : ∀ x ∈ l, SmOk n x) (k : l.length ≤ 4000000) : SmOk (n + 1) (.tuple l) := .inr ⟨l, .inr rfl, k, h⟩
theorem fz {P : PyData → Prop} : ∀ x ∈ ([] : List PyData), P x := fun _ h => (List.not_mem_nil h).elim
theorem fa {P : PyData → Prop} {a : PyData} {l : List PyData} (h : P a) (k : ∀ x ∈ l, P x) : ∀ x ∈ a :: l, P x := List.forall_mem_cons.mpr ⟨h, k⟩
theorem fm {A : Type} {P : PyData → Prop} {f : A → PyData} {l : List A} (h : ∀ a ∈ l, P (f a)) : ∀ x ∈ l.map f, P x := fun x hx => by
  obtain ⟨a, ha, rfl⟩ := List.mem_map.mp hx
  exact h a ha
theorem sm_lk (k : LK) : SmOk (n + 1) k.data := sm_tup (fa sm_int (fa sm_str (fa sm_int (fa sm_int (fa sm_int fz))))) (by simp)
theorem sm_st {s : ST} (h : s.ok) : SmOk (n + 3) s.data := sm_tup (fa sm_int (fa sm_int (fa sm_int (fa sm_int (fa (sm_tup (fm fun k _ => sm_lk k) (by rw [List.length_map]; have := h.len; omega)) fz))))) (by simp)
theorem sm_deed {d : Deed} (h : d.ok) : SmOk (n + 4) d.data := by
  cases d with
  | op l r a b => exact sm_tup (fa sm_str (fa sm_str (fa sm_str (fa sm_int (fa sm_int fz))))) (by simp)
  | tell s => exact sm_tup (fa sm_str (fa (sm_st h) fz)) (by simp)
  | shw x => exact sm_tup (fa sm_str (fa sm_int fz)) (by simp)
  | turn => exact sm_tup (fa sm_str fz) (by simp)
theorem sm_pay (p : Pay) : SmOk (n + 1) (payD p) := sm_tup (fa sm_str (fa sm_int fz)) (by simp)
theorem sm_row {r : Deed × List Pay} (h : r.1.ok) (k : r.2.length ≤ 4000000) : SmOk (n + 5) (rowD r) := sm_tup (fa (sm_deed h) (fa (sm_list (n := n + 3) (fm fun p _ => sm_pay p) (by rw [List.length_map]; exact k)) fz)) (by simp)
theorem sm_rows {l : List (Deed × List Pay)} (h : ∀ r ∈ l, r.1.ok ∧ r.2.length ≤ 4000000) (k : l.length ≤ 4000000) : SmOk (n + 6) (.list (l.map rowD)) := sm_list (fm fun r hr => sm_row (h r hr).1 (h r hr).2) (by rw [List.length_map]; exact k)
theorem sm_end (e : Option Int) : SmOk n (endD e) := by
  cases e with
  | none => exact sm_non
  | some i => exact sm_int
theorem sm_ln {g : Ln} (h : g.standing.ok) : SmOk (n + 4) g.data := sm_tup (fa sm_str (fa sm_str (fa sm_str (fa sm_int (fa (sm_st h) (fa (sm_end _) fz)))))) (by simp)
theorem sm_hl (b : HL) : SmOk (n + 2) (encH b) := sm_tup (fa sm_int (fa (sm_lk _) fz)) (by simp)
theorem sortHands_len (l : List Str) : (sortHands l).length ≤ l.length := by
  unfold sortHands
  split
  · rename_i e
    exact Nat.le_of_eq (Classical.choose_spec e).1.length_eq
  · exact Nat.zero_le _
theorem sm_all {c : Ct} {m : Nat} (ok : c.ok m) {keys : List Int} (hk : keys.length ≤ 10) : SmOk (n + 6) (allD c keys) := by
  have h1 := ok.small
  have h2 := ok.bags
  have h3 := ok.lanesN
  have h4 := ok.keptN
  refine sm_list (fa sm_int (fa sm_int (fa sm_int (fa sm_int (fa (sm_list (n := n + 4) (fm fun z _ => sm_str) ?_) (fa (sm_list (n := n + 4) (fm fun b _ => sm_hl b) ?_) (fa (sm_list (n := n + 4) (fm fun g hg => sm_ln (ok.lane g hg).2.1) ?_) (fa (sm_list (n := n + 4) (fm fun z _ => sm_int) ?_) (fa (sm_list (n := n + 4) (fm fun k _ => sm_tup (fa (sm_end _) (fa (sm_end _) fz)) (by simp)) ?_) fz))))))))) (by simp)
  · have z := sortHands_len (c.bags.map (·.1))
    rw [List.length_map] at z
    rw [List.length_map]
    omega
  · rw [List.length_map]
    omega
  · rw [List.length_map]
    omega
  · have z := sortHands_len (c.bags.map (·.1))
    rw [List.length_map] at z
    rw [List.length_map]
    omega
  · rw [List.length_map]
    omega
end
def Deed.pays (c : Ct) : Deed → List Pay
  | .turn => c.paidNow
  | _ => []
theorem step_row {sg : Sg} {c c' : Ct} {d : Deed} (e : c.step sg d = .ok c') : c'.deeds = c.deeds ++ [(d, d.pays c)] := by
  cases d with
  | op l r a b =>
    simp only [Ct.step, Ct.open1] at e
    repeat' (split at e)
    all_goals first | (cases e; done) | skip
    all_goals (cases e; rfl)
  | tell x =>
    simp only [Ct.step, Ct.tell1] at e
    repeat' (split at e)
    all_goals first | (cases e; done) | skip
    all_goals (cases e; rfl)
  | shw x =>
    cases e
    rfl
  | turn =>
    cases e
    rfl
theorem pays_names {c : Ct} {n : Nat} (ok : c.ok n) (d : Deed) : ∀ p ∈ d.pays c, NameOk p.1 := fun p hp => by
  cases d with
  | turn =>
    have m : p ∈ c.sw.paid ++ c.dc.paid := (List.mem_filter.mp hp).1
    exact ok.names _ (paidNow_hand ok p m)
  | op => exact (List.not_mem_nil hp).elim
  | tell => exact (List.not_mem_nil hp).elim
  | shw => exact (List.not_mem_nil hp).elim
/-- the rows of a court are fine -/
def RowsFine (c : Ct) : Prop := ∀ r ∈ c.deeds, ∀ p ∈ r.2, NameOk p.1
theorem rowsFine_step {sg : Sg} {c c' : Ct} {d : Deed} {n : Nat} (ok : c.ok n) (h : RowsFine c) (e : c.step sg d = .ok c') : RowsFine c' := fun r hr => by
  rw [step_row e] at hr
  rcases List.mem_append.mp hr with hr | hr
  · exact h r hr
  · rw [List.mem_singleton.mp hr]
    exact pays_names ok d
theorem rowFine_of {c : Ct} {n : Nat} (ok : c.ok n) (h : RowsFine c) : ∀ r ∈ c.deeds, RowFine r := fun r hr => ⟨(ok.deeds r hr).1, Nat.le_trans (ok.deeds r hr).2 (by omega), h r hr⟩
end Cn
namespace Cn
open PySem PySem.Spec PyProof.Rows L2
/-! ### lemmas for the law's walk -/
theorem seq_tail2 {A B C : TS} {D : Ends} {σ : L2.St} {H : Hp} (N : L2.St → Hp → Prop) (h2 : ∀ σ' H', N σ' H' → C D σ' H') (h1 : (∀ σ' H', N σ' H' → C D σ' H') → tSeq A (tSeq B C) D σ H) : tSeq A (tSeq B C) D σ H := h1 h2
theorem Ct.ok.mono {c : Ct} {n m : Nat} (h : c.ok n) (k : n ≤ m) (s : m ≤ 300) : c.ok m :=
  ⟨s, h.names, h.bags, Nat.le_trans h.lanesN k, Nat.le_trans h.seenN k, by have := h.keptN; omega, Nat.le_trans h.deedsN k, h.lane, h.kept, h.deeds⟩
theorem runs_step {sg : Sg} {c0 c : Ct} {ds : List Deed} (h : runs sg c0 ds = .ok c) {j : Nat} {d : Deed} {cj : Ct} (hj : ds[j]? = some d) (e : runs sg c0 (ds.take j) = .ok cj) : ∃ c', cj.step sg d = .ok c' ∧ runs sg c0 (ds.take (j + 1)) = .ok c' := by
  obtain ⟨c', e'⟩ := runs_take h (j + 1)
  have z := e'
  rw [take_succ_of hj, runs_app, e] at z
  exact ⟨c', z, e'⟩
/-- the word of a deed -/
theorem deed_word {K : PySem.W.Frag} {H : Hp} {v : V} {d : Deed} (h : IsDeed K H v d) : ∃ p w xs, v = .ref p ∧ SqT K H p (.str w :: xs) ∧ (w = Str.ofString "turn" ↔ d = .turn) := by
  cases d with
  | op l r a b =>
    obtain ⟨p, rfl, hp⟩ := h
    exact ⟨p, Str.ofString "open", _, rfl, hp, fun z => absurd z (by decide +kernel), fun z => nomatch z⟩
  | tell s =>
    obtain ⟨p, g, rfl, hp, _⟩ := h
    exact ⟨p, Str.ofString "tell", _, rfl, hp, fun z => absurd z (by decide +kernel), fun z => nomatch z⟩
  | shw x =>
    obtain ⟨p, rfl, hp⟩ := h
    exact ⟨p, Str.ofString "show", _, rfl, hp, fun z => absurd z (by decide +kernel), fun z => nomatch z⟩
  | turn =>
    obtain ⟨p, rfl, hp⟩ := h
    exact ⟨p, Str.ofString "turn", _, rfl, hp, fun _ => rfl, fun _ => rfl⟩
theorem pays_else {c : Ct} {d : Deed} (h : d ≠ .turn) : d.pays c = [] := by
  cases d with
  | turn => exact absurd rfl h
  | op => rfl
  | tell => rfl
  | shw => rfl
section
variable {K : PySem.W.Frag} {o o' : Own} {H H' : Hp}
theorem IsRow.dp {u : Nat × Nat} {v : V} {r : Deed × List Pay} (h : IsRow K u o H v r) : Dp K H v (rowD r) := by
  obtain ⟨p, g, l, rfl, s, d, _, xs, hl, py⟩ := h
  exact .tup s (.cons (IsDeed.dp d) (.cons (.lst (SqL.of hl) (dpAll_of (fun _ _ y => IsPay.dp y) py)) .nil))
theorem DueAt.dp {due : Addr} {rows : List (Deed × List Pay)} (h : DueAt K o H due rows) : Dp K H (.ref due) (.list (rows.map rowD)) := by
  obtain ⟨_, xs, hl, p⟩ := h
  exact .lst (SqL.of hl) (dpAll_of (fun _ _ y => IsRow.dp y) p)
theorem RIn.dp {v : V} {rows : List (Deed × List Pay)} (h : RIn K o H v rows) : Dp K H v (.list (rows.map rowD)) := by
  obtain ⟨l, rfl, _, xs, hl, p⟩ := h
  exact .lst (SqL.of hl) (dpAll_of (fun _ _ y => IsRow.dp y) p)
theorem RowsAt.same {l : Addr} {ls : List Addr} {rows : List (Deed × List Pay)} (R : RowsAt K H l ls rows) (s : Same H H') : RowsAt K H' l ls rows := by
  obtain ⟨xs, hl, p⟩ := R.is
  refine ⟨R.nd, ⟨xs, s _ _ hl, paired_imp (fun v q z => ?_) p⟩, R.len⟩
  obtain ⟨p', g, ys, e, sq, d, hb, py⟩ := z
  exact ⟨p', g, ys, e, Ks.same s _ _ sq, IsDeed.mono (Ks.same s) d, s _ _ hb, paired_imp (fun _ _ y => IsPay.mono (Ks.same s) y) py⟩
theorem RowsAt.dp {l : Addr} {ls : List Addr} {rows : List (Deed × List Pay)} (R : RowsAt K H l ls rows) : Dp K H (.ref l) (.list (rows.map rowD)) := by
  obtain ⟨xs, r⟩ := R.ix
  exact r.dp
/-- what stays as it is all along -/
structure Fixd (K : PySem.W.Frag) (o : Own) (H : Hp) (fl q se ka : Addr) (zs : List Str) (bg : List Pay) (ss : List Int) : Prop where
  folk : FolkAt o H fl zs
  secs : SecAt o H se ss
  keys : o ka = some (6, 2) ∧ H ka = some (.lst ((ss.map fun x => 3 * x + 17).map V.int))
  purse : ∃ xs, SqT K H q xs ∧ Paired (IsPay K H) xs bg
  bok : BagsOk bg
theorem Fixd.fx {fl q se ka : Addr} {zs : List Str} {bg : List Pay} {ss : List Int} (h : Fixd K o H fl q se ka zs bg ss) (f : Fx K 6 o H o' H') : Fixd K o' H' fl q se ka zs bg ss := by
  obtain ⟨xs, hq, hp⟩ := h.purse
  exact ⟨h.folk.fx f, h.secs.fx f, f.1 2 _ _ h.keys.1 h.keys.2, ⟨xs, f.2 _ _ hq, paired_imp (fun _ _ y => IsPay.mono f.2 y) hp⟩, h.bok⟩
/-- a court that was just made -/
theorem court_made {t : Nat} {long : Int} {b : List Pay} {sgA x dx bD lL sD kL dL : Addr} {u : HO} (d : Dom o H) (nx : H x = none) (ndx : H dx = none)
    (nd : [bD, lL, sD, kL, dL].Nodup) (fr : ∀ p ∈ [bD, lL, sD, kL, dL], upd (upd H dx u) x (.ins (He.ga K "Court") dx []) p = none) (keep : ∀ p y, upd (upd H dx u) x (.ins (He.ga K "Court") dx []) p = some y → p ≠ x → H' p = some y)
    (h0 : H' x = some (.ins (He.ga K "Court") dx (ctF sgA bD lL sD kL dL long 0))) (h1 : H' bD = some (.dK (bagKV b))) (h2 : H' lL = some (.lst [])) (h3 : H' sD = some (.dK [])) (h4 : H' kL = some (.lst [])) (h5 : H' dL = some (.lst [])) :
    Same H H' ∧ ∃ o', Dom o' H' ∧ Al K o H o' H' ∧ CtAt K t o' H' x sgA (Ct.new long b) := by
  have s : Same H H' := fun p y e => keep p y (made_same nx ndx p y e) (ne_of_none e nx)
  have nd2 : [x, bD, lL, sD, kL, dL].Nodup := List.nodup_cons.mpr ⟨fun hm => (free_made (fr x hm)).2 rfl, nd⟩
  have fo : ∀ p ∈ [x, bD, lL, sD, kL, dL], o p = none := fun p hp => by
    rcases List.mem_cons.mp hp with rfl | hp
    · exact d.free nx
    · exact d.free (free_made (fr p hp)).1
  obtain ⟨o', d', a, _, c⟩ := ct_new (K := K) (sgA := sgA) t (d.same s) nd2 fo h0 h1 h2 h3 h4 h5
  exact ⟨s, o', d', (Al.same s).trans a, c⟩
end
/-- what the law's walk holds after k deeds -/
structure LawAt (P : Program) (w : World) (K : PySem.W.Frag) (o : Own) (H : Hp) (W fl q sgA a1 bk se ka due sh : Addr) (long : Int) (zs : List Str) (bg : List Pay) (ss : List Int) (c m n k : Nat) (c1 : Ct) (sg : Sg) (b : Bk) (rs : List (List (Deed × List Pay))) : Prop where
  wd : Wd P w K o H W sgA bk c sg m b n
  ct : CtAt K 2 o H a1 sgA c1
  ok : c1.ok k
  run : runs sg (Ct.new long bg) (c1.deeds.map (·.1)) = .ok c1
  rf : RowsFine c1
  fixed : Fixd K o H fl q se ka zs bg ss
  sh4 : Sh4 K o H due sh c1.deeds rs
  rsok : ∀ l ∈ rs, ∀ r ∈ l, RowFine r
  rslen : rs.length ≤ k
section
variable {P : Program} {w : World} {K : PySem.W.Frag} {o o' : Own} {H H' : Hp} {W fl q sgA a1 bk se ka due sh : Addr} {long : Int} {zs : List Str} {bg : List Pay} {ss : List Int} {c c' m n k : Nat} {c1 : Ct} {sg : Sg} {b : Bk} {rs rs' : List (List (Deed × List Pay))}
theorem LawAt.by_ (L : LawAt P w K o H W fl q sgA a1 bk se ka due sh long zs bg ss c m n k c1 sg b rs) (wl : Well K o' H' W c') (f1 : Fx K 1 o H o' H') (f2 : Fx K 2 o H o' H') (f3 : Fx K 3 o H o' H') (f6 : Fx K 6 o H o' H') (S : Sh4 K o' H' due sh c1.deeds rs') (h1 : ∀ l ∈ rs', ∀ r ∈ l, RowFine r) (h2 : rs'.length ≤ k) :
    LawAt P w K o' H' W fl q sgA a1 bk se ka due sh long zs bg ss c' m n k c1 sg b rs' :=
  ⟨⟨wl, L.wd.sgs.fx f1, L.wd.bk.fx f3⟩, L.ct.fx f2, L.ok, L.run, L.rf, L.fixed.fx f6, S, h1, h2⟩
theorem LawAt.al (L : LawAt P w K o H W fl q sgA a1 bk se ka due sh long zs bg ss c m n k c1 sg b rs) (f : Al K o H o' H') (d : Dom o' H') : LawAt P w K o' H' W fl q sgA a1 bk se ka due sh long zs bg ss c m n k c1 sg b rs :=
  L.by_ (L.wd.well.fx (f 0) d) (f 1) (f 2) (f 3) (f 6) (L.sh4.fx (f 4)) L.rsok L.rslen
theorem LawAt.same (L : LawAt P w K o H W fl q sgA a1 bk se ka due sh long zs bg ss c m n k c1 sg b rs) (s : Same H H') : LawAt P w K o H' W fl q sgA a1 bk se ka due sh long zs bg ss c m n k c1 sg b rs :=
  L.al (Al.same s) (L.wd.dom.same s)
theorem LawAt.well (L : LawAt P w K o H W fl q sgA a1 bk se ka due sh long zs bg ss c m n k c1 sg b rs) (f : ∀ u, u ≠ 0 → Fx K u o H o H') (wl : Well K o H' W c') : LawAt P w K o H' W fl q sgA a1 bk se ka due sh long zs bg ss c' m n k c1 sg b rs :=
  L.by_ wl (f 1 (by decide)) (f 2 (by decide)) (f 3 (by decide)) (f 6 (by decide)) (L.sh4.fx (f 4 (by decide))) L.rsok L.rslen
theorem LawAt.four (L : LawAt P w K o H W fl q sgA a1 bk se ka due sh long zs bg ss c m n k c1 sg b rs) (f : ∀ u, u ≠ 4 → Fx K u o H o H') (d : Dom o H') (S : Sh4 K o H' due sh c1.deeds rs') (h1 : ∀ l ∈ rs', ∀ r ∈ l, RowFine r) (h2 : rs'.length ≤ k) : LawAt P w K o H' W fl q sgA a1 bk se ka due sh long zs bg ss c m n k c1 sg b rs' :=
  L.by_ (L.wd.well.fx (f 0 (by decide)) d) (f 1 (by decide)) (f 2 (by decide)) (f 3 (by decide)) (f 6 (by decide)) S h1 h2
theorem LawAt.mono {m' n' : Nat} (L : LawAt P w K o H W fl q sgA a1 bk se ka due sh long zs bg ss c m n k c1 sg b rs) (hc : c ≤ c') (hc' : c' ≤ cMax) (hm : m ≤ m') (hn : n ≤ n') (hn' : n' ≤ 300) : LawAt P w K o H W fl q sgA a1 bk se ka due sh long zs bg ss c' m' n' k c1 sg b rs :=
  ⟨L.wd.mono hc hc' hm hn hn', L.ct, L.ok, L.run, L.rf, L.fixed, L.sh4, L.rsok, L.rslen⟩
end
/-! ### the start -/
theorem sqL_at {K : PySem.W.Frag} {H H' : Hp} {a : Addr} {vs : List V} (e : H' a = H a) (h : SqL K H a vs) : SqL K H' a vs := by
  rcases h with (h | ⟨x, h⟩) | h
  · exact .inl (.inl (e.trans h))
  · exact .inl (.inr ⟨x, e.trans h⟩)
  · exact .inr h
def ScAt (K : PySem.W.Frag) (o : Own) (H : Hp) (sa : Addr) (vs : List V) : Prop := (∃ x, H sa = some x ∧ o sa = some (6, 4) ∧ SqL K H sa vs) ∨ ∀ H', SqL K H' sa vs
theorem ScAt.fx {K : PySem.W.Frag} {o o' : Own} {H H' : Hp} {sa : Addr} {vs : List V} (h : ScAt K o H sa vs) (f : Fx K 6 o H o' H') : ScAt K o' H' sa vs := by
  rcases h with ⟨x, hx, ho, hs⟩ | h
  · have z := f.1 4 _ _ ho hx
    exact .inl ⟨x, z.2, z.1, sqL_at (z.2.trans hx.symm) hs⟩
  · exact .inr h
theorem ScAt.sq {K : PySem.W.Frag} {o : Own} {H : Hp} {sa : Addr} {vs : List V} (h : ScAt K o H sa vs) : SqL K H sa vs := by
  rcases h with ⟨x, hx, ho, hs⟩ | h
  · exact hs
  · exact h H
theorem scAt_of {K : PySem.W.Frag} {H : Hp} {sa : Addr} {vs : List V} (h : SqL K H sa vs) : ∃ o : Own, Dom o H ∧ ScAt K o H sa vs := by
  have d : Dom (fun _ => none) H := fun _ _ e => nomatch e
  rcases h with hr | hk
  · have hx : ∃ x, H sa = some x := by
      rcases hr with z | ⟨u, z⟩
      · exact ⟨_, z⟩
      · exact ⟨_, z⟩
    obtain ⟨x, hx⟩ := hx
    exact ⟨take1 (fun _ => none) sa (6, 4), d.take hx, .inl ⟨x, hx, take1_same, .inl hr⟩⟩
  · exact ⟨fun _ => none, d, .inr fun _ => .inr hk⟩
def PuAt (K : PySem.W.Frag) (o : Own) (H : Hp) (q : Addr) (b : List Pay) : Prop := o q = some (6, 3) ∧ PursesAt K H q b
theorem PuAt.fx {K : PySem.W.Frag} {o o' : Own} {H H' : Hp} {q : Addr} {b : List Pay} (h : PuAt K o H q b) (f : Fx K 6 o H o' H') : PuAt K o' H' q b := by
  obtain ⟨oq, ob, vs, hq, h1, h2, p⟩ := h
  have z := f.1 3 _ _ oq hq
  exact ⟨z.1, ob, vs, z.2, h1, h2, paired_imp (fun _ _ y => IsPay.mono f.2 y) p⟩
theorem PuAt.sq {K : PySem.W.Frag} {o : Own} {H : Hp} {q : Addr} {b : List Pay} (h : PuAt K o H q b) : ∃ vs, SqT K H q vs ∧ Paired (IsPay K H) vs b := by
  obtain ⟨oq, ob, vs, hq, h1, h2, p⟩ := h
  exact ⟨vs, .inl (.inr ⟨ob, hq⟩), p⟩
theorem signs_made {P : Program} {w : World} {K : PySem.W.Frag} {o : Own} {H : Hp} {x dx b : Addr} {u : HO} (d : Dom o H) (nx : H x = none) (ndx : H dx = none) (nb : upd (upd H dx u) x (.ins (He.ga K "Signs") dx []) b = none) :
    Same H (upd (upd (upd (upd H dx u) x (.ins (He.ga K "Signs") dx [])) b (.dK [])) x (.ins (He.ga K "Signs") dx [("by_hand", .ref b)])) ∧ ∃ o', Dom o' (upd (upd (upd (upd H dx u) x (.ins (He.ga K "Signs") dx [])) b (.dK [])) x (.ins (He.ga K "Signs") dx [("by_hand", .ref b)])) ∧
      Al K o H o' (upd (upd (upd (upd H dx u) x (.ins (He.ga K "Signs") dx [])) b (.dK [])) x (.ins (He.ga K "Signs") dx [("by_hand", .ref b)])) ∧ SgAt P w K o' (upd (upd (upd (upd H dx u) x (.ins (He.ga K "Signs") dx [])) b (.dK [])) x (.ins (He.ga K "Signs") dx [("by_hand", .ref b)])) x (fun _ _ => false) 0 := by
  have nb2 := free_made nb
  have s : Same H (upd (upd (upd (upd H dx u) x (.ins (He.ga K "Signs") dx [])) b (.dK [])) x (.ins (He.ga K "Signs") dx [("by_hand", .ref b)])) := fun p y e => by
    rw [upd_ne (ne_of_none e nx), upd_ne (ne_of_none e nb2.1)]
    exact made_same nx ndx p y e
  obtain ⟨o', d', a, _, g⟩ := signs_new (P := P) (w := w) (K := K) (o := o) (x := x) (b := b) (dx := dx) (d.same s) (fun p hp => by
    simp only [List.mem_cons, List.not_mem_nil, or_false] at hp
    rcases hp with rfl | rfl
    · exact d.free nx
    · exact d.free nb2.1) nb2.2.symm upd_same (by
    rw [upd_ne nb2.2, upd_same])
  exact ⟨s, o', d', (Al.same s).trans a, g⟩
end Cn
namespace Cn
open PySem PySem.Spec PyProof.Rows L2
/-! ### the law -/
def spLaw (K : PySem.W.Frag) : Sp := fun vs H Q _ => ∃ (a : Addr) (ns : List Int), vs = [.ref a] ∧ SqL K H a (ns.map V.int) ∧ ns.length ≤ 63 ∧ ∀ H', Q (.bl true) H'
abbrev lawSt (sa W fl q sgA a1 bk se ka due sh : Addr) (long : Int) (y12 y13 y14 y15 : Option V) : L2.St := [some (.ref sa), some (.ref W), some (.ref fl), some (.ref q), some (.ref sgA), some (.int long), some (.ref a1), some (.ref bk), some (.ref se), some (.ref ka), some (.ref due), some (.ref sh), y12, y13, y14, y15, none, none, none, none]
theorem op_eqDK {X : Cx} {K : PySem.W.Frag} (h : X.K = K) (hu : X.A.units + 64 < cLine) : OpR X (compareOp .Eq) (rEqD K) := h ▸ op_eqD hu
section
variable {P : Program} {w : World} {K : PySem.W.Frag} {mg : Str → Option Value} {base : Heap}
abbrev n_law : List Str := ["_law_script", "_law_well_here", "_law_folk_here", "_law_bags_here", "_law_signs", "_law_long", "_law_court", "_law_book_here", "_law_secrets_here", "_law_keys", "_law_due", "_law_shown", "_law_k", "_law_deed_here", "_law_refused", "_law_told", "_law_second", "_law_paid", "_law_one", "_law_other"]
theorem sc_law : FnScope n_law ["_law_script"] (defScope s_law) := ⟨rfl, rfl, rfl, by decide +kernel, rfl, by decide +kernel, by decide +kernel⟩
theorem fn_law (T : Tx K mg) {fd : FuncData} (F : FnD K d_law fd) : FnOk P w K mg base CX0 10 (He.fAd K d_law.at_) fd ["_law_script"] (spLaw K) := by
  refine fn0 (d := d_law) F rfl sc_law (fun vs H Q E h => ?_) (fun cdv A outer s H vs Q E hr h => ?_)
  · obtain ⟨_, _, rfl, _⟩ := h
    rfl
  · obtain ⟨sa, ns, rfl, hsa, ln, h⟩ := h
    obtain ⟨fdI, FI⟩ := T.f_Court_init
    have okI := fn_Court_init (P := P) (w := w) (base := base) T FI
    obtain ⟨gI1, kbI1⟩ := kbX (n := 2) (ps := ["self", "signs", "wait", "purses"]) (ks := ["purses", "wait"]) true FI rfl (fun z => nomatch z) (fun _ _ _ _ _ _ us ws h1 h2 => match us, ws, h1, h2 with | [_, _], [_, _], _, _ => rfl)
    obtain ⟨gI2, kbI2⟩ := kbX (n := 2) (ps := ["self", "signs", "wait", "purses"]) (ks := ["wait", "purses"]) false FI rfl (fun z => nomatch z) (fun _ _ _ _ _ _ us ws h1 h2 => match us, ws, h1, h2 with | [_, _], [_, _], _, _ => rfl)
    obtain ⟨tC, bC, hC⟩ : ∃ tC, PSs (cxOf CX0 P w K mg base n_law d_law.qual d_law.scope (He.fAd K d_law.at_) cdv A outer s H E).nox ((defBody s_law).drop 12) tC ∧ ∀ (H7 : Hp) (o : Own) (W fl q sgA a1 bk se ka due sh : Addr) (long : Int) (zs : List Str) (bg : List Pay) (ss : List Int) (c m n k : Nat) (c1 : Ct) (sg : Sg) (b : Bk) (rs : List (List (Deed × List Pay))) (y12 y13 y14 y15 : Option V),
        LawAt P w K o H7 W fl q sgA a1 bk se ka due sh long zs bg ss c m n k c1 sg b rs → 1 ≤ long → long ≤ 100 → k ≤ 200 → tC { nx := fun _ H' => Q .non H', rt := Q } (lawSt sa W fl q sgA a1 bk se ka due sh long y12 y13 y14 y15) H7 := by
      refine ⟨_,
        (pss_cons (ps_if (PW.pt (pw_or (pt_not (pt_val (cD (ok_law_same T 6) T.g_law_same hr (pa_cons (mD0 (ok_Court_rows T) (T.c_Court) (T.m_Court_rows) hr (pv 6)) (pa_cons (pv 10) pa_nil))))) (pw_or1 (pt_not (pt_val (pe_callB (cr_all rfl) (by rfl) T.b_all (by decide +kernel) (pa_cons (pe_lc (own := [("_law_one", 18), ("_law_other", 19)]) (tt := tYes) (g := gTup K 2 (gCons (gName 18) (gCons (gName 19) gNil))) rfl sc_law.nd (pi_list (pv 11)) (blkOk_by (own := [("_law_one", 18), ("_law_other", 19)]) (N := n_law) (sc := defScope s_law) (by decide +kernel)) (fun _ _ _ _ _ => (pg_tup rfl (pgs_cons (pg_name (i := 18) sc_law.nd rfl (.inl rfl)) (pgs_cons (pg_name (i := 19) sc_law.nd rfl (.inl rfl)) pgs_nil)))) (fun _ _ _ _ _ => pts_nil) (fun _ _ _ _ _ => (pe_cmpR (op_eqDK (K := K) rfl hr.units) (pv 18) (pv 19) (nomark _)))) pa_nil))))))) (pss_one (ps_ret pe_bl)) pss_nil)
      (pss_cons (ps_set (i := 16) sc_law.nd rfl (.inl rfl) (pe_makeK (n := 1) T.k_Court okI (hr.mono (by decide)) (by rfl) T.g_Court kbI2 pass0 (pa_cons (pv 4) pa_nil) (pk_cons (pv 5) (pk_cons (pv 3) pk_nil))))
      (pss_cons (ps_for PassesOwn.never rfl (pi_list (mD0 (ok_Court_rows T) (T.c_Court) (T.m_Court_rows) hr (pv 6))) (pg_tup rfl (pgs_cons (pg_name (i := 13) sc_law.nd rfl (.inl rfl)) (pgs_cons (pg_name (i := 17) sc_law.nd rfl (.inl rfl)) pgs_nil))) (pss_one (ps_if (pt_cmpR op_ne (pe_ix ix_tup (cD (ok_law_asked T) T.g_law_asked hr (pa_cons (pv 16) (pa_cons (pv 13) pa_nil))) pe_int (fun _ _ => rfl)) pe_str (nomark _)) (pss_one (ps_ret pe_bl)) pss_nil)))
      (pss_one (ps_ret (pe_and (cD (ok_law_same T 6) T.g_law_same hr (pa_cons (mD0 (ok_Court_rows T) (T.c_Court) (T.m_Court_rows) hr (pv 16)) (pa_cons (pv 10) pa_nil))) (pe_one (cD (ok_law_same T 6) T.g_law_same hr (pa_cons (cD (ok_law_all T) T.g_law_all hr (pa_cons (pv 16) (pa_cons (pv 9) pa_nil))) (pa_cons (cD (ok_law_all T) T.g_law_all hr (pa_cons (pv 6) (pa_cons (pv 9) pa_nil))) pa_nil)))))))))), ?_⟩
      intro H7 o W fl q sgA a1 bk se ka due sh long zs bg ss c m n k c1 sg b rs y12 y13 y14 y15 L lo1 lo2 k100
      obtain ⟨dx, bD, lL, sD, kL, dL, B⟩ := id L.ct
      have fine := rowFine_of L.ok L.rf
      have dn := L.ok.deedsN
      have dmm := L.wd.dom
      have smr : SmOk 6 (.list (c1.deeds.map rowD)) := sm_rows (n := 0) (fun r hr => L.ok.deeds r hr) (by omega)
      refine ⟨_, rfl, a1, dx, _, rfl, B.ob.2, rfl, 2, o, a1, sgA, c1, k, rfl, L.ct, L.ok, fun H1 pr ls s1 npr nls R1 => ?_⟩
      refine ⟨_, rfl, .ref pr, .ref due, _, rfl, R1.dp, (L.sh4.fx (Fx.same s1)).due.dp, smr, fun H2 s2 => ⟨true, rfl, iFe rfl ?_⟩⟩
      have s12 := s1.trans s2
      have sh2 := L.sh4.fx (o' := o) (Fx.same s12)
      obtain ⟨osh, ys, hys, pys⟩ := id sh2.shown
      have ly := paired_len pys
      have lrs := L.rslen
      refine ⟨_, rfl, sh, rfl, ⟨_, SqL.of hys⟩, fun D nD => lc_list (xs := ys) (fun i H3 => Same H2 H3 ∧ H3 D = some (.lst (List.replicate i (V.bl true)))) ⟨same_upd nD, upd_same⟩ (fun i H3 _ h3 => SqL.of (h3.1 _ _ hys)) (fun i v H3 hi h3 => ?_) (fun H3 h3 => ?_)⟩
      · obtain ⟨s3, hD⟩ := h3
        obtain ⟨r, hr, p, x, y, rfl, hp, hx, hy⟩ := paired_get pys hi
        have i1 := (List.getElem?_eq_some_iff.mp hi).1
        have rf := L.rsok r (List.mem_of_getElem? hr)
        have dx3 := (hx.fx (o' := o) (Pk.same s3) (Pk.same s3) (Ks.same s3)).dp
        have dy3 := (hy.fx (o' := o) (Pk.same s3) (Pk.same s3) (Ks.same s3)).dp
        refine ⟨p, _, rfl, Ks.same s3 _ _ hp, rfl, _, _, rfl, _, _, rfl, rfl, rfl, _, rfl, _, rfl, _, _, dx3, dy3, rows_shaped rf, rows_shaped rf, _, hD, slt (by rw [List.length_replicate]; omega), fun b' y e => ?_, ?_⟩
        · rw [upd_ne (ne_of_none e nD)]
          exact s3 _ _ e
        · rw [upd_same, rows_eq rf, List.replicate_succ']
      obtain ⟨s3, hD⟩ := h3
      refine ⟨D, List.replicate ys.length true, rfl, SqL.of (by rw [hD, List.map_replicate]), true, congrArg V.bl (by simp), iFe rfl ?_⟩
      have s13 := s12.trans s3
      have dm3 := dmm.same s13
      have F3 := L.fixed.fx (o' := o) (Fx.same s13)
      have sh3 := sh2.fx (o' := o) (Fx.same s3)
      have ct3 := L.ct.fx (o' := o) (Fx.same s13)
      have sg3 := L.wd.sgs.fx (o' := o) (Fx.same s13)
      obtain ⟨pxs, hq, hpx⟩ := F3.purse
      refine ⟨_, rfl, _, rfl, _, rfl, rfl, rfl, fun x dxx nx ndx hne => ?_⟩
      have sm := made_same (u := HO.own x) (v := HO.ins (He.ga K "Court") dxx []) nx ndx
      refine ⟨x, dxx, sgA, long, q, pxs, bg, rfl, upd_same, lo1, lo2, Ks.same sm _ _ hq, paired_imp (fun _ _ z => IsPay.mono (K := K) (Ks.same sm) z) hpx, F3.bok, fun H4 bD5 lL5 sD5 kL5 dL5 nd5 fr5 kp5 ks5 e0 e1 e2 e3 e4 e5 => ⟨rfl, ?_⟩⟩
      obtain ⟨s34, o4, dm4, al4, ct5⟩ := court_made (t := 5) dm3 nx ndx nd5 fr5 kp5 e0 e1 e2 e3 e4 e5
      have ct4 := ct3.fx (al4 2)
      obtain ⟨dx4, bD4, lL4, sD4, kL4, dL4, B4⟩ := id ct4
      refine ⟨_, rfl, a1, dx4, _, rfl, B4.ob.2, rfl, 2, o4, a1, sgA, c1, k, rfl, ct4, L.ok, fun H5 pr5 ls5 s5 npr5 nls5 R5 => ?_⟩
      obtain ⟨xs5, I5⟩ := R5.ix
      have pp5 : Paired (fun v (r : Deed × List Pay) => ∃ p g y, v = V.ref p ∧ SqT K H5 p [g, y] ∧ IsDeed K H5 g r.1) xs5 c1.deeds := paired_of_get I5.lx fun i v r h1 h2 => by
        have l1 : i < ls5.length := by
          rw [I5.ll]
          exact (List.getElem?_eq_some_iff.mp h2).1
        obtain ⟨p, g, ys', e, sq, dd, _, _⟩ := I5.at_ i v ls5[i] r h1 (List.getElem?_eq_getElem l1) h2
        exact ⟨p, g, _, e, sq, dd⟩
      have on5 : o4 pr5 = none := dm4.free npr5
      have sg5 := (sg3.fx (al4 1)).fx (o' := o4) (Fx.same s5)
      have F5 := (F3.fx (al4 6)).fx (o' := o4) (Fx.same s5)
      have sh5 := (sh3.fx (al4 4)).fx (o' := o4) (Fx.same s5)
      have ct45 := ct4.fx (o' := o4) (Fx.same s5)
      refine ⟨pr5, rfl, ⟨_, SqL.of I5.hl⟩, for_it (walk_list (xs := xs5)) (fun j σ H9 => ∃ (o9 : Own) (c2 : Ct) (z13 z17 : Option V), σ = [some (.ref sa), some (.ref W), some (.ref fl), some (.ref q), some (.ref sgA), some (.int long), some (.ref a1), some (.ref bk), some (.ref se), some (.ref ka), some (.ref due), some (.ref sh), y12, z13, y14, y15, some (.ref x), z17, none, none] ∧ Ef K 5 o4 H5 o9 H9 ∧ Dom o9 H9 ∧ CtAt K 5 o9 H9 x sgA c2 ∧ c2.ok j ∧ runs sg (Ct.new long bg) ((c1.deeds.map (·.1)).take j) = .ok c2) ⟨o4, _, y13, none, rfl, Ef.same (Same.refl _), dm4.same s5, ct5.fx (Fx.same s5), new_ok F3.bok, rfl⟩ (fun j σ H9 _ h9 => ?_) (fun j v σ H9 H10 hj h9 hv => ?_) (fun σ H9 h9 => ?_)⟩
      · obtain ⟨_, _, _, _, _, ef9, _⟩ := h9
        exact SqL.of (ef9.mine I5.hl on5).1
      · obtain ⟨o9, c2, z13, z17, rfl, ef9, dm9, ct9, ok9, rn9⟩ := h9
        obtain ⟨rfl, hv⟩ := hv
        obtain ⟨r, hr, p, g, yy, rfl, hp, hd⟩ := paired_get pp5 hv
        have rm := List.mem_of_getElem? hr
        have dk := (L.ok.deeds r rm).1
        have jl := (List.getElem?_eq_some_iff.mp hr).1
        obtain ⟨c3, e3', r3⟩ := runs_step L.run (j := j) (d := r.1) (by rw [List.getElem?_map, hr]; rfl) rn9
        refine ⟨p, _, rfl, ef9.sq _ _ hp, rfl, _, _, rfl, _, _, rfl, rfl, ?_⟩
        refine ⟨_, rfl, _, rfl, 5, o9, x, sgA, sg, m, c2, j, g, r.1, rfl, IsDeed.mono ef9.sq hd, dk, by decide, dm9, ct9, sg5.fx (ef9.fx (by decide)), ok9, ?_⟩
        rw [e3']
        intro o10 H10 p10 u10 ef10 dm10 ct10 hp10 _
        exact ⟨p10, _, _, _, rfl, rfl, hp10, rfl, rfl, _, rfl, iFe (by simp) ⟨o10, c3, _, _, rfl, ef9.trans ef10, dm10, ct10, step_ok ok9 dk (by omega) e3', r3⟩⟩
      obtain ⟨o9, c2, z13, z17, rfl, ef9, dm9, ct9, ok9, rn9⟩ := h9
      have c21 : c2 = c1 := by
        rw [I5.lx, ← List.length_map (f := fun r : Deed × List Pay => r.1), List.take_length, L.run] at rn9
        exact (Except.ok.inj rn9).symm
      subst c21
      obtain ⟨dx9, bD9, lL9, sD9, kL9, dL9, B9⟩ := id ct9
      have sh9 := sh5.fx (ef9.fx (by decide))
      have F9 := F5.fx (ef9.fx (by decide))
      have ct29 := ct45.fx (ef9.fx (by decide))
      refine ⟨_, rfl, x, dx9, _, rfl, B9.ob.2, rfl, 5, o9, x, sgA, c2, k, rfl, ct9, L.ok, fun H11 pr11 ls11 s11 _ _ R11 => ?_⟩
      refine ⟨_, rfl, .ref pr11, .ref due, _, rfl, R11.dp, (sh9.fx (o' := o9) (Fx.same s11)).due.dp, smr, fun H12 s12' => ⟨true, rfl, iTe rfl ?_⟩⟩
      have s912 := s11.trans s12'
      have hk := F9.keys.2
      have kl : (ss.map fun x => 3 * x + 17).length ≤ 10 := by rw [List.length_map]; exact F9.secs.2.2.2.1
      have kp : ∀ z ∈ ss.map (fun x => 3 * x + 17), 0 ≤ z := fun z hz => by
        obtain ⟨y, hy, rfl⟩ := List.mem_map.mp hz
        have := F9.secs.2.2.2.2 y hy
        omega
      refine ⟨_, rfl, _, rfl, 5, o9, x, sgA, ka, c2, k, _, rfl, ct9.fx (Fx.same s912), L.ok, s912 _ _ hk, kl, kp, fun H13 p13 s13' dp13 => ?_⟩
      have s913 := s912.trans s13'
      refine ⟨_, rfl, _, rfl, 2, o9, a1, sgA, ka, c2, k, _, rfl, ct29.fx (Fx.same s913), L.ok, s913 _ _ hk, kl, kp, fun H14 p14 s14 dp14 => ?_⟩
      exact ⟨.ref p13, .ref p14, _, rfl, Dp.mono s14 _ dp13, dp14, sm_all (n := 0) L.ok kl, fun H15 _ => h H15⟩
    obtain ⟨tB, bB, hB⟩ : ∃ tB, PSs (cxOf CX0 P w K mg base n_law d_law.qual d_law.scope (He.fAd K d_law.at_) cdv A outer s H E).nox ((defBody s_law).drop 11) tB ∧ ∀ (H7 : Hp) (o : Own) (W fl q sgA a1 bk se ka due sh : Addr) (long : Int) (zs : List Str) (bg : List Pay) (ss : List Int) (c1 : Ct) (sg : Sg) (b : Bk) (rs : List (List (Deed × List Pay))),
        LawAt P w K o H7 W fl q sgA a1 bk se ka due sh long zs bg ss 300 0 0 0 c1 sg b rs → 1 ≤ long → long ≤ 100 → SqL K H7 sa (ns.map V.int) → tB { nx := fun _ H' => Q .non H', rt := Q } (lawSt sa W fl q sgA a1 bk se ka due sh long none none none none) H7 := by
      refine ⟨_,
        (pss_cons (ps_for PassesOwn.never rfl (pi_range1 rfl T.b_range (pa_cons (pe_op op_add pe_int (pe_callB (call_min2 rfl) (by rfl) T.b_min (by decide +kernel) (pa_cons pe_int (pa_cons (pe_callB call_len_seq (by rfl) T.b_len PySem.boot_len (pa_cons (pv 0) pa_nil)) pa_nil)))) pa_nil)) (pg_name (i := 12) sc_law.nd rfl (.inl rfl)) (pss_cons (ps_set (i := 13) sc_law.nd rfl (.inl rfl) (cD (ok_law_deed T) T.g_law_deed hr (pa_cons (pv 1) (pa_cons (pv 4) (pa_cons (pv 7) (pa_cons (pv 2) (pa_cons (pv 8) pa_nil)))))))
      (pss_cons (ps_expr (cD (ok_law_done T) T.g_law_done hr (pa_cons (pv 7) (pa_cons (pv 13) pa_nil))))
      (pss_cons (ps_asg (cD (ok_law_asked T) T.g_law_asked hr (pa_cons (pv 6) (pa_cons (pv 13) pa_nil))) (pg_tup rfl (pgs_cons (pg_name (i := 14) sc_law.nd rfl (.inl rfl)) (pgs_cons (pg_name (i := 15) sc_law.nd rfl (.inl rfl)) pgs_nil))))
      (pss_cons (ps_if (pt_cmpR op_eq (pv 14) pe_str (nomark _)) (pss_one (ps_expr (pe_bm PySem.F.plainAttrs_list PySem.F.slot_list_append PySem.F.type_list_append mt_append (pv 10) (pa_cons (pe_tup (pa_cons (pv 13) (pa_cons (pe_ifExp (pt_cmpR op_eq (pe_ix ix_tup (pv 13) pe_int (fun _ _ => rfl)) pe_str (nomark _)) (pe_callTy call_list_of (by rfl) T.b_list (by decide +kernel) (pa_cons (pv 15) pa_nil)) (pe_lst pa_nil)) pa_nil))) pa_nil)))) pss_nil)
      (pss_one (ps_if (pt_cmpR op_eq (cD (ok_law_take T) T.g_law_take hr (pa_cons (pv 1) (pa_cons pe_int pa_nil))) pe_int (nomark _)) (pss_cons (ps_expr (pe_bm PySem.F.plainAttrs_list PySem.F.slot_list_append PySem.F.type_list_append mt_append (pv 11) (pa_cons (pe_tup (pa_cons (mD0 (ok_Court_rows T) (T.c_Court) (T.m_Court_rows) hr (pv 6)) (pa_cons (pe_callTy call_list_of (by rfl) T.b_list (by decide +kernel) (pa_cons (pv 10) pa_nil)) pa_nil))) pa_nil)))
      (pss_one (ps_if (pt_not (pt_val (cD (ok_law_spoil T) T.g_law_spoil hr (pa_cons (pv 1) (pa_cons (mD0 (ok_Court_rows T) (T.c_Court) (T.m_Court_rows) hr (pv 6)) pa_nil))))) (pss_one (ps_ret pe_bl)) pss_nil))) pss_nil)))))))
      bC), ?_⟩
      intro H7 o W fl q sgA a1 bk se ka due sh long zs bg ss c1 sg b rs L lo1 lo2 hs7
      obtain ⟨N, hN, eN⟩ : ∃ N : Nat, N ≤ 90 ∧ (30 + (if ((ns.map V.int).length : Int) < 60 then ((ns.map V.int).length : Int) else 60) : Int) = (N : Int) := by
        rw [List.length_map]
        refine ⟨30 + (if ns.length < 60 then ns.length else 60), ?_, ?_⟩
        · split <;> omega
        · split <;> split <;> omega
      refine ⟨_, rfl, sa, _, rfl, .inl hs7, _, _, rfl, _, _, rfl, rfl, (N : Int), congrArg (fun z => [V.int z]) eN, by omega, by omega, ?_⟩
      refine for_range (lo := 0) (n := N) (fun i σ H2 => ∃ (o2 : Own) (y12 y13 y14 y15 : Option V) (c1 : Ct) (sg : Sg) (b : Bk) (rs : List (List (Deed × List Pay))), σ = lawSt sa W fl q sgA a1 bk se ka due sh long y12 y13 y14 y15 ∧ LawAt P w K o2 H2 W fl q sgA a1 bk se ka due sh long zs bg ss (300 + 360 * i) (2 * i) (2 * i) i c1 sg b rs)
        ⟨o, none, none, none, none, c1, sg, b, rs, rfl, L⟩ (fun i σ H2 hi h2 => ?_) (fun σ H2 h2 => ?_)
      · obtain ⟨o2, y12, y13, y14, y15, c1, sg, b, rs, rfl, L⟩ := h2
        refine ⟨_, rfl, _, rfl, _, rfl, _, rfl, _, rfl, o2, W, sgA, bk, fl, se, _, sg, _, b, _, zs, ss, rfl, L.wd, by unfold cMax; omega, by omega, by omega, L.fixed.folk, L.fixed.secs, fun o3 H3 sg3 dv d e3 X3 le3 hd dk => ?_⟩
        have ct3 := L.ct.fx (e3.fx 2 (by decide))
        have F3 := L.fixed.fx (e3.fx 6 (by decide))
        have S3 := L.sh4.fx (e3.fx 4 (by decide))
        refine ⟨_, rfl, _, rfl, o3, bk, b, _, dv, d, rfl, X3.dom, X3.bk, by omega, hd, dk, fun o4 H4 r b4 e4 dm4 bk4 => ?_⟩
        have W4 := X3.well.fx (e4.fx (by decide)) dm4
        have sg4 := X3.sgs.fx (e4.fx (by decide))
        have ct4 := ct3.fx (e4.fx (by decide))
        have F4 := F3.fx (e4.fx (by decide))
        have S4 := S3.fx (e4.fx (by decide))
        have hd4 := IsDeed.mono e4.sq hd
        have run4 := runs_mono le3 L.run
        have rsl := L.rslen
        have dnl := L.ok.deedsN
        dsimp only
        refine seq_tail2 (fun σ' H' => ∃ (o5 : Own) (c5 : Ct) (z12 z13 z14 z15 : Option V), σ' = lawSt sa W fl q sgA a1 bk se ka due sh long z12 z13 z14 z15 ∧ LawAt P w K o5 H' W fl q sgA a1 bk se ka due sh long zs bg ss (300 + 360 * i + 345) (2 * i + 2) (2 * i + 2) (i + 1) c5 sg3 b4 rs) (fun σ' H' h5 => ?_) (fun tail => ?_)
        · obtain ⟨o5, c5, z12, z13, z14, z15, rfl, M⟩ := h5
          refine ⟨_, rfl, o5, W, _, 4, rfl, by decide, M.wd.well, by unfold cMax; omega, fun r H6 r0 r1 e6 W6 => ?_⟩
          have M6 := M.well (fun u n0 => e6.fx n0) W6
          refine ⟨rfl, _, rfl, ite2 (fun _ => ?_) (fun _ => ?_)⟩
          · obtain ⟨osh, ys, hys, pys⟩ := id M6.sh4.shown
            obtain ⟨dx6, bD6, lL6, sD6, kL6, dL6, B6⟩ := id M6.ct
            have ly := paired_len pys
            refine ⟨_, rfl, .inl ⟨rfl, _, SqL.of hys⟩, _, rfl, a1, dx6, _, rfl, B6.ob.2, rfl, 2, o5, a1, sgA, c5, i + 1, rfl, M6.ct, M6.ok, fun H7' pr ls s7 npr nls R7 => ?_⟩
            have M7 := M6.same s7
            obtain ⟨odue, dxs, hdue, pdue⟩ := id M7.sh4.due
            refine ⟨_, rfl, due, dxs, rfl, .inl (SqL.of hdue), fun cp ncp => ⟨sl, fun tp ntp => ?_⟩⟩
            have s8 := same_upd (o := HO.lst dxs) ncp
            have s9 := same_upd (o := HO.tup [V.ref pr, V.ref cp]) ntp
            have s79 := s8.trans s9
            have dm6 := M6.wd.dom
            have fr9 : ∀ p ∈ pr :: ls, o5 p = none := fun p hp => by
              rcases List.mem_cons.mp hp with rfl | hp
              · exact dm6.free npr
              · exact dm6.free (nls p hp)
            obtain ⟨oA, dmA, alA, kA, inA⟩ := rows_own (R7.same s79) ((dm6.same s7).same s79) fr9
            have cpn : cp ∉ pr :: ls := fun hm => by
              rcases List.mem_cons.mp hm with rfl | hm
              · obtain ⟨xs, hx, _⟩ := R7.is
                rw [hx] at ncp
                cases ncp
              · obtain ⟨x, hx⟩ := R7.stands hm
                rw [hx] at ncp
                cases ncp
            have ocpA : oA cp = none := by
              rw [kA cp cpn]
              exact (dm6.same s7).free ncp
            have hcp : upd (upd H7' cp (HO.lst dxs)) tp (HO.tup [V.ref pr, V.ref cp]) cp = some (.lst dxs) := s9 _ _ upd_same
            have dmB := dmA.take (t := (4, 6)) hcp
            have alB : Al K oA (upd (upd H7' cp (HO.lst dxs)) tp (HO.tup [V.ref pr, V.ref cp])) (take1 oA cp (4, 6)) (upd (upd H7' cp (HO.lst dxs)) tp (HO.tup [V.ref pr, V.ref cp])) := Al.take1 ocpA
            have al5 := ((Al.same s79).trans alA).trans alB
            have M9 := M7.al al5 dmB
            have in1 := inA.fx (alB 4).pk (alB 4).pk (alB 4).2
            have in2 : RIn K (take1 oA cp (4, 6)) (upd (upd H7' cp (HO.lst dxs)) tp (HO.tup [V.ref pr, V.ref cp])) (.ref cp) c5.deeds := ⟨cp, rfl, take1_same, dxs, hcp, paired_imp (fun _ _ y => IsRow.fx (al5 4).pk (al5 4).2 y) pdue⟩
            have hys9 := s79 _ _ (s7 _ _ hys)
            obtain ⟨S10, fx10⟩ := M9.sh4.show1 hys9 (d := c5.deeds) ⟨tp, _, _, rfl, SqT.of upd_same, in1, in2⟩
            refine ⟨sh, ys, _, rfl, rfl, hys9, slt (by omega), ?_⟩
            have M10 := M9.four fx10 dmB.upd S10 (fun l hl r hr => by
              rcases List.mem_append.mp hl with hl | hl
              · exact M.rsok l hl r hr
              · rw [List.mem_singleton.mp hl] at hr
                exact rowFine_of M.ok M.rf r hr) (by rw [List.length_append, List.length_singleton]; omega)
            obtain ⟨dx10, bD10, lL10, sD10, kL10, dL10, B10⟩ := id M10.ct
            refine ⟨_, rfl, _, rfl, a1, dx10, _, rfl, B10.ob.2, rfl, 2, take1 oA cp (4, 6), a1, sgA, c5, i + 1, rfl, M10.ct, M10.ok, fun H11 pr2 ls2 s11 npr2 nls2 R11 => ?_⟩
            have M11 := M10.same s11
            have dm10 := M10.wd.dom
            refine ⟨take1 oA cp (4, 6), W, pr2, ls2, _, c5.deeds, rfl, R11, fun p hp => ?_, M11.wd.well, by unfold cMax; omega, by have := M.ok.deedsN; omega, fun r hr => ⟨(M.ok.deeds r hr).1, (M.ok.deeds r hr).2, M.rf r hr⟩, fun H12 fx12 W12 => ⟨true, rfl, iFe rfl ?_⟩⟩
            · rcases List.mem_cons.mp hp with rfl | hp
              · exact dm10.free npr2
              · exact dm10.free (nls2 p hp)
            · have M12 := M11.well fx12 W12
              exact ⟨_, _, _, _, _, c5, sg3, b4, _, rfl, M12.mono (by omega) (by unfold cMax; omega) (by omega) (by omega) (by omega)⟩
          · exact ⟨o5, _, _, _, _, c5, sg3, b4, rs, rfl, M6.mono (by omega) (by unfold cMax; omega) (by omega) (by omega) (by omega)⟩
        · refine ⟨_, rfl, _, rfl, 2, o4, a1, sgA, sg3, _, c1, i, dv, d, rfl, hd4, dk, by decide, dm4, ct4, sg4, L.ok, ?_⟩
          cases e : c1.step sg3 d with
          | error bad =>
            intro H5 p z u s5 hp nz
            refine ⟨p, _, rfl, hp, rfl, _, _, rfl, _, _, rfl, rfl, _, rfl, rfl, _, rfl, iFe (decide_eq_false fun z' => nz (V.str.inj z')) ?_⟩
            exact tail _ _ ⟨o4, c1, _, _, _, _, rfl, ⟨⟨(W4.same s5).mono (by omega) (by first | omega | (unfold cMax at *; omega)), (sg4.fx (Fx.same s5)).mono (by omega), (bk4.fx (Fx.same s5)).mono (by omega) (by omega)⟩, ct4.fx (Fx.same s5), L.ok.mono (Nat.le_succ _) (by omega), run4, L.rf, F4.fx (Fx.same s5), S4.fx (Fx.same s5), L.rsok, Nat.le_trans L.rslen (Nat.le_succ _)⟩⟩
          | ok c' =>
            intro o5 H5 p u e5 dm5 ct5 hp told
            have run' : runs sg3 (Ct.new long bg) (c'.deeds.map (·.1)) = .ok c' := by
              rw [step_row e, List.map_append]
              show runs _ _ (_ ++ [d]) = _
              rw [runs_app, run4]
              exact e
            refine ⟨p, _, rfl, hp, rfl, _, _, rfl, _, _, rfl, rfl, _, rfl, rfl, _, rfl, iTe (decide_eq_true rfl) ?_⟩
            have S5 := S4.fx (e5.fx (by decide))
            have hd5 := IsDeed.mono e5.sq hd4
            obtain ⟨p0, w0, xs0, rfl, hp0, wt⟩ := deed_word hd5
            obtain ⟨odue, dxs, hdue, pdue⟩ := id S5.due
            have ldx := paired_len pdue
            refine ⟨_, rfl, .inl ⟨rfl, _, SqL.of hdue⟩, _, rfl, _, rfl, p0, _, _, V.str w0, rfl, rfl, hp0, atI_of (Int.le_refl 0) rfl, rfl, _, rfl, ite2 (fun tw => ?_) (fun ntw => ?_)⟩
            · have dt : d = .turn := wt.mp (V.str.inj (of_decide_eq_true tw))
              obtain ⟨q0, yl, rfl, oq, hq, py⟩ := told dt
              have pe : d.pays c1 = c1.paidNow := by rw [dt]; rfl
              refine ⟨_, rfl, q0, yl, rfl, .inl (SqL.of hq), fun l nl => ⟨sl, fun tp ntp => ?_⟩⟩
              have s6 := same_upd (o := HO.lst yl) nl
              have s7 := same_upd (o := HO.tup [V.ref p0, V.ref l]) ntp
              have s57 := s6.trans s7
              have ol := dm5.free nl
              have al : Al K o5 H5 (take1 o5 l (4, 7)) _ := (Al.same s57).trans (Al.take1 ol)
              have hl7 : upd (upd H5 l (HO.lst yl)) tp (HO.tup [V.ref p0, V.ref l]) l = some (.lst yl) := s7 _ _ upd_same
              have dm7 := (dm5.same s57).take (t := (4, 7)) hl7
              have row : IsRow K (4, 7) (take1 o5 l (4, 7)) _ (.ref tp) (d, d.pays c1) := isRow_new (SqT.of upd_same) (IsDeed.mono al.sq hd5) ⟨take1_same, yl, hl7, by rw [pe]; exact paired_imp (fun _ _ z => IsPay.mono (K := K) al.sq z) py⟩
              obtain ⟨S8, fx8⟩ := (S5.fx (al 4)).add (s57 _ _ hdue) row
              refine ⟨due, dxs, _, rfl, rfl, s57 _ _ hdue, slt (by omega), tail _ _ ⟨take1 o5 l (4, 7), c', _, _, _, _, rfl, ?_⟩⟩
              exact ⟨⟨((((W4.fx (e5.fx (by decide)) dm5).fx (al 0) dm7).fx (fx8 0 (by decide)) dm7.upd).mono (by omega) (by first | omega | (unfold cMax at *; omega))), (((sg4.fx (e5.fx (by decide))).fx (al 1)).fx (fx8 1 (by decide))).mono (by omega), (((bk4.fx (e5.fx (by decide))).fx (al 3)).fx (fx8 3 (by decide))).mono (by omega) (by omega)⟩, (ct5.fx (al 2)).fx (fx8 2 (by decide)), step_ok L.ok dk (by omega) e, run', rowsFine_step L.ok L.rf e, ((F4.fx (e5.fx (by decide))).fx (al 6)).fx (fx8 6 (by decide)), by rw [step_row e]; exact S8, L.rsok, Nat.le_trans L.rslen (Nat.le_succ _)⟩
            · have dt : d.pays c1 = [] := pays_else fun z => ntw (decide_eq_true (congrArg V.str (wt.mpr z)))
              refine ⟨Nat.zero_le _, fun l nl => ⟨sl, fun tp ntp => ?_⟩⟩
              have s6 := same_upd (o := HO.lst []) nl
              have s7 := same_upd (o := HO.tup [V.ref p0, V.ref l]) ntp
              have s57 := s6.trans s7
              have ol := dm5.free nl
              have al : Al K o5 H5 (take1 o5 l (4, 7)) _ := (Al.same s57).trans (Al.take1 ol)
              have hl7 : upd (upd H5 l (HO.lst [])) tp (HO.tup [V.ref p0, V.ref l]) l = some (.lst []) := s7 _ _ upd_same
              have dm7 := (dm5.same s57).take (t := (4, 7)) hl7
              have row : IsRow K (4, 7) (take1 o5 l (4, 7)) _ (.ref tp) (d, d.pays c1) := isRow_new (SqT.of upd_same) (IsDeed.mono al.sq hd5) ⟨take1_same, [], hl7, by rw [dt]; exact .nil⟩
              obtain ⟨S8, fx8⟩ := (S5.fx (al 4)).add (s57 _ _ hdue) row
              refine ⟨due, dxs, _, rfl, rfl, s57 _ _ hdue, slt (by omega), tail _ _ ⟨take1 o5 l (4, 7), c', _, _, _, _, rfl, ?_⟩⟩
              exact ⟨⟨((((W4.fx (e5.fx (by decide)) dm5).fx (al 0) dm7).fx (fx8 0 (by decide)) dm7.upd).mono (by omega) (by first | omega | (unfold cMax at *; omega))), (((sg4.fx (e5.fx (by decide))).fx (al 1)).fx (fx8 1 (by decide))).mono (by omega), (((bk4.fx (e5.fx (by decide))).fx (al 3)).fx (fx8 3 (by decide))).mono (by omega) (by omega)⟩, (ct5.fx (al 2)).fx (fx8 2 (by decide)), step_ok L.ok dk (by omega) e, run', rowsFine_step L.ok L.rf e, ((F4.fx (e5.fx (by decide))).fx (al 6)).fx (fx8 6 (by decide)), by rw [step_row e]; exact S8, L.rsok, Nat.le_trans L.rslen (Nat.le_succ _)⟩
      · obtain ⟨o2, y12, y13, y14, y15, c1, sg, b, rs, rfl, L⟩ := h2
        exact hC _ _ _ _ _ _ _ _ _ _ _ _ _ _ _ _ _ _ _ _ _ _ _ _ _ _ _ _ L lo1 lo2 (by omega)
    refine ⟨_,
      (pss_cons (ps_set (i := 1) sc_law.nd rfl (.inl rfl) (cD (ok_law_well T) T.g_law_well hr (pa_cons (pv 0) pa_nil)))
      (pss_cons (ps_set (i := 2) sc_law.nd rfl (.inl rfl) (cD (ok_law_folk T) T.g_law_folk hr (pa_cons (pv 1) (pa_cons pe_int pa_nil))))
      (pss_cons (ps_set (i := 3) sc_law.nd rfl (.inl rfl) (cD (ok_law_bags T) T.g_law_bags hr (pa_cons (pv 1) (pa_cons (pv 2) pa_nil))))
      (pss_cons (ps_set (i := 4) sc_law.nd rfl (.inl rfl) (mkD0 (ok_Signs_init T) T.k_Signs T.g_Signs hr))
      (pss_cons (ps_set (i := 5) sc_law.nd rfl (.inl rfl) (pe_op op_add pe_int (cD (ok_law_take T) T.g_law_take hr (pa_cons (pv 1) (pa_cons pe_int pa_nil)))))
      (pss_cons (ps_set (i := 6) sc_law.nd rfl (.inl rfl) (pe_makeK (n := 1) T.k_Court okI (hr.mono (by decide)) (by rfl) T.g_Court kbI1 pass0 (pa_cons (pv 4) pa_nil) (pk_cons (pv 3) (pk_cons (pv 5) pk_nil))))
      (pss_cons (ps_set (i := 7) sc_law.nd rfl (.inl rfl) (cD (ok_law_book T) T.g_law_book hr (pa_cons (pv 3) (pa_cons (pv 5) pa_nil))))
      (pss_cons (ps_set (i := 8) sc_law.nd rfl (.inl rfl) (cD (ok_law_secrets T) T.g_law_secrets hr (pa_cons (pv 1) pa_nil)))
      (pss_cons (ps_setLc (i := 9) (own := [("_law_one", 18)]) (tt := tYes) rfl sc_law.nd rfl rfl (sw_true rfl rfl rfl (by decide +kernel)) (pi_list (pv 8)) (blkOk_by (own := [("_law_one", 18)]) (N := n_law) (sc := defScope s_law) (by decide +kernel)) (fun _ _ _ _ _ => (pg_name (i := 18) sc_law.nd rfl (.inl rfl))) (fun _ _ _ _ _ => pts_nil) (fun _ _ _ _ _ => (cD (ok_seal_of (P := P) (w := w) (base := base) T) T.g_seal_of hr (pa_cons (pv 18) pa_nil))))
      (pss_cons (ps_set (i := 10) sc_law.nd rfl (.inl rfl) (pe_lst pa_nil))
      (pss_cons (ps_set (i := 11) sc_law.nd rfl (.inl rfl) (pe_lst pa_nil))
      bB))))))))))), ?_⟩
    obtain ⟨o0, d0, sc0⟩ := scAt_of hsa
    refine ⟨_, rfl, sa, ns, rfl, hsa, fun H1 W G S gs ss1 st s1 nW nG nS w1 w2 w3 hW hG hS g1 g2 g3 g4 t1 t2 => ?_⟩
    obtain ⟨o1, al1, _, W1⟩ := well_new (K := K) (o := o0) (d0.same s1) (fun p hp => by
      simp only [List.mem_cons, List.not_mem_nil, or_false] at hp
      rcases hp with rfl | rfl | rfl
      · exact d0.free nW
      · exact d0.free nG
      · exact d0.free nS) w1 w2 w3 hW hG hS g1 g2 g3 g4 t1 t2
    have sc1 := sc0.fx ((Al.same s1).trans al1 6)
    refine ⟨_, rfl, (), o1, W, 0, _, rfl, rfl, W1, by unfold cMax; omega, fun v2 H2 ef2 W2 h2 => ?_⟩
    obtain ⟨fl, zs, rfl, nfl, hfl, ndz, lz1, lz2, zok⟩ := h2
    have ofl : o1 fl = none := W1.dom.free nfl
    have al2 : Al K o1 H2 (take1 o1 fl (6, 0)) H2 := Al.take1 ofl
    have W2' := W2.fx (al2 0) (W2.dom.take hfl)
    have fo2 : FolkAt (take1 o1 fl (6, 0)) H2 fl zs := ⟨take1_same, hfl, lz1, lz2, zok⟩
    have sc2 := (sc1.fx (ef2.fx (by decide))).fx (al2 6)
    generalize take1 o1 fl (6, 0) = o2 at al2 W2' fo2 sc2
    refine ⟨_, rfl, _, rfl, (fl, zs), o2, W, _, _, rfl, ⟨rfl, hfl, ndz, lz2, zok⟩, W2', by unfold cMax; omega, fun v3 H3 ef3 W3 h3 => ?_⟩
    obtain ⟨q, bg, rfl, nq, hq, bok⟩ := h3
    have oq : o2 q = none := W2'.dom.free nq
    have al3 : Al K o2 H3 (take1 o2 q (6, 3)) H3 := Al.take1 oq
    obtain ⟨qb, qv, hqf, qr⟩ := id hq
    have W3' := W3.fx (al3 0) (W3.dom.take hqf)
    have fo3 := (fo2.fx (ef3.fx (by decide))).fx (al3 6)
    have sc3 := (sc2.fx (ef3.fx (by decide))).fx (al3 6)
    have pu3 : PuAt K (take1 o2 q (6, 3)) H3 q bg := ⟨take1_same, hq⟩
    generalize take1 o2 q (6, 3) = o3 at al3 W3' fo3 sc3 pu3
    refine fun sgA dxs nx4 ndx4 hne4 => ⟨sgA, dxs, rfl, upd_same, fun bb nbb => ⟨rfl, ?_⟩⟩
    obtain ⟨s34, o4, dm4, al4, sg4⟩ := signs_made (P := P) (w := w) (K := K) W3'.dom nx4 ndx4 nbb
    have W4 := W3'.fx (al4 0) dm4
    have fo4 := fo3.fx (al4 6)
    have sc4 := sc3.fx (al4 6)
    have pu4 := pu3.fx (al4 6)
    refine ⟨_, rfl, o4, W, _, 8, rfl, by decide, W4, by unfold cMax; omega, fun r H5 r0 r1 ef5 W5 => ⟨_, _, rfl, rfl, ?_⟩⟩
    have dm5 := W5.dom
    have sg5 := sg4.fx (ef5.fx (by decide))
    have fo5 := fo4.fx (ef5.fx (by decide))
    have sc5 := sc4.fx (ef5.fx (by decide))
    have pu5 := pu4.fx (ef5.fx (by decide))
    obtain ⟨qv5, sq5, pq5⟩ := pu5.sq
    refine ⟨_, rfl, _, rfl, _, rfl, rfl, rfl, fun a1 dxx nx ndx hne => ?_⟩
    have sm := made_same (u := HO.own a1) (v := HO.ins (He.ga K "Court") dxx []) nx ndx
    refine ⟨a1, dxx, sgA, 1 + r, q, qv5, bg, rfl, upd_same, by omega, by omega, Ks.same sm _ _ sq5, paired_imp (fun _ _ z => IsPay.mono (K := K) (Ks.same sm) z) pq5, bok, fun H6 bD6 lL6 sD6 kL6 dL6 nd6 fr6 kp6 ks6 e0 e1 e2 e3 e4 e5 => ⟨rfl, ?_⟩⟩
    obtain ⟨s56, o6, dm6, al6, ct6⟩ := court_made (t := 2) dm5 nx ndx nd6 fr6 kp6 e0 e1 e2 e3 e4 e5
    have W6 := W5.fx (al6 0) dm6
    have sg6 := sg5.fx (al6 1)
    have fo6 := fo5.fx (al6 6)
    have sc6 := sc5.fx (al6 6)
    have pu6 := pu5.fx (al6 6)
    refine ⟨_, rfl, _, rfl, q, 1 + r, bg, rfl, pu6.2, bok, fun H7 bk bD7 rL7 sD7 hL7 wL7 gD7 s7 nd7 fr7 f0 f1 f2 f3 f4 f5 f6 => ?_⟩
    obtain ⟨o7, dm7, al7, _, bk7⟩ := bk_new (P := P) (w := w) (K := K) (dm6.same s7) bok nd7 (fun p hp => dm6.free (fr7 p hp)) f0 f1 f2 f3 f4 f5 f6
    have al67 : Al K o6 H6 o7 H7 := (Al.same s7).trans al7
    have W7 := W6.fx (al67 0) dm7
    have sg7 := sg6.fx (al67 1)
    have ct7 := ct6.fx (al67 2)
    have fo7 := fo6.fx (al67 6)
    have sc7 := sc6.fx (al67 6)
    have pu7 := pu6.fx (al67 6)
    refine ⟨_, rfl, (), o7, W, _, [], rfl, rfl, W7, by unfold cMax; omega, fun v8 H8 ef8 W8 h8 => ?_⟩
    obtain ⟨se, ss, rfl, nse, hse, sne, sl5, spos⟩ := h8
    have ose : o7 se = none := W7.dom.free nse
    have al8 : Al K o7 H8 (take1 o7 se (6, 1)) H8 := Al.take1 ose
    have dm8 := W8.dom.take (t := (6, 1)) hse
    have W8' := W8.fx (al8 0) dm8
    have sg8 := (sg7.fx (ef8.fx (by decide))).fx (al8 1)
    have ct8 := (ct7.fx (ef8.fx (by decide))).fx (al8 2)
    have bk8 := (bk7.fx (ef8.fx (by decide))).fx (al8 3)
    have fo8 := (fo7.fx (ef8.fx (by decide))).fx (al8 6)
    have sc8 := (sc7.fx (ef8.fx (by decide))).fx (al8 6)
    have pu8 := (pu7.fx (ef8.fx (by decide))).fx (al8 6)
    have se8 : SecAt (take1 o7 se (6, 1)) H8 se ss := ⟨take1_same, hse, by cases ss with | nil => exact absurd rfl sne | cons => exact Nat.succ_pos _, by omega, spos⟩
    generalize take1 o7 se (6, 1) = o8 at al8 dm8 W8' sg8 ct8 bk8 fo8 sc8 pu8 se8
    refine ⟨_, rfl, se, rfl, ⟨_, SqL.of hse⟩, fun ka nka => lc_list (xs := ss.map V.int) (fun i H9 => Same H8 H9 ∧ H9 ka = some (.lst ((ss.take i).map fun x => V.int (3 * x + 17)))) ⟨same_upd nka, upd_same⟩ (fun i H9 _ h9 => SqL.of (h9.1 _ _ hse)) (fun i v H9 hi h9 => ?_) (fun H9 h9 => ?_)⟩
    · obtain ⟨s9, hD⟩ := h9
      rw [List.getElem?_map] at hi
      obtain ⟨x, hx, rfl⟩ := Option.map_eq_some_iff.mp hi
      have x0 := spos x (List.mem_of_getElem? hx)
      refine ⟨rfl, _, rfl, x, rfl, x0, _, hD, slt (by rw [List.length_map, List.length_take]; omega), fun b' y e => ?_, ?_⟩
      · rw [upd_ne (ne_of_none e nka)]
        exact s9 _ _ e
      · rw [upd_same, take_succ_of hx, List.map_append]
        rfl
    obtain ⟨s9, hka⟩ := h9
    rw [List.length_map, List.take_length] at hka
    refine ⟨Nat.zero_le _, fun due ndue => ⟨Nat.zero_le _, fun sh nsh => ?_⟩⟩
    have s10 := same_upd (o := HO.lst []) ndue
    have s11 := same_upd (o := HO.lst []) nsh
    have s811 := s9.trans (s10.trans s11)
    have hka11 := s11 _ _ (s10 _ _ hka)
    have hdue11 : upd (upd H9 due (HO.lst [])) sh (HO.lst []) due = some (.lst []) := s11 _ _ upd_same
    have hsh11 : upd (upd H9 due (HO.lst [])) sh (HO.lst []) sh = some (.lst []) := upd_same
    have n1 : ka ≠ due := ne_of_none hka ndue
    have n2 : ka ≠ sh := ne_of_none (s10 _ _ hka) nsh
    have n3 : due ≠ sh := ne_of_none (upd_same (H := H9) (a := due) (o := HO.lst [])) nsh
    have nd11 : [ka, due, sh].Nodup := by simp [n1, n2, n3]
    have fr11 : ∀ p ∈ [ka, due, sh], o8 p = none := fun p hp => by
      simp only [List.mem_cons, List.not_mem_nil, or_false] at hp
      rcases hp with rfl | rfl | rfl
      · exact dm8.free nka
      · exact dm8.free (s9.free ndue)
      · exact dm8.free ((s9.trans s10).free nsh)
    have at11 : ∀ {p t}, (p, t) ∈ [(ka, ((6 : Nat), (2 : Nat))), (due, (4, 5)), (sh, (4, 0))] → takeL o8 [(ka, (6, 2)), (due, (4, 5)), (sh, (4, 0))] p = some t := fun hm => takeL_at (l := [(ka, (6, 2)), (due, (4, 5)), (sh, (4, 0))]) nd11 hm
    have al11 : Al K o8 H8 (takeL o8 [(ka, (6, 2)), (due, (4, 5)), (sh, (4, 0))]) (upd (upd H9 due (HO.lst [])) sh (HO.lst [])) := (Al.same s811).trans (Al.takeL fr11)
    have dm11 : Dom (takeL o8 [(ka, (6, 2)), (due, (4, 5)), (sh, (4, 0))]) (upd (upd H9 due (HO.lst [])) sh (HO.lst [])) := takeL_dom (dm8.same s811) fun p hp => by
      simp only [List.map_cons, List.map_nil, List.mem_cons, List.not_mem_nil, or_false] at hp
      rcases hp with rfl | rfl | rfl
      · exact ⟨_, hka11⟩
      · exact ⟨_, hdue11⟩
      · exact ⟨_, hsh11⟩
    refine hB _ (takeL o8 [(ka, (6, 2)), (due, (4, 5)), (sh, (4, 0))]) W fl q sgA a1 bk se ka due sh (1 + r) zs bg ss (Ct.new (1 + r) bg) (fun _ _ => false) (Bk.new (1 + r) bg) [] ?_ (by omega) (by omega) (sc8.fx (al11 6)).sq
    exact ⟨⟨(W8'.fx (al11 0) dm11).mono (by omega) (by omega), sg8.fx (al11 1), bk8.fx (al11 3)⟩, ct8.fx (al11 2), new_ok bok, rfl, fun _ hr => (List.not_mem_nil hr).elim, ⟨fo8.fx (al11 6), se8.fx (al11 6), ⟨at11 (by simp), by rw [hka11, List.map_map]; rfl⟩, (pu8.fx (al11 6)).sq, bok⟩, ⟨⟨at11 (by simp), [], hdue11, .nil⟩, ⟨at11 (by simp), [], hsh11, .nil⟩⟩, fun _ hr => (List.not_mem_nil hr).elim, Nat.le_refl _⟩
end
end Cn
namespace Cn
open PySem PySem.Spec PyProof.Rows L2
theorem facts {P : Program} {w : World} {K : PySem.W.Frag} {h : Heap} {mg : Str → Option Value} {f : Addr} (X : K.In h) (G : h.Ns mainGlobals mg) (hfa : mg ("law" : Str) = some (.ref f)) (c : He.SaysX faL fnL [] [] exB w h K) :
    ∃ fd : FuncData, (∀ (s : Shared) (v : Value), BindsTo s fd ⟨[v], []⟩ [("_law_script", v)]) ∧ ∀ base : Heap, K.In base → base.Ns mainGlobals mg → FnOk P w K mg base CX0 10 f fd ["_law_script"] (spLaw K) := by
  have T : Tx K mg := tx_of X G c
  obtain ⟨fd, F⟩ := T.f_law
  have e := hfa.symm.trans T.g_law
  cases e
  have F' : FunD K d_law.name d_law.qual d_law.params d_law.body d_law.scope [] (d_law.kws K) (He.fAd K d_law.at_) fd := F
  have b := FunD.bindsA (ps := ["_law_script"]) F' fun _ _ _ _ _ _ us hl => match us, hl with | [_], _ => rfl
  exact ⟨fd, fun s v => b s [v] rfl, fun base _ _ => fn_law T F⟩
end Cn
open PySem PySem.W PySem.Calls PyProof.Rows
theorem PySem.Challenge.cw_coinlanes_k21_whole_rows_again_holds : PySem.Challenge.rw_coinlanes_k21_whole_rows_again.Holds := by
  w_on; o_law
  refine HandSHeadRun.head_any (r := OpenLaw.row PySem.Challenge.rw_coinlanes_k21_whole_rows_again) (q := view (OpenLaw.row PySem.Challenge.rw_coinlanes_k21_whole_rows_again).prog [74]) (H := Cn.hk) (ob := Cn.ob) (M := 30000) (loose := Cn.lo0 ++ Cn.lo1 ++ Cn.lo2 ++ Cn.lo3) (d := HandSHeadRun.topDef (OpenLaw.row PySem.Challenge.rw_coinlanes_k21_whole_rows_again).prog 74) (kwd := []) Cn.ob_eq
    (by kernel_rfl) (fun s => by kernel_rfl) Cn.run (by kernel_rfl) (by kernel_rfl) (by kernel_rfl) (by rfl) (by first | assumption | decide +kernel) (by decide +kernel) ⟨rfl, rfl, rfl, rfl, rfl, by decide +kernel⟩ ?hw ?hc
  case hw => w_witness2
  case hc =>
    refine L2.walk_ofE (l := PySem.Challenge.rw_coinlanes_k21_whole_rows_again) (n := 63) (k := 10) (x := "_law_script") (CX := L2.CX0) rfl (by decide) (by kernel_rfl) ⟨rfl, by decide, by decide⟩ ?F (fun _ _ _ _ z => z)
    intro w mg fa h Y G hmg0
    obtain ⟨K, KX, c⟩ := Y
    have hmg : mg ("law" : PySem.Str) = some (.ref fa) := by
      have e : (HandSHeadRun.topDef (OpenLaw.row PySem.Challenge.rw_coinlanes_k21_whole_rows_again).prog 74).name = ("law" : PySem.Str) := by kernel_rfl
      rw [← e]
      exact hmg0
    obtain ⟨fd, hb, hF⟩ := Cn.facts (P := (PySem.Challenge.rw_coinlanes_k21_whole_rows_again).prog) (w := w) KX G hmg c
    exact ⟨K, fd, Cn.spLaw K, KX, hb, fun H a ns hl _ hS => ⟨a, ns, rfl, hS, hl, fun _ => rfl⟩, hF⟩
