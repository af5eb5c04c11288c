import PyProof.Rows.All
import Wide.All
import OpenK.AllK
import Wide.FinOn
import HandS.ForMost
import HandS.IsInst
import HandS.DictComp
import HandS.More
import HandS.Conv
import HandS.Zip
import HandS.Style
import HandS.TupAny
import HandS.TupMul
import HandS.TupLen
import HandS.Codes
import HandS.Defaults
import HandS.DictTup
import HandS.Steps
import HandS.Evl
import HandS.Walk
import KE.KDictKeyed
import KE.KDictLaw
import KE.KeyNested
import KE.KStar
import KE.DataMinMax
import KE.KDictMeth
import KE.KTops
import HandS.Strs
import HandS.SetKeys
import HandS.SortInts
import KE.KUnpackStar
import HandS.SortKw
import KE.GoesZip
import KE.GoesMore
import KE.KDictZip
import KE.KItemsList
import HandS.ListItems
import KE.KDictDisplayH
import KE.KDictCopyH
import KE.KDictWalk
import KE.DatumOrd
import HandS.Deep
import KE.KStateDown
import HandS.Head0
import HandS.Head1
import HandS.Head2
import HandS.HeadEnd
import HandS.HeadHook1
import HandS.HeadHook2
import HandS.HeadHook3
import HandS.HeadHook4
import PySem.Challenge.RW_lookthrough_k54_whole_nobody_is_held_low
set_option Elab.async false
set_option linter.all false
set_option maxRecDepth 100000
set_option maxHeartbeats 4000000
namespace Lk
open PySem L2
abbrev PR : Program := PySem.Challenge.pw_lookthrough_k54_whole_nobody_is_held_low
def top (i : Nat) : Stmt := PR.main.body.getD i (.Pass ⟨0, 0, 0, 0⟩)
abbrev s_is_number : Stmt := top 16
theorem sc_is_number : FnScope ["thing", "low", "high"] ["thing", "low", "high"] (defScope s_is_number) := ⟨rfl, rfl, rfl, by decide +kernel, rfl, by decide +kernel, by decide +kernel⟩
abbrev s_is_list : Stmt := top 17
theorem sc_is_list : FnScope ["thing"] ["thing"] (defScope s_is_list) := ⟨rfl, rfl, rfl, by decide +kernel, rfl, by decide +kernel, by decide +kernel⟩
abbrev s_is_move : Stmt := top 18
theorem sc_is_move : FnScope ["thing", "sign"] ["thing"] (defScope s_is_move) := ⟨rfl, rfl, rfl, by decide +kernel, rfl, by decide +kernel, by decide +kernel⟩
abbrev s_are_moves : Stmt := top 19
theorem sc_are_moves : FnScope ["thing", "move"] ["thing"] (defScope s_are_moves) := ⟨rfl, rfl, rfl, by decide +kernel, rfl, by decide +kernel, by decide +kernel⟩
abbrev s_is_row : Stmt := top 20
theorem sc_is_row : FnScope ["thing", "at", "word", "parts", "place"] ["thing", "at"] (defScope s_is_row) := ⟨rfl, rfl, rfl, by decide +kernel, rfl, by decide +kernel, by decide +kernel⟩
abbrev s_need_rows : Stmt := top 21
theorem sc_need_rows : FnScope ["rows", "at", "row"] ["rows"] (defScope s_need_rows) := ⟨rfl, rfl, rfl, by decide +kernel, rfl, by decide +kernel, by decide +kernel⟩
abbrev s_named_by : Stmt := top 22
theorem sc_named_by : FnScope ["row", "place"] ["row"] (defScope s_named_by) := ⟨rfl, rfl, rfl, by decide +kernel, rfl, by decide +kernel, by decide +kernel⟩
abbrev s_down_ones : Stmt := top 23
theorem sc_down_ones : FnScope ["rows", "found", "row", "at"] ["rows"] (defScope s_down_ones) := ⟨rfl, rfl, rfl, by decide +kernel, rfl, by decide +kernel, by decide +kernel⟩
abbrev s_below : Stmt := top 24
theorem sc_below : FnScope ["rows", "some", "at", "met", "other"] ["rows", "some"] (defScope s_below) := ⟨rfl, rfl, rfl, by decide +kernel, rfl, by decide +kernel, by decide +kernel⟩
abbrev s_need_moves : Stmt := top 26
theorem sc_need_moves : FnScope ["thing"] ["thing"] (defScope s_need_moves) := ⟨rfl, rfl, rfl, by decide +kernel, rfl, by decide +kernel, by decide +kernel⟩
abbrev s_Player___init__ : Stmt := inClass (top 27) 0
theorem sc_Player___init : FnScope ["self", "moves", "rows", "chosen", "down", "at"] ["self", "moves", "rows", "chosen"] (defScope s_Player___init__) := ⟨rfl, rfl, rfl, by decide +kernel, rfl, by decide +kernel, by decide +kernel⟩
abbrev s_Player_moves : Stmt := inClass (top 27) 1
theorem sc_Player_moves : FnScope ["self"] ["self"] (defScope s_Player_moves) := ⟨rfl, rfl, rfl, by decide +kernel, rfl, by decide +kernel, by decide +kernel⟩
abbrev s_Player_rows : Stmt := inClass (top 27) 2
theorem sc_Player_rows : FnScope ["self"] ["self"] (defScope s_Player_rows) := ⟨rfl, rfl, rfl, by decide +kernel, rfl, by decide +kernel, by decide +kernel⟩
abbrev s_Player_chosen : Stmt := inClass (top 27) 3
theorem sc_Player_chosen : FnScope ["self"] ["self"] (defScope s_Player_chosen) := ⟨rfl, rfl, rfl, by decide +kernel, rfl, by decide +kernel, by decide +kernel⟩
abbrev s_Player_showns : Stmt := inClass (top 27) 4
theorem sc_Player_showns : FnScope ["self", "at"] ["self"] (defScope s_Player_showns) := ⟨rfl, rfl, rfl, by decide +kernel, rfl, by decide +kernel, by decide +kernel⟩
abbrev s_Player_top : Stmt := inClass (top 27) 5
theorem sc_Player_top : FnScope ["self", "at"] ["self"] (defScope s_Player_top) := ⟨rfl, rfl, rfl, by decide +kernel, rfl, by decide +kernel, by decide +kernel⟩
abbrev s_Player___eq__ : Stmt := inClass (top 27) 6
theorem sc_Player___eq : FnScope ["self", "other"] ["self", "other"] (defScope s_Player___eq__) := ⟨rfl, rfl, rfl, by decide +kernel, rfl, by decide +kernel, by decide +kernel⟩
abbrev s_plain : Stmt := top 28
theorem sc_plain : FnScope ["moves", "move", "others", "last", "one"] ["moves", "move"] (defScope s_plain) := ⟨rfl, rfl, rfl, by decide +kernel, rfl, by decide +kernel, by decide +kernel⟩
abbrev s_value_of : Stmt := top 29
theorem sc_value_of : FnScope ["row", "at", "known", "truths", "ring", "word", "parts"] ["row", "at", "known", "truths", "ring"] (defScope s_value_of) := ⟨rfl, rfl, rfl, by decide +kernel, rfl, by decide +kernel, by decide +kernel⟩
abbrev s_values : Stmt := top 30
theorem sc_values : FnScope ["rows", "wanted", "truths", "ring", "known", "at"] ["rows", "wanted", "truths", "ring"] (defScope s_values) := ⟨rfl, rfl, rfl, by decide +kernel, rfl, by decide +kernel, by decide +kernel⟩
abbrev s_move_of : Stmt := top 31
theorem sc_move_of : FnScope ["player", "truths", "known", "move", "at"] ["player", "truths"] (defScope s_move_of) := ⟨rfl, rfl, rfl, by decide +kernel, rfl, by decide +kernel, by decide +kernel⟩
abbrev s_led_truths : Stmt := top 32
theorem sc_led_truths : FnScope ["rows", "wanted", "truths", "level", "ring", "known", "found", "at", "word", "k", "inner"] ["rows", "wanted", "truths", "level", "ring"] (defScope s_led_truths) := ⟨rfl, rfl, rfl, by decide +kernel, rfl, by decide +kernel, by decide +kernel⟩
abbrev s_need_player : Stmt := top 34
theorem sc_need_player : FnScope ["thing"] ["thing"] (defScope s_need_player) := ⟨rfl, rfl, rfl, by decide +kernel, rfl, by decide +kernel, by decide +kernel⟩
abbrev s_Gait___init__ : Stmt := inClass (top 36) 0
theorem sc_Gait___init : FnScope ["self", "player"] ["self", "player"] (defScope s_Gait___init__) := ⟨rfl, rfl, rfl, by decide +kernel, rfl, by decide +kernel, by decide +kernel⟩
abbrev s_Gait_first : Stmt := inClass (top 36) 1
theorem sc_Gait_first : FnScope ["self"] ["self"] (defScope s_Gait_first) := ⟨rfl, rfl, rfl, by decide +kernel, rfl, by decide +kernel, by decide +kernel⟩
abbrev s_Gait_is_stand : Stmt := inClass (top 36) 2
theorem sc_Gait_is_stand : FnScope ["self", "thing"] ["self", "thing"] (defScope s_Gait_is_stand) := ⟨rfl, rfl, rfl, by decide +kernel, rfl, by decide +kernel, by decide +kernel⟩
abbrev s_Gait_truths : Stmt := inClass (top 36) 3
theorem sc_Gait_truths : FnScope ["self", "stand"] ["self", "stand"] (defScope s_Gait_truths) := ⟨rfl, rfl, rfl, by decide +kernel, rfl, by decide +kernel, by decide +kernel⟩
abbrev s_Gait_move : Stmt := inClass (top 36) 4
theorem sc_Gait_move : FnScope ["self", "stand"] ["self", "stand"] (defScope s_Gait_move) := ⟨rfl, rfl, rfl, by decide +kernel, rfl, by decide +kernel, by decide +kernel⟩
abbrev s_Gait_behind : Stmt := inClass (top 36) 5
theorem sc_Gait_behind : FnScope ["self", "stand", "letter", "truths", "ring", "later", "at"] ["self", "stand", "letter"] (defScope s_Gait_behind) := ⟨rfl, rfl, rfl, by decide +kernel, rfl, by decide +kernel, by decide +kernel⟩
abbrev s_Gait_rests : Stmt := inClass (top 36) 6
theorem sc_Gait_rests : FnScope ["self", "stand", "letter"] ["self", "stand", "letter"] (defScope s_Gait_rests) := ⟨rfl, rfl, rfl, by decide +kernel, rfl, by decide +kernel, by decide +kernel⟩
abbrev s_Gait_end : Stmt := inClass (top 36) 7
theorem sc_Gait_end : FnScope ["self", "stand", "letter"] ["self", "stand", "letter"] (defScope s_Gait_end) := ⟨rfl, rfl, rfl, by decide +kernel, rfl, by decide +kernel, by decide +kernel⟩
abbrev s_Gait_words : Stmt := inClass (top 36) 8
theorem sc_Gait_words : FnScope ["self", "letters", "found", "line", "at", "stand", "letter", "later"] ["self", "letters"] (defScope s_Gait_words) := ⟨rfl, rfl, rfl, by decide +kernel, rfl, by decide +kernel, by decide +kernel⟩
abbrev s_need_among : Stmt := top 37
theorem sc_need_among : FnScope ["thing", "moves"] ["thing", "moves"] (defScope s_need_among) := ⟨rfl, rfl, rfl, by decide +kernel, rfl, by decide +kernel, by decide +kernel⟩
abbrev s_endings : Stmt := top 38
theorem sc_endings : FnScope ["player", "others", "gait", "stands", "met", "stand", "yours", "mine"] ["player", "others"] (defScope s_endings) := ⟨rfl, rfl, rfl, by decide +kernel, rfl, by decide +kernel, by decide +kernel⟩
abbrev s_brought : Stmt := top 39
theorem sc_brought : FnScope ["player", "others", "mine", "yours", "gait", "words", "stand", "word"] ["player", "others", "mine", "yours"] (defScope s_brought) := ⟨rfl, rfl, rfl, by decide +kernel, rfl, by decide +kernel, by decide +kernel⟩
abbrev s_is_worth : Stmt := top 43
theorem sc_is_worth : FnScope ["thing", "one"] ["thing"] (defScope s_is_worth) := ⟨rfl, rfl, rfl, by decide +kernel, rfl, by decide +kernel, by decide +kernel⟩
abbrev s_need_worths : Stmt := top 44
theorem sc_need_worths : FnScope ["mine", "yours", "thing", "pairs", "a", "b", "pair"] ["mine", "yours", "thing"] (defScope s_need_worths) := ⟨rfl, rfl, rfl, by decide +kernel, rfl, by decide +kernel, by decide +kernel⟩
abbrev s_Table___init__ : Stmt := inClass (top 45) 0
theorem sc_Table___init : FnScope ["self", "mine", "yours", "worths", "pair", "both"] ["self", "mine", "yours", "worths"] (defScope s_Table___init__) := ⟨rfl, rfl, rfl, by decide +kernel, rfl, by decide +kernel, by decide +kernel⟩
abbrev s_Table_mine : Stmt := inClass (top 45) 1
theorem sc_Table_mine : FnScope ["self"] ["self"] (defScope s_Table_mine) := ⟨rfl, rfl, rfl, by decide +kernel, rfl, by decide +kernel, by decide +kernel⟩
abbrev s_Table_yours : Stmt := inClass (top 45) 2
theorem sc_Table_yours : FnScope ["self"] ["self"] (defScope s_Table_yours) := ⟨rfl, rfl, rfl, by decide +kernel, rfl, by decide +kernel, by decide +kernel⟩
abbrev s_Table_worth : Stmt := inClass (top 45) 3
theorem sc_Table_worth : FnScope ["self", "a", "b"] ["self", "a", "b"] (defScope s_Table_worth) := ⟨rfl, rfl, rfl, by decide +kernel, rfl, by decide +kernel, by decide +kernel⟩
abbrev s_Table_turned : Stmt := inClass (top 45) 4
theorem sc_Table_turned : FnScope ["self", "other_way", "both", "a", "b"] ["self"] (defScope s_Table_turned) := ⟨rfl, rfl, rfl, by decide +kernel, rfl, by decide +kernel, by decide +kernel⟩
abbrev s_Table___eq__ : Stmt := inClass (top 45) 5
theorem sc_Table___eq : FnScope ["self", "other", "sides"] ["self", "other"] (defScope s_Table___eq__) := ⟨rfl, rfl, rfl, by decide +kernel, rfl, by decide +kernel, by decide +kernel⟩
abbrev s_floor : Stmt := top 46
theorem sc_floor : FnScope ["table", "most", "least", "a", "b"] ["table"] (defScope s_floor) := ⟨rfl, rfl, rfl, by decide +kernel, rfl, by decide +kernel, by decide +kernel⟩
abbrev s_best : Stmt := top 47
theorem sc_best : FnScope ["table", "player", "pairs", "most", "mine", "yours", "word", "letters", "a", "b", "pair"] ["table", "player"] (defScope s_best) := ⟨rfl, rfl, rfl, by decide +kernel, rfl, by decide +kernel, by decide +kernel⟩
abbrev s_law_begin : Stmt := top 49
theorem sc_law_begin : FnScope ["script", "cells", "cell"] ["script"] (defScope s_law_begin) := ⟨rfl, rfl, rfl, by decide +kernel, rfl, by decide +kernel, by decide +kernel⟩
abbrev s_law_take : Stmt := top 50
theorem sc_law_take : FnScope ["draw", "size", "cells", "here", "cell"] ["draw", "size"] (defScope s_law_take) := ⟨rfl, rfl, rfl, by decide +kernel, rfl, by decide +kernel, by decide +kernel⟩
abbrev s_law_pick : Stmt := top 51
theorem sc_law_pick : FnScope ["draw", "some"] ["draw", "some"] (defScope s_law_pick) := ⟨rfl, rfl, rfl, by decide +kernel, rfl, by decide +kernel, by decide +kernel⟩
abbrev s_law_words : Stmt := top 52
theorem sc_law_words : FnScope ["draw", "many", "signs", "found", "k", "word", "some", "sign", "j", "one"] ["draw", "many"] (defScope s_law_words) := ⟨rfl, rfl, rfl, by decide +kernel, rfl, by decide +kernel, by decide +kernel⟩
abbrev s_law_sides : Stmt := top 53
theorem sc_law_sides : FnScope ["draw", "many", "mine", "yours"] ["draw", "many"] (defScope s_law_sides) := ⟨rfl, rfl, rfl, by decide +kernel, rfl, by decide +kernel, by decide +kernel⟩
abbrev s_law_worths : Stmt := top 54
theorem sc_law_worths : FnScope ["draw", "mine", "yours", "wide", "found", "own", "word"] ["draw", "mine", "yours"] (defScope s_law_worths) := ⟨rfl, rfl, rfl, by decide +kernel, rfl, by decide +kernel, by decide +kernel⟩
abbrev s_law_turned : Stmt := top 55
theorem sc_law_turned : FnScope ["draw", "worths", "left", "found", "pair"] ["draw", "worths"] (defScope s_law_turned) := ⟨rfl, rfl, rfl, by decide +kernel, rfl, by decide +kernel, by decide +kernel⟩
abbrev s_law_other_way : Stmt := top 56
theorem sc_law_other_way : FnScope ["worths", "pair"] ["worths"] (defScope s_law_other_way) := ⟨rfl, rfl, rfl, by decide +kernel, rfl, by decide +kernel, by decide +kernel⟩
abbrev s_law_floor : Stmt := top 57
theorem sc_law_floor : FnScope ["mine", "yours", "worths", "most", "own", "word"] ["mine", "yours", "worths"] (defScope s_law_floor) := ⟨rfl, rfl, rfl, by decide +kernel, rfl, by decide +kernel, by decide +kernel⟩
abbrev s_law_drawn : Stmt := top 58
theorem sc_law_drawn : FnScope ["draw", "own", "words", "lines", "down", "k", "one", "other", "level", "picks", "move", "word"] ["draw", "own", "words"] (defScope s_law_drawn) := ⟨rfl, rfl, rfl, by decide +kernel, rfl, by decide +kernel, by decide +kernel⟩
abbrev s_law_grim : Stmt := top 59
theorem sc_law_grim : FnScope ["own", "move", "word", "other", "k", "lines", "by_move", "one"] ["own", "move", "word", "other", "k"] (defScope s_law_grim) := ⟨rfl, rfl, rfl, by decide +kernel, rfl, by decide +kernel, by decide +kernel⟩
abbrev s_law_marks : Stmt := top 60
theorem sc_law_marks : FnScope ["parts", "lines", "met", "left", "here"] ["parts"] (defScope s_law_marks) := ⟨rfl, rfl, rfl, by decide +kernel, rfl, by decide +kernel, by decide +kernel⟩
abbrev s_law_high : Stmt := top 61
theorem sc_law_high : FnScope ["parts", "here"] ["parts"] (defScope s_law_high) := ⟨rfl, rfl, rfl, by decide +kernel, rfl, by decide +kernel, by decide +kernel⟩
abbrev s_law_so : Stmt := top 62
theorem sc_law_so : FnScope ["lines", "here", "held", "ring", "line", "one"] ["lines", "here", "held", "ring"] (defScope s_law_so) := ⟨rfl, rfl, rfl, by decide +kernel, rfl, by decide +kernel, by decide +kernel⟩
abbrev s_law_done : Stmt := top 63
theorem sc_law_done : FnScope ["parts", "held", "move", "here"] ["parts", "held"] (defScope s_law_done) := ⟨rfl, rfl, rfl, by decide +kernel, rfl, by decide +kernel, by decide +kernel⟩
abbrev s_law_on : Stmt := top 64
theorem sc_law_on : FnScope ["parts", "held", "level", "ring", "found", "here", "word", "k", "inner"] ["parts", "held", "level", "ring"] (defScope s_law_on) := ⟨rfl, rfl, rfl, by decide +kernel, rfl, by decide +kernel, by decide +kernel⟩
abbrev s_law_step : Stmt := top 65
theorem sc_law_step : FnScope ["parts", "stand", "letter", "held", "later", "here"] ["parts", "stand", "letter"] (defScope s_law_step) := ⟨rfl, rfl, rfl, by decide +kernel, rfl, by decide +kernel, by decide +kernel⟩
abbrev s_law_move : Stmt := top 66
theorem sc_law_move : FnScope ["parts", "stand"] ["parts", "stand"] (defScope s_law_move) := ⟨rfl, rfl, rfl, by decide +kernel, rfl, by decide +kernel, by decide +kernel⟩
abbrev s_law_still : Stmt := top 67
theorem sc_law_still : FnScope ["parts", "stand", "letter"] ["parts", "stand", "letter"] (defScope s_law_still) := ⟨rfl, rfl, rfl, by decide +kernel, rfl, by decide +kernel, by decide +kernel⟩
abbrev s_law_plainly : Stmt := top 68
theorem sc_law_plainly : FnScope ["parts", "letters", "tail", "many", "marks", "inners", "found", "level", "here", "held", "ring"] ["parts", "letters", "tail", "many"] (defScope s_law_plainly) := ⟨rfl, rfl, rfl, by decide +kernel, rfl, by decide +kernel, by decide +kernel⟩
abbrev s_law_led_on : Stmt := top 69
theorem sc_law_led_on : FnScope ["draw", "parts", "yours", "stand", "word", "away", "letter", "one"] ["draw", "parts", "yours"] (defScope s_law_led_on) := ⟨rfl, rfl, rfl, by decide +kernel, rfl, by decide +kernel, by decide +kernel⟩
abbrev s_law_player_right : Stmt := top 70
theorem sc_law_player_right : FnScope ["draw", "sheet", "sides", "worths", "parts", "mine", "yours", "word", "move", "one", "most", "answer", "least", "many", "told"] ["draw", "sheet", "sides", "worths", "parts"] (defScope s_law_player_right) := ⟨rfl, rfl, rfl, by decide +kernel, rfl, by decide +kernel, by decide +kernel⟩
abbrev s_law_holds_there : Stmt := top 71
theorem sc_law_holds_there : FnScope ["sheet", "mine", "least", "move", "one"] ["sheet", "mine"] (defScope s_law_holds_there) := ⟨rfl, rfl, rfl, by decide +kernel, rfl, by decide +kernel, by decide +kernel⟩
abbrev s_law_any_player : Stmt := top 72
theorem sc_law_any_player : FnScope ["draw", "own", "words"] ["draw", "own", "words"] (defScope s_law_any_player) := ⟨rfl, rfl, rfl, by decide +kernel, rfl, by decide +kernel, by decide +kernel⟩
abbrev s_law : Stmt := top 73
theorem sc_law : FnScope ["script", "draw", "turn", "mine", "yours", "worths", "sheet", "k", "parts"] ["script"] (defScope s_law) := ⟨rfl, rfl, rfl, by decide +kernel, rfl, by decide +kernel, by decide +kernel⟩
end Lk

set_option maxHeartbeats 4000000
namespace Lk
open PySem L2
/-! ### what stands in the written part, whatever the heap is -/
def KTup (K : PySem.W.Frag) (a : Addr) (xs : List V) : Prop :=
  ∃ (o : Obj) (its : Array Value) (n : Nat), K.lookup a = some o ∧ o.cls = .type "tuple" ∧ o.data = .seq its n ∧ its.size ≤ sizeLine ∧ Vals xs its.toList
theorem KTup.sq {K : PySem.W.Frag} {a : Addr} {xs : List V} (h : KTup K a xs) (H : Hp) : SqT K H a xs := .inr h
def rnTab : List (Str × List Int) := [("false", []), ("does", []), ("not", [1]), ("and", [1, 2]), ("or", [1, 2]), ("shown", [2])]
def szTab : List (Str × Int) := [("false", 1), ("does", 3), ("not", 2), ("and", 3), ("or", 3), ("shown", 3)]
abbrev az : Str := "abcdefghijklmnopqrstuvwxyz"
/-- the module's names: built-in ones that it does not bind, its constants, its classes (the classes' addresses cP, cG, cT) -/
structure Txt (K : PySem.W.Frag) (w : World) (mg : Str → Option Value) (cP cG cT : Addr) : Prop where
  len_ : mg "len" = none
  isinstance_ : mg "isinstance" = none
  all_ : mg "all" = none
  enumerate_ : mg "enumerate" = none
  range_ : mg "range" = none
  max_ : mg "max" = none
  min_ : mg "min" = none
  sorted_ : mg "sorted" = none
  tuple_ : mg "tuple" = none
  list_ : mg "list" = none
  dict_ : mg "dict" = none
  set_ : mg "set" = none
  zip_ : mg "zip" = none
  abs_ : mg "abs" = none
  int_ : mg "int" = none
  bool_ : mg "bool" = none
  str_ : mg "str" = none
  MOST_ROWS : ∃ t, mg "MOST_ROWS" = some (.int 2000 t)
  MOST_FURTHER : ∃ t, mg "MOST_FURTHER" = some (.int 3 t)
  MOST_K : ∃ t, mg "MOST_K" = some (.int 99 t)
  LONGEST : ∃ t, mg "LONGEST" = some (.int 8 t)
  MOST_WORTH : ∃ t, mg "MOST_WORTH" = some (.int 1000 t)
  LETTERS : ∃ t, mg "LETTERS" = some (.str az t)
  SEATS : ∃ a, mg "SEATS" = some (.ref a) ∧ KTup K a [.int 0, .int 1]
  ROWS_NAMED : ∃ d, mg "ROWS_NAMED" = some (.ref d) ∧ ∀ z xs, rnTab.lookup z = some xs → ∃ a, KDct K w d z (.ref a) ∧ KTup K a (xs.map V.int)
  SIZES : ∃ d, mg "SIZES" = some (.ref d) ∧ (∃ es n, KDict K w d es n) ∧ ∀ z x, szTab.lookup z = some x → KDct K w d z (.int x)
  Player : mg "Player" = some (.ref cP)
  Gait : mg "Gait" = some (.ref cG)
  Table : mg "Table" = some (.ref cT)
  clP : Cls K cP
  clG : Cls K cG
  clT : Cls K cT
  isP : PySem.W.findIn K (.ref cP) "__class__" = some (some (.builtin "object.__class__")) ∧ PySem.W.specialIn K (.builtin "object.__class__") "__get__" = some (some (.builtin "getset_descriptor.__get__")) ∧ PySem.W.takesIn K (.builtin "object.__class__") = some true ∧
    PySem.W.mroIn K cP (.type "object") = some true ∧ PySem.W.kitOne K (.ref cP) (.ref cP) = some true
  naP : ∀ f ∈ (["ways", "lines", "picks", "cone"] : List Str), NoAttr K cP f
  naG : ∀ f ∈ (["walker", "marks", "high"] : List Str), NoAttr K cG f
  naT : ∀ f ∈ (["left_moves", "right_moves", "by_pair"] : List Str), NoAttr K cT f

/-! ### a def of the text, as it is called -/
section
variable {P : Program} {w : World} {K : PySem.W.Frag} {mg : Str → Option Value} {base : Heap}
structure Cal (P : Program) (w : World) (K : PySem.W.Frag) (mg : Str → Option Value) (base : Heap) (x : Str) (k : Nat) (ps : List Str) (sp : Sp) : Prop where
  ex : ∃ (f : Addr) (fd : FuncData), mg x = some (.ref f) ∧ PySem.W.keepIn K (.ref f) = true ∧ Binds K fd ps [] ∧ FnOk P w K mg base CX0 k f fd ps sp
structure Mth (P : Program) (w : World) (K : PySem.W.Frag) (mg : Str → Option Value) (base : Heap) (C : Addr) (x : Str) (k : Nat) (ps : List Str) (sp : Sp) : Prop where
  ex : ∃ (f : Addr) (fd : FuncData), Meth K C x f ∧ Binds K fd ps [] ∧ FnOk P w K mg base CX0 k f fd ps sp
structure Mak (P : Program) (w : World) (K : PySem.W.Frag) (mg : Str → Option Value) (base : Heap) (C : Addr) (x : Str) (k : Nat) (ps : List Str) (sp : Sp) : Prop where
  gl : mg x = some (.ref C)
  ex : ∃ (f : Addr) (fd : FuncData), Mk K C f ∧ Binds K fd ps [] ∧ FnOk P w K mg base CX0 k f fd ps sp
end
section
variable {X : Cx} {x : Str} {j k : Nat} {ps : List Str} {sp : Sp} {e o : Expr} {es : List Expr} {p pos apos : Pos} {t : TA} {ta : TE} {C : Addr} {m : Str}
theorem pe_cal (F : Cal X.prog X.w X.K X.mg X.base x j ps sp) (hr : Room k X.A) (ha : PA X (e :: es) t) (hjk : j ≤ k := by decide) (hg : Gl X x := by rfl) (hdb : (x == ("__debug__" : Str)) = false := by decide)
    (he : starEach (e :: es) X.env = (false, eval e X.env) :: starEach es X.env := by rfl) (hpl : (backTo pos (starEach es X.env)).any (·.1) = false := by rfl) :
    PE X (.Call (.Name x p) (e :: es) [] pos) (tCall sp [] E0 t) := by
  obtain ⟨f, fd, h1, h2, h3, h4⟩ := F.ex
  exact pe_call h4 (hr.mono hjk) hg h1 h2 h3 .nil pass0 ha hdb he hpl
theorem pe_mth {pl : Sem Bool} (c : Cls X.K C) (F : Mth X.prog X.w X.K X.mg X.base C m j ps sp) (hr : Room k X.A) (ho : PE X o ta) (ha : PA X (e :: es) t) (hjk : j ≤ k := by decide)
    (hst : starEach (e :: es) X.env = (false, eval e X.env) :: starEach es X.env := by rfl) (hpl : (backTo pos (starEach es X.env)).any (·.1) = false := by rfl)
    (ht : eval (.Call (.Attribute o m apos) (e :: es) [] pos) X.env = (do
      let ov ← eval o X.env
      standAt apos.atName
      let (f, first) ← holding [ov] (getMethod ov m pl)
      callWith pos f first (backTo pos (starEach (e :: es) X.env)) (backToKw pos (keywordEach [] X.env))) := by rfl) :
    PE X (.Call (.Attribute o m apos) (e :: es) [] pos) (tMeth C m sp [] E0 ta t) := by
  obtain ⟨f, fd, h1, h2, h3⟩ := F.ex
  exact pe_meth ho c h1 h3 (hr.mono hjk) h2 .nil pass0 ha hst hpl ht
theorem pe_mth0 {pl : Sem Bool} (c : Cls X.K C) (F : Mth X.prog X.w X.K X.mg X.base C m j ps sp) (hr : Room k X.A) (ho : PE X o ta) (hjk : j ≤ k := by decide)
    (ht : eval (.Call (.Attribute o m apos) [] [] pos) X.env = (do
      let ov ← eval o X.env
      standAt apos.atName
      let (f, first) ← holding [ov] (getMethod ov m pl)
      callWith pos f first (backTo pos (starEach [] X.env)) (backToKw pos (keywordEach [] X.env))) := by rfl) :
    PE X (.Call (.Attribute o m apos) [] [] pos) (tMeth C m sp [] E0 ta tNil) := by
  obtain ⟨f, fd, h1, h2, h3⟩ := F.ex
  exact pe_meth0 ho c h1 h3 (hr.mono hjk) h2 .nil pass0 ht
theorem pe_mak (F : Mak X.prog X.w X.K X.mg X.base C x j ps sp) (hr : Room k X.A) (ha : PA X (e :: es) t) (hjk : j + 1 ≤ k := by decide) (hg : Gl X x := by rfl) (hdb : (x == ("__debug__" : Str)) = false := by decide)
    (he : starEach (e :: es) X.env = (false, eval e X.env) :: starEach es X.env := by rfl) (hpl : (backTo pos (starEach es X.env)).any (·.1) = false := by rfl) :
    PE X (.Call (.Name x p) (e :: es) [] pos) (tMake C sp [] E0 t) := by
  obtain ⟨f, fd, h1, h2, h3⟩ := F.ex
  exact pe_make h1 h3 (hr.mono hjk) hg F.gl h2 .nil pass0 ha hdb he hpl
end
/-! ### built-in names -/
theorem b_len : bootBuiltins "len" = some (.builtin "len") := by decide +kernel
theorem b_isinstance : bootBuiltins "isinstance" = some (.builtin "isinstance") := by decide +kernel
theorem b_all : bootBuiltins "all" = some (.builtin "all") := by decide +kernel
theorem b_max : bootBuiltins "max" = some (.builtin "max") := by decide +kernel
theorem b_min : bootBuiltins "min" = some (.builtin "min") := by decide +kernel
theorem b_sorted : bootBuiltins "sorted" = some (.builtin "sorted") := by decide +kernel
theorem b_abs : bootBuiltins "abs" = some (.builtin "abs") := by decide +kernel
theorem b_tuple : bootBuiltins "tuple" = some (.type "tuple") := by decide +kernel
theorem b_list : bootBuiltins "list" = some (.type "list") := by decide +kernel
theorem b_dict : bootBuiltins "dict" = some (.type "dict") := by decide +kernel
theorem b_set : bootBuiltins "set" = some (.type "set") := by decide +kernel
theorem b_zip : bootBuiltins "zip" = some (.type "zip") := by decide +kernel
theorem b_int : bootBuiltins "int" = some (.type "int") := by decide +kernel
theorem b_bool : bootBuiltins "bool" = some (.type "bool") := by decide +kernel
theorem b_str : bootBuiltins "str" = some (.type "str") := by decide +kernel
theorem b_range : bootBuiltins "range" = some (.type "range") := by decide +kernel
theorem b_enumerate : bootBuiltins "enumerate" = some (.type "enumerate") := by decide +kernel
section
variable {X : Cx} {cP cG cT : Addr} {pos : Pos} (T : Txt X.K X.w X.mg cP cG cT)
include T
theorem ty_int (hg : Gl X "int" := by rfl) : PE X (.Name "int" pos) (tC (.ty "int")) := pe_bltn hg T.int_ b_int rfl
theorem ty_bool (hg : Gl X "bool" := by rfl) : PE X (.Name "bool" pos) (tC (.ty "bool")) := pe_bltn hg T.bool_ b_bool rfl
theorem ty_str (hg : Gl X "str" := by rfl) : PE X (.Name "str" pos) (tC (.ty "str")) := pe_bltn hg T.str_ b_str rfl
theorem ty_list (hg : Gl X "list" := by rfl) : PE X (.Name "list" pos) (tC (.ty "list")) := pe_bltn hg T.list_ b_list rfl
theorem ty_tuple (hg : Gl X "tuple" := by rfl) : PE X (.Name "tuple" pos) (tC (.ty "tuple")) := pe_bltn hg T.tuple_ b_tuple rfl
theorem ty_dict (hg : Gl X "dict" := by rfl) : PE X (.Name "dict" pos) (tC (.ty "dict")) := pe_bltn hg T.dict_ b_dict rfl
end
/-! ### the module's constants, as they are named -/
section
variable {X : Cx} {cP cG cT : Addr} {pos : Pos} {n : Int} {x : Str}
theorem gl_int (h : ∃ t, X.mg x = some (.int n t)) (hg : Gl X x) (hd : (x == ("__debug__" : Str)) = false) : PE X (.Name x pos) (tC (.int n)) := by
  obtain ⟨t, h⟩ := h
  exact pe_glob hg h ⟨t, rfl⟩ hd
variable (T : Txt X.K X.w X.mg cP cG cT)
include T
theorem gl_MOST_ROWS (hg : Gl X "MOST_ROWS" := by rfl) : PE X (.Name "MOST_ROWS" pos) (tC (.int 2000)) := gl_int T.MOST_ROWS hg (by decide)
theorem gl_MOST_FURTHER (hg : Gl X "MOST_FURTHER" := by rfl) : PE X (.Name "MOST_FURTHER" pos) (tC (.int 3)) := gl_int T.MOST_FURTHER hg (by decide)
theorem gl_MOST_K (hg : Gl X "MOST_K" := by rfl) : PE X (.Name "MOST_K" pos) (tC (.int 99)) := gl_int T.MOST_K hg (by decide)
theorem gl_LONGEST (hg : Gl X "LONGEST" := by rfl) : PE X (.Name "LONGEST" pos) (tC (.int 8)) := gl_int T.LONGEST hg (by decide)
theorem gl_MOST_WORTH (hg : Gl X "MOST_WORTH" := by rfl) : PE X (.Name "MOST_WORTH" pos) (tC (.int 1000)) := gl_int T.MOST_WORTH hg (by decide)
theorem gl_LETTERS (hg : Gl X "LETTERS" := by rfl) : PE X (.Name "LETTERS" pos) (tC (.str az)) := by
  obtain ⟨t, h⟩ := T.LETTERS
  exact pe_glob hg h ⟨t, rfl⟩ (by decide)
theorem gl_SEATS (hg : Gl X "SEATS" := by rfl) : PE X (.Name "SEATS" pos) (tC (.ref (T.SEATS.choose))) := pe_glob hg T.SEATS.choose_spec.1 rfl (by decide)
theorem gl_ROWS_NAMED (hg : Gl X "ROWS_NAMED" := by rfl) : PE X (.Name "ROWS_NAMED" pos) (tC (.ref (T.ROWS_NAMED.choose))) := pe_glob hg T.ROWS_NAMED.choose_spec.1 rfl (by decide)
theorem gl_SIZES (hg : Gl X "SIZES" := by rfl) : PE X (.Name "SIZES" pos) (tC (.ref (T.SIZES.choose))) := pe_glob hg T.SIZES.choose_spec.1 rfl (by decide)
theorem gl_Player (hg : Gl X "Player" := by rfl) : PE X (.Name "Player" pos) (tC (.ref cP)) := pe_glob hg T.Player rfl (by decide)
end
/-! ### heaps -/
theorem same_new {H : Hp} {p : Addr} {o : HO} (h : H p = none) : Same H (upd H p o) := fun a u e => by
  rw [upd_ne (ne_of_none e h)]
  exact e
/-- an object that H does not know may change -/
theorem same_mut {H H' : Hp} {p : Addr} {o : HO} (e : Same H H') (h : H p = none) : Same H (upd H' p o) := fun a u ha => by
  rw [upd_ne (ne_of_none ha h)]
  exact e a u ha
theorem same_rd {H H' : Hp} {a : Addr} {u : HO} (e : Same H H') (h : Rd H a u) : Rd H' a u := by
  rcases h with h | ⟨o, h⟩
  · exact Or.inl (e a _ h)
  · exact Or.inr ⟨o, e a _ h⟩
theorem same_t {K : PySem.W.Frag} {H H' : Hp} {a : Addr} {xs : List V} (e : Same H H') (h : SqT K H a xs) : SqT K H' a xs := by
  rcases h with h | h
  · exact Or.inl (same_rd e h)
  · exact Or.inr h
theorem same_l {K : PySem.W.Frag} {H H' : Hp} {a : Addr} {xs : List V} (e : Same H H') (h : SqL K H a xs) : SqL K H' a xs := by
  rcases h with h | h
  · exact Or.inl (same_rd e h)
  · exact Or.inr h
/-- a list or a tuple -/
def Sq (K : PySem.W.Frag) (H : Hp) (a : Addr) (xs : List V) : Prop := SqL K H a xs ∨ SqT K H a xs
theorem same_s {K : PySem.W.Frag} {H H' : Hp} {a : Addr} {xs : List V} (e : Same H H') (h : Sq K H a xs) : Sq K H' a xs := h.imp (same_l e) (same_t e)
theorem sz_le {n : Nat} (h : n ≤ 100000) : n ≤ sizeLine := Nat.le_trans h (by decide)
theorem sz_lt {n : Nat} (h : n < 100000) : n < sizeLine := Nat.lt_of_lt_of_le h (by decide)
theorem tyx_sq {K : PySem.W.Frag} {H : Hp} {a : Addr} {xs : List V} (h : Sq K H a xs) : TyX K H (.ref a) (.type "list") ∨ TyX K H (.ref a) (.type "tuple") := by
  rcases h with ((h | ⟨o, h⟩) | ⟨o, its, n, h, hc, _⟩) | ((h | ⟨o, h⟩) | ⟨o, its, n, h, hc, _⟩)
  · exact .inl (.base (.lst h))
  · exact .inl (.base (.frz h))
  · exact .inl (.kList h hc)
  · exact .inr (.base (.tup h))
  · exact .inr (.fTuple h)
  · exact .inr (.kTuple h hc)
theorem tyx_t {K : PySem.W.Frag} {H : Hp} {a : Addr} {xs : List V} (h : SqT K H a xs) : TyX K H (.ref a) (.type "tuple") := by
  rcases h with (h | ⟨o, h⟩) | ⟨o, its, n, h, hc, _⟩
  · exact (.base (.tup h))
  · exact (.fTuple h)
  · exact (.kTuple h hc)
/-! ### a comprehension whose items and tests change nothing but new objects -/
theorem range_fm (xs : List V) (f : V → Option V) : (List.range xs.length).filterMap (fun i => (xs[i]?).bind f) = xs.filterMap f := by
  induction xs with
  | nil => rfl
  | cons x r ih =>
    rw [List.length_cons, List.range_succ_eq_map, List.filterMap_cons, List.filterMap_map]
    have e : ((fun i => ((x :: r)[i]?).bind f) ∘ Nat.succ) = fun i => (r[i]?).bind f := by funext i; simp
    rw [e, ih]
    cases h : f x <;> simp [h]
section
variable {J : It} {n : Nat} {G : Hp → Prop} {Y : Nat → Hp → V → Hp → Prop}
variable {K : PySem.W.Frag} {a : Addr} {xs : List V} {g : TG} {tt : TT} {te : TE} {vs : List Nat} {σ : St} {H1 : Hp} {D : Addr} {Qd : Hp → Prop}
theorem lcW_fm (w : Walk J n G Y) (f : Nat → Option V) (hD : H1 D = none) (hn : n ≤ 100000) (hG : ∀ H, Same H1 H → G H)
    (hs : ∀ i x H H', i < n → Same H1 H → Y i H x H' → ∀ (K1 : V → Hp → Prop) (K0 : Hp → Prop), (∀ y H'', f i = some y → Same H H'' → K1 y H'') → (∀ H'', f i = none → Same H H'' → K0 H'') →
      g x (wipe σ vs) H' fun σ2 H2 => wipe σ2 vs = wipe σ vs ∧ tt σ2 H2 fun b H3 => if b = true then te σ2 H3 K1 else K0 H3)
    (hd : ∀ H, Same H1 H → H D = some (.lst ((List.range n).filterMap f)) → Qd H) :
    ∃ W : Nat → Nat → Hp → Prop, (∃ m, W 0 m (upd H1 D (.lst []))) ∧ ∀ i m H, W i m H →
      (J.stop i H ∧ Qd H) ∨ (J.go i H ∧ ∃ Nx : Hp → Prop, (∀ H', Nx H' → ∃ m', m' < m ∧ W (i + 1) m' H') ∧ ∀ x H', J.yld i H x H' → g x (wipe σ vs) H' fun σ2 H2 => wipe σ2 vs = wipe σ vs ∧ tt σ2 H2 fun b H3 =>
        if b = true then te σ2 H3 fun y H4 => ∃ acc, H4 D = some (.lst acc) ∧ acc.length < sizeLine ∧ Nx (upd H4 D (.lst (acc ++ [y]))) else Nx H3) := by
  refine lc_it w (fun i H => Same H1 H ∧ H D = some (.lst ((List.range i).filterMap f))) ⟨same_new hD, by rw [upd_same]; rfl⟩ (fun i H _ h => hG H h.1) (fun i x H H' hi h y => ?_) (fun H h => hd H h.1 h.2)
  obtain ⟨s, hl⟩ := h
  have et : (List.range (i + 1)).filterMap f = (List.range i).filterMap f ++ (f i).toList := by
    rw [List.range_succ, List.filterMap_append]
    cases e : f i <;> simp [e]
  refine hs i x H H' hi s y _ _ (fun y H' e s' => ?_) (fun H' e s' => ?_)
  · refine ⟨_, s' _ _ hl, ?_, same_mut (s.trans s') hD, ?_⟩
    · refine sz_lt (Nat.lt_of_le_of_lt (List.length_filterMap_le _ _) ?_)
      rw [List.length_range]
      omega
    · rw [upd_same, et, e]; rfl
  · refine ⟨s.trans s', ?_⟩
    rw [s' _ _ hl, et, e]; simp
theorem lcT_fm (f : V → Option V) (hD : H1 D = none) (hsrc : SqT K H1 a xs) (hlen : xs.length ≤ 100000)
    (hs : ∀ (i : Nat) x H, xs[i]? = some x → Same H1 H → ∀ (K1 : V → Hp → Prop) (K0 : Hp → Prop), (∀ y H', f x = some y → Same H H' → K1 y H') → (∀ H', f x = none → Same H H' → K0 H') →
      g x (wipe σ vs) H fun σ2 H2 => wipe σ2 vs = wipe σ vs ∧ tt σ2 H2 fun b H3 => if b = true then te σ2 H3 K1 else K0 H3)
    (hd : ∀ H, Same H1 H → H D = some (.lst (xs.filterMap f)) → Qd H) :
    ∃ W : Nat → Nat → Hp → Prop, (∃ m, W 0 m (upd H1 D (.lst []))) ∧ ∀ i m H, W i m H → ((Itt K a).stop i H ∧ Qd H) ∨ ((Itt K a).go i H ∧ ∃ Nx : Hp → Prop, (∀ H', Nx H' → ∃ m', m' < m ∧ W (i + 1) m' H') ∧
      ∀ x H', (Itt K a).yld i H x H' → g x (wipe σ vs) H' fun σ2 H2 => wipe σ2 vs = wipe σ vs ∧ tt σ2 H2 fun b H3 => if b = true then te σ2 H3 fun y H4 => ∃ acc, H4 D = some (.lst acc) ∧ acc.length < sizeLine ∧ Nx (upd H4 D (.lst (acc ++ [y]))) else Nx H3) := by
  refine lcW_fm (w := walk_tup (K := K) (a := a) (xs := xs)) (fun i => (xs[i]?).bind f) hD hlen (fun H s => same_t s hsrc) (fun i x H H' hi s y K1 K0 h1 h0 => ?_) (fun H s e => hd H s (by rw [e, range_fm]))
  obtain ⟨rfl, hx⟩ := y
  exact hs i x H' hx s K1 K0 (fun y H'' e => h1 y H'' (by rw [hx]; exact e)) (fun H'' e => h0 H'' (by rw [hx]; exact e))
theorem lcL_fm (f : V → Option V) (hD : H1 D = none) (hsrc : SqL K H1 a xs) (hlen : xs.length ≤ 100000)
    (hs : ∀ (i : Nat) x H, xs[i]? = some x → Same H1 H → ∀ (K1 : V → Hp → Prop) (K0 : Hp → Prop), (∀ y H', f x = some y → Same H H' → K1 y H') → (∀ H', f x = none → Same H H' → K0 H') →
      g x (wipe σ vs) H fun σ2 H2 => wipe σ2 vs = wipe σ vs ∧ tt σ2 H2 fun b H3 => if b = true then te σ2 H3 K1 else K0 H3)
    (hd : ∀ H, Same H1 H → H D = some (.lst (xs.filterMap f)) → Qd H) :
    ∃ W : Nat → Nat → Hp → Prop, (∃ m, W 0 m (upd H1 D (.lst []))) ∧ ∀ i m H, W i m H → ((Itl K a).stop i H ∧ Qd H) ∨ ((Itl K a).go i H ∧ ∃ Nx : Hp → Prop, (∀ H', Nx H' → ∃ m', m' < m ∧ W (i + 1) m' H') ∧
      ∀ x H', (Itl K a).yld i H x H' → g x (wipe σ vs) H' fun σ2 H2 => wipe σ2 vs = wipe σ vs ∧ tt σ2 H2 fun b H3 => if b = true then te σ2 H3 fun y H4 => ∃ acc, H4 D = some (.lst acc) ∧ acc.length < sizeLine ∧ Nx (upd H4 D (.lst (acc ++ [y]))) else Nx H3) := by
  refine lcW_fm (w := walk_list (K := K) (a := a) (xs := xs)) (fun i => (xs[i]?).bind f) hD hlen (fun H s => same_l s hsrc) (fun i x H H' hi s y K1 K0 h1 h0 => ?_) (fun H s e => hd H s (by rw [e, range_fm]))
  obtain ⟨rfl, hx⟩ := y
  exact hs i x H' hx s K1 K0 (fun y H'' e => h1 y H'' (by rw [hx]; exact e)) (fun H'' e => h0 H'' (by rw [hx]; exact e))
end
end Lk

set_option maxHeartbeats 4000000
namespace Lk
open PySem PySem.Spec PyProof.Rows PySem.W L2
/-! ### a, *b = a tuple | a list -/
section
variable {prog : Program} {w : World} {A : Around} {E : Value → Shared → Prop} {s : Shared}
theorem star_T {l : Addr} {items : Array Value} {n i : Nat} {Q : List Value → Shared → Prop} (hl : IsTup s.heap l items) (hh : A.handled = none) (hi : i < n) (hn : n ≤ items.size + 1) (hz : items.size ≤ 16384)
    (h : ∀ (h₂ : Heap) (tk : Nat), (∀ b o, s.heap.get? b = some o → h₂.get? b = some o) →
      Q (items.toList.take i ++ [.ref h₂.objs.size] ++ (items.toList.drop i).drop (items.size + 1 - n)) { s with heap := h₂.push { cls := .type "list", data := .seq ((items.toList.drop i).take (items.size + 1 - n)).toArray }, toks := tk }) :
    wpAny (model prog w) A (unpackItems (.ref l) n (some i)) Q E s := by
  have hlt : l ≠ s.heap.objs.size := by obtain ⟨o, ho, _⟩ := hl; exact Nat.ne_of_lt (Heap.lt_size ho)
  unfold unpackItems
  refine wpAny_bind ?_
  unfold notIterableAtAll
  refine wpAny_bind (wpAny_specialOf hl.typeIs slot_tuple_iter.lookup ?_)
  refine wpAny_pure ?_
  simp only [Bool.false_eq_true, if_false]
  refine wpAny_bind (wpAny_holding (iter_tuple hl ?_))
  refine wpAny_bind (wpAny_holding (draw_tuple hlt i 0 _ _ ⟨_, Heap.get?_push_size _ rfl, rfl, rfl⟩ (hl.push _) (by omega) fun h₁ hit₁ hs₁ => ?_))
  have hl₁ : IsTup h₁ l items := (hl.push _).extBut hs₁.extBut hlt
  rw [Nat.zero_add] at hit₁
  have hit₁' := hit₁
  obtain ⟨oi, hoi, _⟩ := hit₁'
  have hl₁' := hl₁
  obtain ⟨ol, hol, _⟩ := hl₁'
  rw [List.drop_zero]
  have hfl : (items.toList.take i).length = i := by rw [List.length_take, Array.length_toList]; omega
  rw [if_neg (show ¬ ((items.toList.take i).length < i) by rw [hfl]; omega)]
  refine wpAny_bind (wpAny_holding (kun_collect (s := { s with heap := h₁ }) (T := "tuple_iterator") (.inr (.inr (.inr rfl))) (Walks.tuple (A := A.in1) hh s.heap.objs.size l hlt items) (fun j u st => st.1.typeIs) (k := i) (by omega) ⟨hit₁, hl₁⟩ (Heap.lt_size hoi) (Heap.lt_size hol) (fun h₂ tk hk => ?_) (by rw [sizeLine_eq]; omega)))
  have hrl : (items.toList.drop i).length = items.size - i := by rw [List.length_drop, Array.length_toList]
  have hmid : (items.toList.drop i).length - (n - 1 - i) = items.size + 1 - n := by rw [hrl]; omega
  show wpAny _ _ (if (items.toList.drop i).length < n - 1 - i then _ else _) _ _ _
  rw [if_neg (by rw [hrl]; omega)]
  show wpAny _ _ (newList ((items.toList.drop i).take ((items.toList.drop i).length - (n - 1 - i))) >>= fun d => pure (items.toList.take i ++ [d] ++ (items.toList.drop i).drop ((items.toList.drop i).length - (n - 1 - i)))) _ _ _
  rw [hmid]
  have he : Heap.ExtBut s.heap.objs.size s.heap h₂ := fun b o hb e => hk b o hb (hs₁.extBut b o hb (Heap.get?_push_of_some _ e))
  refine wpAny_bind (wpAny_newList (wpAny_pure (h h₂ tk (fun b o e => he b o (Nat.ne_of_lt (Heap.lt_size e)) e))) (by rw [List.length_take, hrl, sizeLine_eq]; omega))
theorem star_L {l : Addr} {items : Array Value} {n i : Nat} {Q : List Value → Shared → Prop} (hl : s.heap.IsList l items) (hh : A.handled = none) (hi : i < n) (hn : n ≤ items.size + 1) (hz : items.size ≤ 16384)
    (h : ∀ (h₂ : Heap) (tk : Nat), (∀ b o, s.heap.get? b = some o → h₂.get? b = some o) →
      Q (items.toList.take i ++ [.ref h₂.objs.size] ++ (items.toList.drop i).drop (items.size + 1 - n)) { s with heap := h₂.push { cls := .type "list", data := .seq ((items.toList.drop i).take (items.size + 1 - n)).toArray }, toks := tk }) :
    wpAny (model prog w) A (unpackItems (.ref l) n (some i)) Q E s := by
  have hlt : l ≠ s.heap.objs.size := by obtain ⟨o, ho, _⟩ := hl; exact Nat.ne_of_lt (Heap.lt_size ho)
  unfold unpackItems
  refine wpAny_bind ?_
  unfold notIterableAtAll
  refine wpAny_bind (wpAny_specialOf hl.typeIs slot_list_iter.lookup ?_)
  refine wpAny_pure ?_
  simp only [Bool.false_eq_true, if_false]
  refine wpAny_bind (wpAny_holding (wpAny_pyIter_list hl ?_))
  refine wpAny_bind (wpAny_holding (kun_draw hlt i 0 _ _ ⟨_, Heap.get?_push_size _ rfl, rfl, rfl⟩ (hl.push _) (by omega) fun h₁ hit₁ hs₁ => ?_))
  have hl₁ : h₁.IsList l items := (hl.push _).extBut hs₁.extBut hlt
  rw [Nat.zero_add] at hit₁
  have hit₁' := hit₁
  obtain ⟨oi, hoi, _⟩ := hit₁'
  have hl₁' := hl₁
  obtain ⟨ol, hol, _⟩ := hl₁'
  rw [List.drop_zero]
  have hfl : (items.toList.take i).length = i := by rw [List.length_take, Array.length_toList]; omega
  rw [if_neg (show ¬ ((items.toList.take i).length < i) by rw [hfl]; omega)]
  refine wpAny_bind (wpAny_holding (kun_collect (s := { s with heap := h₁ }) (T := "list_iterator") (.inr (.inr (.inl rfl))) (Walks.list (A := A.in1) hh s.heap.objs.size l hlt items) (fun j u st => st.1.typeIs) (k := i) (by omega) ⟨hit₁, hl₁⟩ (Heap.lt_size hoi) (Heap.lt_size hol) (fun h₂ tk hk => ?_) (by rw [sizeLine_eq]; omega)))
  have hrl : (items.toList.drop i).length = items.size - i := by rw [List.length_drop, Array.length_toList]
  have hmid : (items.toList.drop i).length - (n - 1 - i) = items.size + 1 - n := by rw [hrl]; omega
  show wpAny _ _ (if (items.toList.drop i).length < n - 1 - i then _ else _) _ _ _
  rw [if_neg (by rw [hrl]; omega)]
  show wpAny _ _ (newList ((items.toList.drop i).take ((items.toList.drop i).length - (n - 1 - i))) >>= fun d => pure (items.toList.take i ++ [d] ++ (items.toList.drop i).drop ((items.toList.drop i).length - (n - 1 - i)))) _ _ _
  rw [hmid]
  have he : Heap.ExtBut s.heap.objs.size s.heap h₂ := fun b o hb e => hk b o hb (hs₁.extBut b o hb (Heap.get?_push_of_some _ e))
  refine wpAny_bind (wpAny_newList (wpAny_pure (h h₂ tk (fun b o e => he b o (Nat.ne_of_lt (Heap.lt_size e)) e))) (by rw [List.length_take, hrl, sizeLine_eq]; omega))
end
section
variable {X : Cx}
/-- a, *b, .. = a tuple or a list: n targets, the i-th with the star -/
def gStar (K : PySem.W.Frag) (n i : Nat) (t : TGs) : TG := fun v σ H Q => ∃ a xs, v = .ref a ∧ Sq K H a xs ∧ n ≤ xs.length + 1 ∧ xs.length ≤ 16384 ∧
  ∀ D, H D = none → t (xs.take i ++ [.ref D] ++ (xs.drop i).drop (xs.length + 1 - n)) σ (upd H D (.lst ((xs.drop i).take (xs.length + 1 - n)))) Q
theorem pg_star {es : List Expr} {k : Nat} {t : TGs} {n i : Nat} {pos : Pos} (hc : X.calm = true) (h : PGs X es t)
    (hn : (assignEach es X.env).length = n := by rfl) (hst : (assignEach es X.env).findIdx? (·.1) = some i := by rfl) (hi : i < n := by decide) : PG X (.Tuple es k pos) (gStar X.K n i t) := by
  refine ⟨fun pins s σ H v u Q I r hw => ?_⟩
  obtain ⟨a, xs, e1, hq, hl, hz, hw⟩ := hw
  subst e1
  cases r
  rw [PyProof.Rows.assign_Tuple]
  refine wpAny_bind (wpAny_standAt ?_)
  unfold unpack
  rw [hn, hst]
  have go : ∀ (its : List Value), Vals xs its → ∀ (h₂ : Heap) (tk : Nat), (∀ b o, s.heap.get? b = some o → h₂.get? b = some o) →
      wpAny (model X.prog X.w) X.A (assignInOrder ((assignEach es X.env).map (·.2)) (its.toArray.toList.take i ++ [.ref h₂.objs.size] ++ (its.toArray.toList.drop i).drop (its.toArray.size + 1 - n)))
        (fun _ s' => ∃ σ' H', Inv X pins σ' H' s' ∧ Q σ' H') X.xe { s with heap := h₂.push { cls := .type "list", data := .seq ((its.toArray.toList.drop i).take (its.toArray.size + 1 - n)).toArray }, toks := tk } := by
    intro its rv h₂ tk kp
    have I2 : Inv X pins σ H { s with heap := h₂, toks := tk } := I.kept kp
    have hf : H h₂.objs.size = none := I2.hok.fresh (Nat.le_refl _)
    have len := rv.length
    have e1 : its.toArray.toList = its := by simp
    have e2 : its.toArray.size = xs.length := by simp [len]
    rw [e1, e2]
    have rd : Vals ((xs.drop i).take (xs.length + 1 - n)) ((its.drop i).take (xs.length + 1 - n)) := (rv.drop i).take _
    refine h.run pins _ σ (upd H h₂.objs.size (.lst ((xs.drop i).take (xs.length + 1 - n)))) (xs.take i ++ [.ref h₂.objs.size] ++ (xs.drop i).drop (xs.length + 1 - n)) _ Q (I2.laid (t' := tk) (fun b u e => Heap.get?_push_of_some _ e) (Nat.le_refl _) ?_) ?_ (hw _ hf)
    · refine ⟨?_, _, 0, rd, Heap.get?_push_size _ rfl⟩
      rw [List.length_take, List.length_drop, sizeLine_eq]
      omega
    · exact (Vals.append (Vals.append (rv.take i) (.cons rfl .nil)) ((rv.drop i).drop _))
  rcases hq with hq | hq
  · obtain ⟨its, rv, ht, _⟩ := I.list hq
    have len := rv.length
    exact wpAny_bind (wpAny_holding (star_L ht.isList (I.ok.hd hc) hi (by simp; omega) (by simp; omega) (go its rv)))
  · obtain ⟨its, rv, ht, _⟩ := I.tuple hq
    have len := rv.length
    exact wpAny_bind (wpAny_holding (star_T ht (I.ok.hd hc) hi (by simp; omega) (by simp; omega) (go its rv)))
/-- the starred one of the targets -/
theorem pgs_star {e : Expr} {es : List Expr} {t : TG} {u : TGs} {p : Pos} (h1 : PG X e t) (h2 : PGs X es u)
    (hs : (assignEach (.Starred e p :: es) X.env).map (·.2) = assign e X.env :: (assignEach es X.env).map (·.2) := by rfl) : PGs X (.Starred e p :: es) (gCons t u) := by
  refine ⟨fun pins s σ H vs us Q I r h => ?_⟩
  obtain ⟨v, vr, e1, h⟩ := h
  subst e1
  cases r with
  | cons r rr =>
    rw [hs]
    refine assignInOrder_cons (thn (h1.run pins s σ H _ _ _ I r h) fun _ s1 ⟨σ1, H1, I1, q1⟩ => ?_)
    exact h2.run pins s1 σ1 H1 _ _ Q I1 rr q1
end
/-! ### (x, ..) * k, any k to a thousand -/
theorem tuple_mul0 (l : Addr) (items : Array Value) (n : Nat) (dd : Option Addr) (sl : Array (Option Value)) (x : Int) (u : Tok) (c0 : (decide (x < -(2 ^ 63)) || decide (x ≥ 2 ^ 63)) = false) (c1 : (items.isEmpty || x == 1) = false) (c2 : (decide (x ≤ 0) || items.isEmpty) = true) :
    Meets (Builtin.«tuple.__mul__» ⟨[.ref l, .int x u], []⟩) (fun _ R s => s.heap.get? l = some { cls := .type "tuple", dict := dd, data := .seq items n, slots := sl } ∧
      R (.ok (.ret (Value.ref s.heap.objs.size))) { s with heap := s.heap.push { cls := Value.type "tuple", data := Data.seq #[] }, toks := s.toks }) :=
  .of_wp fun prog w A R s h => by
    obtain ⟨hp, g, d, tk, os⟩ := s
    obtain ⟨hl, h⟩ := h
    have f1 := AutoSeq1.idx_int
    wp_walk using wpAny_loadPart' hl
    repeat (first
      | (refine wpAny_ite_false (decide_eq_false (by rw [c0]; exact Bool.false_ne_true)) ?_; wp_walk using wpAny_loadPart' hl)
      | (refine wpAny_ite_false (decide_eq_false (by rw [c1]; exact Bool.false_ne_true)) ?_; wp_walk using wpAny_loadPart' hl)
      | (refine wpAny_ite_true (decide_eq_true (by rw [c2])) ?_; wp_walk using wpAny_loadPart' hl))
    exact ⟨_, rfl, h⟩
theorem tuple_mul1 (l : Addr) (items : Array Value) (n : Nat) (dd : Option Addr) (sl : Array (Option Value)) (x : Int) (u : Tok) (c0 : (decide (x < -(2 ^ 63)) || decide (x ≥ 2 ^ 63)) = false) (c1 : (items.isEmpty || x == 1) = true) :
    Meets (Builtin.«tuple.__mul__» ⟨[.ref l, .int x u], []⟩) (fun _ R s => s.heap.get? l = some { cls := .type "tuple", dict := dd, data := .seq items n, slots := sl } ∧
      R (.ok (.ret (Value.ref l))) s) :=
  .of_wp fun prog w A R s h => by
    obtain ⟨hp, g, d, tk, os⟩ := s
    obtain ⟨hl, h⟩ := h
    have f1 := AutoSeq1.idx_int
    wp_walk using wpAny_loadPart' hl
    repeat (first
      | (refine wpAny_ite_false (decide_eq_false (by rw [c0]; exact Bool.false_ne_true)) ?_; wp_walk using wpAny_loadPart' hl)
      | (refine wpAny_ite_true (decide_eq_true (by rw [c1])) ?_; wp_walk using wpAny_loadPart' hl))
    exact ⟨_, rfl, h⟩
end Lk

set_option maxHeartbeats 8000000
namespace Lk
open PySem PySem.Spec PyProof.Rows PySem.W L2
/-! ### len(set(xs)), xs a list or a tuple of unlike texts -/
section
variable {prog : Program} {w : World} {A : Around} {R : Result → Shared → Prop} {I : Addr} {fp wr : List Addr} {G : Array GenState → Array GenState → Prop} {n : Nat} {P : Nat → Value → Prop} {St : Nat → Shared → Prop}
theorem any_take (xs : List Str) (i : Nat) (hi : i < xs.length) (k : Str) : ((xs.take i).any (· == k) || decide (k = xs.getD i Str.empty)) = (xs.take (i + 1)).any (· == k) := by
  have e : xs.getD i Str.empty = xs[i] := by rw [List.getD_eq_getElem?_getD, List.getElem?_eq_getElem hi]; rfl
  rw [e, List.take_add_one, List.getElem?_eq_getElem hi, List.any_append]
  congr 1
  show decide (k = xs[i]) = ([xs[i]].any (· == k))
  by_cases q : k = xs[i]
  · subst q; simp
  · have hb : (xs[i] == k) = false := by simpa [beq_iff_eq] using (fun z : xs[i] = k => q z.symm)
    simp [hb, q]
theorem not_taken (xs : List Str) (hn : xs.Nodup) (i : Nat) (hi : i < xs.length) : (xs.take i).any (· == xs.getD i Str.empty) = false := by
  have e : xs.getD i Str.empty = xs[i] := by rw [List.getD_eq_getElem?_getD, List.getElem?_eq_getElem hi]; rfl
  rw [e]
  cases q : (xs.take i).any (· == xs[i]) with
  | false => rfl
  | true =>
    obtain ⟨y, hy, ey⟩ := List.any_eq_true.mp q
    have ey := eq_of_beq ey
    subst ey
    obtain ⟨j, hj, ej⟩ := List.mem_iff_getElem.mp hy
    rw [List.length_take] at hj
    rw [List.getElem_take] at ej
    have := (List.getElem_inj hn).mp ej
    omega
theorem loop_strs (W : WalksS prog w A.in1 I fp wr G n P St) (S : Addr) (hSf : S ∉ fp) (xs : List Str) (hsz : xs.length = n) (hnd : xs.Nodup) (hb : n + 1 < scanBound) (hval : ∀ i v, P i v → ∃ t, v = .str (xs.getD i Str.empty) t) :
    ∀ (k i : Nat) (s : Shared), n - i = k → i ≤ n → St i s → s.heap.SetOf (PySem.strKind prog w) S (fun k' => (xs.take i).any (· == k')) i →
      (∀ s', Moved (S :: wr) G s s' → s'.heap.SetOf (PySem.strKind prog w) S (fun k' => (xs.take n).any (· == k')) n → R (.ok (.ret .none)) s') →
      codeAny (model prog w) A (.builtin "set.update.loop" ⟨[.ref S, .ref I], []⟩) R s
  | 0, i, s, hk, hi, hst, hS, hR => by
    have hin : i = n := by omega
    subst hin
    refine codeAny_builtin PyProof.Rows.F.entry_set_update_loop ?_
    rw [Around.under_plainId PyProof.Rows.F.plain_set_update_loop _]
    refine wpAny_bind (m := pyNext (.ref I)) (W.done s _ _ hst fun s' hm => wpAny_pure (hR s' (hm.mono fun b hb => List.mem_cons_of_mem _ hb) ?_))
    obtain ⟨o, es, ep, t, ho, rest⟩ := hS
    exact ⟨o, es, ep, t, hm.heap S _ (fun h => hSf (W.sub _ h)) ho, rest⟩
  | k + 1, i, s, hk, hi, hst, hS, hR => by
    have hlt : i < n := by omega
    refine codeAny_builtin PyProof.Rows.F.entry_set_update_loop ?_
    rw [Around.under_plainId PyProof.Rows.F.plain_set_update_loop _]
    refine wpAny_bind (m := pyNext (.ref I)) (W.item i s _ _ hlt hst fun v s' hP hst' hm => ?_)
    obtain ⟨t, rfl⟩ := hval i v hP
    have hS' : s'.heap.SetOf (PySem.strKind prog w) S (fun k' => (xs.take i).any (· == k')) i := by
      obtain ⟨o, es, ep, tb, ho, rest⟩ := hS
      exact ⟨o, es, ep, tb, hm.heap S _ (fun h => hSf (W.sub _ h)) ho, rest⟩
    show wpAny _ A.in1 (holding [Value.str (xs.getD i Str.empty) t] (setAdd S (.str (xs.getD i Str.empty) t)) >>= _) _ _ s'
    refine wpAny_bind (wpAny_holding ?_)
    unfold setAdd
    refine wpAny_holding (wpAny_bind ((PySem.strKind prog w).pyHash (k := xs.getD i Str.empty) (strKind_is _ _ _ _) ?_))
    refine wpAny_setAddHashed_of (knd := PySem.strKind prog w) (s := { s' with toks := s'.toks + 1 }) (strKind_is _ _ _ _) rfl hS' (by omega) fun h' hsb hS2 => ?_
    have hSi : h'.SetOf (PySem.strKind prog w) S (fun k' => (xs.take (i + 1)).any (· == k')) (i + 1) :=
      SetOf_congr hS2 (any_take xs i (by omega)) (by rw [not_taken xs hnd i (by omega)] <;> rfl)
    have mine : ∀ b, b ∈ fp → b ≠ S := fun b hb e => hSf (e ▸ hb)
    refine wpAny_pure ⟨plainId_quiet PyProof.Rows.F.plain_set_update_loop _, loop_strs W S hSf xs hsz hnd hb hval k (i + 1) _ (by omega) hlt (W.frame _ s' _ _ hst' (Nat.le_succ _) fun b hb o e => (hsb.2 b (mine b hb)).trans e) hSi fun s'' hm'' hS'' => ?_⟩
    exact hR s'' (Moved.trans W.gtrans ((hm.mono fun b hb => List.mem_cons_of_mem _ hb).then_heap (Nat.le_succ _) fun b o hb e => (hsb.2 b fun h => hb (h ▸ List.mem_cons_self)).trans e) hm'') hS''
end
section
variable {prog : Program} {w : World} {A : Around} {E : Value → Shared → Prop} {s : Shared}
theorem set_list {l : Addr} {items : Array Value} {xs : List Str} {Q : Value → Shared → Prop} (hh : A.handled = none) (hl : s.heap.IsList l items) (hi : PyProof.Rows.StrsAre items.toList xs) (hnd : xs.Nodup) (hb : items.size + 1 < scanBound)
    (h : ∀ (h' : Heap) (tk : Nat), h'.SetOf (PySem.strKind prog w) s.heap.objs.size (fun k' => (xs.take items.size).any (· == k')) items.size → (∀ b o, b < s.heap.objs.size → s.heap.get? b = some o → h'.get? b = some o) → Q (.ref s.heap.objs.size) { s with heap := h', toks := tk }) :
    wpAny (model prog w) A (call (.type "set") [.ref l]) Q E s := by
  obtain ⟨c, tl, hmro⟩ := PySem.F.called_set.mro
  have hmade := PySem.F.called_set.made
  have hsub := PySem.F.called_set.sub
  refine wpAny_call (codeAny_of_tree (show wpAny _ _ (callAny (.type "set") _) _ _ _ from wpAny_pure ⟨Code.quiet_builtin _ (by decide +kernel), codeAny_builtin PySem.F.entry_type_call ?_⟩))
  rw [Around.under_plain (weight_type_call_type "set" [.ref l] []) rfl]
  have hnt := PySem.F.called_set.notType
  have hcc := PySem.F.called_set.canCreate
  have hct := PySem.F.typeCall_set_1 (.ref l)
  repeat (any_goals (first | assumption | wp_step))
  refine codeAny_mono (code_set_new_1 (.ref l) (E := E) (Q₁ := fun obj s₁ => ∃ led : Bool, obj = .ref s.heap.objs.size ∧ s₁ = { s with heap := s.heap.push { cls := .type "set", dict := none, data := .set #[] 0 (.fresh 0 0 led) } }) fun led => ⟨led, rfl, rfl⟩) fun r s₁ hr => ?_
  cases r with
  | error e => exact hr
  | ok fl =>
    cases fl with
    | ret obj =>
      obtain ⟨led, rfl, rfl⟩ := hr
      have hS : (s.heap.push { cls := .type "set", dict := none, data := .set #[] 0 (.fresh 0 0 led) }).get? s.heap.objs.size = some { cls := .type "set", dict := none, data := .set #[] 0 (.fresh 0 0 led) } := Heap.get?_push_size _ rfl
      have hT : Shared.TypeIs { s with heap := s.heap.push { cls := .type "set", dict := none, data := .set #[] 0 (.fresh 0 0 led) } } (.ref s.heap.objs.size) "set" := ⟨_, hS, rfl⟩
      have hli := PySem.F.called_set.init.lookup
      have hbi := PySem.F.called_set.init.bind (.ref s.heap.objs.size)
      repeat (any_goals (first | assumption | wp_step))
      refine codeAny_mono (codeAny_call_builtin (R := wants (fun r s₂ => r = .none ∧ ∃ h' tk, s₂ = { s with heap := h', toks := tk } ∧ h'.SetOf (PySem.strKind prog w) s.heap.objs.size (fun k' => (xs.take items.size).any (· == k')) items.size ∧
        (∀ b o, b < s.heap.objs.size → s.heap.get? b = some o → h'.get? b = some o)) E) PySem.F.called_set.init.plain PySem.F.entry_set_init (check_set_init_1 hT ?_)) fun r₂ s₂ hr₂ => ?_
      · obtain ⟨ol, hol, hcl, nl, hdl⟩ := hl
        obtain ⟨ocls, odict, odata, oslots⟩ := ol
        simp only at hcl hdl
        subst hcl hdl
        have hol' : (s.heap.push { cls := .type "set", dict := none, data := .set #[] 0 (.fresh 0 0 led) }).get? l = some { cls := .type "list", dict := odict, data := .seq items nl, slots := oslots } := Heap.get?_push_of_some _ hol
        have hsls := PySem.F.sub_list_set
        have hslf := PySem.F.sub_list_frozenset
        have hne : (Value.type "list" == Value.type "dict") = false := by decide
        have hl1 : (s.heap.push { cls := .type "set", dict := none, data := .set #[] 0 (.fresh 0 0 led) }).IsList l items := ⟨_, hol', rfl, nl, rfl⟩
        unfold Builtin.«set.__init__» noKeywords Builtin.Frozenset.updateFrom
        generalize hPI : pyIter = PI
        wp_walk
        subst hPI
        refine wpAny_pyIter_list hl1 (wpAny_bind (wpAny_runValue ?_))
        have hlS : l < s.heap.objs.size := Heap.lt_size hol
        have hneI : l ≠ (s.heap.push { cls := .type "set", dict := none, data := .set #[] 0 (.fresh 0 0 led) }).objs.size := by
          rw [Heap.size_push]
          exact Nat.ne_of_lt (Nat.lt_succ_of_lt hlS)
        have hSf : s.heap.objs.size ∉ [(s.heap.push { cls := .type "set", dict := none, data := .set #[] 0 (.fresh 0 0 led) }).objs.size, l] := by
          rw [Heap.size_push]
          simp only [List.mem_cons, List.mem_singleton, List.not_mem_nil, or_false, not_or]
          exact ⟨Nat.ne_of_lt (Nat.lt_succ_self _), Nat.ne_of_gt hlS⟩
        have hsz : xs.length = items.size := by rw [← StrsAre.len_eq hi, Array.length_toList]
        refine loop_strs ((Walks.list (by simp [hh]) _ l hneI items).toS) s.heap.objs.size hSf xs hsz hnd hb (fun i v hv => SS.strs_at hi i v (by rw [Array.getElem?_toList]; exact hv)) (items.size - 0) 0 _ (by omega) (Nat.zero_le _)
          ⟨⟨_, Heap.get?_push_size _ rfl, rfl, rfl⟩, (hl1.push _)⟩ ?_ ?_
        · exact PyProof.Rows.SetOf_congr ((PyProof.Rows.setObjOf_fresh (knd := PySem.strKind prog w) led).setOf (Heap.get?_push_of_some _ hS) (by unfold scanBound; omega)) (fun _ => rfl) rfl
        · intro s' hm hS'
          obtain ⟨h', g', d', tk', os'⟩ := s'
          obtain rfl : g' = s.gens := hm.gens
          obtain rfl : d' = s.drawn := hm.drawn
          obtain rfl : os' = s.os := hm.os
          show wpAny _ _ _ _ _ _
          refine wpAny_pure (show wpAny _ _ (ret Value.none) _ _ _ from wpAny_pure ⟨rfl, h', tk', rfl, hS', fun b o hb e => ?_⟩)
          refine hm.heap b o ?_ (Heap.get?_push_of_some _ (Heap.get?_push_of_some _ e))
          simp only [List.mem_cons, List.mem_singleton, List.not_mem_nil, or_false, not_or]
          refine ⟨Nat.ne_of_lt hb, ?_⟩
          rw [Heap.size_push]
          exact Nat.ne_of_lt (Nat.lt_succ_of_lt hb)
      · cases r₂ with
        | error e => exact hr₂
        | ok fl₂ =>
          cases fl₂ with
          | ret r =>
            obtain ⟨rfl, h', tk, rfl, hS', hk'⟩ := hr₂
            repeat (any_goals (first | assumption | wp_step))
            exact h _ _ hS' hk'
          | _ => exact hr₂.elim
    | _ => exact hr.elim
theorem set_tuple {l : Addr} {items : Array Value} {xs : List Str} {Q : Value → Shared → Prop} (hh : A.handled = none) (hl : s.heap.IsTuple l items) (hi : PyProof.Rows.StrsAre items.toList xs) (hnd : xs.Nodup) (hb : items.size + 1 < scanBound)
    (h : ∀ (h' : Heap) (tk : Nat), h'.SetOf (PySem.strKind prog w) s.heap.objs.size (fun k' => (xs.take items.size).any (· == k')) items.size → (∀ b o, b < s.heap.objs.size → s.heap.get? b = some o → h'.get? b = some o) → Q (.ref s.heap.objs.size) { s with heap := h', toks := tk }) :
    wpAny (model prog w) A (call (.type "set") [.ref l]) Q E s := by
  obtain ⟨c, tl, hmro⟩ := PySem.F.called_set.mro
  have hmade := PySem.F.called_set.made
  have hsub := PySem.F.called_set.sub
  refine wpAny_call (codeAny_of_tree (show wpAny _ _ (callAny (.type "set") _) _ _ _ from wpAny_pure ⟨Code.quiet_builtin _ (by decide +kernel), codeAny_builtin PySem.F.entry_type_call ?_⟩))
  rw [Around.under_plain (weight_type_call_type "set" [.ref l] []) rfl]
  have hnt := PySem.F.called_set.notType
  have hcc := PySem.F.called_set.canCreate
  have hct := PySem.F.typeCall_set_1 (.ref l)
  repeat (any_goals (first | assumption | wp_step))
  refine codeAny_mono (code_set_new_1 (.ref l) (E := E) (Q₁ := fun obj s₁ => ∃ led : Bool, obj = .ref s.heap.objs.size ∧ s₁ = { s with heap := s.heap.push { cls := .type "set", dict := none, data := .set #[] 0 (.fresh 0 0 led) } }) fun led => ⟨led, rfl, rfl⟩) fun r s₁ hr => ?_
  cases r with
  | error e => exact hr
  | ok fl =>
    cases fl with
    | ret obj =>
      obtain ⟨led, rfl, rfl⟩ := hr
      have hS : (s.heap.push { cls := .type "set", dict := none, data := .set #[] 0 (.fresh 0 0 led) }).get? s.heap.objs.size = some { cls := .type "set", dict := none, data := .set #[] 0 (.fresh 0 0 led) } := Heap.get?_push_size _ rfl
      have hT : Shared.TypeIs { s with heap := s.heap.push { cls := .type "set", dict := none, data := .set #[] 0 (.fresh 0 0 led) } } (.ref s.heap.objs.size) "set" := ⟨_, hS, rfl⟩
      have hli := PySem.F.called_set.init.lookup
      have hbi := PySem.F.called_set.init.bind (.ref s.heap.objs.size)
      repeat (any_goals (first | assumption | wp_step))
      refine codeAny_mono (codeAny_call_builtin (R := wants (fun r s₂ => r = .none ∧ ∃ h' tk, s₂ = { s with heap := h', toks := tk } ∧ h'.SetOf (PySem.strKind prog w) s.heap.objs.size (fun k' => (xs.take items.size).any (· == k')) items.size ∧
        (∀ b o, b < s.heap.objs.size → s.heap.get? b = some o → h'.get? b = some o)) E) PySem.F.called_set.init.plain PySem.F.entry_set_init (check_set_init_1 hT ?_)) fun r₂ s₂ hr₂ => ?_
      · obtain ⟨ol, hol, hcl, nl, hdl⟩ := hl
        obtain ⟨ocls, odict, odata, oslots⟩ := ol
        simp only at hcl hdl
        subst hcl hdl
        have hol' : (s.heap.push { cls := .type "set", dict := none, data := .set #[] 0 (.fresh 0 0 led) }).get? l = some { cls := .type "tuple", dict := odict, data := .seq items nl, slots := oslots } := Heap.get?_push_of_some _ hol
        have hsls := PySem.F.sub_tuple_set
        have hslf := PySem.F.sub_tuple_frozenset
        have hne : (Value.type "tuple" == Value.type "dict") = false := by decide
        have hl1 : (s.heap.push { cls := .type "set", dict := none, data := .set #[] 0 (.fresh 0 0 led) }).IsTuple l items := ⟨_, hol', rfl, nl, rfl⟩
        unfold Builtin.«set.__init__» noKeywords Builtin.Frozenset.updateFrom
        generalize hPI : pyIter = PI
        wp_walk
        subst hPI
        refine wpAny_pyIter_tuple hl1 (wpAny_bind (wpAny_runValue ?_))
        have hlS : l < s.heap.objs.size := Heap.lt_size hol
        have hneI : l ≠ (s.heap.push { cls := .type "set", dict := none, data := .set #[] 0 (.fresh 0 0 led) }).objs.size := by
          rw [Heap.size_push]
          exact Nat.ne_of_lt (Nat.lt_succ_of_lt hlS)
        have hSf : s.heap.objs.size ∉ [(s.heap.push { cls := .type "set", dict := none, data := .set #[] 0 (.fresh 0 0 led) }).objs.size, l] := by
          rw [Heap.size_push]
          simp only [List.mem_cons, List.mem_singleton, List.not_mem_nil, or_false, not_or]
          exact ⟨Nat.ne_of_lt (Nat.lt_succ_self _), Nat.ne_of_gt hlS⟩
        have hsz : xs.length = items.size := by rw [← StrsAre.len_eq hi, Array.length_toList]
        refine loop_strs ((Walks.tuple (by simp [hh]) _ l hneI items).toS) s.heap.objs.size hSf xs hsz hnd hb (fun i v hv => SS.strs_at hi i v (by rw [Array.getElem?_toList]; exact hv)) (items.size - 0) 0 _ (by omega) (Nat.zero_le _)
          ⟨⟨_, Heap.get?_push_size _ rfl, rfl, rfl⟩, (hl1.push _)⟩ ?_ ?_
        · exact PyProof.Rows.SetOf_congr ((PyProof.Rows.setObjOf_fresh (knd := PySem.strKind prog w) led).setOf (Heap.get?_push_of_some _ hS) (by unfold scanBound; omega)) (fun _ => rfl) rfl
        · intro s' hm hS'
          obtain ⟨h', g', d', tk', os'⟩ := s'
          obtain rfl : g' = s.gens := hm.gens
          obtain rfl : d' = s.drawn := hm.drawn
          obtain rfl : os' = s.os := hm.os
          show wpAny _ _ _ _ _ _
          refine wpAny_pure (show wpAny _ _ (ret Value.none) _ _ _ from wpAny_pure ⟨rfl, h', tk', rfl, hS', fun b o hb e => ?_⟩)
          refine hm.heap b o ?_ (Heap.get?_push_of_some _ (Heap.get?_push_of_some _ e))
          simp only [List.mem_cons, List.mem_singleton, List.not_mem_nil, or_false, not_or]
          refine ⟨Nat.ne_of_lt hb, ?_⟩
          rw [Heap.size_push]
          exact Nat.ne_of_lt (Nat.lt_succ_of_lt hb)
      · cases r₂ with
        | error e => exact hr₂
        | ok fl₂ =>
          cases fl₂ with
          | ret r =>
            obtain ⟨rfl, h', tk, rfl, hS', hk'⟩ := hr₂
            repeat (any_goals (first | assumption | wp_step))
            exact h _ _ hS' hk'
          | _ => exact hr₂.elim
    | _ => exact hr.elim
end
def tLenSetS (K : PySem.W.Frag) (ta : TE) : TE := fun σ H Q => ta σ H fun x H1 => ∃ l, ∃ xs : List Str, x = .ref l ∧ Sq K H1 l (xs.map V.str) ∧ xs.Nodup ∧ xs.length ≤ 1000 ∧ Q (.int xs.length) H1
theorem pe_lenSetS {X : Cx} {a : Expr} {ta : TE} {p p2 q pos : Pos} (hg : Gl X "len") (hm : X.mg "len" = none) (hg2 : Gl X "set") (hm2 : X.mg "set" = none) (ha : PE X a ta) (hc : X.calm = true := by rfl)
    (na : starEach [a] X.env = (false, eval a X.env) :: starEach [] X.env := by rfl) : PE X (.Call (.Name "len" p) [.Call (.Name "set" p2) [a] [] q] [] pos) (tLenSetS X.K ta) := by
  refine ⟨fun pins s σ H Q I h => ?_⟩
  refine Call_ (ld_blt I hg hm b_len ?_)
  refine PyProof.Rows.callWith_builtin1 (PyProof.Rows.args_cons ?_ rfl) rfl rfl
  refine Call_ (ld_blt I hg2 hm2 b_set ?_)
  refine PyProof.Rows.callWith_type1 (PyProof.Rows.args_cons (thn (ha.run pins s σ H _ I h) fun v s1 ⟨x, H1, I1, r1, q1⟩ => PyProof.Rows.args_nil ?_) na) na rfl
  obtain ⟨l, xs, rfl, hq, hnd, hl, q1⟩ := q1
  cases r1
  have fin : ∀ (its : List Value), Vals (xs.map V.str) its → ∀ (h' : Heap) (tk : Nat), h'.SetOf (PySem.strKind X.prog X.w) s1.heap.objs.size (fun k' => (xs.take its.toArray.size).any (· == k')) its.toArray.size →
      (∀ b o, b < s1.heap.objs.size → s1.heap.get? b = some o → h'.get? b = some o) →
      wpAny (model X.prog X.w) X.A (spliced (backTo pos (starEach [] X.env))) (fun vs s₂ => wpAny (model X.prog X.w) X.A (call (.builtin "len") (Value.ref s1.heap.objs.size :: vs)) (EP X pins σ Q) X.xe s₂) X.xe { s1 with heap := h', toks := tk } := by
    intro its r h' tk hS hk
    refine PyProof.Rows.args_nil ?_
    have hle : its.toArray.size = xs.length := by rw [List.size_toArray, ← r.length, List.length_map]
    rw [hle] at hS
    obtain ⟨o, es, ep, t, ho, hex, hd, _, _, _, hf, hn⟩ := hS
    have I2 : Inv X pins σ H1 { s1 with heap := h', toks := tk } := I1.kept fun b o e => hk b o (Heap.lt_size e) e
    exact call_len_set ho hex hd hf (by rw [hn] <;> omega) ⟨.int xs.length, H1, I2.tok _, ⟨_, by rw [hn]⟩, q1⟩
  rcases hq with hq | hq
  · obtain ⟨its, r, pl, hz⟩ := I1.list hq
    have hle : its.length = xs.length := by rw [← r.length, List.length_map]
    exact set_list (I1.ok.hd hc) pl.isList (by simpa using strsAre_of r) hnd (by unfold scanBound; simp; omega) fun h' tk hS hk => fin its r h' tk hS hk
  · obtain ⟨its, r, pl, hz⟩ := I1.tuple hq
    have hle : its.length = xs.length := by rw [← r.length, List.length_map]
    exact set_tuple (I1.ok.hd hc) pl (by simpa using strsAre_of r) hnd (by unfold scanBound; simp; omega) fun h' tk hS hk => fin its r h' tk hS hk
end Lk


set_option maxHeartbeats 8000000
namespace Lk
open PySem PySem.Spec PyProof.Rows PySem.W L2
/-! ### list(zip(a, b)) over two iterators of any kind: the tuples given out are held -/
section
variable {prog : Program} {w : World} {A : Around} {E : Value → Shared → Prop} {s : Shared} {z TI TO T i1 i2 : Addr} {fp1 fp2 : List Addr} {n1 n2 i : Nat} {P1 P2 : Nat → Value → Prop} {St1 St2 : Nat → Heap → Prop} {f : Bool} {oT : Obj}
theorem zh_item {Q : Value → Shared → Prop} (S : ZipSep2 z TI TO i1 i2 fp1 fp2) (D1 : Draws prog w A i1 fp1 n1 P1 St1) (D2 : Draws prog w A i2 fp2 n2 P2 St2)
    (hz : IsZipHeld s.heap z TI TO T f) (hT : s.heap.get? T = some oT) (hTI : IsTupOf2 s.heap TI (.ref i1) (.ref i2)) (st1 : St1 i s.heap) (st2 : St2 i s.heap) (hlt1 : i < n1) (hlt2 : i < n2)
    (hQ : ∀ x1 x2 h' tk, P1 i x1 → P2 i x2 → IsZipHeld h' z TI TO T true → St1 (i + 1) h' → St2 (i + 1) h' → IsTupOf2 h' s.heap.objs.size x1 x2 → h'.objs.size = s.heap.objs.size + 1 →
      (∀ c o, c ≠ z → c ≠ i1 → c ≠ i2 → s.heap.get? c = some o → h'.get? c = some o) → Q (.ref s.heap.objs.size) { s with heap := h', toks := tk }) :
    wpAny (model prog w) A (Builtin.«zip.__next__» ⟨[.ref z], []⟩) (fun fin s' => ∃ v, fin = .done (.ret v) ∧ Q v s') E s := by
  obtain ⟨hp, g, d, tk0, os⟩ := s
  show wpAny _ _ (field (.ref z) 2 >>= _) _ _ _
  refine wpAny_bind (wpAny_field hz rfl (x := .bool false) rfl (show wpAny _ _ (field (.ref z) 3 >>= _) _ _ _ from wpAny_bind (wpAny_field hz rfl (x := .ref TI) rfl (wpAny_bind (wpAny_seqItems hTI rfl ?_)))))
  show wpAny _ _ (Builtin.SmallTypes.ownedTupleIsFree (.ref z) >>= _) _ _ _
  refine wpAny_bind (wpAny_tupleHeld_zip hz hT fun g0 hz0 hs0 => ?_)
  replace hs0 : Heap.SameBut z hp g0 := hs0
  simp only [Bool.false_eq_true, if_false]
  refine wpAny_bind ?_
  rw [← Array.forIn_toList]
  simp only [List.forIn_cons, List.forIn_nil]
  refine wpAny_bind (wpAny_bind (wpAny_holding (show wpAny _ _ (Builtin.SmallTypes.nextOf (.ref i1) >>= _) _ _ ⟨g0, g, d, tk0, os⟩ from ?_)))
  refine wpAny_bind (D1.item i _ _ _ hlt1 (D1.over st1 hs0 S.zf1) fun x1 p1 tk1 hx1 sn1 hp1 => wpAny_pure (wpAny_pure ?_))
  replace hp1 : Heap.SameBut i1 g0 p1 := hp1
  refine wpAny_bind (wpAny_bind (wpAny_holding (show wpAny _ _ (Builtin.SmallTypes.nextOf (.ref i2) >>= _) _ _ ⟨p1, g, d, tk1, os⟩ from ?_)))
  refine wpAny_bind (D2.item i _ _ _ hlt2 (D2.over (D2.over st2 hs0 S.zf2) hp1 S.sep1_2) fun x2 p2 tk2 hx2 sn2 hp2 => wpAny_pure (wpAny_pure (wpAny_pure ?_)))
  replace hp2 : Heap.SameBut i2 p1 p2 := hp2
  show wpAny _ _ (newTuple [x1, x2] >>= _) _ _ _
  refine wpAny_bind (wpAny_newTuple (wpAny_pure ⟨_, rfl, ?_⟩))
  have hsz : p2.objs.size = hp.objs.size := by rw [hp2.1, hp1.1, hs0.1]
  have hz3 : IsZipHeld p2 z TI TO T true := hp2.extBut _ _ S.zi2 (hp1.extBut _ _ S.zi1 hz0)
  have hk : ∀ c o, c ≠ z → c ≠ i1 → c ≠ i2 → hp.get? c = some o → p2.get? c = some o := fun c o c1 c2 c3 e => hp2.extBut _ _ c3 (hp1.extBut _ _ c2 (hs0.extBut _ _ c1 e))
  show Q (.ref p2.objs.size) ⟨p2.push { cls := .type "tuple", data := .seq #[x1, x2] }, g, d, tk2, os⟩
  have hT4 : IsTupOf2 (p2.push { cls := .type "tuple", data := .seq #[x1, x2] }) p2.objs.size x1 x2 := Heap.get?_push_size _ rfl
  have hz4 : (p2.push { cls := .type "tuple", data := .seq #[x1, x2] }).objs.size = p2.objs.size + 1 := Heap.size_push ..
  rw [hsz] at hT4 hz4 ⊢
  exact hQ x1 x2 _ tk2 hx1 hx2 (Heap.get?_push_of_some _ hz3) (D1.frame _ _ _ (D1.over sn1 hp2 S.sep2_1) fun b hb o e => Heap.get?_push_of_some _ e) (D2.frame _ _ _ sn2 fun b hb o e => Heap.get?_push_of_some _ e) hT4 hz4
    fun c o c1 c2 c3 e => Heap.get?_push_of_some _ (hk c o c1 c2 c3 e)
theorem zh_end {Q : Fin → Shared → Prop} (S : ZipSep2 z TI TO i1 i2 fp1 fp2) (D1 : Draws prog w A i1 fp1 n1 P1 St1)
    (hz : IsZipHeld s.heap z TI TO T f) (hT : s.heap.get? T = some oT) (hTI : IsTupOf2 s.heap TI (.ref i1) (.ref i2)) (st1 : St1 n1 s.heap)
    (hE : ∀ h' e, (∀ c o, c ≠ z → c ≠ i1 → c ≠ i2 → s.heap.get? c = some o → h'.get? c = some o) → (∃ o, h'.get? e = some o ∧ o.cls = .type "StopIteration") → E (.ref e) { s with heap := h' }) :
    wpAny (model prog w) A (Builtin.«zip.__next__» ⟨[.ref z], []⟩) Q E s := by
  show wpAny _ _ (field (.ref z) 2 >>= _) _ _ _
  refine wpAny_bind (wpAny_field hz rfl (x := .bool false) rfl (show wpAny _ _ (field (.ref z) 3 >>= _) _ _ _ from wpAny_bind (wpAny_field hz rfl (x := .ref TI) rfl (wpAny_bind (wpAny_seqItems hTI rfl ?_)))))
  show wpAny _ _ (Builtin.SmallTypes.ownedTupleIsFree (.ref z) >>= _) _ _ _
  refine wpAny_bind (wpAny_tupleHeld_zip hz hT fun g0 hz0 hs0 => ?_)
  simp only [Bool.false_eq_true, if_false]
  refine wpAny_bind ?_
  rw [← Array.forIn_toList]
  simp only [List.forIn_cons, List.forIn_nil]
  refine wpAny_bind (wpAny_bind (wpAny_holding (show wpAny _ _ (Builtin.SmallTypes.nextOf (.ref i1) >>= _) _ _ { s with heap := g0 } from ?_)))
  exact wpAny_bind (D1.done _ _ _ (D1.over st1 hs0 S.zf1) fun h2 e hs2 he => hE h2 e (fun c o c1 c2 _ x => hs2 _ _ c2 (hs0.extBut _ _ c1 x)) he)
theorem zh_next {Q : Option Value → Shared → Prop} (S : ZipSep2 z TI TO i1 i2 fp1 fp2) (D1 : Draws prog w A.in1 i1 fp1 n1 P1 St1) (D2 : Draws prog w A.in1 i2 fp2 n2 P2 St2)
    (hz : IsZipHeld s.heap z TI TO T f) (hT : s.heap.get? T = some oT) (hTI : IsTupOf2 s.heap TI (.ref i1) (.ref i2)) (st1 : St1 i s.heap) (st2 : St2 i s.heap) (hlt1 : i < n1) (hlt2 : i < n2)
    (hQ : ∀ x1 x2 h' tk, P1 i x1 → P2 i x2 → IsZipHeld h' z TI TO T true → St1 (i + 1) h' → St2 (i + 1) h' → IsTupOf2 h' s.heap.objs.size x1 x2 → h'.objs.size = s.heap.objs.size + 1 →
      (∀ c o, c ≠ z → c ≠ i1 → c ≠ i2 → s.heap.get? c = some o → h'.get? c = some o) → Q (some (.ref s.heap.objs.size)) { s with heap := h', toks := tk }) :
    wpAny (model prog w) A (pyNext (.ref z)) Q E s := by
  have hty : s.TypeIs (.ref z) "zip" := ⟨_, hz, rfl⟩
  unfold pyNext
  exact wpAny_bind (wpAny_attempt (wpAny_callSpecial?_slot (name := Str.ofString "__next__") hty F.slot_zip_next (wpAny_call_entry F.slot_zip_next hty F.entry_zip_next
    (zh_item S D1 D2 hz hT hTI st1 st2 hlt1 hlt2 fun x1 x2 h' tk y1 y2 b1 d1 d2 b5 b6 b7 => wpAny_pure (hQ x1 x2 h' tk y1 y2 b1 d1 d2 b5 b6 b7)) (F.args_zip_next_1 _))))
theorem zh_last {Q : Option Value → Shared → Prop} (S : ZipSep2 z TI TO i1 i2 fp1 fp2) (D1 : Draws prog w A.in1 i1 fp1 n1 P1 St1)
    (hz : IsZipHeld s.heap z TI TO T f) (hT : s.heap.get? T = some oT) (hTI : IsTupOf2 s.heap TI (.ref i1) (.ref i2)) (st1 : St1 n1 s.heap)
    (hQ : ∀ h', (∀ c o, c ≠ z → c ≠ i1 → c ≠ i2 → s.heap.get? c = some o → h'.get? c = some o) → Q none { s with heap := h' }) : wpAny (model prog w) A (pyNext (.ref z)) Q E s := by
  have hty : s.TypeIs (.ref z) "zip" := ⟨_, hz, rfl⟩
  unfold pyNext
  refine wpAny_bind (wpAny_attempt (wpAny_callSpecial?_slot (name := Str.ofString "__next__") hty F.slot_zip_next (wpAny_call_entry F.slot_zip_next hty F.entry_zip_next (zh_end S D1 hz hT hTI st1 fun h' e hk he => ?_) (F.args_zip_next_1 _))))
  obtain ⟨o, ho, hc⟩ := he
  exact wpAny_bind (wpAny_isInstance (T := "StopIteration") (b := true) ⟨o, ho, hc⟩ isSubtype_stop (wpAny_pure (hQ _ hk)))
end
/-- where a zip that is being listed stands -/
structure ZlSt (z TI TO i1 i2 S : Addr) (St1 St2 : Nat → Heap → Prop) (i : Nat) (h : Heap) : Prop where
  ti : IsTupOf2 h TI (.ref i1) (.ref i2)
  s1 : St1 i h
  s2 : St2 i h
  zz : (i = 0 ∧ IsZip h z TI TO .none ∧ IsTupOf2 h TO .none .none) ∨ ∃ T f oT, IsZipHeld h z TI TO T f ∧ h.get? T = some oT ∧ T ≠ z ∧ T ≠ i1 ∧ T ≠ i2 ∧ T ≠ S
/-- the tuples given out -/
structure ZlG (xs ys : Array Value) (lo : Addr) (h : Heap) (as : List Addr) : Prop where
  rise : as.Pairwise (· < ·)
  above : ∀ a ∈ as, lo < a
  pairs : ∀ (j : Nat) (a : Addr), as[j]? = some a → ∃ x y, xs[j]? = some x ∧ ys[j]? = some y ∧ IsTupOf2 h a x y
theorem ZlG.there {xs ys : Array Value} {lo : Addr} {h : Heap} {as : List Addr} (g : ZlG xs ys lo h as) {a : Addr} (ha : a ∈ as) : a < h.objs.size := by
  obtain ⟨j, hj⟩ := List.mem_iff_getElem?.mp ha
  obtain ⟨_, _, _, _, e⟩ := g.pairs j a hj
  exact Heap.lt_size e
section
variable {prog : Program} {w : World} {A : Around} {s : Shared} {R : Result → Shared → Prop} {z TI TO i1 i2 : Addr} {fp1 fp2 : List Addr} {xs ys : Array Value} {St1 St2 : Nat → Heap → Prop}
theorem zl_loop {S : Addr} (hh : A.handled = none) (Z : ZipSep2 z TI TO i1 i2 fp1 fp2) (hn : xs.size = ys.size) (hlen : xs.size ≤ sizeLine) (D1 : ∀ A : Around, A.handled = none → Draws prog w A i1 fp1 xs.size (fun i v => xs[i]? = some v) St1)
    (D2 : ∀ A : Around, A.handled = none → Draws prog w A i2 fp2 ys.size (fun i v => ys[i]? = some v) St2) (hS1 : S ∉ fp1) (hS2 : S ∉ fp2) (hSz : z < S) (hST : TO < S) (hSI : TI < S) (h1S : i1 < S) (h2S : i2 < S) (res : Value) {h₁ : Heap}
    (hR : ∀ h' tk acc c as, (∀ b o, b ≠ S → b ≠ z → b ≠ TO → b ≠ i1 → b ≠ i2 → h₁.get? b = some o → h'.get? b = some o) → h'.get? S = some { cls := .type "list", dict := none, data := .seq acc c, slots := #[] } → as.length = xs.size → ZlG xs ys S h' as →
      acc.toList = as.map Value.ref → R (.ok (.ret res)) { s with heap := h', toks := tk }) :
    ∀ (k i : Nat) (h : Heap) (tk c : Nat) (acc : Array Value) (as : List Addr), xs.size - i = k → i ≤ xs.size → ZlSt z TI TO i1 i2 S St1 St2 i h → (∀ b o, b ≠ S → b ≠ z → b ≠ TO → b ≠ i1 → b ≠ i2 → h₁.get? b = some o → h.get? b = some o) →
      h.get? S = some { cls := .type "list", dict := none, data := .seq acc c, slots := #[] } → acc.toList = as.map Value.ref → as.length = i → ZlG xs ys S h as →
      codeAny (model prog w) A (.builtin "list.extend.loop" ⟨[.ref S, .ref z, res], []⟩) R { s with heap := h, toks := tk }
  | 0, i, h, tk, c, acc, as, hk, hi, st, hkeep, hS, hacc, hal, hG => by
    have hin : i = xs.size := by omega
    subst hin
    refine codeAny_builtin PySem.F.entry_extend_loop ?_
    rw [Around.under_plainId PySem.F.plain_extend_loop _]
    have fin : ∀ (h' : Heap) (tk' : Nat), (∀ c o, c ≠ z → c ≠ TO → c ≠ i1 → c ≠ i2 → h.get? c = some o → h'.get? c = some o) → R (.ok (.ret res)) { s with heap := h', toks := tk' } := fun h' tk' he =>
      hR h' tk' acc c as (fun b o b1 b2 b3 b4 b5 e => he b o b2 b3 b4 b5 (hkeep b o b1 b2 b3 b4 b5 e)) (he S _ (Nat.ne_of_gt hSz) (Nat.ne_of_gt hST) (Nat.ne_of_gt h1S) (Nat.ne_of_gt h2S) hS) hal
        ⟨hG.rise, hG.above, fun j a hj => by
          obtain ⟨x, y, e1, e2, e3⟩ := hG.pairs j a hj
          have hb := hG.above a (List.mem_of_getElem? hj)
          exact ⟨x, y, e1, e2, he a _ (Nat.ne_of_gt (Nat.lt_trans hSz hb)) (Nat.ne_of_gt (Nat.lt_trans hST hb)) (Nat.ne_of_gt (Nat.lt_trans h1S hb)) (Nat.ne_of_gt (Nat.lt_trans h2S hb)) e3⟩⟩ hacc
    refine wpAny_bind (m := pyNext (.ref z)) ?_
    rcases st.zz with ⟨e0, hz, hT⟩ | ⟨T, f, oT, hz, hT, _, _, _, _⟩
    · exact wpAny_pyNext_zipD2_end (s := { s with heap := h, toks := tk }) Z (D1 _ hh) (D2 _ hh) hz st.ti hT st.s1 st.s2 (Nat.le_refl _) (by omega) (.inl rfl) fun h' tk' he => wpAny_pure (fin h' tk' he)
    · exact zh_last (s := { s with heap := h, toks := tk }) Z (D1 _ hh) hz hT st.ti st.s1 fun h' he => wpAny_pure (fin h' tk fun c o c1 _ c3 c4 e => he c o c1 c3 c4 e)
  | k + 1, i, h, tk, c, acc, as, hk, hi, st, hkeep, hS, hacc, hal, hG => by
    have hlt : i < xs.size := by omega
    have hsz : acc.size = i := by rw [← Array.length_toList, hacc, List.length_map, hal]
    have hSl : S < h.objs.size := Heap.lt_size hS
    refine codeAny_builtin PySem.F.entry_extend_loop ?_
    rw [Around.under_plainId PySem.F.plain_extend_loop _]
    have go : ∀ (h' : Heap) (tk' : Nat) (x y : Value), xs[i]? = some x → ys[i]? = some y → IsTupOf2 h' TI (.ref i1) (.ref i2) → St1 (i + 1) h' → St2 (i + 1) h' → IsTupOf2 h' h.objs.size x y →
        (∃ T f oT, IsZipHeld h' z TI TO T f ∧ h'.get? T = some oT ∧ T ≠ z ∧ T ≠ i1 ∧ T ≠ i2 ∧ T ≠ S) → (∀ c o, c ≠ z → c ≠ TO → c ≠ i1 → c ≠ i2 → h.get? c = some o → h'.get? c = some o) →
        wpAny (model prog w) A.in1 (updateSeq S (·.push (Value.ref h.objs.size)) >>= fun _ => again (.builtin "list.extend.loop" ⟨[.ref S, .ref z, res], []⟩)) (fun fin s' => match fin with | .done f => R (.ok f) s' | .again c' => c'.quiet = true ∧ codeAny (model prog w) A c' R s') (fun e s' => R (.error e) s') { s with heap := h', toks := tk' } := by
      intro h' tk' x y ex ey hti hs1 hs2 ht hzz hkp
      have hS' := hkp S _ (Nat.ne_of_gt hSz) (Nat.ne_of_gt hST) (Nat.ne_of_gt h1S) (Nat.ne_of_gt h2S) hS
      have up : ∀ b o, b ≠ S → h'.get? b = some o → (h'.update S (Obj.mapSeq (·.push (Value.ref h.objs.size)))).get? b = some o := fun b o hb e => (Heap.get?_update_other _ _ (Ne.symm hb)).trans e
      refine wpAny_bind (wpAny_updateSeq hS' rfl (wpAny_pure ⟨plainId_quiet PySem.F.plain_extend_loop _, zl_loop hh Z hn hlen D1 D2 hS1 hS2 hSz hST hSI h1S h2S res hR k (i + 1) _ tk' _ (acc.push (Value.ref h.objs.size)) (as ++ [h.objs.size]) (by omega) hlt ⟨up _ _ (Nat.ne_of_lt hSI) hti, ?_, ?_, ?_⟩
        (fun b o b1 b2 b3 b4 b5 e => up b o b1 (hkp b o b2 b3 b4 b5 (hkeep b o b1 b2 b3 b4 b5 e))) (Heap.get?_update_self _ hS' rfl) (by rw [Array.toList_push, hacc, List.map_append]; rfl) (by rw [List.length_append, hal]; rfl) ⟨?_, ?_, ?_⟩⟩) (by rw [hsz]; omega) (by show (acc.push (Value.ref h.objs.size)).size ≤ sizeLine + 1; rw [Array.size_push, hsz]; omega))
      · exact (D1 A hh).frame _ _ _ hs1 fun b hb o e => up b o (fun q => hS1 (q ▸ hb)) e
      · exact (D2 A hh).frame _ _ _ hs2 fun b hb o e => up b o (fun q => hS2 (q ▸ hb)) e
      · obtain ⟨T, f, oT, q1, q2, q3, q4, q5, q6⟩ := hzz
        exact .inr ⟨T, f, oT, up _ _ (Nat.ne_of_lt hSz) q1, up _ _ q6 q2, q3, q4, q5, q6⟩
      · refine List.pairwise_append.mpr ⟨hG.rise, List.pairwise_singleton _ _, fun a ha b hb => ?_⟩
        rw [List.mem_singleton.mp hb]
        exact hG.there ha
      · intro a ha
        rcases List.mem_append.mp ha with ha | ha
        · exact hG.above a ha
        · rw [List.mem_singleton.mp ha]; exact hSl
      · intro j b hj
        rcases Nat.lt_trichotomy j as.length with q | q | q
        · rw [List.getElem?_append_left q] at hj
          obtain ⟨x', y', e1, e2, e3⟩ := hG.pairs j b hj
          have hb := hG.above b (List.mem_of_getElem? hj)
          exact ⟨x', y', e1, e2, up b _ (Nat.ne_of_gt hb) (hkp b _ (Nat.ne_of_gt (Nat.lt_trans hSz hb)) (Nat.ne_of_gt (Nat.lt_trans hST hb)) (Nat.ne_of_gt (Nat.lt_trans h1S hb)) (Nat.ne_of_gt (Nat.lt_trans h2S hb)) e3)⟩
        · subst q
          have hb : h.objs.size = b := by simpa using hj
          subst hb
          exact ⟨x, y, by rw [hal]; exact ex, by rw [hal]; exact ey, up _ _ (Nat.ne_of_gt hSl) ht⟩
        · have hnone : (as ++ [h.objs.size])[j]? = none := List.getElem?_eq_none (by rw [List.length_append, List.length_singleton]; omega)
          rw [hnone] at hj; cases hj
    have nz : h.objs.size ≠ z := Nat.ne_of_gt (Nat.lt_trans hSz hSl)
    have n1 : h.objs.size ≠ i1 := Nat.ne_of_gt (Nat.lt_trans h1S hSl)
    have n2 : h.objs.size ≠ i2 := Nat.ne_of_gt (Nat.lt_trans h2S hSl)
    have nS : h.objs.size ≠ S := Nat.ne_of_gt hSl
    refine wpAny_bind (m := pyNext (.ref z)) ?_
    rcases st.zz with ⟨e0, hz, hT⟩ | ⟨T, f, oT, hz, hT, r1, r2, r3, r4⟩
    · exact wpAny_pyNext_zipD2_item (s := { s with heap := h, toks := tk }) Z (D1 _ hh) (D2 _ hh) hz st.ti hT st.s1 st.s2 hlt (by omega) fun x y h' tk' ex ey b1 b2 d1 d2 b5 b6 hkp =>
        go h' tk' x y ex ey (hkp _ _ Z.TIz Z.TITO Z.TIi1 Z.TIi2 st.ti) d1 d2 b5 ⟨h.objs.size, false, _, b1, b5, nz, n1, n2, nS⟩ hkp
    · exact zh_next (s := { s with heap := h, toks := tk }) Z (D1 _ hh) (D2 _ hh) hz hT st.ti st.s1 st.s2 hlt (by omega) fun x y h' tk' ex ey b1 d1 d2 b5 b6 hkp =>
        go h' tk' x y ex ey (hkp _ _ Z.TIz Z.TIi1 Z.TIi2 st.ti) d1 d2 b5 ⟨T, true, oT, b1, hkp _ _ r1 r2 r3 hT, r1, r2, r3, r4⟩ fun c o c1 _ c3 c4 e => hkp c o c1 c3 c4 e
end
end Lk

set_option maxHeartbeats 8000000
namespace Lk
open PySem PySem.Spec PyProof.Rows PySem.W L2
theorem zip_no_len : typeLookup (.type "zip") "__len__" = pure none := am_miss_of_fast (by decide +kernel)
theorem zip_no_hint : typeLookup (.type "zip") "__length_hint__" = pure none := am_miss_of_fast (by decide +kernel)
section
variable {prog : Program} {w : World} {A : Around} {E : Value → Shared → Prop} {s : Shared} {z : Addr}
theorem zl_hint {Q : Bool → Shared → Prop} (hT : s.TypeIs (.ref z) "zip") (h : Q true s) : wpAny (model prog w) A (Builtin.List.listLengthHint (.ref z)) Q E s := by
  unfold Builtin.List.listLengthHint
  refine wpAny_bind (wpAny_specialOf hT zip_no_len ?_)
  refine wpAny_ite_split (fun hab => absurd hab (by decide)) (fun _ => ?_)
  refine wpAny_ite_split (fun hab => absurd hab (by decide)) (fun _ => ?_)
  refine wpAny_bind (wpAny_specialOf hT zip_no_hint ?_)
  exact wpAny_pure h
end
section
variable {prog : Program} {w : World} {A : Around} {s : Shared} {z TI TO i1 i2 : Addr} {fp1 fp2 : List Addr} {xs ys : Array Value} {St1 St2 : Nat → Heap → Prop}
/-- what the rest asks of a new zip -/
structure ZlOk (prog : Program) (w : World) (z TI TO i1 i2 : Addr) (fp1 fp2 : List Addr) (xs ys : Array Value) (St1 St2 : Nat → Heap → Prop) (h : Heap) : Prop where
  sep : ZipSep2 z TI TO i1 i2 fp1 fp2
  len : xs.size = ys.size
  fits : xs.size ≤ sizeLine
  d1 : ∀ A : Around, A.handled = none → Draws prog w A i1 fp1 xs.size (fun i v => xs[i]? = some v) St1
  d2 : ∀ A : Around, A.handled = none → Draws prog w A i2 fp2 ys.size (fun i v => ys[i]? = some v) St2
  hz : IsZip h z TI TO .none
  hTI : IsTupOf2 h TI (.ref i1) (.ref i2)
  hTO : IsTupOf2 h TO .none .none
  s1 : St1 0 h
  s2 : St2 0 h
  low1 : ∀ b ∈ fp1, b < h.objs.size
  low2 : ∀ b ∈ fp2, b < h.objs.size
theorem ZlOk.keep {h h' : Heap} {prog : Program} {w : World} (Z : ZlOk prog w z TI TO i1 i2 fp1 fp2 xs ys St1 St2 h) (k : ∀ b o, b < h.objs.size → h.get? b = some o → h'.get? b = some o) (hs : h.objs.size ≤ h'.objs.size) : ZlOk prog w z TI TO i1 i2 fp1 fp2 xs ys St1 St2 h' :=
  { sep := Z.sep, len := Z.len, fits := Z.fits, d1 := Z.d1, d2 := Z.d2, hz := k _ _ (Heap.lt_size Z.hz) Z.hz, hTI := k _ _ (Heap.lt_size Z.hTI) Z.hTI, hTO := k _ _ (Heap.lt_size Z.hTO) Z.hTO,
    s1 := (Z.d1 callerA rfl).frame _ _ _ Z.s1 fun b hb o e => k b o (Z.low1 b hb) e, s2 := (Z.d2 callerA rfl).frame _ _ _ Z.s2 fun b hb o e => k b o (Z.low2 b hb) e,
    low1 := fun b hb => Nat.lt_of_lt_of_le (Z.low1 b hb) hs, low2 := fun b hb => Nat.lt_of_lt_of_le (Z.low2 b hb) hs }
theorem zl_extend {R : Result → Shared → Prop} {S : Addr} (hh : A.handled = none) {hb : Heap} (Z : ZlOk prog w z TI TO i1 i2 fp1 fp2 xs ys St1 St2 hb) (hbS : hb.objs.size = S) (kb : ∀ b o, b < S → hb.get? b = some o → s.heap.get? b = some o) (res : Value) (c₀ : Nat) (hS : s.heap.get? S = some { cls := .type "list", data := .seq #[] c₀ })
    (hR : ∀ h' tk acc c as, (∀ b o, b ≠ z → b ≠ TO → b ≠ i1 → b ≠ i2 → hb.get? b = some o → h'.get? b = some o) → h'.get? S = some { cls := .type "list", dict := none, data := .seq acc c, slots := #[] } → as.length = xs.size → ZlG xs ys S h' as →
      acc.toList = as.map Value.ref → R (.ok (.ret res)) { s with heap := h', toks := tk }) :
    wpAny (model prog w) A.in1 (Builtin.List.listExtendWith (.ref S) (.ref z) res)
      (fun fin s' => match fin with | .done f => R (.ok f) s' | .again c' => c'.quiet = true ∧ codeAny (model prog w) A c' R s') (fun e s' => R (.error e) s') s := by
  have lt : ∀ {b : Addr} {o : Obj}, hb.get? b = some o → b < S := fun e => by rw [← hbS]; exact Heap.lt_size e
  have f1 : S ∉ fp1 := fun q => Nat.lt_irrefl _ (by have := Z.low1 _ q; rw [hbS] at this; exact this)
  have f2 : S ∉ fp2 := fun q => Nat.lt_irrefl _ (by have := Z.low2 _ q; rw [hbS] at this; exact this)
  have l1 : i1 < S := by rw [← hbS]; exact Z.low1 _ Z.sep.mem1
  have l2 : i2 < S := by rw [← hbS]; exact Z.low2 _ Z.sep.mem2
  have hzS : S ≠ z := Nat.ne_of_gt (lt Z.hz)
  have hT : s.TypeIs (.ref z) "zip" := ⟨_, kb _ _ (lt Z.hz) Z.hz, rfl⟩
  have key : ∀ (h : Heap) (c₁ tk : Nat), (∀ b o, b < S → hb.get? b = some o → h.get? b = some o) → h.get? S = some { cls := .type "list", data := .seq #[] c₁ } → codeAny (model prog w) A (.builtin "list.extend.loop" ⟨[.ref S, .ref z, res], []⟩) R { s with heap := h, toks := tk } := by
    intro h c₁ tk hk hS₁
    refine zl_loop (h₁ := hb) hh Z.sep Z.len Z.fits Z.d1 Z.d2 f1 f2 (lt Z.hz) (lt Z.hTO) (lt Z.hTI) l1 l2 res (fun h' tk' acc c as k' a1 a2 a3 a4 => hR h' tk' acc c as (fun b o b1 b2 b3 b4 e => k' b o (Nat.ne_of_lt (lt e)) b1 b2 b3 b4 e) a1 a2 a3 a4) xs.size 0 h tk c₁ #[] [] (Nat.sub_zero _) (Nat.zero_le _)
      ⟨hk _ _ (lt Z.hTI) Z.hTI, ?_, ?_, .inl ⟨rfl, hk _ _ (lt Z.hz) Z.hz, hk _ _ (lt Z.hTO) Z.hTO⟩⟩ (fun b o _ _ _ _ _ e => hk b o (lt e) e) hS₁ rfl rfl ⟨List.Pairwise.nil, (fun _ ha => nomatch ha), (fun j a hj => by simp at hj)⟩
    · exact (Z.d1 callerA rfl).frame _ _ _ Z.s1 fun b hb' o e => hk b o (lt e) e
    · exact (Z.d2 callerA rfl).frame _ _ _ Z.s2 fun b hb' o e => hk b o (lt e) e
  unfold Builtin.List.listExtendWith
  refine wpAny_bind (wpAny_typeOf (T := "zip") hT ?_)
  have h1 : Builtin.List.listSameRef (.ref S) (.ref z) = false := by simp [Builtin.List.listSameRef, hzS]
  have h2 : (Value.type "zip" == Value.type "list") = false := by decide
  have h3 : (Value.type "zip" == Value.type "tuple") = false := by decide
  simp only [h1, h2, h3, Bool.or_false, Bool.false_eq_true, if_false]
  refine wpAny_bind (wpAny_pyIter_zip (kb _ _ (lt Z.hz) Z.hz) ?_)
  refine wpAny_bind (wpAny_holding (zl_hint hT ?_))
  refine wpAny_ite_split (fun _ => ?_) (fun _ => wpAny_pure ⟨plainId_quiet PySem.F.plain_extend_loop _, key _ c₀ _ kb hS⟩)
  refine wpAny_bind (wpAny_rule (wpAny_bind (show wpAny _ _ (updateSeq S (·.push .none) >>= fun _ => updateSeq S (·.pop)) _ _ _ from ?_)))
  refine wpAny_bind (wpAny_updateSeq hS rfl ?_)
  have hS₂ := Heap.get?_update_self (Obj.mapSeq (·.push Value.none)) hS rfl
  refine wpAny_updateSeq (hz := by seq_fits) hS₂ rfl ?_
  have hS₃ := Heap.get?_update_self (Obj.mapSeq (·.pop)) hS₂ rfl
  refine wpAny_pure ⟨plainId_quiet PySem.F.plain_extend_loop _, key _ _ _ (fun b o hb e => ?_) hS₃⟩
  exact (Heap.get?_update_other _ _ (Nat.ne_of_gt hb)).trans ((Heap.get?_update_other _ _ (Nat.ne_of_gt hb)).trans (kb b o hb e))
theorem call_list_zip {E : Value → Shared → Prop} {Q : Value → Shared → Prop} (hh : A.handled = none) (Z : ZlOk prog w z TI TO i1 i2 fp1 fp2 xs ys St1 St2 s.heap)
    (hQ : ∀ h' tk acc c as, (∀ b o, b ≠ z → b ≠ TO → b ≠ i1 → b ≠ i2 → s.heap.get? b = some o → h'.get? b = some o) → h'.get? s.heap.objs.size = some { cls := .type "list", dict := none, data := .seq acc c, slots := #[] } → as.length = xs.size →
      ZlG xs ys s.heap.objs.size h' as → acc.toList = as.map Value.ref → Q (.ref s.heap.objs.size) { s with heap := h', toks := tk }) : wpAny (model prog w) A (call (.type "list") [.ref z]) Q E s := by
  refine callType_codes (Q₁ := fun obj s₁ => obj = .ref s.heap.objs.size ∧ s₁ = { s with heap := s.heap.push { cls := .type "list", data := .seq #[] } }) PySem.F.called_list (PySem.F.typeCall_list_1 _) PySem.F.entry_list_init (code_list_new _ ⟨rfl, rfl⟩) fun obj s₁ h₁ => ?_
  obtain ⟨rfl, rfl⟩ := h₁
  have hS : (s.heap.push { cls := .type "list", data := .seq #[] }).get? s.heap.objs.size = some { cls := .type "list", data := .seq #[] } := Heap.get?_push_size _ rfl
  refine ⟨⟨_, hS, rfl⟩, PySem.F.args_list_init_2 _ _, ?_⟩
  show wpAny _ _ (do let old ← Builtin.List.listItems (.ref s.heap.objs.size); Builtin.List.listUpdate (.ref s.heap.objs.size) (fun _ => #[]); letGo old.toList.reverse; Builtin.List.listExtendWith (.ref s.heap.objs.size) (.ref z) .none) _ _ _
  refine wpAny_bind ?_
  unfold Builtin.List.listItems
  refine wpAny_bind (wpAny_seqItems hS rfl (wpAny_pure ?_))
  show wpAny _ _ (updateSeq s.heap.objs.size (fun _ => #[]) >>= fun _ => letGo (#[] : Array Value).toList.reverse >>= fun _ => Builtin.List.listExtendWith (.ref s.heap.objs.size) (.ref z) .none) _ _ _
  refine wpAny_bind (wpAny_updateSeq hS rfl ?_)
  have hS₂ := Heap.get?_update_self (Obj.mapSeq (fun _ => (#[] : Array Value))) hS rfl
  refine wpAny_bind (wpAny_letGo ?_)
  exact zl_extend (A := A.in1) hh Z rfl (fun b o hb e => (Heap.get?_update_other _ _ (Nat.ne_of_gt hb)).trans (Heap.get?_push_of_some _ e)) .none _ hS₂ fun h' tk acc c as k' a1 a2 a3 a4 => ⟨rfl, hQ h' tk acc c as k' a1 a2 a3 a4⟩
end
end Lk

set_option maxHeartbeats 8000000
namespace Lk
open PySem PySem.Spec PyProof.Rows PySem.W L2
/-! ### list(zip(a, b)) in the layer -/
def putV : Hp → List Addr → List (V × V) → Hp
  | H, a :: as, p :: ps => putV (upd H a (.tup [p.1, p.2])) as ps
  | H, _, _ => H
theorem putV_off {b : Addr} : ∀ (as : List Addr) (ps : List (V × V)) (H : Hp), b ∉ as → putV H as ps b = H b
  | [], _, _, _ => rfl
  | _ :: _, [], _, _ => rfl
  | a :: as, p :: ps, H, h => by
    show putV (upd H a (.tup [p.1, p.2])) as ps b = H b
    rw [putV_off as ps _ (fun z => h (List.mem_cons_of_mem _ z)), upd_ne (fun z => h (by rw [z]; exact List.mem_cons_self))]
theorem putV_at : ∀ (as : List Addr) (ps : List (V × V)) (H : Hp), as.length = ps.length → as.Nodup → Paired (fun (t : Addr) (p : V × V) => putV H as ps t = some (.tup [p.1, p.2])) as ps
  | [], [], _, _, _ => .nil
  | [], _ :: _, _, h, _ => by cases h
  | _ :: _, [], _, h, _ => by cases h
  | a :: as, p :: ps, H, h, hn => by
    have hn' := List.nodup_cons.mp hn
    refine .cons ?_ (putV_at as ps (upd H a (.tup [p.1, p.2])) (Nat.succ.inj h) hn'.2)
    show putV (upd H a (.tup [p.1, p.2])) as ps a = some (.tup [p.1, p.2])
    rw [putV_off as ps _ hn'.1, upd_same]
section
variable {X : Cx} {pins : List (Addr × Obj)} {σ : L2.St} {H : Hp} {s : Shared} {h' : Heap} {tk : Nat} {xs ys : List V} {its its2 : List Value} {acc : Array Value} {c : Nat} {as : List Addr} {S : Addr}
theorem zl_laid (I : Inv X pins σ H s) (hz : xs.length ≤ sizeLine) (hxy : xs.length = ys.length) (rx : Vals xs its) (ry : Vals ys its2) (hk : ∀ b o, s.heap.get? b = some o → h'.get? b = some o) (hlo : s.heap.objs.size ≤ S)
    (hS : h'.get? S = some { cls := .type "list", dict := none, data := .seq acc c, slots := #[] }) (hl : as.length = xs.length) (hG : ZlG its.toArray its2.toArray S h' as) (hacc : acc.toList = as.map Value.ref) :
    ∃ H' : Hp, Same H H' ∧ H S = none ∧ H' S = some (.lst (as.map V.ref)) ∧ Paired (fun (t : Addr) (q : V × V) => H' t = some (.tup [q.1, q.2])) as (xs.zip ys) ∧ Inv X pins σ H' { s with heap := h', toks := tk } := by
  have hSn : S ∉ as := fun z => Nat.lt_irrefl _ (hG.above _ z)
  have nd : as.Nodup := List.Pairwise.imp (fun {a b} (h : a < b) => Nat.ne_of_lt h) hG.rise
  have hi : ∀ t ∈ as, s.heap.objs.size ≤ t := fun t ht => Nat.le_trans hlo (Nat.le_of_lt (hG.above t ht))
  have new : ∀ t ∈ as, H t = none := fun t ht => I.hok.fresh (hi t ht)
  have newS : H S = none := I.hok.fresh hlo
  have lz : as.length = (xs.zip ys).length := by rw [List.length_zip, hl]; omega
  have atP := putV_at as (xs.zip ys) (upd H S (.lst (as.map V.ref))) lz nd
  have off : ∀ b, b ∉ as → b ≠ S → putV (upd H S (.lst (as.map V.ref))) as (xs.zip ys) b = H b := fun b h1 h2 => by rw [putV_off as _ _ h1, upd_ne h2]
  have low : ∀ b o, s.heap.get? b = some o → b ∉ as ∧ b ≠ S := fun b o e => ⟨fun z => absurd (Heap.lt_size e) (Nat.not_lt.mpr (hi b z)), Nat.ne_of_lt (Nat.lt_of_lt_of_le (Heap.lt_size e) hlo)⟩
  have kp : Same H (putV (upd H S (.lst (as.map V.ref))) as (xs.zip ys)) := fun b u e => by
    rw [off b (fun z => by rw [new b z] at e; cases e) (fun z => by rw [z, newS] at e; cases e)]
    exact e
  have eS : putV (upd H S (.lst (as.map V.ref))) as (xs.zip ys) S = some (.lst (as.map V.ref)) := by rw [putV_off as _ _ hSn, upd_same]
  refine ⟨_, kp, newS, eS, atP, ?_⟩
  refine I.call' (ch := []) rfl ⟨fun b o q _ _ _ => hk b o q, fun b o q _ _ _ => ⟨o.slots, hk b o q⟩, fun b o q n _ => ?_, fun b o q _ => ⟨o, hk b o q⟩, fun b xs q => kp b _ q, fun b o u q => kp b _ q, fun b ps q => ⟨#[], by rw [kp b _ q]; simp⟩⟩ (fun b u q => ?_) I.bare fun b z => by simp at z
  · obtain ⟨z1, z2⟩ := low b o q
    rw [off b z1 z2]
    exact n
  · by_cases hb : b ∈ as
    · obtain ⟨j, pk, e1, e2, e3⟩ := LiI.paired_ix atP hb
      rw [e3] at q
      cases q
      obtain ⟨x, y, f1, f2, f3⟩ := hG.pairs j b e1
      have hp := (List.getElem?_eq_some_iff.mp e2)
      obtain ⟨hj, ej⟩ := hp
      rw [List.getElem_zip] at ej
      have hjx : j < xs.length := by rw [List.length_zip] at hj; omega
      have hjy : j < ys.length := by omega
      obtain ⟨u, g1, g2⟩ := rx.get (List.getElem?_eq_getElem hjx)
      obtain ⟨v, g3, g4⟩ := ry.get (List.getElem?_eq_getElem hjy)
      rw [List.getElem?_toArray] at f1 f2
      rw [g1] at f1
      rw [g3] at f2
      rw [← ej]
      exact ⟨by show 2 ≤ sizeLine; decide, [x, y], .cons (by rw [← Option.some.inj f1]; exact g2) (.cons (by rw [← Option.some.inj f2]; exact g4) .nil), ⟨_, f3, rfl, _, rfl⟩⟩
    · by_cases hb2 : b = S
      · rw [hb2] at q ⊢
        rw [eS] at q
        cases q
        refine ⟨by rw [List.length_map]; omega, acc.toList, c, by rw [hacc]; exact LiI.vals_refs as, ?_⟩
        rw [Array.toArray_toList]
        exact hS
      · rw [off b hb hb2] at q
        exact (I.hok b u q).stay (fun d v _ y => hk d v y) (fun d y => kp d _ y) fun d xs y => kp d _ y
end
def tListZip (K : PySem.W.Frag) (ta : TA) : TE := fun σ H Q => ta σ H fun vs H1 => ∃ l1 l2 xs ys, vs = [.ref l1, .ref l2] ∧ Sq K H1 l1 xs ∧ Sq K H1 l2 ys ∧ xs.length = ys.length ∧
  ∀ (H' : Hp) (p : Addr) (ts : List Addr), Same H1 H' → H1 p = none → H' p = some (.lst (ts.map V.ref)) → Paired (fun (t : Addr) (q : V × V) => H' t = some (.tup [q.1, q.2])) ts (xs.zip ys) → Q (.ref p) H'
/-- an iterator over a list or a tuple -/
theorem sq_src {X : Cx} {pins : List (Addr × Obj)} {σ : L2.St} {H : Hp} {s : Shared} {l : Addr} {xs : List V} (I : Inv X pins σ H s) (h : Sq X.K H l xs) :
    ∃ (its : List Value) (o : Obj) (Hh : Heap → Prop) (St : Addr → Nat → Heap → Prop), Vals xs its ∧ xs.length ≤ sizeLine ∧ l < s.heap.objs.size ∧ Begins (.ref l) o Hh ∧ Hh s.heap ∧
      (∀ (it : Addr) (h' : Heap), l ≠ it → h'.get? it = some o → (∀ b o, s.heap.get? b = some o → h'.get? b = some o) → St it 0 h') ∧
      ∀ (it : Addr), l ≠ it → ∀ A : Around, A.handled = none → Draws X.prog X.w A it [it, l] its.toArray.size (fun i v => its.toArray[i]? = some v) (St it) := by
  rcases h with h | h
  · obtain ⟨its, rv, pl, hz⟩ := I.list h
    refine ⟨its, _, _, fun it i h => h.IsListIter it l i ∧ h.IsList l its.toArray, rv, hz, pl.lt, begins_list l its.toArray, pl.isList, fun it h' _ e k => ⟨⟨_, e, rfl, rfl⟩, pl.isList.at fun o e => k l o e⟩, fun it hne A hA => Draws.list hA it l hne _⟩
  · obtain ⟨its, rv, pl, hz⟩ := I.tuple h
    refine ⟨its, _, _, fun it i h => h.IsTupleIter it l i ∧ h.IsTuple l its.toArray, rv, hz, pl.lt, begins_tuple l its.toArray, pl, fun it h' _ e k => ⟨⟨_, e, rfl, rfl⟩, Heap.IsTuple.at pl fun o e => k l o e⟩, fun it hne A hA => Draws.tuple hA it l hne _⟩
theorem pe_listZip {X : Cx} {a b : Expr} {ta : TA} {p p2 pos pos2 : Pos} (hg : Gl X "list") (hm : X.mg "list" = none) (hg2 : Gl X "zip") (hm2 : X.mg "zip" = none) (ha : PA X [a, b] ta) (hc : X.calm = true := by rfl)
    (hs : starEach [.Call (.Name "zip" p2) [a, b] [] pos2] X.env = (false, eval (.Call (.Name "zip" p2) [a, b] [] pos2) X.env) :: starEach [] X.env := by rfl)
    (hs2 : starEach [a, b] X.env = (false, eval a X.env) :: starEach [b] X.env := by rfl) (hpl : (backTo pos2 (starEach [b] X.env)).any (·.1) = false := by rfl) :
    PE X (.Call (.Name "list" p) [.Call (.Name "zip" p2) [a, b] [] pos2] [] pos) (tListZip X.K ta) := by
  refine ⟨fun pins s σ H Q I hq => ?_⟩
  refine wpAny_Call_Name_kw (ld_blt I hg hm b_list ?_)
  refine PyProof.Rows.callWith_type1 ?_ hs rfl
  rw [hs]
  show wpAny _ _ (spliced ((false, eval (.Call (.Name "zip" p2) [a, b] [] pos2) X.env) :: backTo pos (starEach [] X.env))) _ _ s
  refine Calls.spliced_cons ?_
  refine wpAny_Call_Name_kw (ld_blt I hg2 hm2 b_zip ?_)
  refine PyProof.Rows.callWith_type1 (thn (ha.run pos2 pins s σ H _ I hq) fun us s1 ⟨vs, H1, I1, r1, q1⟩ => ?_) hs2 hpl
  obtain ⟨l1, l2, xs, ys, ex, hqx, hqy, hxy, q⟩ := q1
  subst ex
  cases r1 with
  | cons r rr =>
    cases rr with
    | cons r' rr =>
      cases rr
      cases r
      cases r'
      obtain ⟨its, o1, Hh1, St1, rv1, z1, lt1, B1, hB1, st1, D1⟩ := sq_src I1 hqx
      obtain ⟨its2, o2, Hh2, St2, rv2, z2, lt2, B2, hB2, st2, D2⟩ := sq_src I1 hqy
      refine zip_begins2 B1 B2 hB1 hB2 fun h' hz hTI hTO g1 g2 hsz hk => ?_
      refine Calls.spliced_nil ?_
      have n1 : l1 ≠ s1.heap.objs.size := Nat.ne_of_lt lt1
      have n2 : l2 ≠ s1.heap.objs.size + 1 := Nat.ne_of_lt (Nat.lt_succ_of_lt lt2)
      have a1 : ∀ k, s1.heap.objs.size + k ≠ l1 := fun k e => Nat.lt_irrefl l1 (Nat.lt_of_lt_of_le lt1 (e ▸ Nat.le_add_right _ _))
      have a2 : ∀ k, s1.heap.objs.size + k ≠ l2 := fun k e => Nat.lt_irrefl l2 (Nat.lt_of_lt_of_le lt2 (e ▸ Nat.le_add_right _ _))
      have nn : ∀ j k : Nat, j ≠ k → s1.heap.objs.size + j ≠ s1.heap.objs.size + k := fun j k h e => h (Nat.add_left_cancel e)
      have n0 : ∀ k : Nat, 0 ≠ k → s1.heap.objs.size ≠ s1.heap.objs.size + k := fun k h e => nn 0 k h (by rw [Nat.add_zero]; exact e)
      have m0 : ∀ k : Nat, k ≠ 0 → s1.heap.objs.size + k ≠ s1.heap.objs.size := fun k h e => nn k 0 h (by rw [Nat.add_zero]; exact e)
      have Z : ZlOk X.prog X.w (s1.heap.objs.size + 4) (s1.heap.objs.size + 2) (s1.heap.objs.size + 3) s1.heap.objs.size (s1.heap.objs.size + 1) [s1.heap.objs.size, l1] [s1.heap.objs.size + 1, l2] its.toArray its2.toArray (St1 s1.heap.objs.size) (St2 (s1.heap.objs.size + 1)) h' := by
        refine ⟨⟨nn 2 4 (by decide), nn 3 4 (by decide), nn 2 3 (by decide), m0 2 (by decide), List.mem_cons_self, ?_, ?_, nn 2 1 (by decide), List.mem_cons_self, ?_, ?_, ?_, ?_⟩, ?_, ?_, D1 _ n1, D2 _ n2, hz, hTI, hTO, st1 _ h' n1 g1 hk, st2 _ h' n2 g2 hk, ?_, ?_⟩
        · simp only [List.mem_cons, List.not_mem_nil, or_false, not_or]; exact ⟨m0 4 (by decide), a1 4⟩
        · simp only [List.mem_cons, List.not_mem_nil, or_false, not_or]; exact ⟨m0 3 (by decide), a1 3⟩
        · simp only [List.mem_cons, List.not_mem_nil, or_false, not_or]; exact ⟨nn 4 1 (by decide), a2 4⟩
        · simp only [List.mem_cons, List.not_mem_nil, or_false, not_or]; exact ⟨nn 3 1 (by decide), a2 3⟩
        · simp only [List.mem_cons, List.not_mem_nil, or_false, not_or]; exact ⟨n0 1 (by decide), fun e => a2 0 (by rw [Nat.add_zero]; exact e)⟩
        · simp only [List.mem_cons, List.not_mem_nil, or_false, not_or]; exact ⟨m0 1 (by decide), a1 1⟩
        · rw [List.size_toArray, List.size_toArray, ← rv1.length, ← rv2.length, hxy]
        · rw [List.size_toArray, ← rv1.length]; exact z1
        · intro b hb
          rw [hsz]
          simp only [List.mem_cons, List.not_mem_nil, or_false] at hb
          rcases hb with e | e <;> rw [e]
          · exact Nat.lt_add_of_pos_right (by decide)
          · exact Nat.lt_of_lt_of_le lt1 (Nat.le_add_right _ _)
        · intro b hb
          rw [hsz]
          simp only [List.mem_cons, List.not_mem_nil, or_false] at hb
          rcases hb with e | e <;> rw [e]
          · exact Nat.add_lt_add_left (by decide) _
          · exact Nat.lt_of_lt_of_le lt2 (Nat.le_add_right _ _)
      refine call_list_zip (s := { s1 with heap := h' }) (I1.ok.hd hc) Z fun h2 tk acc c as k2 hS hl hG hacc => ?_
      have kk : ∀ b o, s1.heap.get? b = some o → h2.get? b = some o := fun b o e => by
        have lb := Heap.lt_size e
        have nb : ∀ k, b ≠ s1.heap.objs.size + k := fun k z => Nat.lt_irrefl b (Nat.lt_of_lt_of_le lb (z ▸ Nat.le_add_right _ _))
        exact k2 b o (nb 4) (nb 3) (Nat.ne_of_lt lb) (nb 1) (hk b o e)
      have hlo : s1.heap.objs.size ≤ h'.objs.size := by rw [hsz]; exact Nat.le_add_right _ _
      obtain ⟨H', kp, nS, eS, atP, J⟩ := zl_laid (tk := tk) I1 z1 hxy rv1 rv2 kk hlo hS (by rw [hl, List.size_toArray, ← rv1.length]) hG hacc
      exact ⟨.ref _, H', J, rfl, q H' _ as kp nS eS atP⟩
end Lk

set_option maxHeartbeats 8000000
namespace Lk
open PySem PySem.Spec PyProof.Rows PySem.W L2
/-! ### keys that are tuples of tuples, bools, numbers, texts -/
mutual
inductive Nk (H : Hp) : V → NestedKey → Prop
  | non : Nk H .non .none
  | bl (b : Bool) : Nk H (.bl b) (.num (if b = true then 1 else 0))
  | int (i : Int) : Nk H (.int i) (.num i)
  | str (x : Str) : Nk H (.str x) (.text x)
  | tup {a : Addr} {xs : List V} {ks : List NestedKey} : H a = some (.tup xs) → NkAll H xs ks → Nk H (.ref a) (.tup ks)
inductive NkAll (H : Hp) : List V → List NestedKey → Prop
  | nil : NkAll H [] []
  | cons {v : V} {vs : List V} {k : NestedKey} {ks : List NestedKey} : Nk H v k → NkAll H vs ks → NkAll H (v :: vs) (k :: ks)
end
mutual
theorem Nk.mono {H H' : Hp} (s : Same H H') : ∀ {v : V} {k : NestedKey}, Nk H v k → Nk H' v k
  | _, _, .non => .non
  | _, _, .bl b => .bl b
  | _, _, .int i => .int i
  | _, _, .str x => .str x
  | _, _, .tup e h => .tup (s _ _ e) (NkAll.mono s h)
theorem NkAll.mono {H H' : Hp} (s : Same H H') : ∀ {vs : List V} {ks : List NestedKey}, NkAll H vs ks → NkAll H' vs ks
  | _, _, .nil => .nil
  | _, _, .cons h t => .cons (Nk.mono s h) (NkAll.mono s t)
end
section
variable {X : Cx} {pins : List (Addr × Obj)} {σ : L2.St} {H : Hp} {s : Shared}
mutual
theorem Nk.is (I : Inv X pins σ H s) : ∀ (k : NestedKey) (v : V) (u : Value), Nk H v k → RelV v u → NestedIs s.heap k u
  | .none, v, u, h, r => by
    cases h
    cases r
    exact .none
  | .num i, v, u, h, r => by
    cases h with
    | bl b => cases r; exact .bool rfl
    | int i => obtain ⟨t, rfl⟩ := r; exact .int i t
  | .text x, v, u, h, r => by
    cases h
    obtain ⟨t, rfl⟩ := r
    exact .text x t
  | .tup ks, v, u, h, r => by
    cases h with
    | tup e h =>
      cases r
      obtain ⟨_, its, rv, o, ho, hc, n, hd⟩ := I.hok _ _ e
      exact .tup ho hc hd (NkAll.is I ks _ _ h (by simpa using rv))
theorem NkAll.is (I : Inv X pins σ H s) : ∀ (ks : List NestedKey) (vs : List V) (us : List Value), NkAll H vs ks → Vals vs us → NestedAll s.heap ks us
  | [], _, _, h, r => by
    cases h
    cases r
    exact .nil
  | k :: ks, _, _, h, r => by
    cases h with
    | cons h1 h2 =>
      cases r with
      | cons r1 r2 => exact .cons (Nk.is I k _ _ h1 r1) (NkAll.is I ks _ _ h2 r2)
end
end
/-- the key at a -/
structure NkAt (H : Hp) (a : Addr) (k : NestedKey) : Prop where
  nk : Nk H (.ref a) k
  dp : k.depth ≤ 8
theorem NkAt.mono {H H' : Hp} {a : Addr} {k : NestedKey} (s : Same H H') (h : NkAt H a k) : NkAt H' a k := ⟨h.nk.mono s, h.dp⟩
theorem NkAt.is {X : Cx} {pins : List (Addr × Obj)} {σ : L2.St} {H : Hp} {s : Shared} {a : Addr} {k : NestedKey} (I : Inv X pins σ H s) (h : NkAt H a k) : (nestedKind X.prog X.w).is s.heap k a := ⟨Nk.is I k _ _ h.nk rfl, h.dp⟩
/-- a dict's entries: key, where it stands, value -/
abbrev DnE := List (NestedKey × Addr × V)
abbrev DnR (es : DnE) (xs : List (NestedKey × Addr × Value)) : Prop := Paired (fun (p : NestedKey × Addr × V) (q : NestedKey × Addr × Value) => p.1 = q.1 ∧ p.2.1 = q.2.1 ∧ RelV p.2.2 q.2.2) es xs
/-- a dict with nested keys stands at d -/
def DN (P : Program) (w : World) (d : Addr) (es : DnE) : HO := .ext fun h => es.length ≤ sizeLine ∧ (d == sysModules) = false ∧ ∃ xs, DnR es xs ∧ (xs.map (·.1)).Nodup ∧
  ∃ o ar ep, h.get? d = some o ∧ o.ExactDict ∧ o.data = .dict ar ep ∧ ar.toList = xs.map (entryOfKey (nestedKind P w))
def dnAt (es : DnE) (k : NestedKey) : Option (Addr × V) := (es.find? fun x => decide (x.1 = k)).map (·.2)
theorem dn_at : ∀ {es : DnE} {xs : List (NestedKey × Addr × Value)} (k : NestedKey), DnR es xs → (dnAt es k = none ∧ atKey xs k = none) ∨ ∃ a v u, dnAt es k = some (a, v) ∧ atKey xs k = some (a, u) ∧ RelV v u
  | _, _, k, .nil => .inl ⟨rfl, rfl⟩
  | _, _, k, .cons (a := p) (b := q) h t => by
    obtain ⟨h1, h2, h3⟩ := h
    unfold dnAt atKey
    rw [List.find?_cons, List.find?_cons, ← h1]
    cases e : decide (p.1 = k) with
    | true => exact .inr ⟨p.2.1, p.2.2, q.2.2, rfl, by rw [h2] <;> rfl, h3⟩
    | false => exact dn_at k t
def dnKeys (H : Hp) (es : DnE) : Prop := ∀ p ∈ es, NkAt H p.2.1 p.1
theorem dnKeys.mono {H H' : Hp} {es : DnE} (s : Same H H') (h : dnKeys H es) : dnKeys H' es := fun p hp => (h p hp).mono s
theorem dn_ok {P : Program} {w : World} {H : Hp} {h : Heap} {d : Addr} {es : DnE} (e : ObjOk P w H h d (DN P w d es)) : es.length ≤ sizeLine ∧ (d == sysModules) = false ∧ ∃ xs, DnR es xs ∧ (xs.map (·.1)).Nodup ∧
    ∃ o ar ep, h.get? d = some o ∧ o.ExactDict ∧ o.data = .dict ar ep ∧ ar.toList = xs.map (entryOfKey (nestedKind P w)) := e.1
theorem dn_rd {X : Cx} {pins : List (Addr × Obj)} {σ : L2.St} {H : Hp} {s : Shared} {d : Addr} {es : DnE} (I : Inv X pins σ H s) (h : Rd H d (DN X.prog X.w d es)) (hk : dnKeys H es) :
    es.length ≤ sizeLine ∧ (d == sysModules) = false ∧ ∃ xs, DnR es xs ∧ s.heap.DictOfH (nestedKind X.prog X.w) d xs := by
  obtain ⟨h1, h2, xs, r, nd, o, ar, ep, g1, g2, g3, g4⟩ := dn_ok (h.ok I.hok)
  refine ⟨h1, h2, xs, r, o, ar, ep, g1, g2, g3, g4, fun x hx => ?_, nd⟩
  obtain ⟨j, hj⟩ := List.mem_iff_getElem?.mp hx
  have hl : es.length = xs.length := Paired.length r
  obtain ⟨hj1, _⟩ := List.getElem?_eq_some_iff.mp hj
  obtain ⟨q, f1, f2, f3, f4⟩ := LiI.paired_get r (List.getElem?_eq_getElem (show j < es.length by omega))
  rw [hj] at f1
  cases f1
  have := (hk es[j] (List.getElem_mem _)).is I
  rw [f2, f3] at this
  exact this
theorem dn_new {P : Program} {w : World} {H : Hp} {h : Heap} {d : Addr} {es : DnE} {xs : List (NestedKey × Addr × Value)} (z : es.length ≤ sizeLine) (hd : (d == sysModules) = false) (r : DnR es xs) (D : h.DictOfH (nestedKind P w) d xs) : ObjOk P w H h d (DN P w d es) := by
  obtain ⟨o, ar, ep, g1, g2, g3, g4, g5, g6⟩ := D
  refine ⟨⟨z, hd, xs, r, g6, o, ar, ep, g1, g2, g3, g4⟩, ⟨o, g1⟩, fun h1 h2 q k => ?_⟩
  obtain ⟨z, hd, xs, r, g6, o, ar, ep, g1, g2, g3, g4⟩ := q
  exact ⟨z, hd, xs, r, g6, o, ar, ep, k o g1, g2, g3, g4⟩
def dnPut (es : DnE) (k : NestedKey) (a : Addr) (v : V) : DnE := if (dnAt es k).isSome then es.map (fun x => if x.1 = k then (x.1, x.2.1, v) else x) else es ++ [(k, a, v)]
theorem DnR.app {k : NestedKey} {a : Addr} {v : V} {u : Value} (rv : RelV v u) : ∀ {es : DnE} {xs : List (NestedKey × Addr × Value)}, DnR es xs → DnR (es ++ [(k, a, v)]) (xs ++ [(k, a, u)])
  | _, _, .nil => .cons ⟨rfl, rfl, rv⟩ .nil
  | _, _, .cons h t => .cons h (DnR.app rv t)
theorem DnR.mapPut {k : NestedKey} {v : V} {u : Value} (rv : RelV v u) : ∀ {es : DnE} {xs : List (NestedKey × Addr × Value)}, DnR es xs → DnR (es.map (fun x => if x.1 = k then (x.1, x.2.1, v) else x)) (xs.map (putAt k u))
  | _, _, .nil => .nil
  | _, _, .cons (a := p) (b := q) h t => by
    refine .cons ?_ (DnR.mapPut rv t)
    obtain ⟨h1, h2, h3⟩ := h
    unfold putAt
    dsimp only
    by_cases e : p.1 = k
    · rw [if_pos e, if_pos (h1 ▸ e)]
      exact ⟨h1, h2, rv⟩
    · rw [if_neg e, if_neg (h1 ▸ e)]
      exact ⟨h1, h2, h3⟩
theorem DnR.put {es : DnE} {xs : List (NestedKey × Addr × Value)} {k : NestedKey} {a : Addr} {v : V} {u : Value} (r : DnR es xs) (rv : RelV v u) : DnR (dnPut es k a v) (storedH xs k a u) := by
  unfold dnPut storedH
  rcases dn_at k r with ⟨e1, e2⟩ | ⟨b, x, y, e1, e2, _⟩
  · rw [e1, e2]
    exact DnR.app rv r
  · rw [e1, e2]
    exact DnR.mapPut rv r
theorem dnPut_len (es : DnE) (k : NestedKey) (a : Addr) (v : V) : (dnPut es k a v).length ≤ es.length + 1 := by
  unfold dnPut
  split <;> simp
theorem dnPut_keys {H : Hp} {es : DnE} {k : NestedKey} {a : Addr} {v : V} (h : dnKeys H es) (hk : NkAt H a k) : dnKeys H (dnPut es k a v) := by
  intro p hp
  unfold dnPut at hp
  split at hp
  · obtain ⟨x, hx, e⟩ := List.mem_map.mp hp
    rw [← e]
    split
    · exact h x hx
    · exact h x hx
  · rcases List.mem_append.mp hp with q | q
    · exact h p q
    · rw [List.mem_singleton.mp q]
      exact hk
/-! ### the rules -/
section
variable {X : Cx} {i o k v : Expr} {ty td tk tv : TE} {pos pos' : Pos}
theorem room_n {A : Around} (hu : A.units + 16 < cLine) : (nestedKind X.prog X.w).room A.in1 := by
  show A.units + 1 + 8 < cLine
  omega
/-- k in d, k not in d -/
def tNIn (P : Program) (w : World) (neg : Bool) (ty td : TE) : TE := fun σ H Q => ty σ H fun y H1 => td σ H1 fun x H2 => ∃ a d es k, y = .ref a ∧ x = .ref d ∧ Rd H2 d (DN P w d es) ∧ dnKeys H2 es ∧ NkAt H2 a k ∧ Q (.bl (if neg then !(dnAt es k).isSome else (dnAt es k).isSome)) H2
theorem pc_nin (hu : X.A.units + 16 < cLine) (hi : PE X i ty) (ho : PE X o td) : PC X .In i o (tNIn X.prog X.w false ty td) := by
  refine ⟨fun pins s σ H Q I h => ?_⟩
  refine thn (hi.run pins s σ H _ I h) fun iv s1 ⟨y, H1, I1, ry, q1⟩ => thn (ho.run pins s1 σ H1 _ I1 q1) fun u s2 ⟨x, H2, I2, rx, a, d, es, k, ey, ex, g, hk, ka, q2⟩ => ?_
  subst ex ey
  cases rx
  cases ry
  obtain ⟨_, hd, xs, r, D⟩ := dn_rd I2 g hk
  refine wpAny_in_heap (room_n (X := X) hu) (ka.is I2) hd D ⟨_, H2, I2.tok _, ?_, q2⟩
  rcases dn_at k r with ⟨e1, e2⟩ | ⟨b, p, q, e1, e2, _⟩ <;> rw [e1, e2] <;> rfl
theorem pc_nnotin (hu : X.A.units + 16 < cLine) (hi : PE X i ty) (ho : PE X o td) : PC X .NotIn i o (tNIn X.prog X.w true ty td) := by
  refine ⟨fun pins s σ H Q I h => ?_⟩
  refine thn (hi.run pins s σ H _ I h) fun iv s1 ⟨y, H1, I1, ry, q1⟩ => thn (ho.run pins s1 σ H1 _ I1 q1) fun u s2 ⟨x, H2, I2, rx, a, d, es, k, ey, ex, g, hk, ka, q2⟩ => ?_
  subst ex ey
  cases rx
  cases ry
  obtain ⟨_, hd, xs, r, D⟩ := dn_rd I2 g hk
  refine wpAny_notIn_heap (room_n (X := X) hu) (ka.is I2) hd D ⟨_, H2, I2.tok _, ?_, q2⟩
  rcases dn_at k r with ⟨e1, e2⟩ | ⟨b, p, q, e1, e2, _⟩ <;> rw [e1, e2] <;> rfl
/-- d[k], there -/
def tNGet (P : Program) (w : World) (td ty : TE) : TE := fun σ H Q => td σ H fun x H1 => ty σ H1 fun y H2 => ∃ a d es k b v, x = .ref d ∧ y = .ref a ∧ Rd H2 d (DN P w d es) ∧ dnKeys H2 es ∧ NkAt H2 a k ∧ dnAt es k = some (b, v) ∧ Q v H2
theorem pe_nget (hu : X.A.units + 16 < cLine) (ho : PE X o td) (hi : PE X i ty) (hs : NoSl i) : PE X (.Subscript o i pos) (tNGet X.prog X.w td ty) := by
  refine ⟨fun pins s σ H Q I h => ?_⟩
  refine subD_of PySem.F.slot_dict_getitem.lookup hs (thn (ho.run pins s σ H _ I h) fun u s1 ⟨x, H1, I1, rx, q1⟩ => thn (hi.run pins s1 σ H1 _ I1 q1) fun iv s2 ⟨y, H2, I2, ry, a, d, es, k, b, v, ex, ey, g, hk, ka, l, q2⟩ => ?_)
  subst ex ey
  cases rx
  cases ry
  obtain ⟨_, hd, xs, r, D⟩ := dn_rd I2 g hk
  refine ⟨D.typeIs, ?_⟩
  rcases dn_at k r with ⟨e1, e2⟩ | ⟨b', p, q, e1, e2, e3⟩
  · rw [e1] at l; cases l
  · rw [e1] at l
    cases l
    exact wpAny_getItem_heap (room_n (X := X) hu) (ka.is I2) D e2 ⟨v, H2, I2.tok _, e3, q2⟩
/-- d[k] = v -/
def sNPut (P : Program) (w : World) (td ty tv : TE) : TS := fun D σ H => tv σ H fun v H1 => td σ H1 fun x H2 => ty σ H2 fun y H3 => ∃ a d es k, x = .ref d ∧ y = .ref a ∧ H3 d = some (DN P w d es) ∧ dnKeys H3 es ∧ NkAt H3 a k ∧ es.length < 100000 ∧ D.nx σ (upd H3 d (DN P w d (dnPut es k a v)))
theorem ps_nput (hu : X.A.units + 16 < cLine) (ho : PE X o td) (hi : PE X i ty) (hv : PE X v tv) (hs : swapsWith v (some (.Subscript o i pos')) pos.line X.env = pure false) : PS X (.Assign [.Subscript o i pos'] v pos) (sNPut X.prog X.w td ty tv) := by
  refine ⟨fun pins s σ H D I h => ?_⟩
  refine wpAny_Assign_Subscript (thn (hv.run pins s σ H _ I h) fun r s1 ⟨v, H1, I1, rv, q1⟩ => thn (ho.run pins s1 σ H1 _ I1 q1) fun u s2 ⟨x, H2, I2, rx, q2⟩ => thn (hi.run pins s2 σ H2 _ I2 q2) fun iv s3 ⟨y, H3, I3, ry, a, d, es, k, ex, ey, g, hk, ka, z, q3⟩ => ?_) hs
  subst ex ey
  cases rx
  cases ry
  obtain ⟨z0, hd, xs, rr, D0⟩ := dn_rd I3 (.inl g) hk
  have hl : es.length = xs.length := Paired.length rr
  refine wpAny_setItem_heap (room_n (X := X) hu) (ka.is I3) D0 (fun h' D' hs' => ⟨σ, _, ?_, q3⟩) (by rw [← hl]; exact z0)
  have he : ∃ q, h'.get? d = some q := let ⟨q, _, _, hq, _⟩ := D'; ⟨q, hq⟩
  exact d_write I3 (by rw [g]; exact True.intro) hs' he (dn_new (Nat.le_trans (dnPut_len es k a v) (sz_le (by omega))) hd (rr.put rv) D')
/-- {k: v} -/
def tNDisp (P : Program) (w : World) (tk tv : TE) : TE := fun σ H Q => ∀ p, H p = none → tPairs [(tk, tv)] σ (upd H p (.dK [])) fun ps H2 => H2 p = some (.dK []) ∧ ∃ a k v, ps = [(.ref a, v)] ∧ NkAt H2 a k ∧ Q (.ref p) (upd H2 p (DN P w p [(k, a, v)]))
theorem pe_ndisp (hu : X.A.units + 16 < cLine) (hk : PE X k tk) (hv : PE X v tv) : PE X (.Dict [some k] [v] pos) (tNDisp X.prog X.w tk tv) := by
  refine ⟨fun pins s σ H Q I q => ?_⟩
  have hn := I.hok.fresh (Nat.le_refl s.heap.objs.size)
  have I1 := I.laid (a := s.heap.objs.size) (o := .dK []) (h' := s.heap.push { cls := .type "dict", data := .dict #[] }) (t' := s.toks) (fun _ _ q => Heap.get?_push_of_some _ q) (Nat.le_refl _) (dk_empty s.heap I.big)
  have P := pps_cons (pos := pos) hk hv pps_nil
  have len : (pairTrees [some k] [v] X.env pos).length = 1 := pairTrees_length _ _ _ _ rfl rfl
  rw [arm_eval_Dict, zip_pairTrees [some k] [v] X.env pos rfl rfl, dictDisplay_pairs _ (by intro e; rw [e] at len; cases len) (by rw [len]; decide)]
  refine wpAny_bind (wpAny_standAt (wpAny_bind (wpAny_subDictH (knd := nestedKind X.prog X.w) (by show X.A.units + 8 < cLine; omega) (by rw [len]; decide) (thn (P.run pins _ σ _ _ I1 (q _ hn)) fun ws s2 ⟨ps, H2, I2, rel, e, a, k', v', eps, ka, q2⟩ => ?_))))
  subst eps
  cases rel with
  | cons r rr =>
    cases rr
    obtain ⟨r1, r2⟩ := r
    obtain ⟨z, hd, vs0, r0, dd⟩ := dk_of I2.hok e
    cases r0
    refine ⟨[(k', a, _)], ⟨r1, rfl, ka.is I2, trivial⟩, ?_, fun h' tk D' hs => wpAny_pure ⟨.ref s.heap.objs.size, _, ?_, rfl, q2⟩⟩
    · obtain ⟨o, es, ep, g1, g2, g3, g4, g5⟩ := dd
      refine ⟨o, es, ep, g1, g2, g3, ?_, (fun x hx => nomatch hx), List.nodup_nil⟩
      cases h : es.toList with
      | nil => rfl
      | cons c d => rw [h] at g5; cases g5.1
    · have he : ∃ q, h'.get? s.heap.objs.size = some q := let ⟨q, _, _, hq, _⟩ := D'; ⟨q, hq⟩
      exact d_write I2 (by rw [e]; exact True.intro) hs he (dn_new (by show 1 ≤ sizeLine; decide) hd (.cons ⟨rfl, rfl, r2⟩ .nil) D')
end
end Lk

set_option maxHeartbeats 8000000
namespace Lk
open PySem PySem.Spec PyProof.Rows PySem.W L2
/-! ### dict comprehensions: keys ints, texts; or tuples at any depth -/
/-- the new dict, of either kind -/
def Emp (P : Program) (w : World) (D : Addr) (o : HO) : Prop := o = .dK [] ∨ o = DN P w D []
theorem dn_of_dk {P : Program} {w : World} {H : Hp} {h : Heap} {d : Addr} (e : ObjOk P w H h d (.dK [])) : ObjOk P w H h d (DN P w d []) := by
  obtain ⟨z, hd, vs0, r0, dd⟩ := e
  cases r0
  refine dn_new (by decide) hd .nil ?_
  obtain ⟨o, es, ep, g1, g2, g3, g4, g5⟩ := dd
  refine ⟨o, es, ep, g1, g2, g3, ?_, (fun x hx => nomatch hx), List.nodup_nil⟩
  cases h : es.toList with
  | nil => rfl
  | cons c d => rw [h] at g5; cases g5.1
theorem emp_ok {P : Program} {w : World} {H : Hp} {D : Addr} {o : HO} (h : Heap) (hb : sysModules < h.objs.size) (e : h.objs.size = D) (E : Emp P w D o) : ObjOk P w H (h.push { cls := .type "dict", data := .dict #[] }) D o := by
  subst e
  rcases E with rfl | rfl
  · exact dk_empty h hb
  · exact dn_of_dk (dk_empty h hb)
/-- D[y] = z -/
def rPutC (P : Program) (w : World) (D : Addr) (y z : V) (H : Hp) (Nx : Hp → Prop) : Prop :=
  (∃ kvs k, y = kV k ∧ H D = some (.dK kvs) ∧ kvs.length < sizeLine ∧ Nx (upd H D (.dK (putK kvs k z)))) ∨
  (∃ a es k, y = .ref a ∧ H D = some (DN P w D es) ∧ dnKeys H es ∧ NkAt H a k ∧ es.length < 100000 ∧ Nx (upd H D (DN P w D (dnPut es k a z))))
theorem dn_dictSet {X : Cx} {pins : List (Addr × Obj)} {σ : L2.St} {H : Hp} {s : Shared} {E : Value → Shared → Prop} {D : Addr} {y z : V} {u r : Value} {Nx : Hp → Prop} {Q : Unit → Shared → Prop} (hu : X.A.units + 16 < cLine) (I : L2.Inv X pins σ H s) (hp : rPutC X.prog X.w D y z H Nx)
    (ry : RelV y u) (rv : RelV z r) (h : ∀ s' H', Inv X pins σ H' s' → Nx H' → Q () s') : wpAny (model X.prog X.w) X.A (dictSet D u r) Q E s := by
  rcases hp with ⟨kvs, k, e, hD, hz, n⟩ | ⟨a, es, k, e, hD, hk, ka, hz, n⟩
  · subst e
    exact d_dictSet I hD hz ry rv fun s' I' => h s' _ I' n
  · subst e
    cases ry
    obtain ⟨z0, hd, xs, rr, D0⟩ := dn_rd I (.inl hD) hk
    have hl : es.length = xs.length := Paired.length rr
    refine wpAny_dictSet_heap (by show X.A.units + 8 < cLine; omega) (ka.is I) D0 (fun h' D' hs' => h _ _ ?_ n) (by rw [← hl]; exact z0)
    have he : ∃ q, h'.get? D = some q := let ⟨q, _, _, hq, _⟩ := D'; ⟨q, hq⟩
    exact d_write I (by rw [hD]; exact True.intro) hs' he (dn_new (Nat.le_trans (dnPut_len es k a z) (sz_le (by omega))) hd (rr.put rv) D')
section
variable {X : Cx}
/-- {k: v for target in iter if ..}, keys ints or texts: D the new dict -/
def tDcN (P : Program) (w : World) (wi : TI) (g : TG) (tt : TT) (tk tv : TE) (vs : List Nat) : TE := fun σ H Q => wi σ H fun J H1 => ∀ D, H1 D = none → ∃ W : Nat → Nat → Hp → Prop, (∃ m o, Emp P w D o ∧ W 0 m (upd H1 D o)) ∧ ∀ i m H, W i m H →
  (J.stop i H ∧ Q (.ref D) H) ∨ (J.go i H ∧ ∃ Nx : Hp → Prop, (∀ H', Nx H' → ∃ m', m' < m ∧ W (i + 1) m' H') ∧ ∀ x H', J.yld i H x H' → g x (wipe σ vs) H' fun σ2 H2 => wipe σ2 vs = wipe σ vs ∧ tt σ2 H2 fun b H3 =>
    if b = true then tk σ2 H3 fun y H4 => tv σ2 H4 fun z H5 => rPutC P w D y z H5 Nx else Nx H3)
theorem dcN_core {pins : List (Addr × Obj)} {s : Shared} {σ : L2.St} {H : Hp} {Q : VK} {kx vx tg iter : Expr} {ifs : List Expr} {scope : Scope} {own : List (Str × Nat)} {pos pos' : Pos} {wi : TI} {g : TG} {tt : TT} {tk tv : TE} {use : Option (Value → Sem Unit)} {Qf : Value → Shared → Prop}
    (hu : X.A.units + 16 < cLine) (hc : X.calm = true) (hN : X.N.Nodup) (I : L2.Inv X pins σ H s) (hi : PI X tg iter wi) (ok : BlkOk X.N X.env.scope scope own)
    (hg : ∀ (s : Shared) (H : Hp) (C : Addr) (cl : List (Str × Addr)) (fp : List Addr), PG (X.blk s H scope (compEnvC scope cl C X.env) fp) tg g) (ht : ∀ (s : Shared) (H : Hp) (C : Addr) (cl : List (Str × Addr)) (fp : List Addr), PTs (X.blk s H scope (compEnvC scope cl C X.env) fp) ifs tt)
    (hk : ∀ (s : Shared) (H : Hp) (C : Addr) (cl : List (Str × Addr)) (fp : List Addr), PE (X.blk s H scope (compEnvC scope cl C X.env) fp) kx tk)
    (he : ∀ (s : Shared) (H : Hp) (C : Addr) (cl : List (Str × Addr)) (fp : List Addr), PE (X.blk s H scope (compEnvC scope cl C X.env) fp) vx tv) (hs : ∀ x, foldedSetIterable iter X.env x = pure x)
    (h : tDcN X.prog X.w wi g tt tk tv (own.map (·.2)) σ H Q)
    (hRR : ∀ D C s' m H', Inv X pins σ H' s' → Q (.ref D) H' → s'.heap.Ns C m → FpOk X pins H' C → compPost (model X.prog X.w) X.A X.xe use Qf (.ref D) C (.ok .next) s') :
    wpAny (model X.prog X.w) X.A (comprehension (.DictComp kx vx [⟨tg, iter, ifs, 0⟩] scope pos) scope X.env pos' newDict false (eval iter X.env) use) Qf X.xe s := by
  have hfree : ∀ y ∈ scope.names, y.2 = .free → ∃ c, X.env.cells.lookup y.1 = some c := fun y hy e => by
    rcases ok.free y hy e with k | k
    · exact I.ok.has _ (.inl k)
    · exact I.ok.has _ (.inr k)
  refine wpAny_comprehension_free (use := use) rfl hs (closure_ok hfree) ok.kind (fun y hy e => by rw [ok.uniq y hy, e])
    (thn (hi.run pins s σ H _ I h) fun xv s1 hx => thn hx fun itv s2 h2 => ?_)
  obtain ⟨it, fp, tn, J, H2, e, I2, T, st2, f2, q⟩ := h2
  subst e
  refine wpAny_newObj_type (newEnv_comp ?_)
  generalize hD : s2.heap.objs.size = D
  have hDn : H2 D = none := I2.hok.fresh (Nat.le_of_eq hD)
  obtain ⟨W, ⟨m0, o0, emp, w0⟩, turn⟩ := q D hDn
  -- the new list
  generalize hs3 : ({ s2 with heap := s2.heap.push { cls := .type "dict", data := .dict #[] } } : Shared) = s3
  have I3 : L2.Inv X pins σ (upd H2 D o0) s3 := by
    rw [← hs3]
    refine I2.laid (t' := s2.toks) (fun b o e => Heap.get?_push_of_some _ e) (Nat.le_of_eq hD) ?_
    exact emp_ok s2.heap I2.big hD emp
  have h3 : s3.heap = s2.heap.push { cls := .type "dict", data := .dict #[] } := by rw [← hs3]
  have sz : ∀ b ∈ fp, b < s2.heap.objs.size := fun b hb => by
    obtain ⟨o, e, _⟩ := T.obj _ _ st2 b hb
    exact Heap.lt_size e
  have f3 : ∀ b ∈ fp, FpOk X pins (upd H2 D o0) b ∧ b < s3.heap.objs.size := fun b hb => by
    have hlt := sz b hb
    refine ⟨⟨?_, (f2 b hb).2⟩, by rw [h3, Heap.size_push]; exact Nat.lt_succ_of_lt hlt⟩
    rw [upd_ne (by rw [← hD]; exact Nat.ne_of_lt hlt)]
    exact (f2 b hb).1
  have st3 : tn 0 s3.heap := T.keep _ _ _ st2 fun b _ o e => by rw [h3]; exact Heap.get?_push_of_some _ e
  have I4 := block_start I3 ok hN f3
  have pg := hg s3 (upd H2 D o0) s3.heap.objs.size (cellsFrom (s3.heap.objs.size + 1) scope.names (cloFrom X.env.cells scope.names [])) fp
  have pt := ht s3 (upd H2 D o0) s3.heap.objs.size (cellsFrom (s3.heap.objs.size + 1) scope.names (cloFrom X.env.cells scope.names [])) fp
  have pk := hk s3 (upd H2 D o0) s3.heap.objs.size (cellsFrom (s3.heap.objs.size + 1) scope.names (cloFrom X.env.cells scope.names [])) fp
  have pe := he s3 (upd H2 D o0) s3.heap.objs.size (cellsFrom (s3.heap.objs.size + 1) scope.names (cloFrom X.env.cells scope.names [])) fp
  show codeAny _ _ (.compStart (.DictComp kx vx [⟨tg, iter, ifs, 0⟩] scope pos) 0 (.ref it) (.ref D) (compEnvC scope (cellsFrom (s3.heap.objs.size + 1) scope.names (cloFrom X.env.cells scope.names [])) s3.heap.objs.size X.env)) (compPost (model X.prog X.w) X.A X.xe use Qf (.ref D) s3.heap.objs.size) { s3 with heap := pushCells (s3.heap.push { cls := .type "dict", data := .dict #[] }) scope.names }
  have nfp : ∀ b ∈ fp, (upd H2 D o0) b = none := fun b hb => (f3 b hb).1.1
  generalize hce : compEnvC scope (cellsFrom (s3.heap.objs.size + 1) scope.names (cloFrom X.env.cells scope.names [])) s3.heap.objs.size X.env = ce at I4 pg pt pk pe ⊢
  have cL : ce.locals = s3.heap.objs.size := by subst hce; rfl
  generalize hH3 : upd H2 D o0 = H3 at I3 I4 pg pt pk pe w0 nfp f3
  generalize hs4 : ({ s3 with heap := pushCells (s3.heap.push { cls := .type "dict", data := .dict #[] }) scope.names } : Shared) = s4 at I4 ⊢
  have st4 : tn 0 s4.heap := T.keep _ _ _ st3 fun b _ o e => by rw [← hs4]; exact pushCells_keeps _ _ _ _ (Heap.get?_push_of_some _ e)
  have stat : ∀ {σ' : L2.St} {H' : Hp} {s' : Shared}, Inv (X.blk s3 H3 scope ce fp) [] σ' H' s' → (∀ b ∈ fp, H' b = none) → ∀ b ∈ fp, FpOk (X.blk s3 H3 scope ce fp) [] H' b := fun {σ' H' s'} I' hn b hb =>
    ⟨hn b hb, (I'.ok.exf b hb).1, I'.ok.exfs b hb, .inl hb, fun x c e => (I'.ok.exf b hb).2 x c e, fun p hp => absurd (show p ∈ ([] : List (Addr × Obj)) ++ [] from hp) (by simp)⟩
  have loop : codeAny (model X.prog X.w) X.A (.compLoop (.DictComp kx vx [⟨tg, iter, ifs, 0⟩] scope pos) 0 (.ref it) (.ref D) ce) (compPost (model X.prog X.w) X.A X.xe use Qf (.ref D) s3.heap.objs.size) s4 := by
    refine compLoop_anyD (fun n s' => ∃ i H', Inv (X.blk s3 H3 scope ce fp) [] (wipe σ (own.map (·.2))) H' s' ∧ tn i s'.heap ∧ (∀ b ∈ fp, H' b = none) ∧ W i n H') ?_ m0 ⟨0, H3, I4, st4, nfp, w0⟩
    rintro n s5 ⟨i, H5, I5, st5, n5, w5⟩
    rcases turn i n H5 w5 with ⟨stop, qq⟩ | ⟨go, Nx, hNx, step⟩
    · have td := T.done (X.blk s3 H3 scope ce fp) rfl rfl rfl hc i [] s5 _ H5 (fun _ _ => False) I5 (stat I5 n5) st5 stop
      refine thnF td fun r s6 ⟨hr, I6⟩ => ?_
      subst hr
      -- back in the def's context
      have I7 : L2.Inv X pins σ H5 s6 := I3.call' (ch := fp) I6.os I6.base I6.hok I6.bare fun b hb => ⟨(f3 b hb).1.2.2.2.1, (f3 b hb).1.2.1, (f3 b hb).1.2.2.2.2.1, (f3 b hb).1.2.2.2.2.2⟩
      have nC : H5 s3.heap.objs.size = none := by
        have z : H5 ce.locals = none := I6.free
        rw [cL] at z
        exact z
      obtain ⟨m, hn, _⟩ := I6.loc
      have hn : s6.heap.Ns ce.locals m := hn
      rw [cL] at hn
      exact hRR D s3.heap.objs.size s6 m H5 I7 qq hn (I3.fpOk (Nat.le_refl _) nC)
    · have ti := T.item (X.blk s3 H3 scope ce fp) rfl rfl rfl hc i [] s5 _ H5 (fun _ _ => False) I5 (stat I5 n5) st5 go
      refine thnF ti fun r s6 ⟨u, hr, h6⟩ => ?_
      subst hr
      refine thnF h6 fun _ s7 ⟨x, H7, I7, r7, y7, st7, n7⟩ => ?_
      have I7' := I7.pinned (stat I7 n7) (T.obj _ _ st7)
      refine thnF (pg.run _ s7 _ H7 x u _ I7' r7 (step x H7 y7)) fun _ s8 ⟨σ8, H8, I8, hw8, q8⟩ => ?_
      refine thnF (pt.run _ s8 σ8 H8 _ I8 q8) fun b s9 ⟨H9, I9, q9⟩ => ?_
      -- the turn's end
      have fin : ∀ {s' : Shared} {H' : Hp}, Inv (X.blk s3 H3 scope ce fp) ([] ++ pinsAt fp s7.heap) σ8 H' s' → Nx H' → ∃ m, m < n ∧ ∃ i H', Inv (X.blk s3 H3 scope ce fp) [] (wipe σ (own.map (·.2))) H' s' ∧ tn i s'.heap ∧ (∀ b ∈ fp, H' b = none) ∧ W i m H' := fun {s' H'} I' nx => by
        obtain ⟨m', hm, w'⟩ := hNx H' nx
        have pin' : ∀ b ∈ fp, ∀ o, s7.heap.get? b = some o → s'.heap.get? b = some o ∧ H' b = none := fun b hb o e =>
          let z := I'.pin (b, o) (List.mem_append_right _ (List.mem_append_right _ (mem_pinsAt hb e)))
          ⟨z.1, z.2.1⟩
        have hl : (wipe σ (own.map (·.2))).length = σ8.length := by rw [← hw8, wipe_length]
        refine ⟨m', hm, i + 1, H', (I'.unpinned (pins := [])).weak hl (fun j v e => ?_), T.keep _ _ _ st7 fun b hb o e => (pin' b hb o e).1, fun b hb => ?_, w'⟩
        · rw [← hw8] at e
          exact (wipe_some e).1
        · obtain ⟨o, e, _⟩ := T.obj _ _ st7 b hb
          exact (pin' b hb o e).2
      cases b with
      | false =>
        simp only [Bool.false_eq_true, if_false] at q9 ⊢
        exact fin I9 q9
      | true =>
        simp only [if_true] at q9 ⊢
        refine thnF (pk.run _ s9 σ8 H9 _ I9 q9) fun z s10 ⟨yk, H10, I10, r10, q10⟩ => ?_
        refine thnF (pe.run _ s10 σ8 H10 _ I10 q10) fun z2 s11 ⟨yv, H11, I11, r11, pu⟩ => ?_
        exact dn_dictSet (X := X.blk s3 H3 scope ce fp) hu I11 pu r10 r11 fun s12 H12 I12 nx => fin I12 nx
  exact codeAny_compStart_dict loop (T.self X.A 0 _ _ _ st4 loop)
/-- as a value -/
theorem pe_dcN {kx vx tg iter : Expr} {ifs : List Expr} {scope : Scope} {own : List (Str × Nat)} {pos : Pos} {wi : TI} {g : TG} {tt : TT} {tk tv : TE} (hu : X.A.units + 16 < cLine) (hc : X.calm = true) (hN : X.N.Nodup) (hi : PI X tg iter wi) (ok : BlkOk X.N X.env.scope scope own)
    (hg : ∀ (s : Shared) (H : Hp) (C : Addr) (cl : List (Str × Addr)) (fp : List Addr), PG (X.blk s H scope (compEnvC scope cl C X.env) fp) tg g) (ht : ∀ (s : Shared) (H : Hp) (C : Addr) (cl : List (Str × Addr)) (fp : List Addr), PTs (X.blk s H scope (compEnvC scope cl C X.env) fp) ifs tt)
    (hk : ∀ (s : Shared) (H : Hp) (C : Addr) (cl : List (Str × Addr)) (fp : List Addr), PE (X.blk s H scope (compEnvC scope cl C X.env) fp) kx tk)
    (he : ∀ (s : Shared) (H : Hp) (C : Addr) (cl : List (Str × Addr)) (fp : List Addr), PE (X.blk s H scope (compEnvC scope cl C X.env) fp) vx tv) (hs : ∀ x, foldedSetIterable iter X.env x = pure x := by intro _; rfl) :
    PE X (.DictComp kx vx [⟨tg, iter, ifs, 0⟩] scope pos) (tDcN X.prog X.w wi g tt tk tv (own.map (·.2))) := by
  refine ⟨fun pins s σ H Q I h => ?_⟩
  rw [arm_eval_DictComp]
  refine dcN_core hu hc hN I hi ok hg ht hk he hs h fun D C s' m H' I' q hn f => ⟨m, hn, fun h'' sb => ?_⟩
  obtain ⟨f0, f1, f2, f3, f4, f5⟩ := f
  exact ⟨.ref D, H', I'.turned (t' := s'.toks) (fun b o hb e => (sb.2 b hb).trans e) f0 f1 f3 f4 f5, rfl, q⟩

/-- name = {..} on one line, the name a local -/
theorem ps_setDcN {i : Nat} {y : Str} {py : Pos} {kx vx tg iter : Expr} {ifs : List Expr} {scope : Scope} {own : List (Str × Nat)} {pos spos : Pos} {wi : TI} {g : TG} {tt : TT} {tk tv : TE} (hu : X.A.units + 16 < cLine) (hc : X.calm = true) (hN : X.N.Nodup) (hy : X.N[i]? = some y) (hyl : X.env.scope.names.lookup y = some .local)
    (hsw : swapsWith (.DictComp kx vx [⟨tg, iter, ifs, 0⟩] scope pos) (some (.Name y py)) spos.line X.env = pure true) (hi : PI X tg iter wi) (ok : BlkOk X.N X.env.scope scope own)
    (hg : ∀ (s : Shared) (H : Hp) (C : Addr) (cl : List (Str × Addr)) (fp : List Addr), PG (X.blk s H scope (compEnvC scope cl C X.env) fp) tg g) (ht : ∀ (s : Shared) (H : Hp) (C : Addr) (cl : List (Str × Addr)) (fp : List Addr), PTs (X.blk s H scope (compEnvC scope cl C X.env) fp) ifs tt)
    (hk : ∀ (s : Shared) (H : Hp) (C : Addr) (cl : List (Str × Addr)) (fp : List Addr), PE (X.blk s H scope (compEnvC scope cl C X.env) fp) kx tk)
    (he : ∀ (s : Shared) (H : Hp) (C : Addr) (cl : List (Str × Addr)) (fp : List Addr), PE (X.blk s H scope (compEnvC scope cl C X.env) fp) vx tv) (hs : ∀ x, foldedSetIterable iter X.env x = pure x := by intro _; rfl) :
    PS X (.Assign [.Name y py] (.DictComp kx vx [⟨tg, iter, ifs, 0⟩] scope pos) spos) (tAsg (tDcN X.prog X.w wi g tt tk tv (own.map (·.2))) (gName i)) := by
  refine ⟨fun pins s σ H D I h => ?_⟩
  rw [exec_Assign_Name_used _ _ _ _ hsw]
  refine wpAny_bind (wpAny_standAt (wpAny_bind ?_))
  show wpAny _ X.A (do let _ ← comprehension (.DictComp kx vx [⟨tg, iter, ifs, 0⟩] scope pos) scope X.env (firstIterPos [⟨tg, iter, ifs, 0⟩] pos) newDict false (eval iter X.env) (some (assign (.Name y py) X.env))) _ _ s
  have h : tDcN X.prog X.w wi g tt tk tv (own.map (·.2)) σ H (fun x H1 => gName i x σ H1 D.nx) := h
  refine wpAny_bind (thn (dcN_core (Qf := fun _ s' => SP X pins D .next s') hu hc hN I hi ok hg ht hk he hs h fun L C s' m H' I' q hn f => ?_) fun _ s' hq => wpAny_pure (wpAny_pure hq))
  show wpAny _ _ (assign (.Name y py) X.env (.ref L)) _ _ _
  refine wpAny_assign_Name (store_ok2 (v := V.ref L) I' hN hy (.inl hyl) rfl (fun s2 I2 ⟨a, sb, ha⟩ => ?_) (.inr hyl))
  obtain ⟨f0, f1, f2, f3, f4, f5⟩ := f
  have haC : C ≠ a := by
    rcases ha with z | z
    · rw [z]; exact f1
    · exact fun e => f4 y a z e.symm
  refine ⟨m, hn.sameBut sb haC, fun h3 sb3 => ?_⟩
  exact ⟨_, H', I2.turned (t' := s2.toks) (fun b o hb e => (sb3.2 b hb).trans e) f0 f1 f3 f4 f5, q⟩
theorem swD_true {kx vx : Expr} {gs : List Comprehension} {scope : Scope} {pos py : Pos} {y : Str} {l : Nat} {env : Env} (hk : env.scope.kind = .function) (hy : env.scope.names.lookup y = some .local) (hl : (py.line == pos.line) = true)
    (ha : (scope.names.any fun (n, k) => n == y && (k == .local || k == .cell)) = false) : swapsWith (.DictComp kx vx gs scope pos) (some (.Name y py)) l env = pure true := by
  have ky : env.kindOf y = some .local := hy
  have hb : env.blockKind = .function := by unfold Env.blockKind; rw [hk]; rfl
  unfold swapsWith
  simp only [hb, ky, ha, Expr.pos, hl]
  rfl
end
end Lk

set_option maxHeartbeats 8000000
namespace Lk
open PySem PySem.Spec PyProof.Rows PySem.W L2
/-! ### dict comprehensions of two clauses -/
theorem compTurnD2_out (kx vx t0 i0 t1 i1 : Expr) (ifs0 ifs1 : List Expr) (scope : Scope) (pos : Pos) (it : Value) (D : Addr) (env : Env) :
    compTurn (.DictComp kx vx [⟨t0, i0, ifs0, 0⟩, ⟨t1, i1, ifs1, 0⟩] scope pos) 0 it (.ref D) env = (do
      standAt i0.pos
      match ← pyNext it with
      | none => pure (.done .next)
      | some v =>
        letOwnedTupleGo t0 it v
        assign t0 env v
        let mut ok := true
        for c in ifs0 do
          if ok then ok ← isTrue c env (eval c env)
        if ok then
          let x ← eval i1 env
          standAt i1.pos
          let x ← foldedSetIterable i1 env x
          let _ ← runOwn (.compStart (.DictComp kx vx [⟨t0, i0, ifs0, 0⟩, ⟨t1, i1, ifs1, 0⟩] scope pos) 1 (← holding [x] (pyIter x)) (.ref D) env) env
        again (.compLoop (.DictComp kx vx [⟨t0, i0, ifs0, 0⟩, ⟨t1, i1, ifs1, 0⟩] scope pos) 0 it (.ref D) env)) := by rfl
theorem compTurnD2_in (kx vx t0 i0 t1 i1 : Expr) (ifs0 ifs1 : List Expr) (scope : Scope) (pos : Pos) (it : Value) (D : Addr) (env : Env) :
    compTurn (.DictComp kx vx [⟨t0, i0, ifs0, 0⟩, ⟨t1, i1, ifs1, 0⟩] scope pos) 1 it (.ref D) env = (do
      standAt i1.pos
      match ← pyNext it with
      | none => pure (.done .next)
      | some v =>
        letOwnedTupleGo t1 it v
        assign t1 env v
        let mut ok := true
        for c in ifs1 do
          if ok then ok ← isTrue c env (eval c env)
        if ok then
          (do
            let kv ← eval kx env
            let vv ← holding [kv] (eval vx env)
            standAt { kx.pos with endLine := vx.pos.endLine, endCol := vx.pos.endCol }
            holding [kv, vv] (dictSet D kv vv))
        again (.compLoop (.DictComp kx vx [⟨t0, i0, ifs0, 0⟩, ⟨t1, i1, ifs1, 0⟩] scope pos) 1 it (.ref D) env)) := by rfl

section
variable {prog : Program} {w : World} {A : Around} {R : Result → Shared → Prop} {s : Shared} {kx vx t0 i0 t1 i1 : Expr} {ifs0 ifs1 : List Expr} {scope : Scope} {pos : Pos} {it : Value} {D : Addr} {env : Env}
/-- the loop of the first clause -/
theorem compLoopD2_out (hs : ∀ x, foldedSetIterable i1 env x = pure x) (I : Nat → Shared → Prop)
    (turn : ∀ n s, I n s → wpAny (model prog w) A (pyNext it) (fun r s₁ => match r with
      | none => R (.ok .next) s₁
      | some v => wpAny (model prog w) A (letOwnedTupleGo t0 it v) (fun _ s₁' => wpAny (model prog w) A (assign t0 env v) (fun _ s₂ =>
          wpAny (model prog w) A (forIn ifs0 true fun c r => if r = true then do let ok ← isTrue c env (eval c env); pure (ForInStep.yield ok) else pure (ForInStep.yield r)) (fun ok s₃ =>
            if ok = true then wpAny (model prog w) A (eval i1 env) (fun x s₄ => wpAny (model prog w) A (pyIter x) (fun it1 s₅ =>
              codeAny (model prog w) A (.compStart (.DictComp kx vx [⟨t0, i0, ifs0, 0⟩, ⟨t1, i1, ifs1, 0⟩] scope pos) 1 it1 (.ref D) env) (fun r s' => match r with
                | .ok _ => ∃ m, m < n ∧ I m s'
                | .error _ => False) s₅) (notedBy (model prog w) A env fun e s' => R (.error e) s') s₄) (notedBy (model prog w) A env fun e s' => R (.error e) s') s₃
            else ∃ m, m < n ∧ I m s₃) (notedBy (model prog w) A env fun e s' => R (.error e) s') s₂) (notedBy (model prog w) A env fun e s' => R (.error e) s') s₁') (notedBy (model prog w) A env fun e s' => R (.error e) s') s₁) (notedBy (model prog w) A env fun e s' => R (.error e) s') s)
    (n : Nat) (h : I n s) :
    codeAny (model prog w) A (.compLoop (.DictComp kx vx [⟨t0, i0, ifs0, 0⟩, ⟨t1, i1, ifs1, 0⟩] scope pos) 0 it (.ref D) env) R s := by
  refine codeAny_loop rfl I (fun n s hI => ?_) n h
  show wpAny _ A ((compTurn (.DictComp kx vx [⟨t0, i0, ifs0, 0⟩, ⟨t1, i1, ifs1, 0⟩] scope pos) 0 it (.ref D) env).onRaise (fun x => do noteFrame x env; theTreesLotGoes x)) _ _ s
  refine wpAny_noted ?_
  rw [compTurnD2_out]
  refine wpAny_bind (wpAny_standAt (wpAny_bind (wpAny_mono (turn n s hI) (fun r s₁ h₁ => ?_) fun _ _ h' => h')))
  cases r with
  | none => exact wpAny_pure h₁
  | some v =>
    refine wpAny_bind (wpAny_mono h₁ (fun _ s₁' h₁' => ?_) fun _ _ h' => h')
    refine wpAny_bind (wpAny_mono h₁' (fun _ s₂ h₂ => wpAny_bind (wpAny_mono h₂ (fun ok s₃ h₃ => ?_) fun _ _ h' => h')) fun _ _ h' => h')
    cases ok with
    | false => exact wpAny_pure ⟨rfl, h₃⟩
    | true =>
      refine wpAny_bind (wpAny_mono h₃ (fun x s₄ h₄ => ?_) fun _ _ h' => h')
      refine wpAny_bind (wpAny_standAt (wpAny_bind (wpAny_of_eq (hs x) (wpAny_bind (wpAny_holding (wpAny_mono h₄ (fun it1 s₅ h₅ => ?_) fun _ _ h' => h'))))))
      refine wpAny_bind (wpAny_runOwn ?_)
      rw [Around.mark_none]
      refine codeAny_mono h₅ fun r s' hr => ?_
      cases r with
      | ok f =>
        first
          | exact wpAny_pure ⟨rfl, hr⟩
          | exact wpAny_bind (wpAny_pure (wpAny_pure ⟨rfl, hr⟩))
      | error e => exact hr.elim
/-- the loop of the second -/
theorem compLoopD2_in (I : Nat → Shared → Prop)
    (turn : ∀ n s, I n s → wpAny (model prog w) A (pyNext it) (fun r s₁ => match r with
      | none => R (.ok .next) s₁
      | some v => wpAny (model prog w) A (letOwnedTupleGo t1 it v) (fun _ s₁' => wpAny (model prog w) A (assign t1 env v) (fun _ s₂ =>
          wpAny (model prog w) A (forIn ifs1 true fun c r => if r = true then do let ok ← isTrue c env (eval c env); pure (ForInStep.yield ok) else pure (ForInStep.yield r)) (fun ok s₃ =>
            if ok = true then wpAny (model prog w) A (eval kx env) (fun kv s₄ => wpAny (model prog w) A (eval vx env) (fun vv s₅ =>
              wpAny (model prog w) A (dictSet D kv vv) (fun _ s₆ => ∃ m, m < n ∧ I m s₆) (notedBy (model prog w) A env fun e s' => R (.error e) s') s₅) (notedBy (model prog w) A env fun e s' => R (.error e) s') s₄) (notedBy (model prog w) A env fun e s' => R (.error e) s') s₃
            else ∃ m, m < n ∧ I m s₃) (notedBy (model prog w) A env fun e s' => R (.error e) s') s₂) (notedBy (model prog w) A env fun e s' => R (.error e) s') s₁') (notedBy (model prog w) A env fun e s' => R (.error e) s') s₁) (notedBy (model prog w) A env fun e s' => R (.error e) s') s)
    (n : Nat) (h : I n s) :
    codeAny (model prog w) A (.compLoop (.DictComp kx vx [⟨t0, i0, ifs0, 0⟩, ⟨t1, i1, ifs1, 0⟩] scope pos) 1 it (.ref D) env) R s := by
  refine codeAny_loop rfl I (fun n s hI => ?_) n h
  show wpAny _ A ((compTurn (.DictComp kx vx [⟨t0, i0, ifs0, 0⟩, ⟨t1, i1, ifs1, 0⟩] scope pos) 1 it (.ref D) env).onRaise (fun x => do noteFrame x env; theTreesLotGoes x)) _ _ s
  refine wpAny_noted ?_
  rw [compTurnD2_in]
  refine wpAny_bind (wpAny_standAt (wpAny_bind (wpAny_mono (turn n s hI) (fun r s₁ h₁ => ?_) fun _ _ h' => h')))
  cases r with
  | none => exact wpAny_pure h₁
  | some v =>
    refine wpAny_bind (wpAny_mono h₁ (fun _ s₁' h₁' => ?_) fun _ _ h' => h')
    refine wpAny_bind (wpAny_mono h₁' (fun _ s₂ h₂ => wpAny_bind (wpAny_mono h₂ (fun ok s₃ h₃ => ?_) fun _ _ h' => h')) fun _ _ h' => h')
    cases ok with
    | false => exact wpAny_pure ⟨rfl, h₃⟩
    | true =>
      exact wpAny_bind (wpAny_bind (wpAny_mono h₃ (fun kv s₄ h₄ => wpAny_bind (wpAny_holding (wpAny_mono h₄ (fun vv s₅ h₅ => wpAny_bind (wpAny_standAt (wpAny_holding (wpAny_mono h₅ (fun _ s₆ h₆ => wpAny_pure ⟨rfl, h₆⟩) fun _ _ h' => h')))) fun _ _ h' => h'))) fun _ _ h' => h'))
/-- the second clause's start -/
theorem compStartD1_ok (h0 : codeAny (model prog w) A (.compLoop (.DictComp kx vx [⟨t0, i0, ifs0, 0⟩, ⟨t1, i1, ifs1, 0⟩] scope pos) 1 it (.ref D) env) R s)
    (h : wpAny (model prog w) A (pyIter it) (fun it' s' => codeAny (model prog w) A (.compLoop (.DictComp kx vx [⟨t0, i0, ifs0, 0⟩, ⟨t1, i1, ifs1, 0⟩] scope pos) 1 it' (.ref D) env) R s')
      (notedBy (model prog w) A env fun x s' => R (.error x) s') s) :
    codeAny (model prog w) A (.compStart (.DictComp kx vx [⟨t0, i0, ifs0, 0⟩, ⟨t1, i1, ifs1, 0⟩] scope pos) 1 it (.ref D) env) R s := by
  refine codeAny_of_tree ?_
  show wpAny _ _ ((compStart (.DictComp kx vx [⟨t0, i0, ifs0, 0⟩, ⟨t1, i1, ifs1, 0⟩] scope pos) 1 it (.ref D) env).onRaise (fun x => do noteFrame x env; standAt theWindowsPlace)) _ _ s
  refine wpAny_notedAt ?_
  unfold compStart
  show wpAny _ _ (ask >>= _) _ _ s
  refine wpAny_bind (wpAny_askSetting (wpAny_ite ?_))
  split
  · first
      | exact wpAny_bind (wpAny_pure (wpAny_pure (And.intro rfl h0)))
      | exact wpAny_pure (And.intro rfl h0)
  · first
      | exact wpAny_bind (wpAny_rule (wpAny_bind (wpAny_standAt (wpAny_bind (wpAny_mono h (fun it' s' h' => wpAny_pure (And.intro rfl h')) fun _ _ x => x)))))
      | (refine wpAny_bind (wpAny_rule ?_); show wpAny _ _ (standAt i1.pos >>= _) _ _ s; exact wpAny_bind (wpAny_standAt (wpAny_bind (wpAny_mono h (fun it' s' h' => wpAny_pure (And.intro rfl h')) fun _ _ x => x))))
end

section
variable {X : Cx}
/-- [elt for tg in iter if .. for tg1 in iter1 if ..]: behind the first clause's store and tests the second source's own loop, from which Nx is reached. vs: the block's names; vs1: those of the second target -/
def tDcN2 (P : Program) (w : World) (wi : TI) (g : TG) (tt : TT) (wi1 : TI) (g1 : TG) (tt1 : TT) (tk tv : TE) (vs vs1 : List Nat) : TE := fun σ H Q => wi σ H fun J H1 => ∀ D, H1 D = none → ∃ W : Nat → Nat → Hp → Prop, (∃ m o, Emp P w D o ∧ W 0 m (upd H1 D o)) ∧ ∀ i m H, W i m H →
  (J.stop i H ∧ Q (.ref D) H) ∨ (J.go i H ∧ ∃ Nx : Hp → Prop, (∀ H', Nx H' → ∃ m', m' < m ∧ W (i + 1) m' H') ∧ ∀ x H', J.yld i H x H' → g x (wipe σ vs) H' fun σ2 H2 => wipe σ2 vs = wipe σ vs ∧ tt σ2 H2 fun b H3 =>
    if b = true then wi1 σ2 H3 fun J1 H4 => ∃ W1 : Nat → Nat → Hp → Prop, (∃ m, W1 0 m H4) ∧ ∀ j k H, W1 j k H →
      (J1.stop j H ∧ Nx H) ∨ (J1.go j H ∧ ∃ Nx1 : Hp → Prop, (∀ H', Nx1 H' → ∃ k', k' < k ∧ W1 (j + 1) k' H') ∧ ∀ x H', J1.yld j H x H' → g1 x (wipe σ2 vs1) H' fun σ3 H5 => wipe σ3 vs1 = wipe σ2 vs1 ∧ tt1 σ3 H5 fun b H6 =>
        if b = true then tk σ3 H6 fun y H7 => tv σ3 H7 fun z H8 => rPutC P w D y z H8 Nx1 else Nx1 H6)
    else Nx H3)
theorem dcN2_core {pins : List (Addr × Obj)} {s : Shared} {σ : L2.St} {H : Hp} {Q : VK} {kx vx tg iter tg1 iter1 : Expr} {ifs ifs1 : List Expr} {scope : Scope} {own : List (Str × Nat)} {vs1 : List Nat} {pos pos' : Pos} {wi wi1 : TI} {g g1 : TG} {tt tt1 : TT} {tk tv : TE} {use : Option (Value → Sem Unit)} {Qf : Value → Shared → Prop}
    (hu : X.A.units + 16 < cLine) (hc : X.calm = true) (hN : X.N.Nodup) (I : L2.Inv X pins σ H s) (hi : PI X tg iter wi) (ok : BlkOk X.N X.env.scope scope own) (hv : ∀ i ∈ vs1, i ∈ own.map (·.2))
    (hg : ∀ (s : Shared) (H : Hp) (C : Addr) (cl : List (Str × Addr)) (fp : List Addr), PG (X.blk s H scope (compEnvC scope cl C X.env) fp) tg g) (ht : ∀ (s : Shared) (H : Hp) (C : Addr) (cl : List (Str × Addr)) (fp : List Addr), PTs (X.blk s H scope (compEnvC scope cl C X.env) fp) ifs tt)
    (hk : ∀ (s : Shared) (H : Hp) (C : Addr) (cl : List (Str × Addr)) (fp : List Addr), PE (X.blk s H scope (compEnvC scope cl C X.env) fp) kx tk) (he : ∀ (s : Shared) (H : Hp) (C : Addr) (cl : List (Str × Addr)) (fp : List Addr), PE (X.blk s H scope (compEnvC scope cl C X.env) fp) vx tv) (hs : ∀ x, foldedSetIterable iter X.env x = pure x)
    (hi1 : ∀ (s : Shared) (H : Hp) (C : Addr) (cl : List (Str × Addr)) (fp : List Addr), PI (X.blk s H scope (compEnvC scope cl C X.env) fp) tg1 iter1 wi1)
    (hg1 : ∀ (s : Shared) (H : Hp) (C : Addr) (cl : List (Str × Addr)) (fp : List Addr), PG (X.blk s H scope (compEnvC scope cl C X.env) fp) tg1 g1)
    (ht1 : ∀ (s : Shared) (H : Hp) (C : Addr) (cl : List (Str × Addr)) (fp : List Addr), PTs (X.blk s H scope (compEnvC scope cl C X.env) fp) ifs1 tt1)
    (hs1 : ∀ env x, foldedSetIterable iter1 env x = pure x)
    (h : tDcN2 X.prog X.w wi g tt wi1 g1 tt1 tk tv (own.map (·.2)) vs1 σ H Q)
    (hRR : ∀ D C s' m H', Inv X pins σ H' s' → Q (.ref D) H' → s'.heap.Ns C m → FpOk X pins H' C → compPost (model X.prog X.w) X.A X.xe use Qf (.ref D) C (.ok .next) s') :
    wpAny (model X.prog X.w) X.A (comprehension (.DictComp kx vx [⟨tg, iter, ifs, 0⟩, ⟨tg1, iter1, ifs1, 0⟩] scope pos) scope X.env pos' (newDict) false (eval iter X.env) use) Qf X.xe s := by
  have hfree : ∀ y ∈ scope.names, y.2 = .free → ∃ c, X.env.cells.lookup y.1 = some c := fun y hy e => by
    rcases ok.free y hy e with k | k
    · exact I.ok.has _ (.inl k)
    · exact I.ok.has _ (.inr k)
  refine wpAny_comprehension_free (use := use) rfl hs (closure_ok hfree) ok.kind (fun y hy e => by rw [ok.uniq y hy, e])
    (thn (hi.run pins s σ H _ I h) fun xv s1 hx => thn hx fun itv s2 h2 => ?_)
  obtain ⟨it, fp, tn, J, H2, e, I2, T, st2, f2, q⟩ := h2
  subst e
  refine wpAny_newObj_type (newEnv_comp ?_)
  generalize hD : s2.heap.objs.size = D
  have hDn : H2 D = none := I2.hok.fresh (Nat.le_of_eq hD)
  obtain ⟨W, ⟨m0, o0, emp, w0⟩, turn⟩ := q D hDn
  -- the new list
  generalize hs3 : ({ s2 with heap := s2.heap.push { cls := .type "dict", data := .dict #[] } } : Shared) = s3
  have I3 : L2.Inv X pins σ (upd H2 D o0) s3 := by
    rw [← hs3]
    refine I2.laid (t' := s2.toks) (fun b o e => Heap.get?_push_of_some _ e) (Nat.le_of_eq hD) ?_
    exact emp_ok s2.heap I2.big hD emp
  have h3 : s3.heap = s2.heap.push { cls := .type "dict", data := .dict #[] } := by rw [← hs3]
  have sz : ∀ b ∈ fp, b < s2.heap.objs.size := fun b hb => by
    obtain ⟨o, e, _⟩ := T.obj _ _ st2 b hb
    exact Heap.lt_size e
  have f3 : ∀ b ∈ fp, FpOk X pins (upd H2 D o0) b ∧ b < s3.heap.objs.size := fun b hb => by
    have hlt := sz b hb
    refine ⟨⟨?_, (f2 b hb).2⟩, by rw [h3, Heap.size_push]; exact Nat.lt_succ_of_lt hlt⟩
    rw [upd_ne (by rw [← hD]; exact Nat.ne_of_lt hlt)]
    exact (f2 b hb).1
  have st3 : tn 0 s3.heap := T.keep _ _ _ st2 fun b _ o e => by rw [h3]; exact Heap.get?_push_of_some _ e
  have I4 := block_start I3 ok hN f3
  have pg := hg s3 (upd H2 D o0) s3.heap.objs.size (cellsFrom (s3.heap.objs.size + 1) scope.names (cloFrom X.env.cells scope.names [])) fp
  have pt := ht s3 (upd H2 D o0) s3.heap.objs.size (cellsFrom (s3.heap.objs.size + 1) scope.names (cloFrom X.env.cells scope.names [])) fp
  have pk := hk s3 (upd H2 D o0) s3.heap.objs.size (cellsFrom (s3.heap.objs.size + 1) scope.names (cloFrom X.env.cells scope.names [])) fp
  have pe := he s3 (upd H2 D o0) s3.heap.objs.size (cellsFrom (s3.heap.objs.size + 1) scope.names (cloFrom X.env.cells scope.names [])) fp
  have pi1 := hi1 s3 (upd H2 D o0) s3.heap.objs.size (cellsFrom (s3.heap.objs.size + 1) scope.names (cloFrom X.env.cells scope.names [])) fp
  have pg1 := hg1 s3 (upd H2 D o0) s3.heap.objs.size (cellsFrom (s3.heap.objs.size + 1) scope.names (cloFrom X.env.cells scope.names [])) fp
  have pt1 := ht1 s3 (upd H2 D o0) s3.heap.objs.size (cellsFrom (s3.heap.objs.size + 1) scope.names (cloFrom X.env.cells scope.names [])) fp
  show codeAny _ _ (.compStart (.DictComp kx vx [⟨tg, iter, ifs, 0⟩, ⟨tg1, iter1, ifs1, 0⟩] scope pos) 0 (.ref it) (.ref D) (compEnvC scope (cellsFrom (s3.heap.objs.size + 1) scope.names (cloFrom X.env.cells scope.names [])) s3.heap.objs.size X.env)) (compPost (model X.prog X.w) X.A X.xe use Qf (.ref D) s3.heap.objs.size) { s3 with heap := pushCells (s3.heap.push { cls := .type "dict", data := .dict #[] }) scope.names }
  have nfp : ∀ b ∈ fp, (upd H2 D o0) b = none := fun b hb => (f3 b hb).1.1
  generalize hce : compEnvC scope (cellsFrom (s3.heap.objs.size + 1) scope.names (cloFrom X.env.cells scope.names [])) s3.heap.objs.size X.env = ce at I4 pg pt pk pe pi1 pg1 pt1 ⊢
  have cL : ce.locals = s3.heap.objs.size := by subst hce; rfl
  generalize hH3 : upd H2 D o0 = H3 at I3 I4 pg pt pk pe pi1 pg1 pt1 w0 nfp f3
  generalize hs4 : ({ s3 with heap := pushCells (s3.heap.push { cls := .type "dict", data := .dict #[] }) scope.names } : Shared) = s4 at I4 ⊢
  have st4 : tn 0 s4.heap := T.keep _ _ _ st3 fun b _ o e => by rw [← hs4]; exact pushCells_keeps _ _ _ _ (Heap.get?_push_of_some _ e)
  have stat : ∀ {σ' : L2.St} {H' : Hp} {s' : Shared}, Inv (X.blk s3 H3 scope ce fp) [] σ' H' s' → (∀ b ∈ fp, H' b = none) → ∀ b ∈ fp, FpOk (X.blk s3 H3 scope ce fp) [] H' b := fun {σ' H' s'} I' hn b hb =>
    ⟨hn b hb, (I'.ok.exf b hb).1, I'.ok.exfs b hb, .inl hb, fun x c e => (I'.ok.exf b hb).2 x c e, fun p hp => absurd (show p ∈ ([] : List (Addr × Obj)) ++ [] from hp) (by simp)⟩
  have loop : codeAny (model X.prog X.w) X.A (.compLoop (.DictComp kx vx [⟨tg, iter, ifs, 0⟩, ⟨tg1, iter1, ifs1, 0⟩] scope pos) 0 (.ref it) (.ref D) ce) (compPost (model X.prog X.w) X.A X.xe use Qf (.ref D) s3.heap.objs.size) s4 := by
    refine compLoopD2_out (hs1 ce) (fun n s' => ∃ i H', Inv (X.blk s3 H3 scope ce fp) [] (wipe σ (own.map (·.2))) H' s' ∧ tn i s'.heap ∧ (∀ b ∈ fp, H' b = none) ∧ W i n H') ?_ m0 ⟨0, H3, I4, st4, nfp, w0⟩
    rintro n s5 ⟨i, H5, I5, st5, n5, w5⟩
    rcases turn i n H5 w5 with ⟨stop, qq⟩ | ⟨go, Nx, hNx, step⟩
    · have td := T.done (X.blk s3 H3 scope ce fp) rfl rfl rfl hc i [] s5 _ H5 (fun _ _ => False) I5 (stat I5 n5) st5 stop
      refine thnF td fun r s6 ⟨hr, I6⟩ => ?_
      subst hr
      -- back in the def's context
      have I7 : L2.Inv X pins σ H5 s6 := I3.call' (ch := fp) I6.os I6.base I6.hok I6.bare fun b hb => ⟨(f3 b hb).1.2.2.2.1, (f3 b hb).1.2.1, (f3 b hb).1.2.2.2.2.1, (f3 b hb).1.2.2.2.2.2⟩
      have nC : H5 s3.heap.objs.size = none := by
        have z : H5 ce.locals = none := I6.free
        rw [cL] at z
        exact z
      obtain ⟨m, hn, _⟩ := I6.loc
      have hn : s6.heap.Ns ce.locals m := hn
      rw [cL] at hn
      exact hRR D s3.heap.objs.size s6 m H5 I7 qq hn (I3.fpOk (Nat.le_refl _) nC)
    · have ti := T.item (X.blk s3 H3 scope ce fp) rfl rfl rfl hc i [] s5 _ H5 (fun _ _ => False) I5 (stat I5 n5) st5 go
      refine thnF ti fun r s6 ⟨u, hr, h6⟩ => ?_
      subst hr
      refine thnF h6 fun _ s7 ⟨x, H7, I7, r7, y7, st7, n7⟩ => ?_
      have I7' := I7.pinned (stat I7 n7) (T.obj _ _ st7)
      refine thnF (pg.run _ s7 _ H7 x u _ I7' r7 (step x H7 y7)) fun _ s8 ⟨σ8, H8, I8, hw8, q8⟩ => ?_
      refine thnF (pt.run _ s8 σ8 H8 _ I8 q8) fun b s9 ⟨H9, I9, q9⟩ => ?_
      -- the turn's end, from any slots that know what the block knew at its start
      have fin : ∀ {σ9 : L2.St} {s' : Shared} {H' : Hp}, Inv (X.blk s3 H3 scope ce fp) ([] ++ pinsAt fp s7.heap) σ9 H' s' → (wipe σ (own.map (·.2))).length = σ9.length → (∀ (j : Nat) v, (wipe σ (own.map (·.2)))[j]? = some (some v) → σ9[j]? = some (some v)) → Nx H' →
          ∃ m, m < n ∧ ∃ i H', Inv (X.blk s3 H3 scope ce fp) [] (wipe σ (own.map (·.2))) H' s' ∧ tn i s'.heap ∧ (∀ b ∈ fp, H' b = none) ∧ W i m H' := fun {σ9 s' H'} I' hl hk nx => by
        obtain ⟨m', hm, w'⟩ := hNx H' nx
        have pin' : ∀ b ∈ fp, ∀ o, s7.heap.get? b = some o → s'.heap.get? b = some o ∧ H' b = none := fun b hb o e =>
          let z := I'.pin (b, o) (List.mem_append_right _ (List.mem_append_right _ (mem_pinsAt hb e)))
          ⟨z.1, z.2.1⟩
        refine ⟨m', hm, i + 1, H', (I'.unpinned (pins := [])).weak hl hk, T.keep _ _ _ st7 fun b hb o e => (pin' b hb o e).1, fun b hb => ?_, w'⟩
        obtain ⟨o, e, _⟩ := T.obj _ _ st7 b hb
        exact (pin' b hb o e).2
      have hl8 : (wipe σ (own.map (·.2))).length = σ8.length := by rw [← hw8, wipe_length]
      have hk8 : ∀ (j : Nat) v, (wipe σ (own.map (·.2)))[j]? = some (some v) → σ8[j]? = some (some v) := fun j v e => by
        rw [← hw8] at e
        exact (wipe_some e).1
      have hk9 : ∀ (j : Nat) v, (wipe σ (own.map (·.2)))[j]? = some (some v) → (wipe σ8 vs1)[j]? = some (some v) := fun j v e => by
        rw [← hw8] at e
        obtain ⟨e1, e2⟩ := wipe_some e
        rw [wipe_out fun z => e2 (hv j z)]
        exact e1
      cases b with
      | false =>
        simp only [Bool.false_eq_true, if_false] at q9 ⊢
        exact fin I9 hl8 hk8 q9
      | true =>
        simp only [if_true] at q9 ⊢
        refine thnF (pi1.run _ s9 σ8 H9 _ I9 q9) fun xv s10 hx => thnF hx fun itv s11 h11 => ?_
        obtain ⟨it1, fp1, tn1, J1, H11, e1, I11, T1, st11, f11, W1, ⟨m1, w1⟩, turn1⟩ := h11
        subst e1
        -- the inner loop
        have stat1 : ∀ {H' : Hp}, (∀ b ∈ fp1, H' b = none) → ∀ b ∈ fp1, FpOk (X.blk s3 H3 scope ce fp) ([] ++ pinsAt fp s7.heap) H' b := fun hn b hb => ⟨hn b hb, (f11 b hb).2⟩
        have loop1 : codeAny (model X.prog X.w) X.A (.compLoop (.DictComp kx vx [⟨tg, iter, ifs, 0⟩, ⟨tg1, iter1, ifs1, 0⟩] scope pos) 1 (.ref it1) (.ref D) ce)
            (fun r s' => match r with
              | .ok _ => ∃ m, m < n ∧ ∃ i H', Inv (X.blk s3 H3 scope ce fp) [] (wipe σ (own.map (·.2))) H' s' ∧ tn i s'.heap ∧ (∀ b ∈ fp, H' b = none) ∧ W i m H'
              | .error _ => False) s11 := by
          refine compLoopD2_in (fun k s' => ∃ j H', Inv (X.blk s3 H3 scope ce fp) ([] ++ pinsAt fp s7.heap) (wipe σ8 vs1) H' s' ∧ tn1 j s'.heap ∧ (∀ b ∈ fp1, H' b = none) ∧ W1 j k H') ?_ m1 ⟨0, H11, I11.weak (wipe_length _ _) (fun j v e => (wipe_some e).1), st11, fun b hb => (f11 b hb).1, w1⟩
          rintro k s12 ⟨j, H12, I12, st12, n12, w12⟩
          rcases turn1 j k H12 w12 with ⟨stop1, nx1⟩ | ⟨go1, Nx1, hNx1, step1⟩
          · refine thnF (T1.done (X.blk s3 H3 scope ce fp) rfl rfl rfl hc j _ s12 (wipe σ8 vs1) H12 (fun _ _ => False) I12 (stat1 n12) st12 stop1) fun r s13 ⟨hr, I13⟩ => ?_
            subst hr
            exact fin I13 (hl8.trans (wipe_length σ8 vs1).symm) hk9 nx1
          · refine thnF (T1.item (X.blk s3 H3 scope ce fp) rfl rfl rfl hc j _ s12 (wipe σ8 vs1) H12 (fun _ _ => False) I12 (stat1 n12) st12 go1) fun r s13 ⟨u1, hr, h13⟩ => ?_
            subst hr
            refine thnF h13 fun _ s14 ⟨x1, H14, I14, r14, y14, st14, n14⟩ => ?_
            have I14' := I14.pinned (stat1 n14) (T1.obj _ _ st14)
            refine thnF (pg1.run _ s14 (wipe σ8 vs1) H14 x1 u1 _ I14' r14 (step1 x1 H14 y14)) fun _ s15 ⟨σ15, H15, I15, hw15, q15⟩ => ?_
            refine thnF (pt1.run _ s15 σ15 H15 _ I15 q15) fun b1 s16 ⟨H16, I16, q16⟩ => ?_
            have fin1 : ∀ {s' : Shared} {H' : Hp}, Inv (X.blk s3 H3 scope ce fp) (([] ++ pinsAt fp s7.heap) ++ pinsAt fp1 s14.heap) σ15 H' s' → Nx1 H' → ∃ m, m < k ∧ ∃ j H', Inv (X.blk s3 H3 scope ce fp) ([] ++ pinsAt fp s7.heap) (wipe σ8 vs1) H' s' ∧ tn1 j s'.heap ∧ (∀ b ∈ fp1, H' b = none) ∧ W1 j m H' := fun {s' H'} I' nx => by
              obtain ⟨m', hm, w'⟩ := hNx1 H' nx
              have pin' : ∀ b ∈ fp1, ∀ o, s14.heap.get? b = some o → s'.heap.get? b = some o ∧ H' b = none := fun b hb o e =>
                let z := I'.pin (b, o) (List.mem_append_right _ (List.mem_append_right _ (mem_pinsAt hb e)))
                ⟨z.1, z.2.1⟩
              refine ⟨m', hm, j + 1, H', I'.unpinned.weak (by rw [← hw15, wipe_length]) (fun j v e => by rw [← hw15] at e; exact (wipe_some e).1), T1.keep _ _ _ st14 fun b hb o e => (pin' b hb o e).1, fun b hb => ?_, w'⟩
              obtain ⟨o, e, _⟩ := T1.obj _ _ st14 b hb
              exact (pin' b hb o e).2
            cases b1 with
            | false =>
              simp only [Bool.false_eq_true, if_false] at q16 ⊢
              exact fin1 I16 q16
            | true =>
              simp only [if_true] at q16 ⊢
              refine thnF (pk.run _ s16 σ15 H16 _ I16 q16) fun z s17 ⟨yk, H17, I17, r17, q17⟩ => ?_
              refine thnF (pe.run _ s17 σ15 H17 _ I17 q17) fun z2 s18 ⟨yv, H18, I18, r18, pu⟩ => ?_
              exact dn_dictSet (X := X.blk s3 H3 scope ce fp) hu I18 pu r17 r18 fun s19 H19 I19 nx => fin1 I19 nx
        exact compStartD1_ok loop1 (T1.self X.A 0 _ _ _ st11 loop1)
  exact codeAny_compStart_dict loop (T.self X.A 0 _ _ _ st4 loop)
/-- as a value -/
theorem pe_dcN2 {kx vx tg iter tg1 iter1 : Expr} {ifs ifs1 : List Expr} {scope : Scope} {own : List (Str × Nat)} {vs1 : List Nat} {pos : Pos} {wi wi1 : TI} {g g1 : TG} {tt tt1 : TT} {tk tv : TE} (hu : X.A.units + 16 < cLine) (hc : X.calm = true) (hN : X.N.Nodup) (hi : PI X tg iter wi) (ok : BlkOk X.N X.env.scope scope own) (hv : ∀ i ∈ vs1, i ∈ own.map (·.2))
    (hg : ∀ (s : Shared) (H : Hp) (C : Addr) (cl : List (Str × Addr)) (fp : List Addr), PG (X.blk s H scope (compEnvC scope cl C X.env) fp) tg g) (ht : ∀ (s : Shared) (H : Hp) (C : Addr) (cl : List (Str × Addr)) (fp : List Addr), PTs (X.blk s H scope (compEnvC scope cl C X.env) fp) ifs tt)
    (hi1 : ∀ (s : Shared) (H : Hp) (C : Addr) (cl : List (Str × Addr)) (fp : List Addr), PI (X.blk s H scope (compEnvC scope cl C X.env) fp) tg1 iter1 wi1)
    (hg1 : ∀ (s : Shared) (H : Hp) (C : Addr) (cl : List (Str × Addr)) (fp : List Addr), PG (X.blk s H scope (compEnvC scope cl C X.env) fp) tg1 g1) (ht1 : ∀ (s : Shared) (H : Hp) (C : Addr) (cl : List (Str × Addr)) (fp : List Addr), PTs (X.blk s H scope (compEnvC scope cl C X.env) fp) ifs1 tt1)
    (hk : ∀ (s : Shared) (H : Hp) (C : Addr) (cl : List (Str × Addr)) (fp : List Addr), PE (X.blk s H scope (compEnvC scope cl C X.env) fp) kx tk) (he : ∀ (s : Shared) (H : Hp) (C : Addr) (cl : List (Str × Addr)) (fp : List Addr), PE (X.blk s H scope (compEnvC scope cl C X.env) fp) vx tv) (hs : ∀ x, foldedSetIterable iter X.env x = pure x := by intro _; rfl) (hs1 : ∀ env x, foldedSetIterable iter1 env x = pure x := by intro _ _; rfl) :
    PE X (.DictComp kx vx [⟨tg, iter, ifs, 0⟩, ⟨tg1, iter1, ifs1, 0⟩] scope pos) (tDcN2 X.prog X.w wi g tt wi1 g1 tt1 tk tv (own.map (·.2)) vs1) := by
  refine ⟨fun pins s σ H Q I h => ?_⟩
  rw [arm_eval_DictComp]
  refine dcN2_core hu hc hN I hi ok hv hg ht hk he hs hi1 hg1 ht1 hs1 h fun D C s' m H' I' q hn f => ⟨m, hn, fun h'' sb => ?_⟩
  obtain ⟨f0, f1, f2, f3, f4, f5⟩ := f
  exact ⟨.ref D, H', I'.turned (t' := s'.toks) (fun b o hb e => (sb.2 b hb).trans e) f0 f1 f3 f4 f5, rfl, q⟩
end
end Lk

set_option maxHeartbeats 8000000
namespace Lk
open PySem PySem.Spec PyProof.Rows PySem.W L2
/-! ### a dict with nested keys, walked by its items; its list of keys -/
/-- the pairs, each a new tuple -/
def ItN (P : Program) (w : World) (d : Addr) (o : Obj) (es : DnE) : It :=
  ⟨fun i H => H d = some (.frz o (DN P w d es)) ∧ i < es.length, fun i H x H' => ∃ T k a v, es[i]? = some (k, a, v) ∧ x = .ref T ∧ H T = none ∧ H' = upd H T (.tup [.ref a, v]), fun i H => H d = some (.frz o (DN P w d es)) ∧ es.length ≤ i⟩
theorem dn_frz {X : Cx} {pins : List (Addr × Obj)} {σ : L2.St} {H : Hp} {s : Shared} {d : Addr} {o : Obj} {es : DnE} (I : L2.Inv X pins σ H s) (hd : H d = some (.frz o (DN X.prog X.w d es))) :
    (d == sysModules) = false ∧ s.heap.get? d = some o ∧ o.ExactDict ∧ ∃ ar ep xs, o.data = .dict ar ep ∧ ar.size = es.length ∧ DnR es xs ∧ ar.toList = xs.map (entryOfKey (nestedKind X.prog X.w)) ∧ es.length ≤ sizeLine := by
  obtain ⟨e0, e1⟩ := (show s.heap.get? d = some o ∧ ObjOk X.prog X.w H s.heap d (DN X.prog X.w d es) from I.hok d _ hd)
  obtain ⟨h1, h2, xs, r, nd, o', ar, ep, g1, g2, g3, g4⟩ := dn_ok e1
  rw [e0] at g1
  cases g1
  exact ⟨h2, e0, g2, ar, ep, xs, g3, by rw [size_of_entries g4]; exact (Paired.length r).symm, r, g4, h1⟩
theorem dn_ent {P : Program} {w : World} {knd : HeapKind P w NestedKey} {es : DnE} {xs : List (NestedKey × Addr × Value)} {ar : Array DictEntry} {i : Nat} (r : DnR es xs) (g : ar.toList = xs.map (entryOfKey knd)) (hi : i < es.length) (hi2 : i < ar.size) : ∃ k a v, es[i]? = some (k, a, v) ∧ ar[i].key = .ref a ∧ RelV v ar[i].val := by
  obtain ⟨q, f1, f2, f3, f4⟩ := LiI.paired_get r (List.getElem?_eq_getElem hi)
  have e := entry_at g i
  rw [f1, Array.getElem?_eq_getElem hi2] at e
  have e : ar[i] = entryOfKey knd q := Option.some.inj e
  refine ⟨es[i].1, es[i].2.1, es[i].2.2, List.getElem?_eq_getElem hi, ?_, ?_⟩
  · rw [e, f3] <;> rfl
  · rw [e]
    exact f4
section
variable {P : Program} {w : World} {K : PySem.W.Frag} {d : Addr} {o : Obj} {ar : Array DictEntry} {ep : Nat}
theorem turn_itemsN {es : DnE} {elts : List Expr} {kk : Nat} {tpos : Pos} (it : Addr) (hod : o.data = .dict ar ep) :
    Turn P w K (.Tuple elts kk tpos) (ItN P w d o es) [it] it (fun i h => ∃ ok ov, IsItemIter h it d i es.length ep ok ov) where
  mem := by simp
  obj := fun i h st b hb => by
    have e : b = it := by simpa using hb
    subst e
    obtain ⟨ok, ov, e⟩ := st
    exact ⟨_, e, fun v z => nomatch z⟩
  keep := fun i h h' st k => let ⟨ok, ov, e⟩ := st; ⟨ok, ov, k it (by simp) _ e⟩
  item := by
    intro X hP hw hK hc i pins s σ H E I hf st hg
    subst hP hw hK
    obtain ⟨hd, hi⟩ := hg
    obtain ⟨hs, hgd, hx, ar', ep', xs, hdt, hsz, r, g, _⟩ := dn_frz I hd
    rw [hod] at hdt
    cases hdt
    have hi2 : i < ar.size := by omega
    obtain ⟨k, a, v, hkv, ek, ru⟩ := dn_ent r g hi hi2
    obtain ⟨ok, ov, he⟩ := st
    rw [← hsz] at he
    have hlt : it < s.heap.objs.size := Heap.lt_size he
    refine wpAny_pyNext_items_item_raw he ⟨o, hgd, hx, hod⟩ hi2 fun h' ho hT hz hk => ?_
    refine ⟨_, rfl, wpAny_letOwnedTupleGo_items (s := { s with heap := h' }) ho fun h'' he' sb => ?_⟩
    have hT2 : h''.get? s.heap.objs.size = some { cls := .type "tuple", data := .seq #[ar[i].key, ar[i].val] } := (sb.2 _ (Nat.ne_of_gt hlt)).trans hT
    have new : ObjOk X.prog X.w (upd H s.heap.objs.size (.tup [.ref a, v])) h'' s.heap.objs.size (.tup [.ref a, v]) :=
      ⟨by show 2 ≤ sizeLine; decide, [ar[i].key, ar[i].val], .cons ek (.cons ru .nil), ⟨_, hT2, rfl, _, rfl⟩⟩
    have I1 : L2.Inv X pins σ (upd H s.heap.objs.size (.tup [.ref a, v])) { s with heap := h'' } :=
      I.turnedNew (t' := s.toks) (ch := [it]) (fun b ob hb e => (sb.2 b (by simpa using hb)).trans (hk b ob (by simpa using hb) e)) hf (Nat.le_refl _) new
    refine ⟨.ref s.heap.objs.size, _, I1, rfl, ⟨_, k, a, v, hkv, rfl, I.hok.fresh (Nat.le_refl _), rfl⟩, ⟨ar[i].key, ar[i].val, ?_⟩, fun b hb => ?_⟩
    · rw [← hsz]; exact he'
    · have e : b = it := by simpa using hb
      rw [e, upd_ne (Nat.ne_of_lt hlt)]
      exact (hf it (by simp)).1
  done := by
    intro X hP hw hK hc i pins s σ H E I hf st hg
    subst hP hw hK
    obtain ⟨hd, hi⟩ := hg
    obtain ⟨f0, f1, f2, f3, f4, f5⟩ := hf it (by simp)
    obtain ⟨hs, hgd, hx, ar', ep', xs, hdt, hsz, r, g, _⟩ := dn_frz I hd
    rw [hod] at hdt
    cases hdt
    obtain ⟨ok, ov, he⟩ := st
    rw [← hsz] at he
    exact wpAny_pyNext_items_end_raw (I.ok.hd hc) he ⟨o, hgd, hx, hod⟩ (by omega) fun h' eb => ⟨rfl, I.turned (t' := s.toks) (fun b ob hb e => eb b ob hb e) f0 f1 f3 f4 f5⟩
  self := fun A i s Q E st h => let ⟨_, _, e⟩ := st; PySem.W.kcp_self e h
end
def iItemsN (P : Program) (w : World) (td : TE) : TI := fun σ H R => td σ H fun x H1 => ∃ d o es, x = .ref d ∧ H1 d = some (.frz o (DN P w d es)) ∧ R (ItN P w d o es) H1
section
variable {X : Cx} {e : Expr} {td : TE} {apos cpos : Pos}
theorem pi_itemsN {elts : List Expr} {kk : Nat} {tpos : Pos} (he : PE X e td) (hbase : attributeBase e "items" X.env (eval e X.env) = eval e X.env := by rfl) (hline : (apos.endLine == cpos.line) = true := by rfl) :
    PI X (.Tuple elts kk tpos) (.Call (.Attribute e "items" apos) [] [] cpos) (iItemsN X.prog X.w td) := by
  refine ⟨fun pins s σ H R I h => ?_⟩
  refine wpAny_Call_method (T := "dict") (id := "dict.items") hbase rfl hline F.plainAttrs_dict F.slot_dict_items F.type_dict_items (thn (he.run pins s σ H _ I h) fun u s1 ⟨x, H1, I1, rx, d, o, es, ex, hd, q⟩ => ?_)
  subst ex
  obtain rfl : u = Value.ref d := rx
  obtain ⟨hs, hgd, hx, ar, ep, xs, hdt, hsz, r, g, _⟩ := dn_frz I1 hd
  have raw : s1.heap.DictRaw d ar ep := ⟨o, hgd, hx, hdt⟩
  refine ⟨raw.typeIs, (fun b e => by cases e; exact ⟨o, hgd, hx.2.1⟩), ?_⟩
  have I2 : L2.Inv X pins σ H1 { s1 with heap := s1.heap.push { cls := .type "dict_items", data := .fields #[.ref d] } } := I1.kept (t' := s1.toks) fun b ob q => Heap.get?_push_of_some _ q
  have fin : wpAny (model X.prog X.w) X.A (pyIter (.ref s1.heap.objs.size)) (PIE X pins σ (.Tuple elts kk tpos) R) X.xe { s1 with heap := s1.heap.push { cls := .type "dict_items", data := .fields #[.ref d] } } := by
    refine wpAny_pyIter_items_raw (d := d) ⟨_, Heap.get?_push_size _ rfl, rfl, rfl⟩ (raw.at fun _ e => Heap.get?_push_of_some _ e) (pi_one (tk := s1.toks) I2 _ (turn_itemsN _ hdt) ⟨.none, .none, ?_⟩ q)
    rw [← hsz]
    exact Heap.get?_push_size _ rfl
  show wpAny _ _ (callWith cpos (.builtin "dict.items") [.ref d] [] []) _ X.xe s1
  exact method_meetsIn F.slot_dict_items F.entry_dict_items rfl (PySem.evalArgs_none ⟨rfl, raw.typeIs, F.args_dict_items_1 _, _, meets_dict_items_raw d hs, ⟨ar, ep, raw⟩, fin⟩)
/-- list(d): the keys, in order -/
theorem call_list_dn (hc : X.calm = true) : CallR X (.type "list") (fun xs H Q => ∃ d es, xs = [V.ref d] ∧ Rd H d (DN X.prog X.w d es) ∧ ∀ p, H p = none → Q (.ref p) (upd H p (.lst (es.map fun x => V.ref x.2.1)))) := by
  intro pins s σ H xs us Q I r h
  obtain ⟨d, es, rfl, hd, q⟩ := h
  obtain ⟨u, rfl, rx⟩ := r.one
  cases rx
  obtain ⟨z, hs, ks, pr, _, o, ar, ep, ho, hx, hdt, he⟩ := dn_ok (hd.ok I.hok)
  have l1 : ar.size = ks.length := size_of_entries he
  have l2 : es.length = ks.length := Paired.length pr
  refine PySem.W.kdl_call (kdl_raw hs hx hdt) (I.ok.hd hc) ho (by omega) fun h' tk acc' c' kp e it => ?_
  have ea : acc'.toList = es.map fun x => Value.ref x.2.1 := by
    have hl : acc'.toList.length = ks.length := by rw [Array.length_toList, it.1]; exact l1
    apply List.ext_getElem?
    intro j
    rw [List.getElem?_map]
    cases hj : acc'.toList[j]? with
    | none =>
      have h1 := List.getElem?_eq_none_iff.mp hj
      rw [List.getElem?_eq_none (by omega)]
      all_goals rfl
    | some v =>
      obtain ⟨en, hen, hv⟩ := it.2 j v (by rw [← Array.getElem?_toList]; exact hj)
      obtain ⟨h1, h2⟩ := Array.getElem?_eq_some_iff.mp hen
      obtain ⟨k, a, v', e1, e2, _⟩ := dn_ent pr he (show j < es.length by omega) h1
      rw [e1, hv, ← h2, e2]
      all_goals rfl
  have eb : acc'.toList = (es.map fun x => x.2.1).map Value.ref := by rw [ea, List.map_map]; all_goals rfl
  have rv : Vals (es.map fun x => V.ref x.2.1) acc'.toList := by
    have e3 : (es.map fun x => V.ref x.2.1) = (es.map fun x => x.2.1).map V.ref := by rw [List.map_map]; all_goals rfl
    rw [eb, e3]
    exact vals_refs _
  refine ⟨.ref s.heap.objs.size, _, I.laid (t' := tk) (o := .lst (es.map fun x => V.ref x.2.1)) kp (Nat.le_refl _) ?_, rfl, q _ (I.hok.fresh (Nat.le_refl _))⟩
  exact ⟨by rw [List.length_map]; omega, acc'.toList, c', rv, by rw [Array.toArray_toList]; exact e⟩
end
end Lk

set_option maxHeartbeats 8000000
namespace Lk
open PySem PySem.Spec PyProof.Rows PySem.W L2
section
variable {X : Cx}
/-- (x,) * k, any k to a thousand -/
def rRepA (K : PySem.W.Frag) : R2 := fun x y H Q => ∃ l k v, x = .ref l ∧ y = .int k ∧ H l = some (.tup [v]) ∧ 0 ≤ k ∧ k ≤ 1000 ∧ ∀ p H', Same H H' → H' p = some (.tup (List.replicate k.toNat v)) → Q (.ref p) H'
theorem op_repA : OpR X (binaryOp .Mult) (rRepA X.K) := by
  intro pins s σ H x y v u Q I rx ry h
  obtain ⟨l, k, v0, rfl, rfl, hT', h1, h2, q⟩ := h
  have hT : SqT X.K H l [v0] := .inl (.inl hT')
  by_cases k0 : k = 0
  · subst k0
    cases rx
    obtain ⟨t, rfl⟩ := ry
    obtain ⟨its, r, ⟨⟨cls, dd, data, sl⟩, ho, hc, n, hd⟩, hs⟩ := I.tuple hT
    simp only at hc hd
    subst hc hd
    refine wpAny_binaryOp_repeat_ref (T := "tuple") (U := "int") (by decide) ⟨_, ho, rfl⟩ (fun s' => typeIs_int s' 0 t) noFill_tuple_mul F.fills_int_mul F.slot_int_rmul repeat_tuple F.slot_int_index.lookup
      (call_meets F.slot_int_rmul (typeIs_int s 0 t) F.entry_int_rmul (F.args_int_rmul_2 _ _) (int_rmul_tuple 0 t l its.toArray n dd sl)
        ⟨ho, rfl, ⟨_, ho, rfl⟩, call_meets F.slot_tuple_mul ⟨_, ho, rfl⟩ F.entry_tuple_mul (F.args_tuple_mul_2 _ _) (tuple_mul0 l its.toArray n dd sl 0 t (by decide) ?_ (by simp)) ⟨ho, ?_⟩⟩)
    · cases r with
      | cons a b => cases b; rfl
    · exact ⟨.ref s.heap.objs.size, _, I.laid (t' := s.toks) (o := .tup []) (fun b ob q => Heap.get?_push_of_some _ q) (Nat.le_refl _) ⟨Nat.zero_le _, [], .nil, IsTup.new _ _⟩, rfl, q _ _ (same_new (I.hok.fresh (Nat.le_refl _))) upd_same⟩
  · by_cases k1 : k = 1
    · subst k1
      cases rx
      obtain ⟨t, rfl⟩ := ry
      obtain ⟨its, r, ⟨⟨cls, dd, data, sl⟩, ho, hc, n, hd⟩, hs⟩ := I.tuple hT
      simp only at hc hd
      subst hc hd
      refine wpAny_binaryOp_repeat_ref (T := "tuple") (U := "int") (by decide) ⟨_, ho, rfl⟩ (fun s' => typeIs_int s' 1 t) noFill_tuple_mul F.fills_int_mul F.slot_int_rmul repeat_tuple F.slot_int_index.lookup
        (call_meets F.slot_int_rmul (typeIs_int s 1 t) F.entry_int_rmul (F.args_int_rmul_2 _ _) (int_rmul_tuple 1 t l its.toArray n dd sl)
          ⟨ho, rfl, ⟨_, ho, rfl⟩, call_meets F.slot_tuple_mul ⟨_, ho, rfl⟩ F.entry_tuple_mul (F.args_tuple_mul_2 _ _) (tuple_mul1 l its.toArray n dd sl 1 t (by decide) (by simp)) ⟨ho, ?_⟩⟩)
      exact ⟨.ref l, H, I, rfl, q _ _ (fun _ _ e => e) hT'⟩
    · refine op_repT pins s σ H _ _ v u Q I rx ry ⟨l, k, [v0], rfl, rfl, hT, by simp, by omega, h2, by simp, fun p hp => q _ _ (same_new hp) ?_⟩
      rw [upd_same]
      simp
/-- max(ns, default=d) -/
theorem cr_maxD : CallRK X (.builtin "max") [Str.ofString "default"] (fun vs zs H Q => ∃ (a : Addr) (ns : List Int) (z : V), vs = [V.ref a] ∧ zs = [z] ∧ SqL X.K H a (ns.map V.int) ∧ X.calm = true ∧ X.A.units + 4 < cLine ∧ (ns = [] → Q z H) ∧ ∀ y ys, ns = y :: ys → ∀ m : Int, m = maxOf y ys → Q (.int m) H) := by
  intro pins s σ H vs zs us ws Q I r rz h
  obtain ⟨a, ns, z, rfl, rfl, hs, hc, hu, q0, q1⟩ := h
  obtain rfl := Vals.ref1 r
  obtain ⟨w1, rfl, e1⟩ := vals1 rz
  obtain ⟨its, rv, hl, hz⟩ := I.list hs
  have hi := rv.ints
  refine max_list_datum_default (α := Int) (xs := ns) (vs := its.toArray) (I.ok.hd hc) hl.isList (by simpa using HoldAll.of_ints hi) ?_ (fun e h' tk kp => ?_) (fun y ys i v h' tk e hi hh kp => ?_)
  · show X.A.units + 1 + 0 < cLine
    omega
  · exact ⟨z, H, I.kept kp, e1, q0 e⟩
  · obtain ⟨as, hh⟩ := hh
    obtain ⟨t, rfl⟩ : ∃ t, v = .int (maxOf y ys) t := by
      have hh : Reads h' v (.int (maxOf y ys)) as := hh
      cases hh
      exact ⟨_, rfl⟩
    exact ⟨.int (maxOf y ys), H, I.kept kp, ⟨t, rfl⟩, q1 y ys e _ rfl⟩
/-- d.update(e), keys ints or texts -/
theorem mt_updateK : MtR X "dict.update" (fun x vs H Q => ∃ d o kvs more, x = .ref d ∧ vs = [.ref o] ∧ d ≠ o ∧ H d = some (.dK kvs) ∧ H o = some (.dK more) ∧ kvs.length + more.length ≤ sizeLine ∧ Q .non (upd H d (.dK (mergeK kvs more)))) := by
  intro pins s σ H x vs v us Q I rx rv h
  obtain ⟨d, o, kvs, more, rfl, rfl, hne, hd, ho, hz, q⟩ := h
  cases rx
  obtain ⟨u, rfl, ru⟩ := rv.one
  cases ru
  obtain ⟨z1, y1, vs1, r1, d1⟩ := dk_of I.hok hd
  obtain ⟨z2, y2, vs2, r2, d2⟩ := dk_of I.hok ho
  have l1 : kvs.length = vs1.length := r1.length
  have l2 : more.length = vs2.length := r2.length
  refine call_meetsIn F.slot_dict_update d1.typeIs F.entry_dict_update (F.args_dict_update_2 _ _) (meets_dict_update (mixKind X.prog X.w) d o hne y2) ⟨vs1, vs2, d1, d2, by omega, fun h' g1 g2 sb => ?_⟩
  refine ⟨.non, _, ?_, rfl, q⟩
  have he : ∃ q, h'.get? d = some q := let ⟨q, _, _, hq, _⟩ := g1; ⟨q, hq⟩
  exact d_write (s := s) I (by rw [hd]; exact True.intro) (t' := s.toks) sb he (dk_new (Nat.le_trans (length_mergeK more kvs) hz) y1 (KV.merge r2 r1) g1)
end
/-! ### (x, y)[::-1] -/
section
variable {prog : Program} {w : World} {A : Around} {E : Value → Shared → Prop} {s : Shared}
theorem sliceApplied_rev2 {sl : Addr} {u : Tok} {Q : Int × Int × Nat → Shared → Prop} (hs : s.heap.IsSliceOf sl .none .none (.int (-1) u)) (h : Q (1, -1, 2) s) : wpAny (model prog w) A (Builtin.Slice.sliceApplied (.ref sl) (pure ((2 : Nat) : Int))) Q E s := by
  obtain ⟨os, hos, hcs, hds⟩ := id hs
  unfold Builtin.Slice.sliceApplied Builtin.Slice.sliceFields
  refine wpAny_bind (wpAny_bind (wpAny_field hos hds (x := .none) rfl (wpAny_bind (wpAny_field hos hds (x := .none) rfl (wpAny_bind (wpAny_field hos hds (x := .int (-1) u) rfl (wpAny_pure ?_)))))))
  refine wpAny_bind (slicePart_int ?_)
  show wpAny _ _ (if ((-1 : Int) == 0) = true then _ else _) _ _ s
  rw [if_neg (by decide)]
  refine wpAny_bind (slicePart_none (wpAny_bind (slicePart_none (wpAny_bind (wpAny_pure ?_)))))
  show wpAny _ _ (match Builtin.Slice.sliceAdjust none none (-1) ((2 : Nat) : Int) with | (lo, hi) => pure (lo, (-1 : Int), Builtin.Slice.slicePlaces lo hi (-1))) _ _ s
  have e : Builtin.Slice.sliceAdjust none none (-1) ((2 : Nat) : Int) = (1, -1) := by decide
  rw [e]
  show wpAny _ _ (pure ((1 : Int), (-1 : Int), Builtin.Slice.slicePlaces 1 (-1) (-1))) _ _ s
  have e2 : Builtin.Slice.slicePlaces 1 (-1) (-1) = 2 := by decide
  rw [e2]
  exact wpAny_pure h
theorem getItem_rev2 {t sl : Addr} {x y : Value} {u : Tok} {Q : Value → Shared → Prop} (ht : IsTup s.heap t #[x, y]) (hs : s.heap.IsSliceOf sl .none .none (.int (-1) u))
    (h : Q (.ref s.heap.objs.size) { s with heap := s.heap.push { cls := .type "tuple", data := .seq #[y, x] } }) : wpAny (model prog w) A (getItem (.ref t) (.ref sl)) Q E s := by
  have htake : sizeOk (.seq #[y, x]) := by
    show 2 ≤ sizeLine
    decide
  obtain ⟨os, hos, hcs, hds⟩ := id hs
  have hTs : s.TypeIs (.ref sl) "slice" := ⟨os, hos, hcs⟩
  unfold getItem
  try with_reducible refine wpAny_holding ?_
  first | refine wpAny_bind (wpAny_pure ?_) | skip
  refine wpAny_bind (wpAny_sequenceKey ht.typeIs (by decide) ?_)
  refine wpAny_bind (wpAny_callSpecial?_slot (name := Str.ofString "__getitem__") ht.typeIs PyProof.Rows.slot_tuple_getitem
    (wpAny_call_entry PyProof.Rows.slot_tuple_getitem ht.typeIs entry_tuple_getitem ?_ (args_tuple_getitem _ _)))
  show wpAny _ _ (Builtin.Tuple.tupleItemsOf (.ref t) >>= _) _ _ s
  refine wpAny_bind (PyProof.Rows.tupleItemsOf_ ht ?_)
  refine wpAny_bind (wpAny_typeOf hTs ?_)
  rw [if_pos (by decide)]
  refine wpAny_bind (sliceApplied_rev2 hs ?_)
  show wpAny _ _ (if (((1 : Int) == 0) && ((-1 : Int) == 1) && ((2 : Nat) == 2)) = true then _ else _) _ _ s
  rw [if_neg (by decide)]
  have ep : ((List.range 2).filterMap fun (m : Nat) => (#[x, y] : Array Value)[((1 : Int) + (m : Int) * (-1)).toNat]?).toArray = #[y, x] := by rfl
  rw [ep]
  first
    | exact wpAny_bind (m := Builtin.Tuple.tupleExact _) (wpAny_newObj_type (wpAny_pure ⟨_, rfl, wpAny_pure h⟩) htake)
    | exact wpAny_bind (m := Builtin.Tuple.tupleExact _) (wpAny_newObj_type (wpAny_bind (wpAny_pure (wpAny_pure ⟨_, rfl, wpAny_pure h⟩))) htake)
    | exact wpAny_bind (wpAny_bind (m := Builtin.Tuple.tupleExact _) (wpAny_newObj_type (wpAny_pure (wpAny_pure ⟨_, rfl, wpAny_pure h⟩)) htake))
    | exact wpAny_bind (wpAny_bind (m := Builtin.Tuple.tupleExact _) (wpAny_newObj_type (wpAny_pure ⟨_, rfl, wpAny_pure h⟩) htake))
end
section
variable {X : Cx}
def tRev2 (K : PySem.W.Frag) (te : TE) : TE := fun σ H Q => te σ H fun x H1 => ∃ a y z, x = .ref a ∧ SqT K H1 a [y, z] ∧ ∀ p, H1 p = none → Q (.ref p) (upd H1 p (.tup [z, y]))
theorem pe_rev2 {e : Expr} {te : TE} {k : Nat} {p1 p2 p3 pos : Pos} (he : PE X e te) : PE X (.Subscript e (.Slice none none (some (.UnaryOp .USub (.Constant (.int 1) k p1) p2)) p3) pos) (tRev2 X.K te) := by
  refine ⟨fun pins s σ H Q I h => ?_⟩
  refine Subscript_ (thn (he.run pins s σ H _ I h) fun v s1 ⟨x, H1, I1, r1, q1⟩ => ?_)
  obtain ⟨a, y, z, ex, hx, q⟩ := q1
  subst ex
  cases r1
  have hst : PO X (some (.UnaryOp .USub (.Constant (.int 1) k p1) p2)) (tPart (tUn (rU fun i => .int (-i)) (tC (.int 1)))) := po_some (pe_un un_neg pe_int)
  refine wpAny_Slice (thn (po_none.run pins s1 σ H1 (fun o H2 => o = none ∧ H2 = H1) I1 ⟨rfl, rfl⟩) fun vl s2 ⟨l, H2, I2, pl, el, e2⟩ => ?_)
  subst el e2
  refine thn (po_none.run pins s2 σ H2 (fun o H3 => o = none ∧ H3 = H2) I2 ⟨rfl, rfl⟩) fun vu s3 ⟨u, H3, I3, pu, eu, e3⟩ => ?_
  subst eu e3
  refine thn (hst.run pins s3 σ H3 (fun o H4 => o = some (-1) ∧ H4 = H3) I3 ⟨1, rfl, -1, rfl, rfl, rfl⟩) fun vs s4 ⟨o, H4, I4, ps, eo, e4⟩ => ?_
  subst eo e4
  cases pl
  cases pu
  cases ps with
  | int _ u =>
    have I5 : L2.Inv X pins σ H4 { s4 with heap := s4.heap.push { cls := .type "slice", data := .fields #[.none, .none, .int (-1) u] } } := I4.kept (t' := s4.toks) fun b ob q => Heap.get?_push_of_some _ q
    obtain ⟨its, r, ht, hz⟩ := I5.tuple hx
    cases r with
    | cons r1 r2 =>
      cases r2 with
      | cons r2 r3 =>
        cases r3
        show wpAny (model X.prog X.w) X.A (subscriptTail e (.Slice none none (some (.UnaryOp .USub (.Constant (.int 1) k p1) p2)) p3) (.ref a) (.ref s4.heap.objs.size)) (EP X pins σ Q) X.xe { s4 with heap := s4.heap.push { cls := .type "slice", data := .fields #[.none, .none, .int (-1) u] } }
        refine tail_any (ops := [.ref a, .ref s4.heap.objs.size]) ht.typeIs (PyProof.Rows.slot_tuple_getitem.lookup) ?_ (by with_unfolding_all rfl)
        refine getItem_rev2 ht (Heap.IsSliceOf.new _ _ _ _) ?_
        refine ⟨.ref _, _, I5.laid (t' := s4.toks) (o := .tup [z, y]) (fun b ob q => Heap.get?_push_of_some _ q) (Nat.le_refl _) ?_, rfl, q _ (I5.hok.fresh (Nat.le_refl _))⟩
        exact ⟨by show 2 ≤ sizeLine; decide, _, .cons r2 (.cons r1 .nil), IsTup.new _ _⟩
end
end Lk

set_option maxHeartbeats 8000000
namespace Lk
open PySem PySem.Spec PyProof.Rows PySem.W L2
section
variable {X : Cx} {pos : Pos}
/-- {}, to be a dict with nested keys -/
def tDNewN (P : Program) (w : World) : TE := fun _ H Q => ∀ p, H p = none → Q (.ref p) (upd H p (DN P w p []))
theorem pe_dnewN : PE X (.Dict [] [] pos) (tDNewN X.prog X.w) := ⟨fun pins s σ H Q I h =>
  wpAny_Dict_empty ⟨.ref s.heap.objs.size, _, I.laid (a := s.heap.objs.size) (o := DN X.prog X.w s.heap.objs.size []) (t' := s.toks) (fun _ _ q => Heap.get?_push_of_some _ q) (Nat.le_refl _) (dn_of_dk (dk_empty s.heap I.big)), rfl, h _ (I.hok.fresh (Nat.le_refl _))⟩⟩
theorem call_len_dn : CallR X (.builtin "len") (fun xs H Q => ∃ d es, xs = [.ref d] ∧ Rd H d (DN X.prog X.w d es) ∧ dnKeys H es ∧ Q (.int ((es.length : Nat) : Int)) H) := by
  intro pins s σ H xs us Q I r h
  obtain ⟨p, es, rfl, hp, hk, q⟩ := h
  obtain ⟨u, rfl, rx⟩ := vals1 r
  obtain rfl : u = .ref p := rx
  obtain ⟨z, hd, ys, rel, dd⟩ := dn_rd I hp hk
  have hl : es.length = ys.length := Paired.length rel
  refine call_len_dictH hd dd (by rw [← hl]; rw [sizeLine_eq] at z; omega) ?_
  rw [← hl]
  exact ⟨.int ((es.length : Nat) : Int), H, I.tok _, ⟨_, rfl⟩, q⟩
/-- isinstance(d, c) -/
theorem call_isi_dn : CallR X (.builtin "isinstance") (fun xs H Q => ∃ d es c u b, xs = [.ref d, c] ∧ ClsV c u ∧ Rd H d (DN X.prog X.w d es) ∧ PySem.W.kitOne X.K (.type "dict") u = some b ∧ Q (.bl b) H) := by
  intro pins s σ H xs us Q I r h
  obtain ⟨d, es, c, u, b, rfl, k, hd, e, q⟩ := h
  obtain ⟨u1, u2, rfl, r1, r2⟩ := vals2 r
  have e2 := k.eq r2
  subst e2
  cases r1
  obtain ⟨_, _, _, _, _, o, ar, ep, g1, g2, _⟩ := dn_ok (hd.ok I.hok)
  exact PySem.W.kia_one (PySem.W.kitx_dict (a := d)) I.kIn ⟨o, g1, g2.1⟩ e (fun z => nomatch z) fun tk => ⟨.bl b, H, I.tok tk, rfl, q⟩
end
end Lk

set_option maxHeartbeats 4000000
namespace Lk
open PySem PySem.Spec PyProof.Rows L2
/-! ### the mathematics' words: rows, players, stands -/
/-- a move's signs -/
def isMv (m : Str) : Prop := 1 ≤ m.length ∧ m.length ≤ 8 ∧ ∀ c ∈ m.cps.toList, c ∈ az.cps.toList
inductive Rw
  | fl
  | ds (k : Nat) (m : Str)
  | ng (i : Nat)
  | cj (i j : Nat)
  | dj (i j : Nat)
  | sh (k i : Nat)
def Rw.word : Rw → Str
  | .fl => "false"
  | .ds _ _ => "does"
  | .ng _ => "not"
  | .cj _ _ => "and"
  | .dj _ _ => "or"
  | .sh _ _ => "shown"
def Rw.parts : Rw → List V
  | .fl => []
  | .ds k m => [.int k, .str m]
  | .ng i => [.int i]
  | .cj i j => [.int i, .int j]
  | .dj i j => [.int i, .int j]
  | .sh k i => [.int k, .int i]
def Rw.vs (r : Rw) : List V := .str r.word :: r.parts
def Rw.refs : Rw → List Nat
  | .fl => []
  | .ds _ _ => []
  | .ng i => [i]
  | .cj i j => [i, j]
  | .dj i j => [i, j]
  | .sh _ i => [i]
def Rw.isSh : Rw → Bool
  | .sh _ _ => true
  | _ => false
def Rw.lev : Rw → Nat
  | .sh k _ => k
  | _ => 0
def Rw.inner : Rw → Nat
  | .sh _ i => i
  | _ => 0
def Rw.ok (n : Nat) : Rw → Prop
  | .fl => True
  | .ds k m => k ≤ 3 ∧ isMv m
  | .ng i => i < n
  | .cj i j => i < n ∧ j < n
  | .dj i j => i < n ∧ j < n
  | .sh k i => k ≤ 99 ∧ i < n
theorem Rw.ok.refs {r : Rw} {n j : Nat} (h : r.ok n) (hj : j ∈ r.refs) : j < n := by
  cases r <;> simp [Rw.refs] at hj <;> simp [Rw.ok] at h <;> omega
theorem Rw.ok.mono {r : Rw} {n m : Nat} (h : r.ok n) (hm : n ≤ m) : r.ok m := by
  cases r <;> simp [Rw.ok] at h ⊢ <;> first | exact h | omega
def RowsOk (rs : List Rw) : Prop := ∀ (i : Nat) (r : Rw), rs[i]? = some r → r.ok i
def Rw.dn (found : List Bool) : Rw → Bool
  | .fl => true
  | .ds _ _ => false
  | .ng i => found.getD i false
  | .cj i j => found.getD i false && found.getD j false
  | .dj i j => found.getD i false && found.getD j false
  | .sh _ _ => true
def downs (rs : List Rw) : List Bool := rs.foldl (fun acc r => acc ++ [r.dn acc]) []
theorem downs_snoc (rs : List Rw) (r : Rw) : downs (rs ++ [r]) = downs rs ++ [r.dn (downs rs)] := by
  unfold downs
  rw [List.foldl_append]
  rfl
/-- a row's value, of those ahead of it -/
def Rw.val (tr : Nat → Bool) (ring : List Str) (kn : Nat → Bool) (i : Nat) : Rw → Bool
  | .fl => false
  | .ds k m => decide (ring[k]? = some m)
  | .ng j => !kn j
  | .cj j l => kn j && kn l
  | .dj j l => kn j || kn l
  | .sh _ _ => tr i
def hv (rs : List Rw) (tr : Nat → Bool) (ring : List Str) : Nat → Nat → Bool
  | 0, _ => false
  | n + 1, i => (rs[i]?.map fun r => r.val tr ring (hv rs tr ring n) i).getD false
def hold (rs : List Rw) (tr : Nat → Bool) (ring : List Str) (i : Nat) : Bool := hv rs tr ring (i + 1) i
theorem Rw.val_congr {r : Rw} {n : Nat} (h : r.ok n) {tr : Nat → Bool} {ring : List Str} {k1 k2 : Nat → Bool} (i : Nat) (e : ∀ j, j < n → k1 j = k2 j) : r.val tr ring k1 i = r.val tr ring k2 i := by
  cases r <;> simp [Rw.ok] at h <;> simp [Rw.val]
  · rw [e _ h]
  · rw [e _ h.1, e _ h.2]
  · rw [e _ h.1, e _ h.2]
theorem hv_stable {rs : List Rw} (ok : RowsOk rs) {tr : Nat → Bool} {ring : List Str} : ∀ (i n : Nat), i < n → hv rs tr ring n i = hv rs tr ring (i + 1) i := by
  intro i
  induction i using Nat.strongRecOn with
  | _ i ih =>
    intro n hn
    cases n with
    | zero => omega
    | succ n =>
      show (rs[i]?.map fun r => r.val tr ring (hv rs tr ring n) i).getD false = (rs[i]?.map fun r => r.val tr ring (hv rs tr ring i) i).getD false
      cases e : rs[i]? with
      | none => rfl
      | some r =>
        show r.val tr ring (hv rs tr ring n) i = r.val tr ring (hv rs tr ring i) i
        refine Rw.val_congr (ok i r e) i fun j hj => ?_
        rw [ih j hj n (by omega), ih j hj i hj]
theorem hold_eq {rs : List Rw} (ok : RowsOk rs) {tr : Nat → Bool} {ring : List Str} {i : Nat} {r : Rw} (e : rs[i]? = some r) : hold rs tr ring i = r.val tr ring (hold rs tr ring) i := by
  show (rs[i]?.map fun r => r.val tr ring (hv rs tr ring i) i).getD false = _
  rw [e]
  show r.val tr ring (hv rs tr ring i) i = _
  exact Rw.val_congr (ok i r e) i fun j hj => hv_stable ok j i hj
/-- what is led to from some rows -/
inductive Rch (rs : List Rw) (ps : List Nat) : Nat → Prop
  | pick {i : Nat} (h : i ∈ ps) : Rch rs ps i
  | ref {i j : Nat} {r : Rw} (h : Rch rs ps i) (e : rs[i]? = some r) (hj : j ∈ r.refs) : Rch rs ps j
open Classical in
noncomputable def coneOf (rs : List Rw) (ps : List Nat) : List Nat := (List.range rs.length).filter fun i => decide (Rch rs ps i)
def shAt (rs : List Rw) (i : Nat) : Bool := (rs[i]?.map Rw.isSh).getD false
def levAt (rs : List Rw) (i : Nat) : Nat := (rs[i]?.map Rw.lev).getD 0
def innAt (rs : List Rw) (i : Nat) : Nat := (rs[i]?.map Rw.inner).getD 0
structure Mv (ms : List Str) : Prop where
  pos : 1 ≤ ms.length
  few : ms.length ≤ 4
  nd : ms.Nodup
  mv : ∀ m ∈ ms, isMv m
structure Pl where
  moves : List Str
  rows : List Rw
  picks : List Nat
noncomputable def Pl.cone (P : Pl) : List Nat := coneOf P.rows P.picks
noncomputable def Pl.marks (P : Pl) : List Nat := P.cone.filter fun i => shAt P.rows i
noncomputable def Pl.high (P : Pl) : Nat := (P.marks.map (levAt P.rows)).foldl max 0
structure Pl.Ok (P : Pl) : Prop where
  mv : Mv P.moves
  rows : RowsOk P.rows
  len : P.rows.length ≤ 40
  np : P.picks.length + 1 = P.moves.length
  pk : ∀ i ∈ P.picks, i < P.rows.length ∧ (downs P.rows)[i]? = some true
  ns : (P.rows.filter Rw.isSh).length ≤ 4
  lv : ∀ r ∈ P.rows, r.lev ≤ 12
def pickMv (ms : List Str) (ps : List Nat) (h : Nat → Bool) : Str := ((((ms.zip ps).find? fun x => h x.2).map (·.1)).getD (ms.getLastD ""))
def Pl.does (P : Pl) (tr : Nat → Bool) : Str := pickMv P.moves P.picks (hold P.rows tr [])
abbrev Sd := Nat × List Bool
noncomputable def Pl.tr (P : Pl) (s : Sd) : Nat → Bool := fun i => ((P.marks.zip s.2).lookup i).getD false
noncomputable def Pl.mvs (P : Pl) (s : Sd) : Str := P.does (P.tr s)
noncomputable def Pl.later (P : Pl) (tr : Nat → Bool) (n : Nat) (ring : List Str) (i : Nat) : Bool := tr i && (decide (n < levAt P.rows i) || hold P.rows tr ring (innAt P.rows i))
noncomputable def Pl.step (P : Pl) (s : Sd) (y : Str) : Sd := (min (s.1 + 1) P.high, P.marks.map (P.later (P.tr s) s.1 [P.mvs s, y]))
noncomputable def Pl.rest (P : Pl) (s : Sd) (y : Str) : Bool := decide (s.1 = P.high) && decide (P.step s y = s)
noncomputable def Pl.init (P : Pl) : Sd := (0, List.replicate P.marks.length true)
def Sd.Ok (P : Pl) (s : Sd) : Prop := s.1 ≤ P.high ∧ s.2.length = P.marks.length
def skey (s : Sd) : NestedKey := .tup [.num s.1, .tup (s.2.map fun b => .num (if b = true then 1 else 0))]
def pkey (a b : Str) : NestedKey := .tup [.text a, .text b]
/-! ### the same on the heap -/
abbrev nV (n : Nat) : V := .int ((n : Nat) : Int)
def RowsAt (H : Hp) (xs : List V) (rs : List Rw) : Prop := Paired (fun (x : V) (r : Rw) => ∃ a, x = .ref a ∧ H a = some (.tup r.vs)) xs rs
theorem RowsAt.mono {H H' : Hp} (s : Same H H') {xs : List V} {rs : List Rw} (h : RowsAt H xs rs) : RowsAt H' xs rs := by
  induction h with
  | nil => exact .nil
  | cons h _ ih =>
    obtain ⟨a, e, h⟩ := h
    exact .cons ⟨a, e, s _ _ h⟩ ih
theorem RowsAt.get {H : Hp} {xs : List V} {rs : List Rw} (h : RowsAt H xs rs) : ∀ {i : Nat} {x : V}, xs[i]? = some x → ∃ a r, rs[i]? = some r ∧ x = .ref a ∧ H a = some (.tup r.vs) := by
  induction h with
  | nil => intro i x e; simp at e
  | cons h _ ih =>
    intro i x e
    cases i with
    | zero =>
      obtain ⟨a, e1, e2⟩ := h
      cases e
      exact ⟨a, _, rfl, e1, e2⟩
    | succ i => exact ih (i := i) e
theorem RowsAt.len {H : Hp} {xs : List V} {rs : List Rw} (h : RowsAt H xs rs) : xs.length = rs.length := by
  induction h with
  | nil => rfl
  | cons _ _ ih => simp [ih]
theorem RowsAt.get' {H : Hp} {xs : List V} {rs : List Rw} (h : RowsAt H xs rs) {i : Nat} {r : Rw} (e : rs[i]? = some r) : ∃ a, xs[i]? = some (.ref a) ∧ H a = some (.tup r.vs) := by
  have hl := h.len
  have hi : i < xs.length := by
    obtain ⟨q, _⟩ := List.getElem?_eq_some_iff.mp e
    omega
  obtain ⟨a, r', e1, e2, e3⟩ := h.get (List.getElem?_eq_getElem hi)
  rw [e] at e1
  cases e1
  exact ⟨a, by rw [List.getElem?_eq_getElem hi, e2], e3⟩
/-- a list or a tuple that the heap tracks -/
def Lt (H : Hp) (a : Addr) (xs : List V) : Prop := H a = some (.lst xs) ∨ H a = some (.tup xs)
theorem Lt.sq {K : PySem.W.Frag} {H : Hp} {a : Addr} {xs : List V} (h : Lt H a xs) : Sq K H a xs := h.imp (fun e => .inl (.inl e)) (fun e => .inl (.inl e))
theorem Lt.mono {H H' : Hp} {a : Addr} {xs : List V} (s : Same H H') (h : Lt H a xs) : Lt H' a xs := h.imp (s _ _) (s _ _)
theorem Same.rfl' {H : Hp} : Same H H := fun _ _ e => e
def SdAt (H : Hp) (a : Addr) (s : Sd) : Prop := ∃ b, H a = some (.tup [nV s.1, .ref b]) ∧ H b = some (.tup (s.2.map V.bl))
theorem SdAt.mono {H H' : Hp} {a : Addr} {s : Sd} (m : Same H H') (h : SdAt H a s) : SdAt H' a s := by
  obtain ⟨b, h1, h2⟩ := h
  exact ⟨b, m _ _ h1, m _ _ h2⟩
theorem nkAll_bits {H : Hp} : ∀ bs : List Bool, NkAll H (bs.map V.bl) (bs.map fun b => .num (if b = true then 1 else 0))
  | [] => .nil
  | b :: r => .cons (.bl b) (nkAll_bits r)
theorem depthAll_bits : ∀ bs : List Bool, NestedKey.depthAll (bs.map fun b => .num (if b = true then 1 else 0)) = 0
  | [] => rfl
  | b :: r => by
    simp only [List.map_cons, NestedKey.depthAll, NestedKey.depth, depthAll_bits r]
    all_goals rfl
theorem SdAt.nk {H : Hp} {a : Addr} {s : Sd} (h : SdAt H a s) : NkAt H a (skey s) := by
  obtain ⟨b, h1, h2⟩ := h
  refine ⟨.tup h1 (.cons (.int _) (.cons (.tup h2 (nkAll_bits _)) .nil)), ?_⟩
  simp only [skey, NestedKey.depth, NestedKey.depthAll, depthAll_bits]
  decide
theorem skey_inj {s t : Sd} (h : skey s = skey t) : s = t := by
  unfold skey at h
  injection h with h
  injection h with h1 h2
  injection h1 with h1
  injection h2 with h2 _
  injection h2 with h2
  have e : ∀ (xs ys : List Bool), (xs.map fun b => NestedKey.num (if b = true then 1 else 0)) = (ys.map fun b => NestedKey.num (if b = true then 1 else 0)) → xs = ys := by
    intro xs
    induction xs with
    | nil =>
      intro ys e
      cases ys with
      | nil => rfl
      | cons y r => simp at e
    | cons x r ih =>
      intro ys e
      cases ys with
      | nil => simp at e
      | cons y q =>
        rw [List.map_cons, List.map_cons] at e
        injection e with e1 e2
        rw [ih q e2]
        injection e1 with e1
        cases x <;> cases y <;> first | rfl | (exact absurd e1 (by decide))
  exact Prod.ext (by omega) (e _ _ h2)
theorem pkey_inj {a b c d : Str} (h : pkey a b = pkey c d) : a = c ∧ b = d := by
  unfold pkey at h
  injection h with h
  injection h with h1 h2
  injection h2 with h2 _
  injection h1 with h1
  injection h2 with h2
  exact ⟨h1, h2⟩
theorem pk_at {H : Hp} {p : Addr} {a b : Str} (h : H p = some (.tup [.str a, .str b])) : NkAt H p (pkey a b) := by
  refine ⟨.tup h (.cons (.str _) (.cons (.str _) .nil)), ?_⟩
  simp only [pkey, NestedKey.depth, NestedKey.depthAll]
  decide
structure PlAt (cP : Addr) (H : Hp) (p : Addr) (P : Pl) : Prop where
  ex : ∃ dx a b c d xs, H p = some (.ins cP dx [("ways", .ref a), ("lines", .ref b), ("picks", .ref c), ("cone", .ref d)]) ∧ H a = some (.tup (P.moves.map V.str)) ∧ H b = some (.tup xs) ∧ RowsAt H xs P.rows ∧
    H c = some (.tup (P.picks.map nV)) ∧ H d = some (.lst (P.cone.map nV))
theorem PlAt.mono {cP : Addr} {H H' : Hp} {p : Addr} {P : Pl} (s : Same H H') (h : PlAt cP H p P) : PlAt cP H' p P := by
  obtain ⟨dx, a, b, c, d, xs, h1, h2, h3, h4, h5, h6⟩ := h.ex
  exact ⟨dx, a, b, c, d, xs, s _ _ h1, s _ _ h2, s _ _ h3, h4.mono s, s _ _ h5, s _ _ h6⟩
noncomputable def trE (P : Pl) (tr : Nat → Bool) : List (Key × V) := P.marks.map fun i => (Sum.inl ((i : Nat) : Int), V.bl (tr i))
structure GaAt (cP cG : Addr) (H : Hp) (g : Addr) (P : Pl) : Prop where
  ex : ∃ dx p m, H g = some (.ins cG dx [("walker", .ref p), ("marks", .ref m), ("high", nV P.high)]) ∧ PlAt cP H p P ∧ H m = some (.lst (P.marks.map nV))
theorem GaAt.mono {cP cG : Addr} {H H' : Hp} {p : Addr} {P : Pl} (s : Same H H') (h : GaAt cP cG H p P) : GaAt cP cG H' p P := by
  obtain ⟨dx, p, m, h1, h2, h3⟩ := h.ex
  exact ⟨dx, p, m, s _ _ h1, h2.mono s, s _ _ h3⟩
end Lk

set_option maxHeartbeats 8000000
namespace Lk
open PySem PySem.Spec PyProof.Rows PySem.W L2
/-! ### a list or a tuple, walked; enumerated -/
theorem lt_walkL {K : PySem.W.Frag} {H1 : Hp} {a : Addr} {xs : List V} (h : H1 a = some (.lst xs)) : Walk (Itl K a) xs.length (fun H => H a = H1 a) (YAt xs) :=
  walk_list.mono (fun H e => .inl (.inl (e.trans h))) fun _ _ _ _ _ _ y => y
theorem lt_walkT {K : PySem.W.Frag} {H1 : Hp} {a : Addr} {xs : List V} (h : H1 a = some (.tup xs)) : Walk (Itt K a) xs.length (fun H => H a = H1 a) (YAt xs) :=
  walk_tup.mono (fun H e => .inl (.inl (e.trans h))) fun _ _ _ _ _ _ y => y
def iSq (te : TE) : TI := fun σ H R => te σ H fun v H1 => ∃ a xs, v = .ref a ∧ Lt H1 a xs ∧ ∀ J, Walk J xs.length (fun H => H a = H1 a) (YAt xs) → R J H1
section
variable {X : Cx} {tg : Expr}
theorem pi_sq {l : Expr} {tl : TE} (hl : PE X l tl) : PI X tg l (iSq tl) := by
  refine ⟨fun pins s σ H R I h => ?_⟩
  refine thn (hl.run pins s σ H _ I h) fun v s1 ⟨x, H1, I1, r1, q1⟩ => ?_
  obtain ⟨a, xs, e, hq, q⟩ := q1
  subst e
  cases r1
  rcases hq with hq | hq
  · obtain ⟨its, rv, p, hz⟩ := I1.list (.inl (.inl hq))
    refine wpAny_pyIter_list p.isList ?_
    refine ⟨s1.heap.objs.size, [s1.heap.objs.size], _, _, H1, rfl, I1.kept (t' := s1.toks) fun b o e => Heap.get?_push_of_some _ e, turn_list a _, ⟨_, Heap.get?_push_size _ rfl, rfl, rfl⟩, fun b hb => ?_, q _ (lt_walkL hq)⟩
    have e : b = s1.heap.objs.size := by simpa using hb
    subst e
    exact I1.fpOk (Nat.le_refl _) (I1.hok.fresh (Nat.le_refl _))
  · obtain ⟨its, rv, p, hz⟩ := I1.tuple (.inl (.inl hq))
    refine wpAny_pyIter_tuple (show s1.heap.IsTuple a its.toArray from p) ?_
    refine ⟨s1.heap.objs.size, [s1.heap.objs.size], _, _, H1, rfl, I1.kept (t' := s1.toks) fun b o e => Heap.get?_push_of_some _ e, turn_tuple a _, ⟨_, Heap.get?_push_size _ rfl, rfl, rfl⟩, fun b hb => ?_, q _ (lt_walkT hq)⟩
    have e : b = s1.heap.objs.size := by simpa using hb
    subst e
    exact I1.fpOk (Nat.le_refl _) (I1.hok.fresh (Nat.le_refl _))
end
theorem meets_enumerate_newT (l : Addr) (items : Array Value) (n : Nat) (dct : Option Addr) (sl : Array (Option Value)) :
    Meets (Builtin.«enumerate.__new__» ⟨[.type "enumerate", .ref l], []⟩) (fun _ R s => s.heap.get? l = some { cls := .type "tuple", dict := dct, data := .seq items n, slots := sl } ∧
      R (.ok (.ret (.ref (s.heap.push { cls := .type "tuple_iterator", data := .fields #[.ref l, .int 0 0] }).objs.size)))
        { s with heap := (s.heap.push { cls := .type "tuple_iterator", data := .fields #[.ref l, .int 0 0] }).push { cls := .type "enumerate", data := .fields #[.none, .bool false, .ref s.heap.objs.size, rawInt 0, .none, .none] } }) :=
  .of_wp fun prog w A R s h => by
    obtain ⟨hp, g, d, tk, os⟩ := s; obtain ⟨hl, h⟩ := h
    have hsub := sub_enumerate
    have hL : Heap.IsTuple (Shared.heap ⟨hp, g, d, tk, os⟩) l items := ⟨_, hl, rfl, n, rfl⟩
    wp_walk using wpAny_loadPart' hl
    refine wpAny_stack_any fun st => wpAny_pure ?_
    split
    · rename_i c _ _ _ _ _
      cases (c == Value.type "enumerate")
      · wp_walk using wpAny_loadPart' hl, wpAny_pyIter_tuple hL
        exact ⟨_, rfl, h⟩
      · wp_walk using wpAny_loadPart' hl, wpAny_pyIter_tuple hL
        exact ⟨_, rfl, h⟩
    · wp_walk using wpAny_loadPart' hl, wpAny_pyIter_tuple hL
      exact ⟨_, rfl, h⟩
section
variable {prog : Program} {w : World} {A : Around} {E : Value → Shared → Prop} {s : Shared}
theorem call_enumerate_tuple {l : Addr} {items : Array Value} {Q : Value → Shared → Prop} (hL : s.heap.IsTuple l items)
    (h : ∀ h', IsEnum h' (s.heap.objs.size + 1) s.heap.objs.size 0 .none → h'.IsTupleIter s.heap.objs.size l 0 → h'.objs.size = s.heap.objs.size + 2 →
      (∀ b o, s.heap.get? b = some o → h'.get? b = some o) → Q (.ref (s.heap.objs.size + 1)) { s with heap := h' }) :
    wpAny (model prog w) A (call (.type "enumerate") [.ref l]) Q E s := by
  obtain ⟨⟨c, dct, dt, sl⟩, hl, hc, n, hd⟩ := hL
  replace hc : c = .type "tuple" := hc
  replace hd : dt = .seq items n := hd
  subst hc hd
  refine callType_new F.called_enumerate (by decide) (F.typeCall_enumerate_1 _) (F.newCall_enumerate_1 _) (fun obj => F.args_object_init_2 obj _) F.entry_enumerate_new
    (meets_enumerate_newT l items n dct sl) ⟨hl, ?_⟩
  have hz : (s.heap.push { cls := .type "tuple_iterator", data := .fields #[.ref l, .int 0 0] }).objs.size = s.heap.objs.size + 1 := Heap.size_push ..
  show _ ∧ _
  rw [hz]
  have he : IsEnum ((s.heap.push { cls := .type "tuple_iterator", data := .fields #[.ref l, .int 0 0] }).push
      { cls := .type "enumerate", data := .fields #[.none, .bool false, .ref s.heap.objs.size, rawInt 0, .none, .none] }) (s.heap.objs.size + 1) s.heap.objs.size 0 .none := by
    have := Heap.get?_push_size (s.heap.push { cls := .type "tuple_iterator", data := .fields #[.ref l, .int 0 0] })
      (o := { cls := .type "enumerate", data := .fields #[.none, .bool false, .ref s.heap.objs.size, rawInt 0, .none, .none] }) rfl
    rw [hz] at this; exact this
  refine ⟨⟨_, he, rfl⟩, h _ he ⟨_, Heap.get?_push_of_some _ (Heap.get?_push_size _ rfl), rfl, rfl⟩ (by rw [Heap.size_push, hz]) fun b o x => Heap.get?_push_of_some _ (Heap.get?_push_of_some _ x)⟩
end
/-- enumerate(tuple) -/
def IteT (K : PySem.W.Frag) (a : Addr) : It :=
  ⟨fun i H => ∃ (xs : List V) (x : V), SqT K H a xs ∧ xs[i]? = some x, fun i H v H' => ∃ T x, v = .ref T ∧ H T = none ∧ H' = upd H T (.tup [.int (i : Nat), x]) ∧ ∀ xs, SqT K H a xs → xs[i]? = some x, fun i H => ∃ xs : List V, SqT K H a xs ∧ xs.length = i⟩
theorem turn_enumT {P : Program} {w : World} {K : PySem.W.Frag} {elts : List Expr} {kk : Nat} {tpos : Pos} (a e it : Addr) :
    Turn P w K (.Tuple elts kk tpos) (IteT K a) [e, it] e (fun i h => (∃ old, IsEnum h e it ((i : Nat) : Int) old) ∧ h.IsTupleIter it a i ∧ e ≠ it) where
  mem := by simp
  obj := fun i h st b hb => by
    obtain ⟨⟨old, he⟩, ⟨o, ho, hc, hd⟩, _⟩ := st
    have e' : b = e ∨ b = it := by simpa using hb
    rcases e' with z | z
    · rw [z]; exact ⟨_, he, fun v q => nomatch q⟩
    · rw [z]; exact ⟨o, ho, fun v q => by rw [hd] at q; cases q⟩
  keep := fun i h h' st k => let ⟨⟨old, he⟩, hi, hne⟩ := st; ⟨⟨old, k e (by simp) _ he⟩, hi.at fun o q => k it (by simp) o q, hne⟩
  item := by
    intro X hP hw hK hc i pins s σ H E I hf st hg
    subst hP hw hK
    obtain ⟨⟨old, he⟩, hit, hne⟩ := st
    obtain ⟨xs, x, hq, hx⟩ := hg
    obtain ⟨its, rv, p, hz⟩ := I.tuple hq
    obtain ⟨u, hu, ru⟩ := rv.get hx
    have hel : e < s.heap.objs.size := Heap.lt_size he
    have hil : it < s.heap.objs.size := by obtain ⟨_, q, _⟩ := hit; exact Heap.lt_size q
    have p' : s.heap.IsTuple a its.toArray := p
    have hai : a ≠ it := by
      rintro rfl
      obtain ⟨o1, e1, c1, _⟩ := hit
      obtain ⟨o2, e2, c2, _⟩ := p'
      rw [e1] at e2
      cases e2
      rw [c1] at c2
      exact absurd c2 (by simp)
    have hae : e ≠ a := by
      rintro rfl
      obtain ⟨o2, e2, c2, _⟩ := p'
      rw [he] at e2
      cases e2
      exact absurd c2 (by simp)
    have hlt : i < its.toArray.size := by
      have := List.getElem?_eq_some_iff.mp hu
      obtain ⟨q, _⟩ := this
      simpa using q
    refine wpAny_pyNext_enum_itemD (Draws.tuple (A := X.A.in1) (I.ok.hd hc) it a hai its.toArray) he ⟨hit, p'⟩ hlt hne (by simp [hne, hae]) fun x' h' tk hP' ho st' hT hsz hk => ?_
    have hxu : x' = u := by
      have h1 : its.toArray[i]? = some u := by simpa using hu
      have h2 : its.toArray[i]? = some x' := hP'
      rw [h1] at h2
      exact (Option.some.inj h2).symm
    subst hxu
    obtain ⟨hit', _⟩ := st'
    refine ⟨_, rfl, wpAny_letOwnedTupleGo_enum (s := { s with heap := h', toks := tk + 1 }) ho fun h'' he' sb => ?_⟩
    have hT2 : h''.get? s.heap.objs.size = some { cls := .type "tuple", data := .seq #[.int i tk, x'] } := (sb.2 _ (Nat.ne_of_gt hel)).trans hT
    have new : ObjOk X.prog X.w (upd H s.heap.objs.size (.tup [.int (i : Nat), x])) h'' s.heap.objs.size (.tup [.int (i : Nat), x]) :=
      ⟨by show 2 ≤ sizeLine; decide, [.int i tk, x'], .cons ⟨_, rfl⟩ (.cons ru .nil), ⟨_, hT2, rfl, _, rfl⟩⟩
    have I1 : L2.Inv X pins σ (upd H s.heap.objs.size (.tup [.int (i : Nat), x])) { s with heap := h'', toks := tk + 1 } :=
      I.turnedNew (ch := [e, it]) (fun b ob hb q => (sb.2 b (fun z => hb (by simp [z]))).trans (hk b ob (fun z => hb (by simp [z])) (fun z => hb (by simp [z])) q)) hf (Nat.le_refl _) new
    refine ⟨.ref s.heap.objs.size, _, I1, rfl, ⟨_, x, rfl, I.hok.fresh (Nat.le_refl _), rfl, fun ys hy => by rw [I.tuple_inj hy hq]; exact hx⟩, ⟨⟨x', ?_⟩, hit'.at fun o q => (sb.2 it (Ne.symm hne)).trans q, hne⟩, fun b hb => ?_⟩
    · have e1 : ((i + 1 : Nat) : Int) = (i : Int) + 1 := by omega
      rw [e1]; exact he'
    · have hb' : b < s.heap.objs.size := by
        have e' : b = e ∨ b = it := by simpa using hb
        rcases e' with z | z
        · rw [z]; exact hel
        · rw [z]; exact hil
      rw [upd_ne (Nat.ne_of_lt hb')]
      exact (hf b hb).1
  done := by
    intro X hP hw hK hc i pins s σ H E I hf st hg
    subst hP hw hK
    obtain ⟨⟨old, he⟩, hit, hne⟩ := st
    obtain ⟨xs, hq, hx⟩ := hg
    obtain ⟨its, rv, p, hz⟩ := I.tuple hq
    obtain ⟨f0, f1, f2, f3, f4, f5⟩ := hf it (by simp)
    have p' : s.heap.IsTuple a its.toArray := p
    have hai : a ≠ it := by
      rintro rfl
      obtain ⟨o1, e1, c1, _⟩ := hit
      obtain ⟨o2, e2, c2, _⟩ := p'
      rw [e1] at e2
      cases e2
      rw [c1] at c2
      exact absurd c2 (by simp)
    have hl : i = its.toArray.size := by
      have := rv.length
      simp
      omega
    subst hl
    exact wpAny_pyNext_enum_endD (Draws.tuple (A := X.A.in1) (I.ok.hd hc) it a hai its.toArray) he ⟨hit, p'⟩ fun h' eb => ⟨rfl, I.turned (t' := s.toks) (fun b o hb q => eb b o hb q) f0 f1 f3 f4 f5⟩
  self := fun A i s Q E st h => let ⟨⟨_, he⟩, _⟩ := st; wpAny_pyIter_enum he h
theorem walk_enumT {K : PySem.W.Frag} {a : Addr} {xs : List V} : Walk (IteT K a) xs.length (fun H => SqT K H a xs) (YPair (fun i => some (.int (i : Nat))) (fun i => xs[i]?)) := by
  refine ⟨fun i _ hi q => ⟨xs, xs[i], q, by simp [hi]⟩, fun _ q => ⟨xs, q, rfl⟩, fun i H v H' _ q y => ?_⟩
  obtain ⟨T, x, h1, h2, h3, h4⟩ := y
  exact ⟨T, .int (i : Nat), x, h1, h2, h3, rfl, h4 xs q⟩
def iEnS (ta : TA) : TI := fun σ H R => ta σ H fun vs H1 => ∃ a xs, vs = [.ref a] ∧ Lt H1 a xs ∧ ∀ J, Walk J xs.length (fun H => H a = H1 a) (YPair (fun i => some (.int (i : Nat))) (fun i => xs[i]?)) → R J H1
theorem pi_enumS {X : Cx} {e : Expr} {ta : TA} {p pos tpos : Pos} {elts : List Expr} {kk : Nat} (hg : Gl X "enumerate") (hm : X.mg "enumerate" = none) (ha : PA X [e] ta) (hs : starEach [e] X.env = [(false, eval e X.env)] := by rfl) :
    PI X (.Tuple elts kk tpos) (.Call (.Name "enumerate" p) [e] [] pos) (iEnS ta) := by
  refine ⟨fun pins s σ H R I h => ?_⟩
  refine Call_ (ld_blt I hg hm boot_enumerate (PyProof.Rows.callWith_type1 (thn (ha.run pos pins s σ H _ I h) fun us s1 ⟨vs, H1, I1, r1, q1⟩ => ?_) hs rfl))
  obtain ⟨a, xs, ex, hq, q⟩ := q1
  subst ex
  cases r1 with
  | cons r rr =>
    cases rr
    cases r
    rcases hq with hq | hq
    · obtain ⟨its, rv, p', hz⟩ := I1.list (.inl (.inl hq))
      refine call_enumerate_list p'.isList fun h' he hit hsz hk => wpAny_pyIter_enum he ?_
      have I2 : L2.Inv X pins σ H1 { s1 with heap := h' } := I1.kept (t' := s1.toks) hk
      refine ⟨s1.heap.objs.size + 1, [s1.heap.objs.size + 1, s1.heap.objs.size], _, _, H1, rfl, I2, turn_enum a (s1.heap.objs.size + 1) s1.heap.objs.size, ⟨⟨.none, he⟩, hit, Nat.succ_ne_self _⟩, fun b hb => ?_, q _ (walk_enum.mono (fun H e => .inl (.inl (e.trans hq))) fun _ _ _ _ _ _ y => y)⟩
      have e' : b = s1.heap.objs.size + 1 ∨ b = s1.heap.objs.size := by simpa using hb
      have hle : s1.heap.objs.size ≤ b := by
        rcases e' with z | z
        · rw [z]; exact Nat.le_add_right _ _
        · rw [z]; exact Nat.le_refl _
      exact I1.fpOk hle (I1.hok.fresh hle)
    · obtain ⟨its, rv, p', hz⟩ := I1.tuple (.inl (.inl hq))
      refine call_enumerate_tuple (show s1.heap.IsTuple a its.toArray from p') fun h' he hit hsz hk => wpAny_pyIter_enum he ?_
      have I2 : L2.Inv X pins σ H1 { s1 with heap := h' } := I1.kept (t' := s1.toks) hk
      refine ⟨s1.heap.objs.size + 1, [s1.heap.objs.size + 1, s1.heap.objs.size], _, _, H1, rfl, I2, turn_enumT a (s1.heap.objs.size + 1) s1.heap.objs.size, ⟨⟨.none, he⟩, hit, Nat.succ_ne_self _⟩, fun b hb => ?_, q _ (walk_enumT.mono (fun H e => .inl (.inl (e.trans hq))) fun _ _ _ _ _ _ y => y)⟩
      have e' : b = s1.heap.objs.size + 1 ∨ b = s1.heap.objs.size := by simpa using hb
      have hle : s1.heap.objs.size ≤ b := by
        rcases e' with z | z
        · rw [z]; exact Nat.le_add_right _ _
        · rw [z]; exact Nat.le_refl _
      exact I1.fpOk hle (I1.hok.fresh hle)
end Lk

set_option maxHeartbeats 4000000
namespace Lk
open PySem PySem.Spec PyProof.Rows L2
/-! ### the plain law: stands, led on -/
def cnt (bs : List Bool) : Nat := (bs.filter id).length
theorem cnt_le {α : Type} (f g : α → Bool) (h : ∀ x, g x = true → f x = true) : ∀ xs : List α, cnt (xs.map g) ≤ cnt (xs.map f)
  | [] => Nat.le_refl _
  | x :: r => by
    have ih := cnt_le f g h r
    unfold cnt at ih ⊢
    rw [List.map_cons, List.map_cons, List.filter_cons, List.filter_cons]
    cases hg : g x <;> cases hf : f x <;> simp_all <;> omega
theorem cnt_lt {α : Type} (f g : α → Bool) (h : ∀ x, g x = true → f x = true) : ∀ xs : List α, xs.map g ≠ xs.map f → cnt (xs.map g) < cnt (xs.map f)
  | [], e => absurd rfl e
  | x :: r, e => by
    have ih := cnt_lt f g h r
    have ih2 := cnt_le f g h r
    unfold cnt at ih ih2 ⊢
    rw [List.map_cons, List.map_cons] at e
    rw [List.map_cons, List.map_cons, List.filter_cons, List.filter_cons]
    cases hg : g x <;> cases hf : f x
    · simp only [id, Bool.false_eq_true, if_false]
      exact ih fun z => e (by rw [hg, hf, z])
    · simp only [id, Bool.false_eq_true, if_false, if_true, List.length_cons]
      omega
    · have := h x hg
      rw [hf] at this
      cases this
    · simp only [id, if_true, List.length_cons]
      have := ih fun z => e (by rw [hg, hf, z])
      omega
theorem cnt_len (bs : List Bool) : cnt bs ≤ bs.length := List.length_filter_le _ _
theorem lookup_zip : ∀ (ms : List Nat) (bs : List Bool), ms.Nodup → ms.length = bs.length → ms.map (fun i => ((ms.zip bs).lookup i).getD false) = bs
  | [], [], _, _ => rfl
  | m :: r, b :: q, nd, hl => by
    rw [List.nodup_cons] at nd
    have ih := lookup_zip r q nd.2 (by simpa using hl)
    rw [List.map_cons, List.zip_cons_cons, List.lookup_cons_self]
    refine congrArg (b :: ·) ?_
    rw [← ih]
    refine List.map_congr_left fun i hi => ?_
    have : (i == m) = false := beq_eq_false_iff_ne.mpr fun e => nd.1 (e ▸ hi)
    rw [List.lookup_cons, this, ih]
theorem cone_sorted (rs : List Rw) (ps : List Nat) : (coneOf rs ps).Pairwise (· < ·) := by
  unfold coneOf
  exact List.Pairwise.filter _ List.pairwise_lt_range
theorem marks_sorted (P : Pl) : P.marks.Pairwise (· < ·) := List.Pairwise.filter _ (cone_sorted _ _)
theorem marks_nd (L : Pl) : L.marks.Nodup := (marks_sorted L).imp fun {a b} h => by omega
theorem tr_bits {L : Pl} {s : Sd} (h : s.2.length = L.marks.length) : L.marks.map (L.tr s) = s.2 := lookup_zip _ _ (marks_nd L) h.symm
noncomputable def Pl.mu (L : Pl) (s : Sd) : Nat := (L.high - s.1) + cnt s.2
theorem step_ok {L : Pl} (s : Sd) (y : Str) : Sd.Ok L (L.step s y) := ⟨Nat.min_le_right _ _, by simp [Pl.step]⟩
theorem init_ok (L : Pl) : Sd.Ok L L.init := ⟨Nat.zero_le _, by simp [Pl.init]⟩
theorem step_le {L : Pl} {s : Sd} (ok : Sd.Ok L s) (y : Str) : cnt (L.step s y).2 ≤ cnt s.2 := by
  have e := tr_bits ok.2
  conv => rhs; rw [← e]
  refine cnt_le (L.tr s) _ (fun x hx => ?_) _
  unfold Pl.later at hx
  rw [Bool.and_eq_true] at hx
  exact hx.1
theorem mu_lt {L : Pl} {s : Sd} {y : Str} (ok : Sd.Ok L s) (h : L.rest s y = false) : L.mu (L.step s y) < L.mu s := by
  have hle := step_le ok y
  unfold Pl.mu
  by_cases hn : s.1 = L.high
  · have hne : L.step s y ≠ s := by
      intro e
      unfold Pl.rest at h
      rw [decide_eq_true hn, decide_eq_true e] at h
      cases h
    have h1 : (L.step s y).1 = s.1 := by
      show min (s.1 + 1) L.high = s.1
      omega
    have h2 : (L.step s y).2 ≠ s.2 := fun e => hne (Prod.ext h1 e)
    have e := tr_bits ok.2
    have lt : cnt (L.step s y).2 < cnt s.2 := by
      conv => rhs; rw [← e]
      refine cnt_lt (L.tr s) _ (fun x hx => ?_) _ ?_
      · unfold Pl.later at hx
        rw [Bool.and_eq_true] at hx
        exact hx.1
      · rw [e]
        exact h2
    rw [h1]
    omega
  · have h1 : (L.step s y).1 = s.1 + 1 := by
      show min (s.1 + 1) L.high = _
      have := ok.1
      omega
    have := ok.1
    rw [h1]
    omega
noncomputable def Pl.endF (L : Pl) (y : Str) : Nat → Sd → Sd
  | 0, s => s
  | n + 1, s => if L.rest s y = true then s else L.endF y n (L.step s y)
theorem endF_stable {L : Pl} {y : Str} : ∀ (n : Nat) (s : Sd), Sd.Ok L s → L.mu s ≤ n → L.endF y n s = L.endF y (n + 1) s
  | 0, s, ok, h => by
    cases hr : L.rest s y with
    | true => simp [Pl.endF, hr]
    | false => have := mu_lt ok hr; omega
  | n + 1, s, ok, h => by
    cases hr : L.rest s y with
    | true => simp [Pl.endF, hr]
    | false =>
      have := mu_lt ok hr
      have ih := endF_stable (y := y) n (L.step s y) (step_ok s y) (by omega)
      show (if L.rest s y = true then s else L.endF y n (L.step s y)) = (if L.rest s y = true then s else L.endF y (n + 1) (L.step s y))
      rw [ih]
noncomputable def Pl.endS (L : Pl) (s : Sd) (y : Str) : Sd := L.endF y (L.high + L.marks.length) s
theorem mu_le {L : Pl} {s : Sd} (ok : Sd.Ok L s) : L.mu s ≤ L.high + L.marks.length := by
  have := cnt_len s.2
  have := ok.2
  unfold Pl.mu
  omega
theorem endS_rest {L : Pl} {s : Sd} {y : Str} (ok : Sd.Ok L s) (h : L.rest s y = true) : L.endS s y = s := by
  unfold Pl.endS
  cases L.high + L.marks.length with
  | zero => rfl
  | succ n => simp [Pl.endF, h]
theorem endS_step {L : Pl} {s : Sd} {y : Str} (ok : Sd.Ok L s) (h : L.rest s y = false) : L.endS (L.step s y) y = L.endS s y := by
  unfold Pl.endS
  rw [endF_stable _ s ok (mu_le ok)]
  show _ = (if L.rest s y = true then s else L.endF y _ (L.step s y))
  rw [h]
  rfl
noncomputable def Pl.endM (L : Pl) (s : Sd) (y : Str) : Str := L.mvs (L.endS s y)
/-- behind some letters -/
noncomputable def Pl.run (L : Pl) (s : Sd) (ys : List Str) : Sd := ys.foldl L.step s
theorem run_ok {L : Pl} : ∀ {ys : List Str} {s : Sd}, Sd.Ok L s → Sd.Ok L (L.run s ys)
  | [], _, h => h
  | y :: r, s, _ => run_ok (ys := r) (step_ok s y)
theorem run_snoc (L : Pl) (s : Sd) (ys : List Str) (y : Str) : L.run s (ys ++ [y]) = L.step (L.run s ys) y := by
  unfold Pl.run
  rw [List.foldl_append]
  rfl
end Lk

set_option maxHeartbeats 4000000
namespace Lk
open PySem PySem.Spec PyProof.Rows L2
/-! ### the search: every stand with a shortest word -/
theorem nd_len : ∀ (n : Nat) (ks : List Nat), ks.Nodup → (∀ k ∈ ks, k < n) → ks.length ≤ n
  | 0, [], _, _ => Nat.le_refl _
  | 0, k :: _, _, h => by have := h k (by simp); omega
  | n + 1, ks, nd, h => by
    by_cases hn : n ∈ ks
    · have h1 := nd_len n (ks.erase n) (nd.erase n) fun k hk => by
        have e := (List.Nodup.mem_erase_iff nd).mp hk
        have := h k e.2
        have := e.1
        omega
      rw [List.length_erase_of_mem hn] at h1
      omega
    · have h1 := nd_len n ks nd fun k hk => by
        have := h k hk
        have : k ≠ n := fun e => hn (e ▸ hk)
        omega
      omega
def bval : List Bool → Nat
  | [] => 0
  | b :: r => (if b = true then 1 else 0) + 2 * bval r
theorem bval_lt : ∀ bs : List Bool, bval bs < 2 ^ bs.length
  | [] => by decide
  | b :: r => by
    have := bval_lt r
    unfold bval
    rw [List.length_cons, Nat.pow_succ]
    split <;> omega
theorem bval_inj : ∀ {xs ys : List Bool}, xs.length = ys.length → bval xs = bval ys → xs = ys
  | [], [], _, _ => rfl
  | x :: xs, y :: ys, hl, h => by
    unfold bval at h
    cases x <;> cases y <;> simp only [if_true, Bool.false_eq_true, if_false] at h
    · have e := bval_inj (xs := xs) (ys := ys) (by simpa using hl) (by omega)
      rw [e]
    · omega
    · omega
    · have e := bval_inj (xs := xs) (ys := ys) (by simpa using hl) (by omega)
      rw [e]
/-- few unlike stands -/
theorem sds_len {h m : Nat} (ss : List Sd) (nd : ss.Nodup) (ok : ∀ s ∈ ss, s.1 ≤ h ∧ s.2.length = m) : ss.length ≤ (h + 1) * 2 ^ m := by
  have hl : (ss.map fun s => s.1 * 2 ^ m + bval s.2).length = ss.length := List.length_map ..
  rw [← hl]
  refine nd_len _ _ ?_ fun k hk => ?_
  · rw [List.Nodup, List.pairwise_map]
    refine List.Pairwise.imp_of_mem (fun {a b} ha hb hne e => hne ?_) nd
    have la := ok a ha
    have lb := ok b hb
    have h1 := bval_lt a.2
    have h2 := bval_lt b.2
    rw [la.2] at h1
    rw [lb.2] at h2
    have e1 : a.1 = b.1 := by
      rcases Nat.lt_trichotomy a.1 b.1 with q | q | q
      · have : (a.1 + 1) * 2 ^ m ≤ b.1 * 2 ^ m := Nat.mul_le_mul_right _ q
        rw [Nat.add_mul, Nat.one_mul] at this
        omega
      · exact q
      · have : (b.1 + 1) * 2 ^ m ≤ a.1 * 2 ^ m := Nat.mul_le_mul_right _ q
        rw [Nat.add_mul, Nat.one_mul] at this
        omega
    rw [e1] at e
    exact Prod.ext e1 (bval_inj (by rw [la.2, lb.2]) (by omega))
  · obtain ⟨s, hs, rfl⟩ := List.mem_map.mp hk
    have l := ok s hs
    have h1 := bval_lt s.2
    rw [l.2] at h1
    have : s.1 * 2 ^ m ≤ h * 2 ^ m := Nat.mul_le_mul_right _ l.1
    rw [Nat.add_mul, Nat.one_mul]
    omega
abbrev Wd := Sd × List Str
/-- what is so at each time: the i first ones are done -/
structure Bf (L : Pl) (ls : List Str) (i : Nat) (W : List Wd) : Prop where
  lead : ∀ x ∈ W, L.run L.init x.2 = x.1 ∧ ∀ y ∈ x.2, y ∈ ls
  fst : W[0]? = some (L.init, [])
  nd : (W.map (·.1)).Nodup
  so : W.Pairwise fun a b => a.2.length ≤ b.2.length
  near : ∀ c, W[i]? = some c → ∀ x ∈ W, x.2.length ≤ c.2.length + 1
  wl : ∀ (j : Nat) (c : Wd), W[j]? = some c → c.2.length ≤ j
  done : ∀ j c, j < i → W[j]? = some c → ∀ y ∈ ls, ∃ z ∈ W, z.1 = L.step c.1 y ∧ z.2.length ≤ c.2.length + 1
theorem bf_zero (L : Pl) (ls : List Str) : Bf L ls 0 [(L.init, [])] := by
  refine ⟨fun x hx => ?_, rfl, by simp, by simp, fun c hc x hx => ?_, fun j c hj => ?_, fun j c hj => by omega⟩
  · rw [List.mem_singleton.mp hx]
    exact ⟨rfl, fun y hy => by cases hy⟩
  · rw [List.mem_singleton.mp hx]
    exact Nat.zero_le _
  · rw [List.mem_singleton.mp (List.mem_of_getElem? hj)]
    exact Nat.zero_le _
theorem Bf.ok {L : Pl} {ls : List Str} {i : Nat} {W : List Wd} (b : Bf L ls i W) : ∀ x ∈ W, Sd.Ok L x.1 := fun x hx => by
  rw [← (b.lead x hx).1]
  exact run_ok (init_ok L)
theorem Bf.len {L : Pl} {ls : List Str} {i : Nat} {W : List Wd} (b : Bf L ls i W) : W.length ≤ (L.high + 1) * 2 ^ L.marks.length := by
  have := sds_len (h := L.high) (m := L.marks.length) _ b.nd fun s hs => by
    obtain ⟨x, hx, rfl⟩ := List.mem_map.mp hs
    exact b.ok x hx
  rwa [List.length_map] at this
/-- one letter more of the i-th one: found, or new at the end; k letters are done -/
structure Bg (L : Pl) (ls : List Str) (i k : Nat) (c : Wd) (W : List Wd) : Prop where
  b : Bf L ls i W
  at_ : W[i]? = some c
  here : ∀ y ∈ ls.take k, ∃ z ∈ W, z.1 = L.step c.1 y ∧ z.2.length ≤ c.2.length + 1
theorem Bg.old {L : Pl} {ls : List Str} {i k : Nat} {c : Wd} {W : List Wd} {y : Str} (g : Bg L ls i k c W) (hy : ls[k]? = some y) (h : L.step c.1 y ∈ W.map (·.1)) : Bg L ls i (k + 1) c W := by
  refine ⟨g.b, g.at_, fun y' h' => ?_⟩
  rw [List.take_add_one, hy] at h'
  rcases List.mem_append.mp h' with q | q
  · exact g.here y' q
  · have : y' = y := by simpa using q
    subst this
    obtain ⟨z, hz, e⟩ := List.mem_map.mp h
    exact ⟨z, hz, e, g.b.near c g.at_ z hz⟩
theorem Bg.new {L : Pl} {ls : List Str} {i k : Nat} {c : Wd} {W : List Wd} {y : Str} (g : Bg L ls i k c W) (hy : ls[k]? = some y) (h : L.step c.1 y ∉ W.map (·.1)) : Bg L ls i (k + 1) c (W ++ [(L.step c.1 y, c.2 ++ [y])]) := by
  have hi : i < W.length := (List.getElem?_eq_some_iff.mp g.at_).1
  have hc : c ∈ W := List.mem_of_getElem? g.at_
  have at' : (W ++ [(L.step c.1 y, c.2 ++ [y])])[i]? = some c := by rw [List.getElem?_append_left hi]; exact g.at_
  refine ⟨⟨fun x hx => ?_, ?_, ?_, ?_, fun c' hc' x hx => ?_, fun j c' hc' => ?_, fun j c' hj hc' y' hy' => ?_⟩, at', fun y' h' => ?_⟩
  · rcases List.mem_append.mp hx with q | q
    · exact g.b.lead x q
    · rw [List.mem_singleton.mp q]
      refine ⟨?_, fun y' hy' => ?_⟩
      · rw [run_snoc, (g.b.lead c hc).1]
      · rcases List.mem_append.mp hy' with q | q
        · exact (g.b.lead c hc).2 y' q
        · rw [List.mem_singleton.mp q]
          exact List.mem_of_getElem? hy
  · rw [List.getElem?_append_left (by omega)]
    exact g.b.fst
  · rw [List.map_append, List.nodup_append]
    refine ⟨g.b.nd, by simp, fun a ha b hb e => ?_⟩
    have : b = L.step c.1 y := by simpa using hb
    exact h (this ▸ e ▸ ha)
  · rw [List.pairwise_append]
    refine ⟨g.b.so, by simp, fun a ha b hb => ?_⟩
    rw [List.mem_singleton.mp hb]
    have := g.b.near c g.at_ a ha
    simpa using this
  · rw [at'] at hc'
    cases hc'
    rcases List.mem_append.mp hx with q | q
    · exact g.b.near c g.at_ x q
    · rw [List.mem_singleton.mp q]
      simp
  · by_cases hj : j < W.length
    · rw [List.getElem?_append_left hj] at hc'
      exact g.b.wl j c' hc'
    · have hm : c' = (L.step c.1 y, c.2 ++ [y]) := by
        rw [List.getElem?_append_right (by omega)] at hc'
        exact List.mem_singleton.mp (List.mem_of_getElem? hc')
      have := g.b.wl i c g.at_
      rw [hm]
      simp
      omega
  · rw [List.getElem?_append_left (by omega)] at hc'
    obtain ⟨z, hz, e⟩ := g.b.done j c' hj hc' y' hy'
    exact ⟨z, List.mem_append_left _ hz, e⟩
  · rw [List.take_add_one, hy] at h'
    rcases List.mem_append.mp h' with q | q
    · obtain ⟨z, hz, e⟩ := g.here y' q
      exact ⟨z, List.mem_append_left _ hz, e⟩
    · have : y' = y := by simpa using q
      subst this
      exact ⟨_, List.mem_append_right _ (List.mem_singleton.mpr rfl), rfl, by simp⟩
theorem Bf.start {L : Pl} {ls : List Str} {i : Nat} {W : List Wd} {c : Wd} (b : Bf L ls i W) (h : W[i]? = some c) : Bg L ls i 0 c W := ⟨b, h, fun y hy => by simp at hy⟩
theorem Bg.fin {L : Pl} {ls : List Str} {i : Nat} {W : List Wd} {c : Wd} (g : Bg L ls i ls.length c W) : Bf L ls (i + 1) W := by
  refine ⟨g.b.lead, g.b.fst, g.b.nd, g.b.so, fun c' hc' x hx => ?_, g.b.wl, fun j c' hj hc' y hy => ?_⟩
  · have h1 := g.b.near c g.at_ x hx
    obtain ⟨q1, q2⟩ := List.getElem?_eq_some_iff.mp g.at_
    obtain ⟨r1, r2⟩ := List.getElem?_eq_some_iff.mp hc'
    have := (List.pairwise_iff_getElem.mp g.b.so) i (i + 1) q1 r1 (by omega)
    rw [q2, r2] at this
    omega
  · by_cases e : j = i
    · subst e
      rw [g.at_] at hc'
      cases hc'
      exact g.here y (by rw [List.take_length]; exact hy)
    · exact g.b.done j c' (by omega) hc' y hy
/-- done: every word leads to a stand that has a word no longer -/
theorem Bf.all {L : Pl} {ls : List Str} {W : List Wd} (b : Bf L ls W.length W) : ∀ u : List Str, (∀ y ∈ u, y ∈ ls) → ∃ z ∈ W, z.1 = L.run L.init u ∧ z.2.length ≤ u.length := by
  have go : ∀ (u v : List Str), (∀ y ∈ u, y ∈ ls) → (∃ z ∈ W, z.1 = L.run L.init v ∧ z.2.length ≤ v.length) → ∃ z ∈ W, z.1 = L.run L.init (v ++ u) ∧ z.2.length ≤ (v ++ u).length := by
    intro u
    induction u with
    | nil => intro v _ h; simpa using h
    | cons y r ih =>
      rintro v h ⟨z, hz, e, l⟩
      have e2 : v ++ y :: r = (v ++ [y]) ++ r := by simp
      rw [e2]
      refine ih _ (fun y' hy' => h y' (List.mem_cons_of_mem _ hy')) ?_
      obtain ⟨j, hj⟩ := List.mem_iff_getElem?.mp hz
      obtain ⟨z', hz', e', l'⟩ := b.done j z (List.getElem?_eq_some_iff.mp hj).1 hj y (h y (by simp))
      refine ⟨z', hz', ?_, by simp; omega⟩
      rw [run_snoc, ← e, e']
  intro u h
  exact go u [] h ⟨_, List.mem_of_getElem? b.fst, rfl, Nat.le_refl _⟩
end Lk

set_option maxHeartbeats 4000000
namespace Lk
open PySem PySem.Spec PyProof.Rows L2
theorem hu16 {A : Around} {k : Nat} (hr : Room k A) : A.units + 16 < cLine := by
  have := hr.units
  omega
abbrev FnP (K : PySem.W.Frag) (x q : Str) (st : Stmt) (f : Addr) (fd : FuncData) : Prop := FunD K x q (defArgs st) (defBody st) (defScope st) [] [] f fd
section
variable {P : Program} {w : World} {K : PySem.W.Frag} {mg : Str → Option Value} {base : Heap}
theorem okN {x q : Str} {st : Stmt} {f : Addr} {fd : FuncData} {N ps : List Str} {k : Nat} {sp : Sp} (F : FnP K x q st f fd) (S : FnScope N ps (defScope st)) (len : ∀ vs H Q E, sp vs H Q E → vs.length = ps.length)
    (hbody : ∀ (cdv : Value) (A : Around) (outer : List Env) (s : Shared) (H : Hp) (vs : List V) (Q : VK) (E : XK), Room k (A.deeper (envOfC q (defScope st) s.heap.objs.size f cdv)) → sp vs H Q E →
      ∃ t, PSs (cxOf CX0 P w K mg base N q (defScope st) f cdv A outer s H E).nox (defBody st) t ∧ t { nx := fun _ H' => Q .non H', rt := Q } (start N vs) H) : FnOk P w K mg base CX0 (k + 1) f fd ps sp :=
  F.ok S len fun cdv A outer s H vs Q E hr h => by
    obtain ⟨t, h1, h2⟩ := hbody cdv A outer s H vs Q E hr h
    exact ⟨t, h1.nox, h2⟩
end
theorem ixT {X : Cx} (K : PySem.W.Frag) (h : X.K = K := by rfl) : IxR X (rIxT K) := h ▸ ix_tup
theorem ixL {X : Cx} (K : PySem.W.Frag) (h : X.K = K := by rfl) : IxR X (rIxL K) := h ▸ ix_list
theorem ixS {X : Cx} (K : PySem.W.Frag) (h : X.K = K := by rfl) : IxR X (rIx K) := h ▸ ix_seq
theorem inS {X : Cx} (K : PySem.W.Frag) (h : X.K = K := by rfl) : OpR X (compareOp .In) (rIn K false) := h ▸ op_in_seq
theorem notInS {X : Cx} (K : PySem.W.Frag) (h : X.K = K := by rfl) : OpR X (compareOp .NotIn) (rIn K true) := h ▸ op_notIn_seq
theorem slL {X : Cx} (K : PySem.W.Frag) (h : X.K = K := by rfl) : SlR X (rSlL K) := h ▸ sl_list
theorem slT {X : Cx} (K : PySem.W.Frag) (h : X.K = K := by rfl) : SlR X (rSlA K) := h ▸ sl_tupA
theorem lenS {X : Cx} (K : PySem.W.Frag) (h : X.K = K := by rfl) : CallR X (.builtin "len") (fun xs H Q => ∃ p ys, xs = [.ref p] ∧ (SqL K H p ys ∨ SqT K H p ys) ∧ Q (.int ys.length) H) := h ▸ call_len_seq
theorem allS {X : Cx} (K : PySem.W.Frag) (hc : X.calm = true) (h : X.K = K := by rfl) : CallR X (.builtin "all") (rAll K) := h ▸ cr_all hc
theorem maxS {X : Cx} (K : PySem.W.Frag) (hc : X.calm = true) (h : X.K = K := by rfl) : CallR X (.builtin "max") (rMax K) := h ▸ cr_max hc
theorem fldK {X : Cx} (K : PySem.W.Frag) {o : Expr} {f : Str} {pos : Pos} {ta : TE} (ha : PE X o ta) (hs : attributeBase o f X.env (eval o X.env) = eval o X.env) (h : X.K = K := by rfl) : PE X (.Attribute o f pos) (tFld K ta f) := h ▸ pe_fld ha hs
theorem pgT {X : Cx} (K : PySem.W.Frag) (n : Nat) {es : List Expr} {k : Nat} {pos : Pos} {t : TGs} (hc : X.calm = true) (h : PGs X es t) (h1 : X.K = K := by rfl) (hn : (assignEach es X.env).length = n := by rfl) (hst : (assignEach es X.env).findIdx? (·.1) = none := by rfl) : PG X (.Tuple es k pos) (gTup K n t) := h1 ▸ pg_tup hc h hn hst
theorem yesT {σ : L2.St} {H : Hp} {A B : Hp → Prop} (h : A H) : tYes σ H fun b H3 => if b = true then A H3 else B H3 := iteT (B := B H) h
theorem eqvT {x y : V} (h : x = y) : decide (x = y) = true := decide_eq_true h
theorem eqvF {x y : V} (h : x ≠ y) : decide (x = y) = false := decide_eq_false h
theorem ifT {c : Prop} [Decidable c] {A B : Prop} (h : c) (a : A) : if decide c = true then A else B := by rw [decide_eq_true h]; exact iteT a
theorem ifF {c : Prop} [Decidable c] {A B : Prop} (h : ¬ c) (b : B) : if decide c = true then A else B := by rw [decide_eq_false h]; exact iteF b
theorem ifNT {c : Prop} [Decidable c] {A B : Prop} (h : ¬ c) (a : A) : if (!decide c) = true then A else B := by rw [decide_eq_false h]; exact iteT a
theorem ifNF {c : Prop} [Decidable c] {A B : Prop} (h : c) (b : B) : if (!decide c) = true then A else B := by rw [decide_eq_true h]; exact iteF b
theorem str_ne {a b : Str} (h : a ≠ b) : ¬ V.str a = V.str b := fun z => h (by injection z)
theorem fm_const {c : V} : ∀ xs : List V, xs.filterMap (fun _ => some c) = List.replicate xs.length c
  | [] => rfl
  | _ :: r => by
    rw [List.filterMap_cons, fm_const r]
    rfl
theorem all_rep (n : Nat) : (List.replicate n true).all id = true := by simp [List.all_replicate]
theorem rep_bl (n : Nat) : (List.replicate n true).map V.bl = List.replicate n (V.bl true) := by simp
theorem same_of {H H2 : Hp} {a : Addr} {xs : List V} (s : Same H H2) (h : Lt H a xs) : H2 a = H a := by
  rcases h with e | e <;> rw [e] <;> exact s _ _ e
/-- the places that a row names -/
def Rw.places : Rw → List Nat
  | .fl => []
  | .ds _ _ => []
  | .ng _ => [1]
  | .cj _ _ => [1, 2]
  | .dj _ _ => [1, 2]
  | .sh _ _ => [2]
theorem rn_at (r : Rw) : rnTab.lookup r.word = some (r.places.map fun p => ((p : Nat) : Int)) := by cases r <;> rfl
theorem sz_at (r : Rw) : szTab.lookup r.word = some ((r.vs.length : Nat) : Int) := by cases r <;> rfl
theorem places_at {r : Rw} {n p : Nat} (ok : r.ok n) (h : p ∈ r.places) : ∃ j, r.vs[p]? = some (nV j) ∧ j < n := by
  cases r <;> simp [Rw.places] at h <;> simp [Rw.ok] at ok
  · subst h; exact ⟨_, rfl, ok⟩
  · rcases h with rfl | rfl
    · exact ⟨_, rfl, ok.1⟩
    · exact ⟨_, rfl, ok.2⟩
  · rcases h with rfl | rfl
    · exact ⟨_, rfl, ok.1⟩
    · exact ⟨_, rfl, ok.2⟩
  · subst h; exact ⟨_, rfl, ok.2⟩
def vD : V → PyData
  | .int i => .int i
  | .str s => .str s
  | .bl b => .bool b
  | _ => .none
def scalV : V → Bool
  | .int _ => true
  | .str s => PyData.strOk s
  | .bl _ => true
  | _ => false
theorem dp_all {K : PySem.W.Frag} {H : Hp} : ∀ xs : List V, xs.all scalV = true → DpAll K H xs (xs.map vD)
  | [], _ => .nil
  | x :: r, h => by
    rw [List.all_cons, Bool.and_eq_true] at h
    refine .cons ?_ (dp_all r h.2)
    have h1 := h.1
    cases x <;> first | exact .int _ | exact .str _ | exact .bl _ | (exact absurd h1 Bool.false_ne_true)
theorem shp_all : ∀ xs : List V, xs.all scalV = true → PyData.canLayAll0 (xs.map vD) = true ∧ PyData.depthAll (xs.map vD) = 0
  | [], _ => by simp [PyData.canLayAll0, PyData.depthAll]
  | x :: r, h => by
    rw [List.all_cons, Bool.and_eq_true] at h
    obtain ⟨h1, h2⟩ := shp_all r h.2
    have h3 := h.1
    cases x <;> simp [scalV] at h3 <;> simp [vD, PyData.canLayAll0, PyData.depthAll, PyData.canLay0, PyData.depth, h1, h2, h3]
theorem shp_tup {xs : List V} (h : xs.all scalV = true) : SeqAt.shaped (.tuple (xs.map vD)) = true := by
  obtain ⟨h1, h2⟩ := shp_all xs h
  simp [SeqAt.shaped, PyData.canLay0, PyData.depth, h1, h2]
theorem isMv.strOk {m : Str} (h : isMv m) : PyData.strOk m = true := by
  obtain ⟨h1, h2, h3⟩ := h
  have key : ∀ c ∈ az.cps.toList, c < 128 := by decide
  unfold PyData.strOk
  rw [← Array.all_toList]
  rw [List.all_eq_true]
  intro c hc
  have := key c (h3 c hc)
  simp
  omega
theorem Rw.ok.scal {r : Rw} {n : Nat} (h : r.ok n) : r.vs.all scalV = true := by
  cases r with
  | ds k m =>
    have := h.2.strOk
    simp [Rw.vs, Rw.parts, scalV, Rw.word, this]
    decide +kernel
  | _ =>
    simp [Rw.vs, Rw.parts, scalV, Rw.word]
    decide +kernel
/-! ### is_number, is_list, is_move -/
def spIsNumber : Sp := fun vs H Q _ => ∃ t lo hi : Int, vs = [.int t, .int lo, .int hi] ∧ Q (.bl (decide (lo ≤ t) && decide (t ≤ hi))) H
def spIsList : Sp := fun vs H Q _ => ∃ a xs, vs = [.ref a] ∧ Lt H a xs ∧ ∀ H', Same H H' → Q (.bl true) H'
def spIsMove : Sp := fun vs H Q _ => ∃ m : Str, vs = [.str m] ∧ isMv m ∧ ∀ H', Same H H' → Q (.bl true) H'
def spAreMoves : Sp := fun vs H Q _ => ∃ a ms, vs = [.ref a] ∧ Lt H a (ms.map V.str) ∧ Mv ms ∧ ∀ H', Same H H' → Q (.bl true) H'
section
variable {P : Program} {w : World} {K : PySem.W.Frag} {mg : Str → Option Value} {base : Heap} {cP cG cT : Addr} {f : Addr} {fd : FuncData} (T : Txt K w mg cP cG cT)
include T
theorem ok_is_number (F : FnP K "is_number" "is_number" s_is_number f fd) : FnOk P w K mg base CX0 1 f fd ["thing", "low", "high"] spIsNumber := by
  refine okN F sc_is_number (fun vs H Q E h => ?_) (fun cdv A outer s H vs Q E hr h => ?_)
  · obtain ⟨t, lo, hi, rfl, _⟩ := h
    rfl
  · obtain ⟨t, lo, hi, rfl, q⟩ := h
    refine ⟨_, (pss_cons (ps_if (PW.pt (pw_or (pt_not (pt_val (pe_callB call_isi (by rfl) T.isinstance_ b_isinstance (pa_cons (pv 0) (pa_cons (ty_int T) pa_nil))))) (pw_or1 (pt_val (pe_callB call_isi (by rfl) T.isinstance_ b_isinstance (pa_cons (pv 0) (pa_cons (ty_bool T) pa_nil))))))) (pss_one (ps_ret pe_bl)) pss_nil)
      (pss_one (ps_ret (pe_and (pe_cmpR op_le (pv 1) (pv 0) (nomark _)) (pe_one (pe_or (pe_cmpR op_isN (pv 2) pe_non (nomark _)) (pe_one (pe_cmpR op_le (pv 0) (pv 2) (nomark _))))))))), ?_⟩
    refine ⟨_, rfl, _, _, _, _, true, rfl, .ty _, .base (.int _), by exact kit_ty (by decide +kernel), true, rfl, ?_⟩
    refine iteF ?_
    refine ⟨_, rfl, _, _, _, _, false, rfl, .ty _, .base (.int _), by exact kit_ty (by decide +kernel), false, rfl, ?_⟩
    refine iteF ?_
    refine ⟨_, rfl, _, rfl, _, _, rfl, rfl, _, rfl, ?_⟩
    by_cases h1 : lo ≤ t
    · rw [decide_eq_true h1] at q ⊢
      refine iteT ?_
      refine ⟨_, rfl, rfl, _, rfl, ?_⟩
      refine iteF ?_
      exact ⟨_, rfl, _, rfl, _, _, rfl, rfl, q⟩
    · rw [decide_eq_false h1] at q ⊢
      exact iteF q
theorem ok_is_list (F : FnP K "is_list" "is_list" s_is_list f fd) : FnOk P w K mg base CX0 1 f fd ["thing"] spIsList := by
  refine okN F sc_is_list (fun vs H Q E h => ?_) (fun cdv A outer s H vs Q E hr h => ?_)
  · obtain ⟨a, xs, rfl, _⟩ := h
    rfl
  · obtain ⟨a, xs, rfl, hx, q⟩ := h
    refine ⟨_, (pss_one (ps_ret (pe_callB call_isiT (by rfl) T.isinstance_ b_isinstance (pa_cons (pv 0) (pa_cons (pe_tup (pa_cons (ty_list T) (pa_cons (ty_tuple T) pa_nil))) pa_nil))))), ?_⟩
    refine ⟨_, rfl, (by show 2 ≤ sizeLine; decide), fun t ht => ?_⟩
    rcases hx with hx | hx
    · refine ⟨_, t, _, _, _, true, rfl, upd_same, .cons (.ty _) (.cons (.ty _) .nil), .base (.lst (by rw [upd_ne (ne_of_none hx ht)]; exact hx)), kitAny_cons (b := true) (kit_ty (by decide +kernel)) (fun e => nomatch e) (fun _ => rfl), ?_⟩
      exact q _ (same_new ht)
    · refine ⟨_, t, _, _, _, true, rfl, upd_same, .cons (.ty _) (.cons (.ty _) .nil), .base (.tup (by rw [upd_ne (ne_of_none hx ht)]; exact hx)), kitAny_cons (b := false) (kit_ty (by decide +kernel)) (fun _ => kitAny_cons (b := true) (kit_ty (by decide +kernel)) (fun e => nomatch e) (fun _ => rfl)) (fun e => nomatch e), ?_⟩
      exact q _ (same_new ht)
theorem ok_is_move (F : FnP K "is_move" "is_move" s_is_move f fd) : FnOk P w K mg base CX0 1 f fd ["thing"] spIsMove := by
  refine okN F sc_is_move (fun vs H Q E h => ?_) (fun cdv A outer s H vs Q E hr h => ?_)
  · obtain ⟨m, rfl, _⟩ := h
    rfl
  · obtain ⟨m, rfl, ⟨m1, m2, m3⟩, q⟩ := h
    refine ⟨_, (pss_cons (ps_if (PW.pt (pw_or (pt_not (pt_val (pe_callB call_isi (by rfl) T.isinstance_ b_isinstance (pa_cons (pv 0) (pa_cons (ty_str T) pa_nil))))) (pw_or1 (pt_not (pt_chain op_le op_le pe_int (pe_callB call_len_str (by rfl) T.len_ b_len (pa_cons (pv 0) pa_nil)) (gl_LONGEST T)))))) (pss_one (ps_ret pe_bl)) pss_nil)
      (pss_one (ps_ret (pe_callB (allS K rfl) (by rfl) T.all_ b_all (pa_cons (pe_lc (own := [("sign", 1)]) rfl sc_is_move.nd (pi_str (pv 0)) (blkOk_by (own := [("sign", 1)]) (N := ["thing", "sign"]) (sc := defScope s_is_move) (by decide +kernel)) (fun _ _ _ _ _ => pg_name (i := 1) sc_is_move.nd rfl (Or.inl rfl)) (fun _ _ _ _ _ => pts_nil) (fun _ _ _ _ _ => (pe_cmpR op_in_sign (pv 1) (gl_LETTERS T) rfl))) pa_nil))))), ?_⟩
    refine ⟨_, rfl, _, _, _, _, true, rfl, .ty _, .base (.str _), by exact kit_ty (by decide +kernel), true, rfl, ?_⟩
    refine iteF ?_
    refine ⟨_, rfl, _, rfl, sz_le (by omega), _, _, rfl, rfl, true, ?_⟩
    refine ⟨congrArg V.bl (decide_eq_true (by omega)), ?_⟩
    refine iteT ?_
    refine ⟨_, _, rfl, rfl, true, congrArg V.bl (decide_eq_true (by omega)), ?_⟩
    refine iteF ?_
    refine ⟨_, rfl, m, rfl, fun D hD => ?_⟩
    refine lcW_fm walk_str (fun _ => some (.bl true)) hD (by have : m.cps.size = m.length := rfl; omega) (fun _ _ => trivial) (fun i x H1 H' hi s1 y K1 K0 h1 h0 => ?_) (fun H' s' e => ?_)
    · obtain ⟨rfl, c, hc, rfl⟩ := y
      refine ⟨rfl, yesT ?_⟩
      refine ⟨_, rfl, c, az, rfl, rfl, ?_⟩
      rw [decide_eq_true (m3 c (List.mem_of_getElem? (by simpa using hc)))]
      exact h1 _ _ rfl (fun _ _ e => e)
    · refine ⟨D, List.replicate m.cps.size true, rfl, .inl (.inl ?_), ?_⟩
      · rw [e]
        simp [List.filterMap_eq_map, List.map_const']
      · have : (List.replicate m.cps.size true).all id = true := by simp [List.all_replicate]
        rw [this]
        exact q _ s'
theorem ok_are_moves {C_is_list : Cal P w K mg base "is_list" 1 ["thing"] spIsList} {C_is_move : Cal P w K mg base "is_move" 1 ["thing"] spIsMove} (F : FnP K "are_moves" "are_moves" s_are_moves f fd) : FnOk P w K mg base CX0 2 f fd ["thing"] spAreMoves := by
  refine okN F sc_are_moves (fun vs H Q E h => ?_) (fun cdv A outer s H vs Q E hr h => ?_)
  · obtain ⟨a, ms, rfl, _⟩ := h
    rfl
  · obtain ⟨a, ms, rfl, hm, ⟨p1, p2, p3, p4⟩, q⟩ := h
    refine ⟨_, (pss_cons (ps_if (PW.pt (pw_or (pt_not (pt_val (pe_cal C_is_list hr (pa_cons (pv 0) pa_nil)))) (pw_or1 (pt_not (pt_chain op_le op_le pe_int (pe_callB (lenS K) (by rfl) T.len_ b_len (pa_cons (pv 0) pa_nil)) (pe_op op_add (gl_MOST_FURTHER T) pe_int)))))) (pss_one (ps_ret pe_bl)) pss_nil)
      (pss_one (ps_ret (pe_and (pe_callB (allS K rfl) (by rfl) T.all_ b_all (pa_cons (pe_lc (own := [("move", 1)]) rfl sc_are_moves.nd (pi_sq (pv 0)) (blkOk_by (own := [("move", 1)]) (N := ["thing", "move"]) (sc := defScope s_are_moves) (by decide +kernel)) (fun _ _ _ _ _ => pg_name (i := 1) sc_are_moves.nd rfl (Or.inl rfl)) (fun _ _ _ _ _ => pts_nil) (fun _ _ _ _ _ => (pe_cal C_is_move hr (pa_cons (pv 1) pa_nil)))) pa_nil)) (pe_one (pe_cmpR op_eq (pe_lenSetS (by rfl) T.len_ (by rfl) T.set_ (pv 0)) (pe_callB (lenS K) (by rfl) T.len_ b_len (pa_cons (pv 0) pa_nil)) (nomark _))))))), ?_⟩
    refine ⟨_, rfl, a, _, rfl, hm, fun H1 s1 => ⟨true, rfl, ?_⟩⟩
    refine iteF ?_
    have hm1 := hm.mono s1
    refine ⟨_, rfl, a, _, rfl, hm1.sq, _, _, rfl, rfl, true, congrArg V.bl (decide_eq_true (by simp; omega)), ?_⟩
    refine iteT ?_
    refine ⟨_, _, rfl, rfl, _, _, rfl, rfl, true, congrArg V.bl (decide_eq_true (by simp; omega)), ?_⟩
    refine iteF ?_
    refine ⟨_, rfl, a, _, rfl, hm1, fun J hJ D hD => ?_⟩
    refine lcW_fm hJ (fun _ => some (.bl true)) hD (by simp; omega) (fun H2 s2 => same_of s2 hm1) (fun i x H2 H' hi s2 y K1 K0 h1 h0 => ?_) (fun H2 s2 e => ?_)
    · obtain ⟨rfl, hx⟩ := y
      refine ⟨rfl, yesT ?_⟩
      rw [List.getElem?_map] at hx
      obtain ⟨m, hm', rfl⟩ := Option.map_eq_some_iff.mp hx
      exact ⟨_, rfl, m, rfl, p4 m (List.mem_of_getElem? hm'), fun H3 s3 => h1 _ _ rfl s3⟩
    · refine ⟨D, List.replicate ms.length true, rfl, .inl (.inl ?_), ?_⟩
      · rw [e]
        simp [List.filterMap_eq_map, List.map_const']
      · have : (List.replicate ms.length true).all id = true := by simp [List.all_replicate]
        rw [this]
        refine ⟨true, rfl, ?_⟩
        refine iteT ?_
        have hm2 := hm1.mono s2
        refine ⟨_, rfl, a, ms, rfl, hm2.sq, p3, by omega, ?_⟩
        refine ⟨_, rfl, a, _, rfl, hm2.sq, rfl, ?_⟩
        rw [eqvT (by simp)]
        exact q _ (s1.trans s2)
def spIsRow : Sp := fun vs H Q _ => ∃ (a : Addr) (n : Nat) (r : Rw), vs = [.ref a, nV n] ∧ H a = some (.tup r.vs) ∧ r.ok n ∧ ∀ H', Same H H' → Q (.bl true) H'
theorem ok_is_row {C_is_number : Cal P w K mg base "is_number" 1 ["thing", "low", "high"] spIsNumber} {C_is_move : Cal P w K mg base "is_move" 1 ["thing"] spIsMove} (F : FnP K "is_row" "is_row" s_is_row f fd) : FnOk P w K mg base CX0 2 f fd ["thing", "at"] spIsRow := by
  refine okN F sc_is_row (fun vs H Q E h => ?_) (fun cdv A outer s H vs Q E hr h => ?_)
  · obtain ⟨a, n, r, rfl, _⟩ := h
    rfl
  · obtain ⟨a, n, r, rfl, ha, ok, q⟩ := h
    refine ⟨_, (pss_cons (ps_if (PW.pt (pw_or (pt_not (pt_val (pe_callB call_isi (by rfl) T.isinstance_ b_isinstance (pa_cons (pv 0) (pa_cons (ty_tuple T) pa_nil))))) (pw_or (pt_cmpR (op_eqD hr.units) (pv 0) (pe_tup pa_nil) (nomark _)) (pw_or1 (pt_not (pt_val (pe_callB call_isi (by rfl) T.isinstance_ b_isinstance (pa_cons (pe_ix (ixT K) (pv 0) pe_int (fun _ _ => rfl)) (pa_cons (ty_str T) pa_nil))))))))) (pss_one (ps_ret pe_bl)) pss_nil)
      (pss_cons (ps_asg (pv 0) (pg_star (n := 2) (i := 1) rfl (pgs_cons (pg_name (i := 2) sc_is_row.nd rfl (Or.inl rfl)) (pgs_star (pg_name (i := 3) sc_is_row.nd rfl (Or.inl rfl)) pgs_nil))))
      (pss_cons (ps_if (PW.pt (pw_or (pt_cmpR (op_notIn_kd T.SIZES.choose_spec.2.1.choose_spec.choose_spec) (pv 2) (gl_SIZES T) rfl) (pw_or1 (pt_cmpR op_ne (pe_callB (lenS K) (by rfl) T.len_ b_len (pa_cons (pv 0) pa_nil)) (pe_ix ix_kdict (gl_SIZES T) (pv 2) (fun _ _ => rfl)) (nomark _))))) (pss_one (ps_ret pe_bl)) pss_nil)
      (pss_cons (ps_if (pt_not (pt_val (pe_callB (allS K rfl) (by rfl) T.all_ b_all (pa_cons (pe_lc (own := [("place", 4)]) rfl sc_is_row.nd (pi_tup (pe_ix ix_kdict (gl_ROWS_NAMED T) (pv 2) (fun _ _ => rfl))) (blkOk_by (own := [("place", 4)]) (N := ["thing", "at", "word", "parts", "place"]) (sc := defScope s_is_row) (by decide +kernel)) (fun _ _ _ _ _ => pg_name (i := 4) sc_is_row.nd rfl (Or.inl rfl)) (fun _ _ _ _ _ => pts_nil) (fun _ _ _ _ _ => (pe_cal C_is_number hr (pa_cons (pe_ix (ixT K) (pv 0) (pv 4) (fun _ _ => rfl)) (pa_cons pe_int (pa_cons (pe_op op_sub (pv 1) pe_int) pa_nil)))))) pa_nil)))) (pss_one (ps_ret pe_bl)) pss_nil)
      (pss_cons (ps_if (pt_cmpR op_eq (pv 2) pe_str (nomark _)) (pss_one (ps_ret (pe_and (pe_cal C_is_number hr (pa_cons (pe_ix (ixL K) (pv 3) pe_int (fun _ _ => rfl)) (pa_cons pe_int (pa_cons (gl_MOST_FURTHER T) pa_nil)))) (pe_one (pe_cal C_is_move hr (pa_cons (pe_ix (ixL K) (pv 3) pe_int (fun _ _ => rfl)) pa_nil)))))) pss_nil)
      (pss_one (ps_ret (pe_or (pe_cmpR op_ne (pv 2) pe_str (nomark _)) (pe_one (pe_cal C_is_number hr (pa_cons (pe_ix (ixL K) (pv 3) pe_int (fun _ _ => rfl)) (pa_cons pe_int (pa_cons (gl_MOST_K T) pa_nil))))))))))))), ?_⟩
    refine ⟨_, rfl, _, _, _, _, true, rfl, .ty _, .base (.tup ha), by exact kit_ty (by decide +kernel), true, rfl, ?_⟩
    refine iteF ?_
    refine ⟨_, rfl, (by show 0 ≤ sizeLine; decide), fun t ht => ?_⟩
    refine ⟨_, .tuple [], .tup (.inl (.inl (by rw [upd_ne (ne_of_none ha ht)]; exact ha))) (dp_all r.vs ok.scal), .tup (.inl (.inl upd_same)) .nil, shp_tup ok.scal, shp_tup (xs := []) rfl, false, by cases r <;> rfl, ?_⟩
    refine iteF ?_
    have s1 : Same H (upd H t (.tup [])) := same_new ht
    generalize upd H t (.tup []) = H1 at s1
    have ha1 := s1 _ _ ha
    refine ⟨_, rfl, a, r.vs, 0, .str r.word, rfl, rfl, .inl (.inl ha1), atI_nat (j := 0) rfl, _, _, _, _, true, rfl, .ty _, .base (.str _), by exact kit_ty (by decide +kernel), true, rfl, ?_⟩
    refine iteF ?_
    refine ⟨_, rfl, a, r.vs, rfl, .inr (.inl (.inl ha1)), by cases r <;> (simp [Rw.vs, Rw.parts]), by cases r <;> (simp [Rw.vs, Rw.parts]), fun D hD => ?_⟩
    have eD : ((r.vs.drop 1).take (r.vs.length + 1 - 2)) = r.parts := by cases r <;> rfl
    have eT : r.vs.take 1 ++ [V.ref D] ++ (r.vs.drop 1).drop (r.vs.length + 1 - 2) = [.str r.word, .ref D] := by cases r <;> rfl
    rw [eD, eT]
    refine ⟨.str r.word, _, rfl, _, _, rfl, rfl, ?_⟩
    have s2 : Same H1 (upd H1 D (.lst r.parts)) := same_new hD
    have hD2 : (upd H1 D (.lst r.parts)) D = some (.lst r.parts) := upd_same
    generalize upd H1 D (.lst r.parts) = H2 at s2 hD2
    have ha2 := s2 _ _ ha1
    obtain ⟨es, n', u, k1, k2, k3, k4⟩ := T.SIZES.choose_spec.2.2 r.word _ (sz_at r)
    refine ⟨_, rfl, r.word, some u, rfl, rfl, k3, false, rfl, ?_⟩
    refine iteF ?_
    refine ⟨_, rfl, a, _, rfl, .inr (.inl (.inl ha2)), _, rfl, _, _, _, rfl, rfl, T.SIZES.choose_spec.2.2 r.word _ (sz_at r), rfl, false, ?_, ?_⟩
    · rw [eqvT rfl]
      rfl
    refine iteF ?_
    obtain ⟨pa, q1, q2⟩ := T.ROWS_NAMED.choose_spec.2 r.word _ (rn_at r)
    have rdP : ∀ H, SqT K H pa ((r.places.map fun p => ((p : Nat) : Int)).map V.int) := fun H => q2.sq H
    refine ⟨_, rfl, _, _, _, rfl, rfl, q1, pa, rfl, ⟨_, rdP _⟩, fun D2 hD2' => ?_⟩
    refine lcT_fm (fun _ => some (.bl true)) hD2' (rdP _) (by cases r <;> simp [Rw.places]) (fun i x H' hx s' K1 K0 h1 h0 => ?_) (fun H' s' e => ?_)
    · refine ⟨rfl, yesT ?_⟩
      rw [List.map_map, List.getElem?_map] at hx
      obtain ⟨p, hp, rfl⟩ := Option.map_eq_some_iff.mp hx
      obtain ⟨j, hj, hjn⟩ := places_at ok (List.mem_of_getElem? hp)
      refine ⟨_, rfl, _, rfl, a, _, _, _, rfl, rfl, .inl (.inl (s' _ _ ha2)), atI_nat hj, ?_⟩
      refine ⟨_, rfl, _, _, rfl, rfl, _, _, _, rfl, ?_⟩
      rw [decide_eq_true (by omega), decide_eq_true (by omega)]
      exact h1 _ _ rfl (fun _ _ e => e)
    · refine ⟨D2, List.replicate r.places.length true, rfl, .inl (.inl ?_), ?_⟩
      · rw [e, fm_const, rep_bl]
        simp
      · rw [all_rep]
        refine ⟨true, rfl, ?_⟩
        refine iteF ?_
        have hD3 := s' _ _ hD2
        have sA := (s1.trans s2).trans s'
        refine ⟨_, rfl, rfl, _, rfl, ?_⟩
        cases r with
        | ds k m =>
          refine ifT rfl ?_
          refine ⟨_, rfl, D, _, 0, _, rfl, rfl, .inl (.inl hD3), rfl, _, _, _, rfl, ?_⟩
          rw [decide_eq_true (by omega), decide_eq_true (by have := ok.1; omega)]
          refine ⟨true, rfl, ?_⟩
          refine iteT ?_
          refine ⟨_, rfl, D, _, 1, _, rfl, rfl, .inl (.inl hD3), rfl, m, rfl, ok.2, fun H4 s4 => ?_⟩
          exact q _ (sA.trans s4)
        | sh k j =>
          refine ifF (str_ne (a := "shown") (by decide)) ?_
          refine ⟨_, rfl, rfl, _, rfl, ?_⟩
          refine ifNF rfl ?_
          refine ⟨_, rfl, D, _, 0, _, rfl, rfl, .inl (.inl hD3), rfl, _, _, _, rfl, ?_⟩
          rw [decide_eq_true (by omega), decide_eq_true (by have := ok.1; omega)]
          exact q _ sA
        | fl =>
          refine ifF (str_ne (a := "false") (by decide)) ?_
          refine ⟨_, rfl, rfl, _, rfl, ?_⟩
          refine ifNT (str_ne (a := "false") (by decide)) ?_
          exact q _ sA
        | ng i =>
          refine ifF (str_ne (a := "not") (by decide)) ?_
          refine ⟨_, rfl, rfl, _, rfl, ?_⟩
          refine ifNT (str_ne (a := "not") (by decide)) ?_
          exact q _ sA
        | cj i j =>
          refine ifF (str_ne (a := "and") (by decide)) ?_
          refine ⟨_, rfl, rfl, _, rfl, ?_⟩
          refine ifNT (str_ne (a := "and") (by decide)) ?_
          exact q _ sA
        | dj i j =>
          refine ifF (str_ne (a := "or") (by decide)) ?_
          refine ⟨_, rfl, rfl, _, rfl, ?_⟩
          refine ifNT (str_ne (a := "or") (by decide)) ?_
          exact q _ sA
end
end Lk

set_option maxHeartbeats 4000000
namespace Lk
open PySem PySem.Spec PyProof.Rows L2
def spNeedRows : Sp := fun vs H Q _ => ∃ a xs rs, vs = [.ref a] ∧ Lt H a xs ∧ RowsAt H xs rs ∧ RowsOk rs ∧ rs.length ≤ 40 ∧ ∀ H', Same H H' → Q .non H'
def spNamedBy : Sp := fun vs H Q _ => ∃ (a : Addr) (r : Rw), vs = [.ref a] ∧ H a = some (.tup r.vs) ∧ ∀ p H', Same H H' → H p = none → H' p = some (.lst (r.refs.map nV)) → Q (.ref p) H'
theorem refs_at (r : Rw) : r.places.length = r.refs.length ∧ ∀ (i p : Nat), r.places[i]? = some p → ∃ j : Nat, r.refs[i]? = some j ∧ r.vs[p]? = some (nV j) := by
  cases r <;> refine ⟨rfl, fun i p h => ?_⟩ <;> simp [Rw.places] at h
  · cases i with
    | zero => cases h; exact ⟨_, rfl, rfl⟩
    | succ i => simp at h
  · match i, h with
    | 0, h => cases h; exact ⟨_, rfl, rfl⟩
    | 1, h => cases h; exact ⟨_, rfl, rfl⟩
    | i + 2, h => simp at h
  · match i, h with
    | 0, h => cases h; exact ⟨_, rfl, rfl⟩
    | 1, h => cases h; exact ⟨_, rfl, rfl⟩
    | i + 2, h => simp at h
  · cases i with
    | zero => cases h; exact ⟨_, rfl, rfl⟩
    | succ i => simp at h
section
variable {P : Program} {w : World} {K : PySem.W.Frag} {mg : Str → Option Value} {base : Heap} {cP cG cT : Addr} {f : Addr} {fd : FuncData} (T : Txt K w mg cP cG cT)
include T
theorem ok_need_rows {C_is_list : Cal P w K mg base "is_list" 1 ["thing"] spIsList} {C_is_row : Cal P w K mg base "is_row" 2 ["thing", "at"] spIsRow} (F : FnP K "need_rows" "need_rows" s_need_rows f fd) : FnOk P w K mg base CX0 3 f fd ["rows"] spNeedRows := by
  refine okN F sc_need_rows (fun vs H Q E h => ?_) (fun cdv A outer s H vs Q E hr h => ?_)
  · obtain ⟨a, xs, rs, rfl, _⟩ := h
    rfl
  · obtain ⟨a, xs, rs, rfl, hx, hrs, ok, hl, q⟩ := h
    refine ⟨_, (pss_cons (ps_if (pt_not (pt_val (pe_cal C_is_list hr (pa_cons (pv 0) pa_nil)))) (pss_one ps_never) pss_nil)
      (pss_one (ps_for PassesOwn.never rfl (pi_enumS (by rfl) T.enumerate_ (pa_cons (pv 0) pa_nil)) (pgT K 2 rfl (pgs_cons (pg_name (i := 1) sc_need_rows.nd rfl (Or.inl rfl)) (pgs_cons (pg_name (i := 2) sc_need_rows.nd rfl (Or.inl rfl)) pgs_nil))) (pss_one (ps_if (PW.pt (pw_or (pt_cmpR op_eq (pv 1) (gl_MOST_ROWS T) (nomark _)) (pw_or1 (pt_not (pt_val (pe_cal C_is_row hr (pa_cons (pv 2) (pa_cons (pv 1) pa_nil)))))))) (pss_one ps_never) pss_nil))))), ?_⟩
    refine ⟨_, rfl, a, _, rfl, hx, fun H1 s1 => ⟨true, rfl, ?_⟩⟩
    refine iteF ?_
    refine ⟨_, rfl, a, xs, rfl, hx.mono s1, fun J hJ => ?_⟩
    have hx1 := hx.mono s1
    have hrs1 := hrs.mono s1
    refine for_it hJ (fun i σ H' => Same H1 H' ∧ ∃ u v, σ = [some (.ref a), u, v]) ⟨fun _ _ e => e, _, _, rfl⟩ (fun i σ H' hi h => same_of h.1 hx1) (fun i x σ H2 H3 hi h y => ?_) (fun σ H' h => q _ (s1.trans h.1))
    obtain ⟨t, u, v, rfl, ht, rfl, e1, e2⟩ := y
    obtain ⟨s2, u', v', rfl⟩ := h
    cases e1
    obtain ⟨b, r, e3, rfl, e4⟩ := hrs1.get e2
    have s3 : Same H1 (upd H2 t (.tup [.int (i : Nat), .ref b])) := s2.trans (same_new ht)
    refine ⟨t, _, rfl, .inl (.inl upd_same), rfl, _, _, rfl, _, _, rfl, rfl, ?_⟩
    refine ⟨_, rfl, rfl, _, rfl, ?_⟩
    refine ifF (by intro z; injection z with z; have := hrs.len; omega) ?_
    refine ⟨_, rfl, _, rfl, b, i, r, rfl, s3 _ _ e4, ok i r e3, fun H4 s4 => ⟨true, rfl, ?_⟩⟩
    refine iteF ?_
    exact ⟨s3.trans s4, _, _, rfl⟩
theorem ok_named_by (F : FnP K "named_by" "named_by" s_named_by f fd) : FnOk P w K mg base CX0 1 f fd ["row"] spNamedBy := by
  refine okN F sc_named_by (fun vs H Q E h => ?_) (fun cdv A outer s H vs Q E hr h => ?_)
  · obtain ⟨a, r, rfl, _⟩ := h
    rfl
  · obtain ⟨a, r, rfl, ha, q⟩ := h
    refine ⟨_, (pss_one (ps_ret (pe_lc (own := [("place", 1)]) rfl sc_named_by.nd (pi_tup (pe_ix ix_kdict (gl_ROWS_NAMED T) (pe_ix (ixT K) (pv 0) pe_int (fun _ _ => rfl)) (fun _ _ => rfl))) (blkOk_by (own := [("place", 1)]) (N := ["row", "place"]) (sc := defScope s_named_by) (by decide +kernel)) (fun _ _ _ _ _ => pg_name (i := 1) sc_named_by.nd rfl (Or.inl rfl)) (fun _ _ _ _ _ => pts_nil) (fun _ _ _ _ _ => (pe_ix (ixT K) (pv 0) (pv 1) (fun _ _ => rfl)))))), ?_⟩
    obtain ⟨pa, q1, q2⟩ := T.ROWS_NAMED.choose_spec.2 r.word _ (rn_at r)
    have rdP : ∀ H, SqT K H pa ((r.places.map fun p => ((p : Nat) : Int)).map V.int) := fun H => q2.sq H
    refine ⟨_, rfl, a, r.vs, 0, .str r.word, rfl, rfl, .inl (.inl ha), atI_nat (j := 0) rfl, _, _, _, rfl, rfl, q1, pa, rfl, ⟨_, rdP _⟩, fun D2 hD2' => ?_⟩
    obtain ⟨l1, l2⟩ := refs_at r
    refine lcW_fm walk_tup (fun i => r.refs[i]?.map nV) hD2' (by cases r <;> simp [Rw.places]) (fun _ _ => rdP _) (fun i x H2 H' hi s' y K1 K0 h1 h0 => ?_) (fun H' s' e => ?_)
    · obtain ⟨rfl, hx⟩ := y
      refine ⟨rfl, yesT ?_⟩
      rw [List.map_map, List.getElem?_map] at hx
      obtain ⟨p, hp, rfl⟩ := Option.map_eq_some_iff.mp hx
      obtain ⟨j, hj, hjn⟩ := l2 i p hp
      refine ⟨_, rfl, _, rfl, a, r.vs, _, nV j, rfl, rfl, .inl (.inl (s' _ _ ha)), atI_nat hjn, ?_⟩
      exact h1 _ _ (by rw [hj]; rfl) (fun _ _ e => e)
    · refine q _ _ s' hD2' ?_
      rw [e]
      congr 2
      cases r <;> rfl
end
end Lk

set_option maxHeartbeats 4000000
namespace Lk
open PySem PySem.Spec PyProof.Rows L2
def spDownOnes : Sp := fun vs H Q _ => ∃ a xs rs, vs = [.ref a] ∧ Lt H a xs ∧ RowsAt H xs rs ∧ RowsOk rs ∧ rs.length ≤ 40 ∧ ∀ p H', Same H H' → H p = none → H' p = some (.lst ((downs rs).map V.bl)) → Q (.ref p) H'
theorem downs_len (rs : List Rw) : (downs rs).length = rs.length := by
  have : ∀ (rs : List Rw) (acc : List Bool), (rs.foldl (fun acc r => acc ++ [r.dn acc]) acc).length = acc.length + rs.length := by
    intro rs
    induction rs with
    | nil => intro acc; rfl
    | cons r q ih =>
      intro acc
      rw [List.foldl_cons, ih]
      simp
      omega
  have := this rs []
  simpa [downs] using this
def Rw.isTop : Rw → Bool
  | .fl => true
  | .sh _ _ => true
  | _ => false
theorem top_in (r : Rw) : inV (.str r.word) [.str "false", .str "shown"] = r.isTop := by
  cases r
  · show inV (.str "false") [.str "false", .str "shown"] = true; decide +kernel
  · show inV (.str "does") [.str "false", .str "shown"] = false; decide +kernel
  · show inV (.str "not") [.str "false", .str "shown"] = false; decide +kernel
  · show inV (.str "and") [.str "false", .str "shown"] = false; decide +kernel
  · show inV (.str "or") [.str "false", .str "shown"] = false; decide +kernel
  · show inV (.str "shown") [.str "false", .str "shown"] = true; decide +kernel
theorem dn_top {r : Rw} {fs : List Bool} (h : r.isTop = true) : r.dn fs = true := by
  cases r <;> simp [Rw.isTop] at h <;> rfl
theorem dn_refs {r : Rw} {fs : List Bool} (h : r.isTop = false) (h2 : r.word ≠ "does") : r.dn fs = (r.refs.map fun j => fs.getD j false).all id := by
  cases r <;> simp [Rw.isTop] at h <;> first | (exact absurd rfl h2) | simp [Rw.dn, Rw.refs]
theorem dn_does {r : Rw} {fs : List Bool} (h2 : r.word = "does") : r.dn fs = false := by
  cases r with
  | fl => exact absurd h2 (by decide)
  | ds k m => rfl
  | ng i => exact absurd h2 (show ("not" : Str) ≠ "does" by decide)
  | cj i j => exact absurd h2 (show ("and" : Str) ≠ "does" by decide)
  | dj i j => exact absurd h2 (show ("or" : Str) ≠ "does" by decide)
  | sh k i => exact absurd h2 (show ("shown" : Str) ≠ "does" by decide)
theorem fm_map (g : Nat → V) : ∀ js : List Nat, (js.map nV).filterMap (fun x => match x with | .int j => some (g j.toNat) | _ => none) = js.map g
  | [] => rfl
  | j :: r => by
    rw [List.map_cons, List.filterMap_cons]
    simp only [fm_map g r, Int.toNat_natCast, List.map_cons]
section
variable {P : Program} {w : World} {K : PySem.W.Frag} {mg : Str → Option Value} {base : Heap} {cP cG cT : Addr} {f : Addr} {fd : FuncData} (T : Txt K w mg cP cG cT)
include T
theorem ok_down_ones {C_named_by : Cal P w K mg base "named_by" 1 ["row"] spNamedBy} (F : FnP K "down_ones" "down_ones" s_down_ones f fd) : FnOk P w K mg base CX0 2 f fd ["rows"] spDownOnes := by
  refine okN F sc_down_ones (fun vs H Q E h => ?_) (fun cdv A outer s H vs Q E hr h => ?_)
  · obtain ⟨a, xs, rs, rfl, _⟩ := h
    rfl
  · obtain ⟨a, xs, rs, rfl, hx, hrs, ok, hl, q⟩ := h
    refine ⟨_, (pss_cons (ps_set (i := 1) sc_down_ones.nd rfl (Or.inr rfl) (pe_lst pa_nil))
      (pss_cons (ps_for PassesOwn.never rfl (pi_sq (pv 0)) (pg_name (i := 2) sc_down_ones.nd rfl (Or.inl rfl)) (pss_one (ps_if (pt_cmpR (inS K) (pe_ix (ixT K) (pv 2) pe_int (fun _ _ => rfl)) (pe_tup (pa_cons pe_str (pa_cons pe_str pa_nil))) rfl) (pss_one (ps_expr (pe_bm PySem.F.plainAttrs_list PySem.F.slot_list_append PySem.F.type_list_append mt_append (pv 1) (pa_cons pe_bl pa_nil)))) (pss_one (ps_expr (pe_bm PySem.F.plainAttrs_list PySem.F.slot_list_append PySem.F.type_list_append mt_append (pv 1) (pa_cons (pe_and (pe_cmpR op_ne (pe_ix (ixT K) (pv 2) pe_int (fun _ _ => rfl)) pe_str (nomark _)) (pe_one (pe_callB (allS K rfl) (by rfl) T.all_ b_all (pa_cons (pe_lc (own := [("at", 3)]) rfl sc_down_ones.nd (pi_sq (pe_cal C_named_by hr (pa_cons (pv 2) pa_nil))) (blkOk_by (own := [("at", 3)]) (N := ["rows", "found", "row", "at"]) (sc := defScope s_down_ones) (by decide +kernel)) (fun _ _ _ _ _ => pg_name (i := 3) sc_down_ones.nd rfl (Or.inl rfl)) (fun _ _ _ _ _ => pts_nil) (fun _ _ _ _ _ => (pe_ix (ixL K) (pv 1) (pv 3) (fun _ _ => rfl)))) pa_nil)))) pa_nil)))))))
      (pss_one (ps_ret (pv 1))))), ?_⟩
    refine ⟨(by show 0 ≤ sizeLine; decide), fun D hD => ?_⟩
    refine ⟨_, rfl, a, xs, rfl, hx.mono (same_new hD), fun J hJ => ?_⟩
    have hx1 := hx.mono (same_new (o := .lst []) hD)
    refine for_it hJ (fun i σ H' => Same H H' ∧ (∃ u v, σ = [some (.ref a), some (.ref D), u, v]) ∧ H' D = some (.lst ((downs (rs.take i)).map V.bl))) ⟨same_new hD, ⟨_, _, rfl⟩, upd_same⟩ (fun i σ H' hi h => ?_) (fun i x σ H9 H2 hi h y => ?_) (fun σ H' h => ?_)
    · rw [same_of h.1 hx, same_of (same_new hD) hx]
    · obtain ⟨s2, ⟨u', v', rfl⟩, hd2⟩ := h
      obtain ⟨rfl, e2⟩ := y
      obtain ⟨b, r, e3, rfl, e4⟩ := hrs.get e2
      have hb := s2 _ _ e4
      have hi2 : i < rs.length := by have := hrs.len; omega
      have et : rs.take (i + 1) = rs.take i ++ [r] := by rw [List.take_add_one, e3]; rfl
      have fin : ∀ H4, Same H H4 → H4 D = some (.lst ((downs (rs.take i)).map V.bl ++ [.bl (r.dn (downs (rs.take i)))])) → H4 D = some (.lst ((downs (rs.take (i + 1))).map V.bl)) := by
        intro H4 _ e
        rw [e, et, downs_snoc, List.map_append]
        rfl
      have hlen : ((downs (rs.take i)).map V.bl).length < sizeLine := by
        rw [List.length_map, downs_len, List.length_take]
        exact sz_lt (by omega)
      refine ⟨_, rfl, b, r.vs, 0, .str r.word, rfl, rfl, .inl (.inl hb), atI_nat (j := 0) rfl, (by show 2 ≤ sizeLine; decide), fun t ht => ?_⟩
      have s3 := same_new (o := .tup [.str "false", .str "shown"]) ht
      have htt : (upd H2 t (.tup [.str "false", .str "shown"])) t = some (.tup [.str "false", .str "shown"]) := upd_same
      generalize upd H2 t (.tup [.str "false", .str "shown"]) = H3 at s3 htt
      have hd3 := s3 _ _ hd2
      have hb3 := s3 _ _ hb
      refine ⟨t, _, rfl, .inr (.inl (.inl htt)), rfl, rfl, _, rfl, ?_⟩
      show if inV (.str r.word) [.str "false", .str "shown"] = true then _ else _
      rw [top_in]
      cases hT : r.isTop with
      | true =>
        refine iteT ?_
        refine ⟨_, rfl, .inl ⟨rfl, _, .inl (.inl hd3)⟩, D, _, _, rfl, rfl, hd3, hlen, ?_⟩
        refine ⟨?_, ⟨_, _, rfl⟩, fin _ ?_ ?_⟩
        · exact same_mut (s2.trans s3) hD
        · exact same_mut (s2.trans s3) hD
        · rw [upd_same, dn_top hT]
      | false =>
        refine iteF ?_
        refine ⟨_, rfl, .inl ⟨rfl, _, .inl (.inl hd3)⟩, ?_⟩
        refine ⟨_, rfl, b, r.vs, 0, .str r.word, rfl, rfl, .inl (.inl hb3), atI_nat (j := 0) rfl, rfl, _, rfl, ?_⟩
        by_cases hw : r.word = "does"
        · refine ifNF (congrArg V.str hw) ?_
          refine ⟨D, _, _, rfl, rfl, hd3, hlen, ?_⟩
          refine ⟨same_mut (s2.trans s3) hD, ⟨_, _, rfl⟩, fin _ (same_mut (s2.trans s3) hD) ?_⟩
          rw [upd_same, dn_does hw]
        · refine ifNT (str_ne hw) ?_
          refine ⟨_, rfl, b, r, rfl, hb3, fun p H4 s4 np hp => ?_⟩
          refine ⟨p, _, rfl, .inl hp, fun J2 hJ2 D2 hD2 => ?_⟩
          have hd4 := s4 _ _ hd3
          refine lcW_fm hJ2 (fun k => (r.refs[k]?).map fun j => .bl ((downs (rs.take i)).getD j false)) hD2 (by cases r <;> simp [Rw.refs]) (fun H5 s5 => s5 _ _ hp ▸ hp.symm ▸ rfl) (fun k x H5 H6 hk s5 y K1 K0 h1 h0 => ?_) (fun H5 s5 e => ?_)
          · obtain ⟨rfl, hx'⟩ := y
            refine ⟨rfl, yesT ?_⟩
            rw [List.getElem?_map] at hx'
            obtain ⟨j, hj, rfl⟩ := Option.map_eq_some_iff.mp hx'
            have hji : j < i := (ok i r e3).refs (List.mem_of_getElem? hj)
            have hjl : j < (downs (rs.take i)).length := by
              rw [downs_len, List.length_take]
              omega
            refine ⟨_, rfl, _, rfl, D, _, _, .bl ((downs (rs.take i)).getD j false), rfl, rfl, .inl (.inl (s5 _ _ hd4)), atI_nat ?_, ?_⟩
            · rw [List.getElem?_map, List.getElem?_eq_getElem hjl, List.getD_eq_getElem?_getD, List.getElem?_eq_getElem hjl]
              rfl
            · exact h1 _ _ (by rw [hj]; rfl) (fun _ _ e => e)
          · refine ⟨D2, r.refs.map fun j => (downs (rs.take i)).getD j false, rfl, .inl (.inl ?_), ?_⟩
            · rw [e]
              congr 2
              cases r <;> rfl
            · have hd5 := s5 _ _ hd4
              rw [← dn_refs hT hw]
              refine ⟨D, _, _, rfl, rfl, hd5, hlen, ?_⟩
              have s6 := ((s2.trans s3).trans s4).trans s5
              exact ⟨same_mut s6 hD, ⟨_, _, rfl⟩, fin _ (same_mut s6 hD) upd_same⟩
    · obtain ⟨s2, ⟨u', v', rfl⟩, hd2⟩ := h
      refine ⟨_, rfl, ?_⟩
      refine q D H' s2 hD ?_
      rw [hd2, List.take_of_length_le (by have := hrs.len; omega)]
end
end Lk

set_option maxHeartbeats 4000000
namespace Lk
open PySem PySem.Spec PyProof.Rows L2
def bsE (ks : List Nat) : List (Key × V) := ks.map fun i => (Sum.inl ((i : Nat) : Int), V.bl true)
def addN (ks : List Nat) (i : Nat) : List Nat := if i ∈ ks then ks else ks ++ [i]
theorem bs_any (ks : List Nat) (i : Nat) : ((bsE ks).any fun kv => decide (kv.1 = Sum.inl ((i : Nat) : Int))) = decide (i ∈ ks) := by
  rw [Bool.eq_iff_iff]
  simp only [List.any_eq_true, decide_eq_true_eq, bsE, List.mem_map]
  constructor
  · rintro ⟨x, ⟨j, hj, rfl⟩, e⟩
    have e : (Sum.inl ((j : Nat) : Int) : Key) = Sum.inl ((i : Nat) : Int) := e
    injection e with e
    have : j = i := by omega
    exact this ▸ hj
  · intro h
    exact ⟨_, ⟨i, h, rfl⟩, rfl⟩
theorem bs_put (ks : List Nat) (i : Nat) : putK (bsE ks) (Sum.inl ((i : Nat) : Int)) (.bl true) = bsE (addN ks i) := by
  unfold putK addN
  rw [bs_any]
  by_cases h : i ∈ ks
  · rw [if_pos (by simpa using h), if_pos h]
    unfold bsE
    rw [List.map_map]
    refine List.map_congr_left fun j hj => ?_
    show (if (Sum.inl ((j : Nat) : Int) : Key) = Sum.inl ((i : Nat) : Int) then _ else _) = _
    split <;> rfl
  · rw [if_neg (by simpa using h), if_neg h]
    unfold bsE
    rw [List.map_append]
    rfl
theorem bs_merge : ∀ (more ks : List Nat), mergeK (bsE ks) (bsE more) = bsE (more.foldl addN ks)
  | [], _ => rfl
  | i :: r, ks => by
    show mergeK (putK (bsE ks) (Sum.inl ((i : Nat) : Int)) (.bl true)) (bsE r) = _
    rw [bs_put, bs_merge r, List.foldl_cons]
theorem bs_val (ks : List Nat) (i : Nat) : valV (bsE ks) (Sum.inl ((i : Nat) : Int)) = if i ∈ ks then some (.bl true) else none := by
  have h := valV_any (Sum.inl ((i : Nat) : Int) : Key) (bsE ks)
  rw [bs_any] at h
  by_cases hi : i ∈ ks
  · rw [if_pos hi]
    rw [decide_eq_true hi] at h
    obtain ⟨v, hv⟩ := Option.isSome_iff_exists.mp h.symm
    rw [hv]
    unfold valV at hv
    obtain ⟨p, hp, rfl⟩ := Option.map_eq_some_iff.mp hv
    obtain ⟨j, _, rfl⟩ := List.mem_map.mp (List.mem_of_find?_eq_some hp)
    rfl
  · rw [if_neg hi]
    rw [decide_eq_false hi] at h
    cases e : valV (bsE ks) (Sum.inl ((i : Nat) : Int)) with
    | none => rfl
    | some v => rw [e] at h; cases h
theorem mem_addN {ks : List Nat} {i j : Nat} : j ∈ addN ks i ↔ j ∈ ks ∨ j = i := by
  unfold addN
  split
  · constructor
    · exact .inl
    · rintro (h | rfl) <;> assumption
  · simp
theorem nd_addN {ks : List Nat} {i : Nat} (h : ks.Nodup) : (addN ks i).Nodup := by
  unfold addN
  split
  · exact h
  · rename_i hi
    rw [List.nodup_append]
    refine ⟨h, by simp, ?_⟩
    intro x hx y hy e
    have : y = i := by simpa using hy
    exact hi (this ▸ e ▸ hx)
theorem mem_addAll {j : Nat} : ∀ {more ks : List Nat}, j ∈ more.foldl addN ks ↔ j ∈ ks ∨ j ∈ more
  | [], _ => by simp
  | i :: r, ks => by
    rw [List.foldl_cons, mem_addAll (more := r), mem_addN]
    simp [or_assoc]
theorem nd_addAll : ∀ {more ks : List Nat}, ks.Nodup → (more.foldl addN ks).Nodup
  | [], _, h => h
  | _ :: r, _, h => by
    rw [List.foldl_cons]
    exact nd_addAll (nd_addN h)
theorem sorted_eq : ∀ {xs ys : List Int}, xs.Pairwise (· < ·) → ys.Pairwise (· < ·) → (∀ x, x ∈ xs ↔ x ∈ ys) → xs = ys
  | [], [], _, _, _ => rfl
  | [], y :: _, _, _, h => by have := (h y).mpr (by simp); cases this
  | x :: _, [], _, _, h => by have := (h x).mp (by simp); cases this
  | x :: r, y :: q, h1, h2, h => by
    rw [List.pairwise_cons] at h1 h2
    have e : x = y := by
      have a := (h x).mp (by simp)
      have b := (h y).mpr (by simp)
      rcases List.mem_cons.mp a with a | a
      · exact a
      · rcases List.mem_cons.mp b with b | b
        · exact b.symm
        · have := h1.1 y b
          have := h2.1 x a
          omega
    subst e
    rw [sorted_eq h1.2 h2.2 fun z => ?_]
    have := h z
    simp only [List.mem_cons] at this
    constructor
    · intro hz
      rcases this.mp (.inr hz) with rfl | k
      · have := h1.1 z hz
        omega
      · exact k
    · intro hz
      rcases this.mpr (.inr hz) with rfl | k
      · have := h2.1 z hz
        omega
      · exact k
theorem mem_cone {rs : List Rw} {ps : List Nat} {i : Nat} : i ∈ coneOf rs ps ↔ i < rs.length ∧ Rch rs ps i := by
  unfold coneOf
  rw [List.mem_filter]
  simp
/-- the keys, once they are closed, in order: the cone -/
theorem cone_eq {rs : List Rw} {ps ks : List Nat} {ys : List Int} (ok : RowsOk rs) (hp : ∀ p ∈ ps, p < rs.length) (h0 : ∀ p ∈ ps, p ∈ ks) (h1 : ∀ k ∈ ks, k < rs.length ∧ Rch rs ps k) (h2 : ∀ k ∈ ks, ∀ r, rs[k]? = some r → ∀ j ∈ r.refs, j ∈ ks) (nd : ks.Nodup)
    (pm : ys.Perm (ks.map fun i => ((i : Nat) : Int))) (so : ys.Pairwise (· ≤ ·)) : ys = (coneOf rs ps).map fun i => ((i : Nat) : Int) := by
  refine sorted_eq ?_ ?_ fun x => ?_
  · have nd2 : ys.Nodup := pm.symm.nodup (List.Pairwise.map _ (fun a b h e => h (by omega)) nd)
    exact (List.Pairwise.and so nd2).imp fun {a b} h => by have := h.1; have := h.2; omega
  · exact List.Pairwise.map _ (fun a b h => by omega) (cone_sorted rs ps)
  · rw [pm.mem_iff]
    simp only [List.mem_map]
    constructor
    · rintro ⟨i, hi, rfl⟩
      exact ⟨i, mem_cone.mpr (h1 i hi), rfl⟩
    · rintro ⟨i, hi, rfl⟩
      refine ⟨i, ?_, rfl⟩
      have hr := (mem_cone.mp hi).2
      induction hr with
      | pick h => exact h0 _ h
      | ref h e hj ih => exact h2 _ (ih (mem_cone.mpr ⟨by obtain ⟨z, _⟩ := List.getElem?_eq_some_iff.mp e; exact z, h⟩)) _ e _ hj
/-! ### a dict comprehension over anything that is walked -/
section
variable {J : It} {n : Nat} {G : Hp → Prop} {Y : Nat → Hp → V → Hp → Prop} {P : Program} {w : World}
theorem dcN_it (wk : Walk J n G Y) {g : TG} {tt : TT} {tk tv : TE} {vs : List Nat} {σ : L2.St} {H1 : Hp} {D : Addr} {Qd : Hp → Prop} (o : HO) (em : Emp P w D o) (Pv : Nat → Hp → Prop) (h0 : Pv 0 (upd H1 D o)) (hG : ∀ i H, i ≤ n → Pv i H → G H)
    (hs : ∀ i x H H', i < n → Pv i H → Y i H x H' → g x (wipe σ vs) H' fun σ2 H2 => wipe σ2 vs = wipe σ vs ∧ tt σ2 H2 fun b H3 =>
      if b = true then tk σ2 H3 fun y H4 => tv σ2 H4 fun z H5 => rPutC P w D y z H5 (Pv (i + 1)) else Pv (i + 1) H3) (hd : ∀ H, Pv n H → Qd H) :
    ∃ W : Nat → Nat → Hp → Prop, (∃ m o, Emp P w D o ∧ W 0 m (upd H1 D o)) ∧ ∀ i m H, W i m H →
      (J.stop i H ∧ Qd H) ∨ (J.go i H ∧ ∃ Nx : Hp → Prop, (∀ H', Nx H' → ∃ m', m' < m ∧ W (i + 1) m' H') ∧ ∀ x H', J.yld i H x H' → g x (wipe σ vs) H' fun σ2 H2 => wipe σ2 vs = wipe σ vs ∧ tt σ2 H2 fun b H3 =>
        if b = true then tk σ2 H3 fun y H4 => tv σ2 H4 fun z H5 => rPutC P w D y z H5 Nx else Nx H3) := by
  refine ⟨fun i m H => m = n - i ∧ i ≤ n ∧ Pv i H, ⟨n, o, em, by simp, Nat.zero_le _, h0⟩, ?_⟩
  rintro i m H ⟨rfl, hi, p⟩
  have q := hG i H hi p
  by_cases hlt : i < n
  · refine .inr ⟨wk.goes i H hlt q, Pv (i + 1), fun H' p' => ⟨n - (i + 1), by omega, rfl, hlt, p'⟩, fun x H' y => hs i x H H' hlt p (wk.yields i H x H' hlt q y)⟩
  · have e : i = n := by omega
    subst e
    exact .inl ⟨wk.stops H q, hd H p⟩
end
theorem none_of {H H2 : Hp} {p : Addr} (s : Same H H2) (h : H2 p = none) : H p = none := by
  cases e : H p with
  | none => rfl
  | some u => rw [s _ _ e] at h; cases h
theorem ixS_at {K : PySem.W.Frag} {H : Hp} {a : Addr} {xs : List V} {i : Nat} {x : V} {Q : VK} (h : Lt H a xs) (e : xs[i]? = some x) (q : Q x H) : rIx K (.ref a) (nV i) H Q := by
  rcases h with h | h
  · exact .inl ⟨a, xs, _, x, rfl, rfl, .inl (.inl h), atI_nat e, q⟩
  · exact .inr (.inl ⟨a, xs, _, x, rfl, rfl, .inl (.inl h), atI_nat e, q⟩)
def spBelow : Sp := fun vs H Q _ => ∃ (a b : Addr) (xs : List V) (rs : List Rw) (ps : List Nat), vs = [.ref a, .ref b] ∧ Lt H a xs ∧ RowsAt H xs rs ∧ RowsOk rs ∧ rs.length ≤ 40 ∧ Lt H b (ps.map nV) ∧ (∀ p ∈ ps, p < rs.length) ∧
  ∀ p H', Same H H' → H p = none → H' p = some (.lst ((coneOf rs ps).map nV)) → Q (.ref p) H'
section
variable {P : Program} {w : World} {K : PySem.W.Frag} {mg : Str → Option Value} {base : Heap} {cP cG cT : Addr} {f : Addr} {fd : FuncData} (T : Txt K w mg cP cG cT)
include T
theorem ok_below {C_named_by : Cal P w K mg base "named_by" 1 ["row"] spNamedBy} (F : FnP K "below" "below" s_below f fd) : FnOk P w K mg base CX0 2 f fd ["rows", "some"] spBelow := by
  refine okN F sc_below (fun vs H Q E h => ?_) (fun cdv A outer s H vs Q E hr h => ?_)
  · obtain ⟨a, b, xs, rs, ps, rfl, _⟩ := h
    rfl
  · obtain ⟨a, b, xs, rs, ps, rfl, hx, hrs, ok, hl, hb, hp, q⟩ := h
    have hxl := hrs.len
    refine ⟨_, (pss_cons (ps_setDcN (i := 3) (own := [("at", 2)]) (hu16 hr) rfl sc_below.nd rfl rfl (swD_true rfl rfl rfl (by decide +kernel)) (pi_sq (pv 1)) (blkOk_by (own := [("at", 2)]) (N := ["rows", "some", "at", "met", "other"]) (sc := defScope s_below) (by decide +kernel)) (fun _ _ _ _ _ => pg_name (i := 2) sc_below.nd rfl (Or.inl rfl)) (fun _ _ _ _ _ => pts_nil) (fun _ _ _ _ _ => (pv 2)) (fun _ _ _ _ _ => pe_bl))
      (pss_cons (ps_for PassesOwn.never rfl (pi_range3 rfl T.range_ (pa_cons (pe_op op_sub (pe_callB (lenS K) (by rfl) T.len_ b_len (pa_cons (pv 0) pa_nil)) pe_int) (pa_cons (pe_un un_neg pe_int) (pa_cons (pe_un un_neg pe_int) pa_nil)))) (pg_name (i := 2) sc_below.nd rfl (Or.inl rfl)) (pss_one (ps_if (pt_cmp (pc_din (hu_of hr) (pv 2) (pv 3)) rfl) (pss_one (ps_expr (pe_bm PySem.F.plainAttrs_dict PySem.F.slot_dict_update PySem.F.type_dict_update mt_updateK (pv 3) (pa_cons (pe_dcN (hu16 hr) (own := [("other", 4)]) rfl sc_below.nd (pi_sq (pe_cal C_named_by hr (pa_cons (pe_ix (ixS K) (pv 0) (pv 2) (fun _ _ => rfl)) pa_nil))) (blkOk_by (own := [("other", 4)]) (N := ["rows", "some", "at", "met", "other"]) (sc := defScope s_below) (by decide +kernel)) (fun _ _ _ _ _ => pg_name (i := 4) sc_below.nd rfl (Or.inl rfl)) (fun _ _ _ _ _ => pts_nil) (fun _ _ _ _ _ => (pv 4)) (fun _ _ _ _ _ => pe_bl)) pa_nil)))) pss_nil)))
      (pss_one (ps_ret (pe_callB (call_sortedDI rfl) (by rfl) T.sorted_ b_sorted (pa_cons (pv 3) pa_nil)))))), ?_⟩
    refine ⟨_, rfl, b, _, rfl, hb, fun J hJ D hD => ?_⟩
    refine dcN_it hJ (.dK []) (.inl rfl) (fun i H' => Same H H' ∧ H' D = some (.dK (bsE ((ps.take i).foldl addN [])))) ⟨same_new hD, upd_same⟩ (fun i H' hi h => same_of h.1 hb) (fun i x H9 H2 hi h y => ?_) (fun H1 h => ?_)
    · obtain ⟨rfl, hx⟩ := y
      obtain ⟨s2, hd⟩ := h
      rw [List.getElem?_map] at hx
      obtain ⟨p, hp', rfl⟩ := Option.map_eq_some_iff.mp hx
      refine ⟨rfl, yesT ?_⟩
      refine ⟨_, rfl, .inl ⟨_, Sum.inl ((p : Nat) : Int), rfl, hd, ?_, same_mut s2 hD, ?_⟩⟩
      · unfold bsE
        rw [List.length_map]
        refine sz_lt (Nat.lt_of_le_of_lt (nd_len 40 _ (nd_addAll List.nodup_nil) fun k hk => ?_) (by decide))
        have := mem_addAll.mp hk
        have := hp k (List.mem_of_mem_take (by simpa using this))
        omega
      · rw [upd_same, bs_put, List.take_add_one, hp', List.foldl_append]
        rfl
    · obtain ⟨s1, hd1⟩ := h
      have hx1 := hx.mono s1
      have hrs1 := hrs.mono s1
      rw [List.take_of_length_le (by simp)] at hd1
      refine ⟨_, rfl, a, xs, rfl, hx1.sq, _, _, rfl, rfl, _, rfl, _, rfl, _, _, _, _, rfl, RgC.neg (by omega) (by omega) (by omega) (by omega), ?_⟩
      refine for_rangeC (fun t σ H' => Same H H' ∧ (∃ u v, σ = [some (.ref a), some (.ref b), u, some (.ref D), v]) ∧ ∃ ks : List Nat, H' D = some (.dK (bsE ks)) ∧ ks.Nodup ∧ (∀ p ∈ ps, p ∈ ks) ∧ (∀ k ∈ ks, k < rs.length ∧ Rch rs ps k) ∧
        ∀ k ∈ ks, rs.length ≤ k + t → ∀ r, rs[k]? = some r → ∀ j ∈ r.refs, j ∈ ks) ⟨s1, ⟨_, _, rfl⟩, _, hd1, nd_addAll List.nodup_nil, fun p h => mem_addAll.mpr (.inr h), fun k hk => ?_, fun k hk hl' => ?_⟩ (fun t σ H2 ht h => ?_) (fun σ H2 h => ?_)
      · have := mem_addAll.mp hk
        have h' : k ∈ ps := by simpa using this
        exact ⟨hp k h', .pick h'⟩
      · have := mem_addAll.mp hk
        have h' : k ∈ ps := by simpa using this
        have := hp k h'
        omega
      · obtain ⟨s2, ⟨u, v, rfl⟩, ks, hd2, nd, k0, k1, k2⟩ := h
        have ht' : t < rs.length := by omega
        have ei : ((xs.length : Nat) : Int) - 1 + (t : Int) * (-1) = ((rs.length - 1 - t : Nat) : Int) := by omega
        show (fun x σ H Q => gName 2 x σ H Q) (V.int (((xs.length : Nat) : Int) - 1 + (t : Int) * (-1))) _ _ _
        rw [ei]
        generalize ej : rs.length - 1 - t = m
        have hm : m < rs.length := by omega
        refine ⟨_, rfl, _, rfl, D, _, rfl, DGet.k (k := Sum.inl ((m : Nat) : Int)) hd2, _, rfl, ?_⟩
        rw [bs_val]
        by_cases hmk : m ∈ ks
        · rw [if_pos hmk]
          refine iteT ?_
          obtain ⟨r, hr'⟩ : ∃ r, rs[m]? = some r := ⟨_, List.getElem?_eq_getElem hm⟩
          obtain ⟨ra, hra, har⟩ := hrs.get' hr'
          refine ⟨_, rfl, .inr (.inr (.inl ⟨rfl, .inl ⟨_, hd2⟩⟩)), ?_⟩
          have hx2 := hx.mono s2
          refine ⟨_, rfl, _, rfl, ?_⟩
          refine ixS_at hx2 hra ?_
          refine ⟨ra, r, rfl, s2 _ _ har, fun p H3 s3 np hp3 => ?_⟩
          refine ⟨p, _, rfl, .inl hp3, fun J3 hJ3 E3 hE3 => ?_⟩
          have hd3 := s3 _ _ hd2
          refine dcN_it hJ3 (.dK []) (.inl rfl) (fun i H' => Same H3 H' ∧ H' E3 = some (.dK (bsE ((r.refs.take i).foldl addN [])))) ⟨same_new hE3, upd_same⟩ (fun i H' hi h => same_of h.1 (.inl hp3)) (fun i x H9 H4 hi h y => ?_) (fun H4 h => ?_)
          · obtain ⟨rfl, hx⟩ := y
            obtain ⟨s4, hd⟩ := h
            rw [List.getElem?_map] at hx
            obtain ⟨j, hj, rfl⟩ := Option.map_eq_some_iff.mp hx
            refine ⟨rfl, yesT ?_⟩
            refine ⟨_, rfl, .inl ⟨_, Sum.inl ((j : Nat) : Int), rfl, hd, ?_, same_mut s4 hE3, ?_⟩⟩
            · unfold bsE
              rw [List.length_map]
              refine sz_lt (Nat.lt_of_le_of_lt (nd_len 40 _ (nd_addAll List.nodup_nil) fun k hk => ?_) (by decide))
              have := mem_addAll.mp hk
              have := (ok m r hr').refs (List.mem_of_mem_take (by simpa using this))
              omega
            · rw [upd_same, bs_put, List.take_add_one, hj, List.foldl_append]
              rfl
          · obtain ⟨s4, hd⟩ := h
            rw [List.take_of_length_le (by simp)] at hd
            have hd4 := s4 _ _ hd3
            have hne : D ≠ E3 := ne_of_none hd3 hE3
            have hk' : ∀ k ∈ (r.refs.foldl addN []), k < rs.length := fun k hk => by
              have h' := mem_addAll.mp hk
              have := (ok m r hr').refs (by simpa using h')
              omega
            have hlen1 := nd_len 40 ks nd fun k hk => by have := (k1 k hk).1; omega
            have hlen2 := nd_len 40 _ (nd_addAll (more := r.refs) List.nodup_nil) fun k hk => by have := hk' k hk; omega
            refine ⟨D, E3, _, _, rfl, rfl, hne, hd4, hd, ?_, ?_⟩
            · unfold bsE
              rw [List.length_map, List.length_map]
              exact sz_le (by omega)
            · rw [bs_merge]
              have s5 := (s2.trans s3).trans s4
              refine ⟨same_mut s5 hD, ⟨_, _, rfl⟩, _, upd_same, nd_addAll nd, fun p hp => mem_addAll.mpr (.inl (k0 p hp)), fun k hk => ?_, fun k hk hl' r' hr2 j hj => ?_⟩
              · rcases mem_addAll.mp hk with h | h
                · exact k1 k h
                · have h3 : k ∈ r.refs := by simpa using mem_addAll.mp h
                  exact ⟨hk' k h, .ref (k1 m hmk).2 hr' h3⟩
              · rcases mem_addAll.mp hk with h | h
                · by_cases e : k = m
                  · subst e
                    rw [hr'] at hr2
                    cases hr2
                    exact mem_addAll.mpr (.inr (mem_addAll.mpr (.inr hj)))
                  · exact mem_addAll.mpr (.inl (k2 k h (by omega) r' hr2 j hj))
                · by_cases e : k = m
                  · subst e
                    rw [hr'] at hr2
                    cases hr2
                    exact mem_addAll.mpr (.inr (mem_addAll.mpr (.inr hj)))
                  · have h3 : k ∈ r.refs := by simpa using mem_addAll.mp h
                    have := (ok m r hr').refs h3
                    omega
        · rw [if_neg hmk]
          refine iteF ?_
          refine ⟨s2, ⟨_, _, rfl⟩, ks, hd2, nd, k0, k1, fun k hk hl' => ?_⟩
          by_cases e : k = m
          · exact absurd (e ▸ hk) hmk
          · exact k2 k hk (by omega)
      · obtain ⟨s2, ⟨u, v, rfl⟩, ks, hd2, nd, k0, k1, k2⟩ := h
        refine ⟨_, rfl, D, _, ks.map fun i => ((i : Nat) : Int), rfl, .inl hd2, ?_, ?_, fun ys p pm so np => ?_⟩
        · simp [bsE]
        · rw [List.length_map]
          have := nd_len 40 ks nd fun k hk => by have := (k1 k hk).1; omega
          omega
        · have e := cone_eq ok hp k0 k1 (fun k hk => k2 k hk (by have := (k1 k hk).1; omega)) nd pm so
          refine q p _ (s2.trans (same_new np)) ?_ ?_
          · exact none_of s2 np
          · rw [upd_same, e, List.map_map]
            rfl
end
end Lk

set_option maxHeartbeats 4000000
namespace Lk
open PySem PySem.Spec PyProof.Rows L2
theorem minS {X : Cx} (K : PySem.W.Frag) (hc : X.calm = true) (h : X.K = K := by rfl) : CallR X (.builtin "min") (rMin K) := h ▸ cr_min hc
theorem tupS {X : Cx} (K : PySem.W.Frag) (h : X.K = K := by rfl) : CallR X (.type "tuple") (fun xs H Q => ∃ p ys, xs = [.ref p] ∧ ((SqL K H p ys ∧ ∀ l, H l = none → Q (.ref l) (upd H l (.tup ys))) ∨ (SqT K H p ys ∧ Q (.ref p) H))) := h ▸ call_tuple_of
theorem lstS {X : Cx} (K : PySem.W.Frag) (h : X.K = K := by rfl) : CallR X (.type "list") (fun xs H Q => ∃ p ys, xs = [.ref p] ∧ (SqL K H p ys ∨ SqT K H p ys) ∧ ∀ l, H l = none → Q (.ref l) (upd H l (.lst ys))) := h ▸ call_list_of
theorem walk_zipT {K : PySem.W.Frag} {a b : Addr} {xs ys : List V} {n : Nat} (hn : n = min xs.length ys.length) : Walk (RZ.ItzT K a b) n (fun H => SqT K H a xs ∧ SqT K H b ys) (YPair (fun i => xs[i]?) (fun i => ys[i]?)) := by
  subst hn
  refine ⟨fun i _ hi q => ?_, fun _ q => ⟨xs, ys, q.1, q.2, by omega⟩, fun i H v H' _ q y => ?_⟩
  · have h1 : i < xs.length := by omega
    have h2 : i < ys.length := by omega
    exact ⟨xs, ys, xs[i], ys[i], q.1, q.2, by simp [h1], by simp [h2]⟩
  · obtain ⟨T, x, z, h1, h2, h3, h4, h5⟩ := y
    exact ⟨T, x, z, h1, h2, h3, h4 xs q.1, h5 ys q.2⟩
/-- tuple(x), x a list or a tuple -/
theorem tupA {X : Cx} : CallR X (.type "tuple") (fun vs H Q => ∃ a xs, vs = [.ref a] ∧ Lt H a xs ∧ ∀ p H', Same H H' → H' p = some (.tup xs) → Q (.ref p) H') := by
  intro pins s σ H xs us Q I r h
  obtain ⟨a, ys, rfl, hl, q⟩ := h
  refine call_tuple_of pins s σ H _ us Q I r ⟨a, ys, rfl, ?_⟩
  rcases hl with h | h
  · exact .inl ⟨.inl (.inl h), fun l hl => q l _ (same_new hl) upd_same⟩
  · exact .inr ⟨.inl (.inl h), q a H (fun _ _ e => e) h⟩
theorem ne_x {H : Hp} {x p : Addr} {o u : HO} (hx : H x = some o) (hp : H p = some u) (h : o ≠ u) : p ≠ x := by
  rintro rfl
  rw [hx] at hp
  exact h (Option.some.inj hp)
def SameX (x : Addr) (H H' : Hp) : Prop := ∀ a u, a ≠ x → H a = some u → H' a = some u
theorem SameX.trans {x : Addr} {H H1 H2 : Hp} (h1 : SameX x H H1) (h2 : SameX x H1 H2) : SameX x H H2 := fun a u n e => h2 a u n (h1 a u n e)
theorem sx {x : Addr} {H H' : Hp} (h : Same H H') : SameX x H H' := fun a u _ e => h a u e
theorem sameX_upd {x : Addr} {H : Hp} {o : HO} : SameX x H (upd H x o) := fun a u n e => by rw [upd_ne n]; exact e
theorem ne_l {H : Hp} {x p C dx : Addr} {fs : List (Str × V)} {xs : List V} (hx : H x = some (.ins C dx fs)) (h : Lt H p xs) : p ≠ x := by
  rcases h with h | h
  · exact ne_x hx h (by simp)
  · exact ne_x hx h (by simp)
theorem Lt.monoX {H H' : Hp} {x p C dx : Addr} {fs : List (Str × V)} {xs : List V} (s : SameX x H H') (hx : H x = some (.ins C dx fs)) (h : Lt H p xs) : Lt H' p xs := h.imp (s _ _ (ne_l hx h)) (s _ _ (ne_l hx h))
theorem RowsAt.monoX {H H' : Hp} {x C dx : Addr} {fs : List (Str × V)} {xs : List V} {rs : List Rw} (s : SameX x H H') (hx : H x = some (.ins C dx fs)) (h : RowsAt H xs rs) : RowsAt H' xs rs := by
  induction h with
  | nil => exact .nil
  | cons h _ ih =>
    obtain ⟨a, e, h⟩ := h
    exact .cons ⟨a, e, s _ _ (ne_x hx h (by simp)) h⟩ ih
def spNeedMoves : Sp := fun vs H Q _ => ∃ a ms, vs = [.ref a] ∧ Lt H a (ms.map V.str) ∧ Mv ms ∧ ∀ H', Same H H' → Q .non H'
def spPlayer (cP : Addr) : Sp := fun vs H Q _ => ∃ x dx a b c xs P, vs = [.ref x, .ref a, .ref b, .ref c] ∧ H x = some (.ins cP dx []) ∧ Lt H a (P.moves.map V.str) ∧ Lt H b xs ∧ RowsAt H xs P.rows ∧ Lt H c (P.picks.map nV) ∧ P.Ok ∧
  ∀ H', SameX x H H' → PlAt cP H' x P → Q .non H'
section
variable {P : Program} {w : World} {K : PySem.W.Frag} {mg : Str → Option Value} {base : Heap} {cP cG cT : Addr} {f : Addr} {fd : FuncData} (T : Txt K w mg cP cG cT)
include T
theorem ok_need_moves {C_are_moves : Cal P w K mg base "are_moves" 2 ["thing"] spAreMoves} (F : FnP K "need_moves" "need_moves" s_need_moves f fd) : FnOk P w K mg base CX0 3 f fd ["thing"] spNeedMoves := by
  refine okN F sc_need_moves (fun vs H Q E h => ?_) (fun cdv A outer s H vs Q E hr h => ?_)
  · obtain ⟨a, ms, rfl, _⟩ := h
    rfl
  · obtain ⟨a, ms, rfl, hx, mv, q⟩ := h
    refine ⟨_, (pss_one (ps_if (pt_not (pt_val (pe_cal C_are_moves hr (pa_cons (pv 0) pa_nil)))) (pss_one ps_never) pss_nil)), ?_⟩
    refine ⟨_, rfl, a, ms, rfl, hx, mv, fun H1 s1 => ⟨true, rfl, ?_⟩⟩
    refine iteF ?_
    exact q H1 s1
theorem ok_Player {C_need_moves : Cal P w K mg base "need_moves" 3 ["thing"] spNeedMoves} {C_need_rows : Cal P w K mg base "need_rows" 3 ["rows"] spNeedRows} {C_is_list : Cal P w K mg base "is_list" 1 ["thing"] spIsList} {C_down_ones : Cal P w K mg base "down_ones" 2 ["rows"] spDownOnes}
    {C_is_number : Cal P w K mg base "is_number" 1 ["thing", "low", "high"] spIsNumber} {C_below : Cal P w K mg base "below" 2 ["rows", "some"] spBelow} (F : FnP K "__init__" "Player.__init__" s_Player___init__ f fd) :
    FnOk P w K mg base CX0 4 f fd ["self", "moves", "rows", "chosen"] (spPlayer cP) := by
  refine okN F sc_Player___init (fun vs H Q E h => ?_) (fun cdv A outer s H vs Q E hr h => ?_)
  · obtain ⟨x, dx, a, b, c, xs, P, rfl, _⟩ := h
    rfl
  · obtain ⟨x, dx, a, b, c, xs, P, rfl, hx, ha, hb, hrs, hc, ok, q⟩ := h
    have hxl := hrs.len
    have hl2 := ok.len
    have hnp := ok.np
    refine ⟨_, (pss_cons (ps_expr (pe_cal C_need_moves hr (pa_cons (pv 1) pa_nil)))
      (pss_cons (ps_expr (pe_cal C_need_rows hr (pa_cons (pv 2) pa_nil)))
      (pss_cons (ps_if (pt_not (pt_val (pe_cal C_is_list hr (pa_cons (pv 3) pa_nil)))) (pss_one ps_never) pss_nil)
      (pss_cons (ps_set (i := 4) sc_Player___init.nd rfl (Or.inl rfl) (pe_cal C_down_ones hr (pa_cons (pv 2) pa_nil)))
      (pss_cons (ps_for PassesOwn.never rfl (pi_range1 rfl T.range_ (pa_cons (pe_callB (call_max2 rfl) (by rfl) T.max_ b_max (pa_cons (pe_callB (lenS K) (by rfl) T.len_ b_len (pa_cons (pv 3) pa_nil)) (pa_cons (pe_op op_sub (pe_callB (lenS K) (by rfl) T.len_ b_len (pa_cons (pv 1) pa_nil)) pe_int) pa_nil))) pa_nil)) (pg_name (i := 5) sc_Player___init.nd rfl (Or.inl rfl)) (pss_cons (ps_if (PW.pt (pw_or (pt_cmpR op_eq (pv 5) (pe_op op_sub (pe_callB (lenS K) (by rfl) T.len_ b_len (pa_cons (pv 1) pa_nil)) pe_int) (nomark _)) (pw_or1 (pt_cmpR op_eq (pv 5) (pe_callB (lenS K) (by rfl) T.len_ b_len (pa_cons (pv 3) pa_nil)) (nomark _))))) (pss_one ps_never) pss_nil)
      (pss_one (ps_if (PW.pt (pw_or (pt_not (pt_val (pe_cal C_is_number hr (pa_cons (pe_ix (ixS K) (pv 3) (pv 5) (fun _ _ => rfl)) (pa_cons pe_int (pa_cons (pe_op op_sub (pe_callB (lenS K) (by rfl) T.len_ b_len (pa_cons (pv 2) pa_nil)) pe_int) pa_nil)))))) (pw_or1 (pt_not (pt_val (pe_ix (ixL K) (pv 4) (pe_ix (ixS K) (pv 3) (pv 5) (fun _ _ => rfl)) (fun _ _ => rfl))))))) (pss_one ps_never) pss_nil))))
      (pss_cons (ps_fld (pv 0) (pe_callTy tupA (by rfl) T.tuple_ b_tuple (pa_cons (pv 1) pa_nil)) rfl)
      (pss_cons (ps_fld (pv 0) (pe_callTy tupA (by rfl) T.tuple_ b_tuple (pa_cons (pv 2) pa_nil)) rfl)
      (pss_cons (ps_fld (pv 0) (pe_callTy tupA (by rfl) T.tuple_ b_tuple (pa_cons (pv 3) pa_nil)) rfl)
      (pss_one (ps_fld (pv 0) (pe_cal C_below hr (pa_cons (fldK K (pv 0) rfl) (pa_cons (fldK K (pv 0) rfl) pa_nil))) rfl)))))))))), ?_⟩
    refine ⟨_, rfl, a, _, rfl, ha, ok.mv, fun H1 s1 => ?_⟩
    refine ⟨_, rfl, b, xs, _, rfl, hb.mono s1, hrs.mono s1, ok.rows, ok.len, fun H2 s2 => ?_⟩
    have s2 := s1.trans s2
    refine ⟨_, rfl, c, _, rfl, hc.mono s2, fun H3 s3 => ⟨true, rfl, ?_⟩⟩
    have s3 := s2.trans s3
    refine iteF ?_
    refine ⟨_, rfl, b, xs, _, rfl, hb.mono s3, hrs.mono s3, ok.rows, ok.len, fun d H4 s4 nd hd4 => ?_⟩
    have s4 := s3.trans s4
    have ha4 := ha.mono s4
    have hb4 := hb.mono s4
    have hc4 := hc.mono s4
    refine ⟨_, rfl, c, _, rfl, hc4.sq, _, rfl, a, _, rfl, ha4.sq, _, _, rfl, rfl, _, _, rfl, ?_⟩
    have emax : (if (((P.moves.map V.str).length : Nat) : Int) - 1 > (((P.picks.map nV).length : Nat) : Int) then (((P.moves.map V.str).length : Nat) : Int) - 1 else (((P.picks.map nV).length : Nat) : Int)) = ((P.picks.length : Nat) : Int) := by
      rw [List.length_map, List.length_map, if_neg (by omega)]
    rw [emax]
    have hpl : P.picks.length ≤ 3 := by have := ok.mv.few; omega
    refine ⟨_, rfl, by omega, by omega, ?_⟩
    rw [Int.toNat_natCast]
    refine for_range (fun i σ H' => Same H4 H' ∧ ∃ u, σ = [some (.ref x), some (.ref a), some (.ref b), some (.ref c), some (.ref d), u]) ⟨fun _ _ e => e, _, rfl⟩ (fun i σ H5 hi h => ?_) (fun σ H5 h => ?_)
    · obtain ⟨s5, u, rfl⟩ := h
      have ha5 := ha4.mono s5
      have hb5 := hb4.mono s5
      have hc5 := hc4.mono s5
      have hd5 := s5 _ _ hd4
      obtain ⟨p, hp⟩ : ∃ p, P.picks[i]? = some p := ⟨_, List.getElem?_eq_getElem hi⟩
      obtain ⟨p1, p2⟩ := ok.pk p (List.mem_of_getElem? hp)
      show (fun x σ H Q => gName 5 x σ H Q) (V.int (0 + (i : Int))) _ _ _
      rw [show (0 + (i : Int)) = (i : Int) by omega]
      refine ⟨_, rfl, _, rfl, a, _, rfl, ha5.sq, _, _, rfl, rfl, rfl, _, rfl, ?_⟩
      refine ifF (by intro z; injection z with z; rw [List.length_map] at z; omega) ?_
      refine ⟨_, rfl, _, rfl, c, _, rfl, hc5.sq, rfl, _, rfl, ?_⟩
      refine ifF (by intro z; injection z with z; rw [List.length_map] at z; omega) ?_
      refine ⟨_, rfl, _, rfl, ixS_at hc5 (by rw [List.getElem?_map, hp]; rfl) ?_⟩
      refine ⟨_, rfl, b, _, rfl, hb5.sq, _, _, rfl, rfl, _, _, _, rfl, ?_⟩
      rw [decide_eq_true (by omega), decide_eq_true (by omega)]
      refine ⟨true, rfl, ?_⟩
      refine iteF ?_
      refine ⟨_, rfl, _, rfl, _, rfl, ixS_at hc5 (by rw [List.getElem?_map, hp]; rfl) ?_⟩
      refine ⟨d, _, _, .bl true, rfl, rfl, .inl (.inl hd5), atI_nat (by rw [List.getElem?_map, p2]; rfl), true, rfl, ?_⟩
      refine iteF ?_
      exact ⟨s5, _, rfl⟩
    · obtain ⟨s5, u, rfl⟩ := h
      have s5 := s4.trans s5
      refine ⟨_, rfl, a, _, rfl, ha.mono s5, fun w1 H6 s6 hw1 => ?_⟩
      have s6 := s5.trans s6
      have hx6 := s6 _ _ hx
      refine ⟨_, rfl, x, _, _, _, rfl, hx6, T.clP, T.naP _ (by simp), by decide, ?_⟩
      have z6 : SameX x H (upd H6 x (.ins cP dx [("ways", .ref w1)])) := (sx s6).trans sameX_upd
      have hw1 : (upd H6 x (.ins cP dx [("ways", .ref w1)])) w1 = some (.tup (P.moves.map V.str)) := by rw [upd_ne (ne_x hx6 hw1 (by simp))]; exact hw1
      have hx6 : (upd H6 x (.ins cP dx [("ways", .ref w1)])) x = some (.ins cP dx [("ways", .ref w1)]) := upd_same
      show tSeq _ _ _ _ (upd H6 x (.ins cP dx [("ways", .ref w1)]))
      generalize upd H6 x (.ins cP dx [("ways", .ref w1)]) = H7 at z6 hw1 hx6
      have hb7 : Lt H7 b xs := hb.imp (z6 _ _ (ne_l hx hb)) (z6 _ _ (ne_l hx hb))
      refine ⟨_, rfl, b, xs, rfl, hb7, fun w2 H8 s8 hw2 => ?_⟩
      have z8 := z6.trans (sx s8)
      have hx8 := s8 _ _ hx6
      refine ⟨_, rfl, x, _, _, _, rfl, hx8, T.clP, T.naP _ (by simp), by simp, ?_⟩
      have e2 : putF "lines" (.ref w2) [("ways", V.ref w1)] = ([("ways", V.ref w1), ("lines", V.ref w2)] : List (Str × V)) := by rfl
      rw [e2]
      have z9 : SameX x H (upd H8 x (.ins cP dx [("ways", .ref w1), ("lines", .ref w2)])) := z8.trans sameX_upd
      have hw1 : (upd H8 x (.ins cP dx [("ways", .ref w1), ("lines", .ref w2)])) w1 = some (.tup (P.moves.map V.str)) := by rw [upd_ne (ne_x hx8 (s8 _ _ hw1) (by simp))]; exact s8 _ _ hw1
      have hw2 : (upd H8 x (.ins cP dx [("ways", .ref w1), ("lines", .ref w2)])) w2 = some (.tup xs) := by rw [upd_ne (ne_x hx8 hw2 (by simp))]; exact hw2
      have hx9 : (upd H8 x (.ins cP dx [("ways", .ref w1), ("lines", .ref w2)])) x = some (.ins cP dx [("ways", .ref w1), ("lines", .ref w2)]) := upd_same
      generalize upd H8 x (.ins cP dx [("ways", .ref w1), ("lines", .ref w2)]) = H9 at z9 hw1 hw2 hx9
      refine ⟨_, rfl, c, _, rfl, hc.monoX z9 hx, fun w3 HA sA hw3 => ?_⟩
      have zA := z9.trans (sx sA)
      have hxA := sA _ _ hx9
      have hw1 := sA _ _ hw1
      have hw2 := sA _ _ hw2
      refine ⟨_, rfl, x, _, _, _, rfl, hxA, T.clP, T.naP _ (by simp), by simp, ?_⟩
      have e3 : putF "picks" (.ref w3) [("ways", V.ref w1), ("lines", V.ref w2)] = ([("ways", V.ref w1), ("lines", V.ref w2), ("picks", V.ref w3)] : List (Str × V)) := by rfl
      rw [e3]
      have zB : SameX x H (upd HA x (.ins cP dx [("ways", .ref w1), ("lines", .ref w2), ("picks", .ref w3)])) := zA.trans sameX_upd
      have hw1 : (upd HA x (.ins cP dx [("ways", .ref w1), ("lines", .ref w2), ("picks", .ref w3)])) w1 = some (.tup (P.moves.map V.str)) := by rw [upd_ne (ne_x hxA hw1 (by simp))]; exact hw1
      have hw2 : (upd HA x (.ins cP dx [("ways", .ref w1), ("lines", .ref w2), ("picks", .ref w3)])) w2 = some (.tup xs) := by rw [upd_ne (ne_x hxA hw2 (by simp))]; exact hw2
      have hw3 : (upd HA x (.ins cP dx [("ways", .ref w1), ("lines", .ref w2), ("picks", .ref w3)])) w3 = some (.tup (P.picks.map nV)) := by rw [upd_ne (ne_x hxA hw3 (by simp))]; exact hw3
      have hxB : (upd HA x (.ins cP dx [("ways", .ref w1), ("lines", .ref w2), ("picks", .ref w3)])) x = some (.ins cP dx [("ways", .ref w1), ("lines", .ref w2), ("picks", .ref w3)]) := upd_same
      generalize upd HA x (.ins cP dx [("ways", .ref w1), ("lines", .ref w2), ("picks", .ref w3)]) = HB at zB hw1 hw2 hw3 hxB
      refine ⟨_, rfl, x, _, _, _, _, rfl, hxB, T.clP, T.naP _ (by simp), rfl, ?_⟩
      refine ⟨_, rfl, x, _, _, _, _, rfl, hxB, T.clP, T.naP _ (by simp), rfl, ?_⟩
      have hrB := hrs.monoX zB hx
      refine ⟨w2, w3, xs, _, _, rfl, .inr hw2, hrB, ok.rows, ok.len, .inr hw3, fun p hp => (ok.pk p hp).1, fun w4 HC sC nw4 hw4 => ?_⟩
      have hxC := sC _ _ hxB
      refine ⟨_, rfl, x, _, _, _, rfl, hxC, T.clP, T.naP _ (by simp), by simp, ?_⟩
      have e4 : putF "cone" (.ref w4) [("ways", V.ref w1), ("lines", V.ref w2), ("picks", V.ref w3)] = ([("ways", V.ref w1), ("lines", V.ref w2), ("picks", V.ref w3), ("cone", V.ref w4)] : List (Str × V)) := by rfl
      rw [e4]
      have zC := zB.trans (sx sC)
      have zD : SameX x HC (upd HC x (.ins cP dx [("ways", .ref w1), ("lines", .ref w2), ("picks", .ref w3), ("cone", .ref w4)])) := sameX_upd
      refine q _ (zC.trans zD) ⟨dx, w1, w2, w3, w4, xs, upd_same, zD _ _ (ne_x hxC (sC _ _ hw1) (by simp)) (sC _ _ hw1), zD _ _ (ne_x hxC (sC _ _ hw2) (by simp)) (sC _ _ hw2), (hrB.mono sC).monoX zD hxC, zD _ _ (ne_x hxC (sC _ _ hw3) (by simp)) (sC _ _ hw3), zD _ _ (ne_x hxC hw4 (by simp)) hw4⟩
end
end Lk

set_option maxHeartbeats 4000000
namespace Lk
open PySem PySem.Spec PyProof.Rows PySem.W L2
def spMoves (cP : Addr) : Sp := fun vs H Q _ => ∃ p P, vs = [.ref p] ∧ PlAt cP H p P ∧ ∀ a, H a = some (.tup (P.moves.map V.str)) → Q (.ref a) H
def spRows (cP : Addr) : Sp := fun vs H Q _ => ∃ p P, vs = [.ref p] ∧ PlAt cP H p P ∧ ∀ a xs, H a = some (.tup xs) → RowsAt H xs P.rows → Q (.ref a) H
def spChosen (cP : Addr) : Sp := fun vs H Q _ => ∃ p P, vs = [.ref p] ∧ PlAt cP H p P ∧ ∀ a, H a = some (.tup (P.picks.map nV)) → Q (.ref a) H
def spShowns (cP : Addr) : Sp := fun vs H Q _ => ∃ p P, vs = [.ref p] ∧ PlAt cP H p P ∧ P.rows.length ≤ 40 ∧ ∀ q H', Same H H' → H q = none → H' q = some (.lst (P.marks.map nV)) → Q (.ref q) H'
def spTop (cP : Addr) : Sp := fun vs H Q _ => ∃ p P, vs = [.ref p] ∧ PlAt cP H p P ∧ P.rows.length ≤ 40 ∧ ∀ H', Same H H' → Q (nV P.high) H'
theorem fm_filter (g : Nat → Bool) : ∀ js : List Nat, (js.map nV).filterMap (fun x => match x with | .int j => if g j.toNat then some x else none | _ => none) = (js.filter g).map nV
  | [] => rfl
  | j :: r => by
    rw [List.map_cons, List.filterMap_cons, List.filter_cons]
    simp only [fm_filter g r, Int.toNat_natCast]
    by_cases h : g j = true
    · simp [h]
    · simp [h]
theorem range_fmA {α β : Type} (xs : List α) (f : α → Option β) : (List.range xs.length).filterMap (fun i => (xs[i]?).bind f) = xs.filterMap f := by
  induction xs with
  | nil => rfl
  | cons x r ih =>
    rw [List.length_cons, List.range_succ_eq_map, List.filterMap_cons, List.filterMap_map]
    have e : ((fun i => ((x :: r)[i]?).bind f) ∘ Nat.succ) = fun i => (r[i]?).bind f := by funext i; simp
    rw [e, ih]
    cases h : f x <;> simp [h]
theorem range_mapA {α β : Type} (xs : List α) (f : α → β) : (List.range xs.length).filterMap (fun i => (xs[i]?).map f) = xs.map f := by
  have := range_fmA xs (fun x => some (f x))
  rw [List.filterMap_eq_map'] at this
  rw [← this]
  congr 1
  funext i
  cases xs[i]? <;> rfl
theorem fm_if {α β : Type} (g : α → Bool) (h : α → β) : ∀ js : List α, js.filterMap (fun j => if g j = true then some (h j) else none) = (js.filter g).map h
  | [] => rfl
  | j :: r => by
    rw [List.filterMap_cons, List.filter_cons, fm_if g h r]
    by_cases q : g j = true
    · simp [q]
    · simp [q]
theorem sh_word (r : Rw) : decide (V.str r.word = V.str "shown") = r.isSh := by
  cases r
  · exact eqvF (str_ne (a := "false") (by decide))
  · exact eqvF (str_ne (a := "does") (by decide))
  · exact eqvF (str_ne (a := "not") (by decide))
  · exact eqvF (str_ne (a := "and") (by decide))
  · exact eqvF (str_ne (a := "or") (by decide))
  · exact eqvT rfl
theorem cone_lt {P : Pl} {i : Nat} (h : i ∈ P.cone) : i < P.rows.length := (mem_cone.mp h).1
theorem cone_len (P : Pl) (h : P.rows.length ≤ 40) : P.cone.length ≤ 40 := by
  refine nd_len 40 _ ?_ fun k hk => by have := cone_lt hk; omega
  exact (cone_sorted P.rows P.picks).imp fun {a b} h => by omega
theorem marks_len (P : Pl) (h : P.rows.length ≤ 40) : P.marks.length ≤ 40 := Nat.le_trans (List.length_filter_le _ _) (cone_len P h)
theorem mem_marks {P : Pl} {i : Nat} : i ∈ P.marks ↔ i ∈ P.cone ∧ shAt P.rows i = true := by
  unfold Pl.marks
  rw [List.mem_filter]
theorem sh_row {P : Pl} {i : Nat} (h : i ∈ P.marks) : ∃ k j, P.rows[i]? = some (.sh k j) ∧ levAt P.rows i = k ∧ innAt P.rows i = j := by
  obtain ⟨h1, h2⟩ := mem_marks.mp h
  have hi := cone_lt h1
  unfold shAt at h2
  rw [List.getElem?_eq_getElem hi] at h2
  cases e : P.rows[i] with
  | sh k j => exact ⟨k, j, by rw [List.getElem?_eq_getElem hi, e], by unfold levAt; rw [List.getElem?_eq_getElem hi, e]; rfl, by unfold innAt; rw [List.getElem?_eq_getElem hi, e]; rfl⟩
  | _ => rw [e] at h2; cases h2
theorem max_cast : ∀ (ls : List Nat) (a : Nat), maxOf ((a : Nat) : Int) (ls.map fun i => ((i : Nat) : Int)) = ((ls.foldl max a : Nat) : Int) := by
  intro ls
  induction ls with
  | nil => intro a; rfl
  | cons x r ih =>
    intro a
    show List.foldl _ (if DatumOrd.lt ((a : Nat) : Int) ((x : Nat) : Int) = true then ((x : Nat) : Int) else ((a : Nat) : Int)) _ = _
    have e : (if DatumOrd.lt ((a : Nat) : Int) ((x : Nat) : Int) = true then ((x : Nat) : Int) else ((a : Nat) : Int)) = ((max a x : Nat) : Int) := by
      have h : DatumOrd.lt ((a : Nat) : Int) ((x : Nat) : Int) = decide (((a : Nat) : Int) < ((x : Nat) : Int)) := rfl
      rw [h]
      by_cases q : a < x
      · rw [decide_eq_true (by omega)]
        simp
        omega
      · rw [decide_eq_false (by omega)]
        simp
        omega
    rw [e]
    exact ih _
section
variable {P : Program} {w : World} {K : PySem.W.Frag} {mg : Str → Option Value} {base : Heap} {cP cG cT : Addr} {f : Addr} {fd : FuncData} (T : Txt K w mg cP cG cT)
include T
theorem ok_moves (F : FnP K "moves" "Player.moves" s_Player_moves f fd) : FnOk P w K mg base CX0 1 f fd ["self"] (spMoves cP) := by
  refine okN F sc_Player_moves (fun vs H Q E h => ?_) (fun cdv A outer s H vs Q E hr h => ?_)
  · obtain ⟨p, P, rfl, _⟩ := h
    rfl
  · obtain ⟨p, P, rfl, hp, q⟩ := h
    obtain ⟨dx, a, b, c, d, xs, h1, h2, h3, h4, h5, h6⟩ := hp.ex
    refine ⟨_, (pss_one (ps_ret (fldK K (pv 0) rfl))), ?_⟩
    exact ⟨_, rfl, p, _, _, _, _, rfl, h1, T.clP, T.naP _ (by simp), rfl, q a h2⟩
theorem ok_rows (F : FnP K "rows" "Player.rows" s_Player_rows f fd) : FnOk P w K mg base CX0 1 f fd ["self"] (spRows cP) := by
  refine okN F sc_Player_rows (fun vs H Q E h => ?_) (fun cdv A outer s H vs Q E hr h => ?_)
  · obtain ⟨p, P, rfl, _⟩ := h
    rfl
  · obtain ⟨p, P, rfl, hp, q⟩ := h
    obtain ⟨dx, a, b, c, d, xs, h1, h2, h3, h4, h5, h6⟩ := hp.ex
    refine ⟨_, (pss_one (ps_ret (fldK K (pv 0) rfl))), ?_⟩
    exact ⟨_, rfl, p, _, _, _, _, rfl, h1, T.clP, T.naP _ (by simp), rfl, q b xs h3 h4⟩
theorem ok_chosen (F : FnP K "chosen" "Player.chosen" s_Player_chosen f fd) : FnOk P w K mg base CX0 1 f fd ["self"] (spChosen cP) := by
  refine okN F sc_Player_chosen (fun vs H Q E h => ?_) (fun cdv A outer s H vs Q E hr h => ?_)
  · obtain ⟨p, P, rfl, _⟩ := h
    rfl
  · obtain ⟨p, P, rfl, hp, q⟩ := h
    obtain ⟨dx, a, b, c, d, xs, h1, h2, h3, h4, h5, h6⟩ := hp.ex
    refine ⟨_, (pss_one (ps_ret (fldK K (pv 0) rfl))), ?_⟩
    exact ⟨_, rfl, p, _, _, _, _, rfl, h1, T.clP, T.naP _ (by simp), rfl, q c h5⟩
theorem ok_showns (F : FnP K "showns" "Player.showns" s_Player_showns f fd) : FnOk P w K mg base CX0 1 f fd ["self"] (spShowns cP) := by
  refine okN F sc_Player_showns (fun vs H Q E h => ?_) (fun cdv A outer s H vs Q E hr h => ?_)
  · obtain ⟨p, P, rfl, _⟩ := h
    rfl
  · obtain ⟨p, P, rfl, hp, hl, q⟩ := h
    obtain ⟨dx, a, b, c, d, xs, h1, h2, h3, h4, h5, h6⟩ := hp.ex
    refine ⟨_, (pss_one (ps_ret (pe_lc (own := [("at", 1)]) rfl sc_Player_showns.nd (pi_sq (fldK K (pv 0) rfl)) (blkOk_by (own := [("at", 1)]) (N := ["self", "at"]) (sc := defScope s_Player_showns) (by decide +kernel)) (fun _ _ _ _ _ => pg_name (i := 1) sc_Player_showns.nd rfl (Or.inl rfl)) (fun _ _ _ _ _ => pts_one (pt_cmpR op_eq (pe_ix (ixT K) (pe_ix (ixT K) (fldK K (pv 0) rfl) (pv 1) (fun _ _ => rfl)) pe_int (fun _ _ => rfl)) pe_str (nomark _))) (fun _ _ _ _ _ => (pv 1))))), ?_⟩
    refine ⟨_, rfl, p, _, _, _, _, rfl, h1, T.clP, T.naP _ (by simp), rfl, d, _, rfl, .inl h6, fun J hJ D hD => ?_⟩
    refine lcW_fm hJ (fun i => (P.cone[i]?).bind fun j => if shAt P.rows j then some (nV j) else none) hD (by have := cone_len P hl; simp; omega) (fun H2 s2 => same_of s2 (.inl h6)) (fun i x H9 H2 hi s2 y K1 K0 k1 k0 => ?_) (fun H2 s2 e => ?_)
    · obtain ⟨rfl, hx⟩ := y
      rw [List.getElem?_map] at hx
      obtain ⟨j, hj, rfl⟩ := Option.map_eq_some_iff.mp hx
      have hjl := cone_lt (List.mem_of_getElem? hj)
      obtain ⟨r, hr'⟩ : ∃ r, P.rows[j]? = some r := ⟨_, List.getElem?_eq_getElem hjl⟩
      obtain ⟨ra, hra, har⟩ := h4.get' hr'
      refine ⟨rfl, ?_⟩
      refine ⟨_, rfl, p, _, _, _, _, rfl, s2 _ _ h1, T.clP, T.naP _ (by simp), rfl, _, rfl, b, xs, _, _, rfl, rfl, .inl (.inl (s2 _ _ h3)), atI_nat hra, ra, _, 0, .str r.word, rfl, rfl, .inl (.inl (s2 _ _ har)), atI_nat (j := 0) rfl, ?_⟩
      refine ⟨rfl, _, rfl, ?_⟩
      show if decide (V.str r.word = V.str "shown") = true then _ else _
      rw [sh_word]
      have eS : shAt P.rows j = r.isSh := by unfold shAt; rw [hr']; rfl
      cases hS : r.isSh with
      | true =>
        refine iteT ?_
        exact ⟨_, rfl, k1 _ _ (by rw [hj]; show (if shAt P.rows j = true then some (nV j) else none) = _; rw [eS, hS]; rfl) (fun _ _ e => e)⟩
      | false =>
        refine iteF ?_
        exact k0 _ (by rw [hj]; show (if shAt P.rows j = true then some (nV j) else none) = _; rw [eS, hS]; rfl) (fun _ _ e => e)
    · refine q D H2 s2 hD ?_
      rw [e, List.length_map, range_fmA, fm_if]
      rfl
theorem ok_top {M_showns : Mth P w K mg base cP "showns" 1 ["self"] (spShowns cP)} (F : FnP K "top" "Player.top" s_Player_top f fd) : FnOk P w K mg base CX0 2 f fd ["self"] (spTop cP) := by
  refine okN F sc_Player_top (fun vs H Q E h => ?_) (fun cdv A outer s H vs Q E hr h => ?_)
  · obtain ⟨p, P, rfl, _⟩ := h
    rfl
  · obtain ⟨p, P, rfl, hp, hl, q⟩ := h
    obtain ⟨dx, a, b, c, d, xs, h1, h2, h3, h4, h5, h6⟩ := hp.ex
    refine ⟨_, (pss_one (ps_ret (pe_callBK cr_maxD (by rfl) T.max_ b_max (pa_cons (pe_lc (own := [("at", 1)]) rfl sc_Player_top.nd (pi_sq (pe_mth0 T.clP M_showns hr (pv 0))) (blkOk_by (own := [("at", 1)]) (N := ["self", "at"]) (sc := defScope s_Player_top) (by decide +kernel)) (fun _ _ _ _ _ => pg_name (i := 1) sc_Player_top.nd rfl (Or.inl rfl)) (fun _ _ _ _ _ => pts_nil) (fun _ _ _ _ _ => (pe_ix (ixT K) (pe_ix (ixT K) (fldK K (pv 0) rfl) (pv 1) (fun _ _ => rfl)) pe_int (fun _ _ => rfl)))) pa_nil) (pk_cons pe_int pk_nil)))), ?_⟩
    refine ⟨_, rfl, p, dx, _, rfl, h1, rfl, ?_⟩
    refine ⟨p, P, rfl, hp, hl, fun m H1 s1 nm hm => ?_⟩
    refine ⟨m, _, rfl, .inl hm, fun J hJ D hD => ?_⟩
    refine lcW_fm hJ (fun i => (P.marks[i]?).map fun j => nV (levAt P.rows j)) hD (by have := marks_len P hl; simp; omega) (fun H2 s2 => same_of s2 (.inl hm)) (fun i x H9 H2 hi s2 y K1 K0 k1 k0 => ?_) (fun H2 s2 e => ?_)
    · obtain ⟨rfl, hx⟩ := y
      rw [List.getElem?_map] at hx
      obtain ⟨j, hj, rfl⟩ := Option.map_eq_some_iff.mp hx
      obtain ⟨k, i', hr', e1, e2⟩ := sh_row (List.mem_of_getElem? hj)
      obtain ⟨ra, hra, har⟩ := h4.get' hr'
      have s2 := s1.trans s2
      refine ⟨rfl, yesT ?_⟩
      refine ⟨_, rfl, p, _, _, _, _, rfl, s2 _ _ h1, T.clP, T.naP _ (by simp), rfl, _, rfl, b, xs, _, _, rfl, rfl, .inl (.inl (s2 _ _ h3)), atI_nat hra, ra, _, 1, nV k, rfl, rfl, .inl (.inl (s2 _ _ har)), atI_nat (j := 1) rfl, ?_⟩
      exact k1 _ _ (by rw [hj, Option.map_some, e1]) (fun _ _ e => e)
    · rw [List.length_map, range_mapA] at e
      have e3 : P.marks.map (fun j => nV (levAt P.rows j)) = ((P.marks.map (levAt P.rows)).map fun i => ((i : Nat) : Int)).map V.int := by rw [List.map_map, List.map_map]; rfl
      rw [e3] at e
      refine ⟨D, _, _, rfl, rfl, .inl (.inl e), rfl, Nat.lt_of_le_of_lt (Nat.add_le_add_left (by decide) _) hr.units, fun en => ?_, fun y ys en m hm => ?_⟩
      · have : P.high = 0 := by
          unfold Pl.high
          rw [List.map_eq_nil_iff.mp en]
          rfl
        have q' := q H2 (s1.trans s2)
        rw [this] at q'
        exact q'
      · have : m = ((P.high : Nat) : Int) := by
          unfold Pl.high
          cases el : P.marks.map (levAt P.rows) with
          | nil => rw [el] at en; cases en
          | cons z zs =>
            rw [el, List.map_cons] at en
            injection en with en1 en2
            subst en1 en2
            rw [hm, max_cast, List.foldl_cons, Nat.zero_max]
        rw [this]
        exact q H2 (s1.trans s2)
end
end Lk

set_option maxHeartbeats 4000000
namespace Lk
open PySem PySem.Spec PyProof.Rows L2
abbrev kN (i : Nat) : Key := Sum.inl ((i : Nat) : Int)
theorem dget {H : Hp} {d : Addr} {kvs : List (Key × V)} {i : Nat} {v : V} (h : Rd H d (.dK kvs)) (e : valV kvs (kN i) = some v) : DGet H d (nV i) (some v) := .inl ⟨kvs, kN i, h, rfl, e.symm⟩
def spValueOf : Sp := fun vs H Q _ => ∃ a i k t g, ∃ (r : Rw) (kvs tvs : List (Key × V)) (ring : List Str) (tr kn : Nat → Bool), vs = [.ref a, nV i, .ref k, .ref t, .ref g] ∧ H a = some (.tup r.vs) ∧ Rd H k (.dK kvs) ∧ (r.isSh = false → ∀ j ∈ r.refs, valV kvs (kN j) = some (.bl (kn j))) ∧
  Rd H t (.dK tvs) ∧ (r.isSh = true → valV tvs (kN i) = some (.bl (tr i))) ∧ H g = some (.tup (ring.map V.str)) ∧ ∀ H', Same H H' → Q (.bl (r.val tr ring kn i)) H'
def spValues : Sp := fun vs H Q _ => ∃ a b t g, ∃ (xs : List V) (rs : List Rw) (ns : List Nat) (tvs : List (Key × V)) (ring : List Str) (tr : Nat → Bool), vs = [.ref a, .ref b, .ref t, .ref g] ∧ H a = some (.tup xs) ∧ RowsAt H xs rs ∧ RowsOk rs ∧ H b = some (.lst (ns.map nV)) ∧ ns.length ≤ 40 ∧
  ns.Pairwise (· < ·) ∧ (∀ i ∈ ns, ∃ r, rs[i]? = some r ∧ ∀ j ∈ r.refs, j ∈ ns) ∧ Rd H t (.dK tvs) ∧ (∀ i ∈ ns, shAt rs i = true → valV tvs (kN i) = some (.bl (tr i))) ∧ H g = some (.tup (ring.map V.str)) ∧
  ∀ p kvs H', Same H H' → H p = none → H' p = some (.dK kvs) → (∀ i ∈ ns, valV kvs (kN i) = some (.bl (hold rs tr ring i))) → Q (.ref p) H'
section
variable {P : Program} {w : World} {K : PySem.W.Frag} {mg : Str → Option Value} {base : Heap} {cP cG cT : Addr} {f : Addr} {fd : FuncData} (T : Txt K w mg cP cG cT)
include T
theorem ok_value_of (F : FnP K "value_of" "value_of" s_value_of f fd) : FnOk P w K mg base CX0 1 f fd ["row", "at", "known", "truths", "ring"] spValueOf := by
  refine okN F sc_value_of (fun vs H Q E h => ?_) (fun cdv A outer s H vs Q E hr h => ?_)
  · obtain ⟨a, i, k, t, g, r, kvs, tvs, ring, tr, kn, rfl, _⟩ := h
    rfl
  · obtain ⟨a, i, k, t, g, r, kvs, tvs, ring, tr, kn, rfl, ha, hk, hk1, ht, ht1, hg, q⟩ := h
    refine ⟨_, (pss_cons (ps_asg (pv 0) (pg_star (n := 2) (i := 1) rfl (pgs_cons (pg_name (i := 5) sc_value_of.nd rfl (Or.inl rfl)) (pgs_star (pg_name (i := 6) sc_value_of.nd rfl (Or.inl rfl)) pgs_nil))))
      (pss_cons (ps_if (pt_cmpR op_eq (pv 5) pe_str (nomark _)) (pss_one (ps_ret (pe_and (pe_cmpR op_lt (pe_ix (ixL K) (pv 6) pe_int (fun _ _ => rfl)) (pe_callB (lenS K) (by rfl) T.len_ b_len (pa_cons (pv 4) pa_nil)) (nomark _)) (pe_one (pe_cmpR op_eq (pe_ix (ixT K) (pv 4) (pe_ix (ixL K) (pv 6) pe_int (fun _ _ => rfl)) (fun _ _ => rfl)) (pe_ix (ixL K) (pv 6) pe_int (fun _ _ => rfl)) (nomark _)))))) pss_nil)
      (pss_cons (ps_if (pt_cmpR op_eq (pv 5) pe_str (nomark _)) (pss_one (ps_ret (pe_not (pe_dget (hu_of hr) (pv 2) (pe_ix (ixL K) (pv 6) pe_int (fun _ _ => rfl)) (fun _ _ => rfl))))) pss_nil)
      (pss_cons (ps_if (pt_cmpR op_eq (pv 5) pe_str (nomark _)) (pss_one (ps_ret (pe_and (pe_dget (hu_of hr) (pv 2) (pe_ix (ixL K) (pv 6) pe_int (fun _ _ => rfl)) (fun _ _ => rfl)) (pe_one (pe_dget (hu_of hr) (pv 2) (pe_ix (ixL K) (pv 6) pe_int (fun _ _ => rfl)) (fun _ _ => rfl)))))) pss_nil)
      (pss_cons (ps_if (pt_cmpR op_eq (pv 5) pe_str (nomark _)) (pss_one (ps_ret (pe_or (pe_dget (hu_of hr) (pv 2) (pe_ix (ixL K) (pv 6) pe_int (fun _ _ => rfl)) (fun _ _ => rfl)) (pe_one (pe_dget (hu_of hr) (pv 2) (pe_ix (ixL K) (pv 6) pe_int (fun _ _ => rfl)) (fun _ _ => rfl)))))) pss_nil)
      (pss_one (ps_ret (pe_ifExp (pt_cmpR op_eq (pv 5) pe_str (nomark _)) (pe_dget (hu_of hr) (pv 3) (pv 1) (fun _ _ => rfl)) pe_bl)))))))), ?_⟩
    refine ⟨_, rfl, a, r.vs, rfl, .inr (.inl (.inl ha)), by cases r <;> (simp [Rw.vs, Rw.parts]), by cases r <;> (simp [Rw.vs, Rw.parts]), fun D hD => ?_⟩
    have eD : ((r.vs.drop 1).take (r.vs.length + 1 - 2)) = r.parts := by cases r <;> rfl
    have eT : r.vs.take 1 ++ [V.ref D] ++ (r.vs.drop 1).drop (r.vs.length + 1 - 2) = [.str r.word, .ref D] := by cases r <;> rfl
    rw [eD, eT]
    refine ⟨.str r.word, _, rfl, _, _, rfl, rfl, ?_⟩
    have s2 : Same H (upd H D (.lst r.parts)) := same_new hD
    have hD2 : (upd H D (.lst r.parts)) D = some (.lst r.parts) := upd_same
    generalize upd H D (.lst r.parts) = H2 at s2 hD2
    have hk2 := same_rd s2 hk
    have ht2 := same_rd s2 ht
    have hg2 := s2 _ _ hg
    cases r with
    | fl =>
      refine ⟨_, rfl, rfl, _, rfl, ?_⟩
      refine ifF (str_ne (a := "false") (by decide)) ?_
      refine ⟨_, rfl, rfl, _, rfl, ?_⟩
      refine ifF (str_ne (a := "false") (by decide)) ?_
      refine ⟨_, rfl, rfl, _, rfl, ?_⟩
      refine ifF (str_ne (a := "false") (by decide)) ?_
      refine ⟨_, rfl, rfl, _, rfl, ?_⟩
      refine ifF (str_ne (a := "false") (by decide)) ?_
      refine ⟨_, rfl, rfl, _, rfl, ?_⟩
      refine ifF (str_ne (a := "false") (by decide)) ?_
      exact q _ s2
    | sh m j =>
      refine ⟨_, rfl, rfl, _, rfl, ?_⟩
      refine ifF (str_ne (a := "shown") (by decide)) ?_
      refine ⟨_, rfl, rfl, _, rfl, ?_⟩
      refine ifF (str_ne (a := "shown") (by decide)) ?_
      refine ⟨_, rfl, rfl, _, rfl, ?_⟩
      refine ifF (str_ne (a := "shown") (by decide)) ?_
      refine ⟨_, rfl, rfl, _, rfl, ?_⟩
      refine ifF (str_ne (a := "shown") (by decide)) ?_
      refine ⟨_, rfl, rfl, _, rfl, ?_⟩
      refine ifT rfl ?_
      exact ⟨_, rfl, _, rfl, t, _, rfl, dget ht2 (ht1 rfl), q _ s2⟩
    | ng j =>
      refine ⟨_, rfl, rfl, _, rfl, ?_⟩
      refine ifF (str_ne (a := "not") (by decide)) ?_
      refine ⟨_, rfl, rfl, _, rfl, ?_⟩
      refine ifT rfl ?_
      refine ⟨_, rfl, _, rfl, D, _, _, (nV j), rfl, rfl, .inl (.inl hD2), atI_nat (j := 0) rfl, ?_⟩
      exact ⟨k, _, rfl, dget hk2 (hk1 rfl j (by simp [Rw.refs])), _, rfl, q _ s2⟩
    | cj j l =>
      refine ⟨_, rfl, rfl, _, rfl, ?_⟩
      refine ifF (str_ne (a := "and") (by decide)) ?_
      refine ⟨_, rfl, rfl, _, rfl, ?_⟩
      refine ifF (str_ne (a := "and") (by decide)) ?_
      refine ⟨_, rfl, rfl, _, rfl, ?_⟩
      refine ifT rfl ?_
      refine ⟨_, rfl, _, rfl, D, _, _, (nV j), rfl, rfl, .inl (.inl hD2), atI_nat (j := 0) rfl, ?_⟩
      refine ⟨k, _, rfl, dget hk2 (hk1 rfl j (by simp [Rw.refs])), _, rfl, ?_⟩
      have q := q _ s2
      simp only [Rw.val] at q
      cases h : kn j with
      | false =>
        rw [h] at q
        exact iteF q
      | true =>
        rw [h] at q
        refine iteT ?_
        refine ⟨_, rfl, _, rfl, D, _, _, (nV l), rfl, rfl, .inl (.inl hD2), atI_nat (j := 1) rfl, ?_⟩
        exact ⟨k, _, rfl, dget hk2 (hk1 rfl l (by simp [Rw.refs])), q⟩
    | dj j l =>
      refine ⟨_, rfl, rfl, _, rfl, ?_⟩
      refine ifF (str_ne (a := "or") (by decide)) ?_
      refine ⟨_, rfl, rfl, _, rfl, ?_⟩
      refine ifF (str_ne (a := "or") (by decide)) ?_
      refine ⟨_, rfl, rfl, _, rfl, ?_⟩
      refine ifF (str_ne (a := "or") (by decide)) ?_
      refine ⟨_, rfl, rfl, _, rfl, ?_⟩
      refine ifT rfl ?_
      refine ⟨_, rfl, _, rfl, D, _, _, (nV j), rfl, rfl, .inl (.inl hD2), atI_nat (j := 0) rfl, ?_⟩
      refine ⟨k, _, rfl, dget hk2 (hk1 rfl j (by simp [Rw.refs])), _, rfl, ?_⟩
      have q := q _ s2
      simp only [Rw.val] at q
      cases h : kn j with
      | true =>
        rw [h] at q
        exact iteT q
      | false =>
        rw [h] at q
        refine iteF ?_
        refine ⟨_, rfl, _, rfl, D, _, _, (nV l), rfl, rfl, .inl (.inl hD2), atI_nat (j := 1) rfl, ?_⟩
        exact ⟨k, _, rfl, dget hk2 (hk1 rfl l (by simp [Rw.refs])), q⟩
    | ds m y =>
      refine ⟨_, rfl, rfl, _, rfl, ?_⟩
      refine ifT rfl ?_
      refine ⟨_, rfl, D, _, _, (nV m), rfl, rfl, .inl (.inl hD2), atI_nat (j := 0) rfl, ?_⟩
      refine ⟨_, rfl, g, _, rfl, .inr (.inl (.inl hg2)), _, _, rfl, rfl, _, rfl, ?_⟩
      have q := q _ s2
      simp only [Rw.val] at q
      rw [List.length_map]
      by_cases hm : m < ring.length
      · refine ifT (by omega) ?_
        refine ⟨_, rfl, _, rfl, D, _, _, (nV m), rfl, rfl, .inl (.inl hD2), atI_nat (j := 0) rfl, ?_⟩
        refine ⟨g, _, _, .str ring[m], rfl, rfl, .inl (.inl hg2), atI_nat (by rw [List.getElem?_map, List.getElem?_eq_getElem hm]; rfl), ?_⟩
        refine ⟨_, rfl, D, _, _, (.str y), rfl, rfl, .inl (.inl hD2), atI_nat (j := 1) rfl, ?_⟩
        refine ⟨rfl, ?_⟩
        have e : decide (V.str ring[m] = V.str y) = decide (ring[m]? = some y) := by
          rw [List.getElem?_eq_getElem hm]
          rw [Bool.eq_iff_iff]
          simp
        rw [e]
        exact q
      · refine ifF (by omega) ?_
        rw [List.getElem?_eq_none (by omega)] at q
        exact q
end
end Lk

set_option maxHeartbeats 4000000
namespace Lk
open PySem PySem.Spec PyProof.Rows L2
theorem take_lt {ns : List Nat} (so : ns.Pairwise (· < ·)) {i m j : Nat} (e : ns[i]? = some m) (hj : j ∈ ns) (hl : j < m) : j ∈ ns.take i := by
  obtain ⟨k, hk⟩ := List.mem_iff_getElem?.mp hj
  by_cases h : k < i
  · refine List.mem_iff_getElem?.mpr ⟨k, ?_⟩
    rw [List.getElem?_take, if_pos h]
    exact hk
  · obtain ⟨hk1, hk2⟩ := List.getElem?_eq_some_iff.mp hk
    obtain ⟨hi1, hi2⟩ := List.getElem?_eq_some_iff.mp e
    by_cases e2 : k = i
    · subst e2
      rw [hk] at e
      cases e
      omega
    · have := (List.pairwise_iff_getElem.mp so) i k hi1 hk1 (by omega)
      omega
theorem trE_val {P : Pl} {tr : Nat → Bool} {i : Nat} (h : i ∈ P.marks) : valV (trE P tr) (kN i) = some (.bl (tr i)) := by
  unfold trE
  generalize P.marks = ms at h
  induction ms with
  | nil => cases h
  | cons m r ih =>
    rw [List.map_cons]
    by_cases e : m = i
    · subst e
      exact valV_pos rfl
    · rw [valV_neg (by intro z; have z : (Sum.inl ((m : Nat) : Int) : Key) = Sum.inl ((i : Nat) : Int) := z; injection z with z; omega)]
      refine ih ?_
      rcases List.mem_cons.mp h with h | h
      · exact absurd h.symm e
      · exact h
theorem cone_closed {P : Pl} (ok : RowsOk P.rows) : ∀ i ∈ P.cone, ∃ r, P.rows[i]? = some r ∧ ∀ j ∈ r.refs, j ∈ P.cone := fun i hi => by
  have h := mem_cone.mp hi
  refine ⟨_, List.getElem?_eq_getElem h.1, fun j hj => mem_cone.mpr ⟨?_, .ref h.2 (List.getElem?_eq_getElem h.1) hj⟩⟩
  have := (ok i _ (List.getElem?_eq_getElem h.1)).refs hj
  omega
theorem atI_neg {α β : Type} {xs : List α} (f : α → β) (d : α) (h : xs ≠ []) : atI (xs.map f) (-1) = some (f (xs.getLastD d)) := by
  have e : xs = xs.dropLast ++ [xs.getLast h] := (List.dropLast_concat_getLast h).symm
  have e2 : xs.getLastD d = xs.getLast h := by
    rw [List.getLastD_eq_getLast?, List.getLast?_eq_getLast h]
    rfl
  rw [e2]
  clear e2
  generalize xs.getLast h = z at e
  rw [e, List.map_append]
  exact atI_last _ _
def spMoveOf (cP : Addr) : Sp := fun vs H Q _ => ∃ p t P tr, vs = [.ref p, .ref t] ∧ PlAt cP H p P ∧ P.Ok ∧ Rd H t (.dK (trE P tr)) ∧ ∀ H', Same H H' → Q (.str (P.does tr)) H'
def spLed : Sp := fun vs H Q _ => ∃ a b t g n xs P tr ring, vs = [.ref a, .ref b, .ref t, nV n, .ref g] ∧ H a = some (.tup xs) ∧ RowsAt H xs P.rows ∧ P.Ok ∧ H b = some (.lst (P.cone.map nV)) ∧ H t = some (.dK (trE P tr)) ∧ H g = some (.tup (ring.map V.str)) ∧
  ∀ q H', Same H H' → H q = none → H' q = some (.dK (trE P (P.later tr n ring))) → Q (.ref q) H'
section
variable {P : Program} {w : World} {K : PySem.W.Frag} {mg : Str → Option Value} {base : Heap} {cP cG cT : Addr} {f : Addr} {fd : FuncData} (T : Txt K w mg cP cG cT)
include T
theorem ok_values {C_value_of : Cal P w K mg base "value_of" 1 ["row", "at", "known", "truths", "ring"] spValueOf} (F : FnP K "values" "values" s_values f fd) : FnOk P w K mg base CX0 2 f fd ["rows", "wanted", "truths", "ring"] spValues := by
  refine okN F sc_values (fun vs H Q E h => ?_) (fun cdv A outer s H vs Q E hr h => ?_)
  · obtain ⟨a, b, t, g, xs, rs, ns, tvs, ring, tr, rfl, _⟩ := h
    rfl
  · obtain ⟨a, b, t, g, xs, rs, ns, tvs, ring, tr, rfl, ha, hrs, ok, hb, hl, so, cl, ht, ht1, hg, q⟩ := h
    refine ⟨_, (pss_cons (ps_set (i := 4) sc_values.nd rfl (Or.inl rfl) pe_dnewK)
      (pss_cons (ps_for PassesOwn.never rfl (pi_sq (pv 1)) (pg_name (i := 5) sc_values.nd rfl (Or.inl rfl)) (pss_one (ps_dput (hu_of hr) (pv 4) (pv 5) (pe_cal C_value_of hr (pa_cons (pe_ix (ixT K) (pv 0) (pv 5) (fun _ _ => rfl)) (pa_cons (pv 5) (pa_cons (pv 4) (pa_cons (pv 2) (pa_cons (pv 3) pa_nil)))))) rfl)))
      (pss_one (ps_ret (pv 4))))), ?_⟩
    intro D hD
    have s0 : Same H (upd H D (.dK [])) := same_new hD
    refine ⟨_, rfl, b, _, rfl, .inl (s0 _ _ hb), fun J hJ => ?_⟩
    refine for_it hJ (fun i σ H' => Same H H' ∧ (∃ u, σ = [some (.ref a), some (.ref b), some (.ref t), some (.ref g), some (.ref D), u]) ∧ ∃ kvs : List (Key × V), H' D = some (.dK kvs) ∧ kvs.length ≤ i ∧ ∀ j ∈ ns.take i, valV kvs (kN j) = some (.bl (hold rs tr ring j)))
      ⟨s0, ⟨_, rfl⟩, [], upd_same, Nat.le_refl _, fun j hj => by simp at hj⟩ (fun i σ H' hi h => (h.1 _ _ hb).trans (s0 _ _ hb).symm) (fun i x σ H9 H2 hi h y => ?_) (fun σ H2 h => ?_)
    · obtain ⟨s2, ⟨u, rfl⟩, kvs, hd2, kl, hk⟩ := h
      obtain ⟨rfl, hx⟩ := y
      rw [List.getElem?_map] at hx
      obtain ⟨m, hm, rfl⟩ := Option.map_eq_some_iff.mp hx
      have hmn := List.mem_of_getElem? hm
      obtain ⟨r, hr', hrc⟩ := cl m hmn
      obtain ⟨ra, hra, har⟩ := hrs.get' hr'
      have hil : i < ns.length := by simpa using hi
      refine ⟨_, rfl, _, rfl, a, xs, _, _, rfl, rfl, .inl (.inl (s2 _ _ ha)), atI_nat hra, ?_⟩
      refine ⟨_, rfl, _, rfl, _, rfl, _, rfl, ?_⟩
      refine ⟨ra, m, D, t, g, r, kvs, tvs, ring, tr, hold rs tr ring, rfl, s2 _ _ har, .inl hd2, fun _ j hj => hk j (take_lt so hm (hrc j hj) ((ok m r hr').refs hj)), same_rd s2 ht, fun hs => ht1 m hmn (by unfold shAt; rw [hr']; exact hs), s2 _ _ hg, fun H3 s3 => ?_⟩
      have hd3 := s3 _ _ hd2
      refine ⟨_, rfl, _, rfl, D, _, rfl, DPut.k (k := kN m) hd3 (sz_lt (by omega)), ?_⟩
      refine ⟨same_mut (s2.trans s3) hD, ⟨_, rfl⟩, _, upd_same, ?_, fun j hj => ?_⟩
      · have := length_putK kvs (kN m) (.bl (r.val tr ring (hold rs tr ring) m))
        omega
      · rw [valV_put]
        by_cases e : j = m
        · subst e
          rw [if_pos rfl, hold_eq ok hr']
        · rw [if_neg (by intro z; injection z with z; omega)]
          refine hk j ?_
          rw [List.take_add_one, hm] at hj
          rcases List.mem_append.mp hj with h | h
          · exact h
          · exact absurd (by simpa using h) e
    · obtain ⟨s2, ⟨u, rfl⟩, kvs, hd2, kl, hk⟩ := h
      refine ⟨_, rfl, q D kvs H2 s2 hD hd2 fun i hi => hk i ?_⟩
      rw [List.take_of_length_le (by simp)]
      exact hi
theorem ok_move_of {C_values : Cal P w K mg base "values" 2 ["rows", "wanted", "truths", "ring"] spValues} {M_rows : Mth P w K mg base cP "rows" 1 ["self"] (spRows cP)} {M_moves : Mth P w K mg base cP "moves" 1 ["self"] (spMoves cP)} {M_chosen : Mth P w K mg base cP "chosen" 1 ["self"] (spChosen cP)}
    (F : FnP K "move_of" "move_of" s_move_of f fd) : FnOk P w K mg base CX0 3 f fd ["player", "truths"] (spMoveOf cP) := by
  refine okN F sc_move_of (fun vs H Q E h => ?_) (fun cdv A outer s H vs Q E hr h => ?_)
  · obtain ⟨p, t, P, tr, rfl, _⟩ := h
    rfl
  · obtain ⟨p, t, P, tr, rfl, hp, ok, ht, q⟩ := h
    obtain ⟨dx, a, b, c, d, xs, h1, h2, h3, h4, h5, h6⟩ := hp.ex
    refine ⟨_, (pss_cons (ps_set (i := 2) sc_move_of.nd rfl (Or.inl rfl) (pe_cal C_values hr (pa_cons (pe_mth0 T.clP M_rows hr (pv 0)) (pa_cons (fldK K (pv 0) rfl) (pa_cons (pv 1) (pa_cons (pe_tup pa_nil) pa_nil))))))
      (pss_cons (ps_for PassesOwn.never rfl (RZ.pi_zipA rfl T.zip_ (pa_cons (pe_mth0 T.clP M_moves hr (pv 0)) (pa_cons (pe_mth0 T.clP M_chosen hr (pv 0)) pa_nil))) (pgT K 2 rfl (pgs_cons (pg_name (i := 3) sc_move_of.nd rfl (Or.inl rfl)) (pgs_cons (pg_name (i := 4) sc_move_of.nd rfl (Or.inl rfl)) pgs_nil))) (pss_one (ps_if (pt_val (pe_dget (hu_of hr) (pv 2) (pv 4) (fun _ _ => rfl))) (pss_one (ps_ret (pv 3))) pss_nil)))
      (pss_one (ps_ret (pe_ix (ixT K) (pe_mth0 T.clP M_moves hr (pv 0)) (pe_un un_neg pe_int) (fun _ _ => rfl)))))), ?_⟩
    refine ⟨_, rfl, p, dx, _, rfl, h1, rfl, p, P, rfl, hp, fun b2 xs2 hb2 hrs2 => ?_⟩
    refine ⟨_, rfl, p, _, _, _, _, rfl, h1, T.clP, T.naP _ (by simp), rfl, _, rfl, (by show 0 ≤ sizeLine; decide), fun g hg => ?_⟩
    have s1 : Same H (upd H g (.tup [])) := same_new hg
    have hg1 : (upd H g (.tup [])) g = some (.tup []) := upd_same
    generalize upd H g (.tup []) = H1 at s1 hg1
    refine ⟨b2, d, t, g, xs2, P.rows, P.cone, trE P tr, [], tr, rfl, s1 _ _ hb2, hrs2.mono s1, ok.rows, s1 _ _ h6, cone_len P ok.len, cone_sorted _ _, cone_closed ok.rows, same_rd s1 ht, fun i hi hs => trE_val (mem_marks.mpr ⟨hi, hs⟩), hg1, fun k kvs H2 s2 nk hk hkv => ?_⟩
    have s2 := s1.trans s2
    have hp2 := hp.mono s2
    refine ⟨_, rfl, p, dx, _, rfl, s2 _ _ h1, rfl, p, P, rfl, hp2, fun m1 hm1 => ?_⟩
    refine ⟨_, rfl, p, dx, _, rfl, s2 _ _ h1, rfl, p, P, rfl, hp2, fun m2 hm2 => ?_⟩
    refine ⟨m1, m2, _, _, rfl, .inr ⟨.inl (.inl hm1), .inl (.inl hm2), ?_⟩⟩
    have hnp := ok.np
    refine for_it (walk_zipT (n := P.picks.length) (by simp; omega)) (fun i σ H' => Same H2 H' ∧ (∃ u v, σ = [some (.ref p), some (.ref t), some (.ref k), u, v]) ∧ ∀ x ∈ (P.moves.zip P.picks).take i, hold P.rows tr [] x.2 = false) ⟨fun _ _ e => e, ⟨_, _, rfl⟩, fun x hx => by simp at hx⟩
      (fun i σ H' hi h => ⟨.inl (.inl (h.1 _ _ hm1)), .inl (.inl (h.1 _ _ hm2))⟩) (fun i x σ H3 H9 hi h y => ?_) (fun σ H3 h => ?_)
    · obtain ⟨s3, ⟨u, v, rfl⟩, hf⟩ := h
      obtain ⟨t1, u1, v1, rfl, nt1, rfl, e1, e2⟩ := y
      simp only [List.getElem?_map] at e1 e2
      obtain ⟨m, hm, rfl⟩ := Option.map_eq_some_iff.mp e1
      obtain ⟨i', hi', rfl⟩ := Option.map_eq_some_iff.mp e2
      have s4 := s3.trans (same_new (o := .tup [.str m, nV i']) nt1)
      refine ⟨t1, _, rfl, .inl (.inl upd_same), rfl, _, _, rfl, _, _, rfl, rfl, ?_⟩
      have hz : (P.moves.zip P.picks)[i]? = some (m, i') := by
        rw [List.getElem?_zip_eq_some]
        exact ⟨hm, hi'⟩
      have hic : i' ∈ P.cone := mem_cone.mpr ⟨(ok.pk i' (List.mem_of_getElem? hi')).1, .pick (List.mem_of_getElem? hi')⟩
      refine ⟨_, rfl, _, rfl, k, _, rfl, dget (.inl (s4 _ _ hk)) (hkv i' hic), _, rfl, ?_⟩
      cases hh : hold P.rows tr [] i' with
      | true =>
        refine iteT ?_
        refine ⟨_, rfl, ?_⟩
        have e : P.does tr = m := by
          unfold Pl.does pickMv
          have : (P.moves.zip P.picks).find? (fun x => hold P.rows tr [] x.2) = some (m, i') := by
            rw [List.find?_eq_some_iff_getElem]
            obtain ⟨hz1, hz2⟩ := List.getElem?_eq_some_iff.mp hz
            refine ⟨hh, i, hz1, hz2, fun j hj => ?_⟩
            rw [hf _ (List.mem_iff_getElem?.mpr ⟨j, by rw [List.getElem?_take, if_pos hj]; exact List.getElem?_eq_getElem (by omega)⟩)]
            rfl
          rw [this]
          rfl
        have q' := q _ (s2.trans s4)
        rw [e] at q'
        exact q'
      | false =>
        refine iteF ?_
        refine ⟨s4, ⟨_, _, rfl⟩, fun x hx => ?_⟩
        rw [List.take_add_one, hz] at hx
        rcases List.mem_append.mp hx with h | h
        · exact hf x h
        · have : x = (m, i') := by simpa using h
          rw [this]
          exact hh
    · obtain ⟨s3, ⟨u, v, rfl⟩, hf⟩ := h
      have s3' := s2.trans s3
      refine ⟨_, rfl, p, dx, _, rfl, s3' _ _ h1, rfl, p, P, rfl, hp.mono s3', fun m3 hm3 => ?_⟩
      have hne : P.moves ≠ [] := by
        intro e
        have := ok.mv.pos
        rw [e] at this
        cases this
      refine ⟨_, rfl, m3, _, _, _, rfl, rfl, .inl (.inl hm3), atI_neg V.str "" hne, ?_⟩
      have e : P.does tr = P.moves.getLastD "" := by
        unfold Pl.does pickMv
        have : (P.moves.zip P.picks).find? (fun x => hold P.rows tr [] x.2) = none := by
          rw [List.find?_eq_none]
          intro x hx
          rw [hf x]
          · exact Bool.false_ne_true
          · rw [List.take_of_length_le (by simp; omega)]
            exact hx
        rw [this]
        rfl
      have q' := q _ s3'
      rw [e] at q'
      exact q'
end
end Lk

set_option maxHeartbeats 4000000
namespace Lk
open PySem PySem.Spec PyProof.Rows L2
def plainPl (ms : List Str) (m : Str) : Pl := ⟨ms, [.fl, .ng 0], ms.dropLast.map fun x => if x = m then 1 else 0⟩
theorem plain_ok {ms : List Str} {m : Str} (mv : Mv ms) : (plainPl ms m).Ok := by
  refine ⟨mv, ?_, show 2 ≤ 40 by decide, ?_, ?_, show 0 ≤ 4 by decide, ?_⟩
  · intro i r e
    match i, e with
    | 0, e => cases e; trivial
    | 1, e => cases e; show 0 < 1; omega
    | i + 2, e => cases e
  · show (ms.dropLast.map _).length + 1 = ms.length
    have := mv.pos
    rw [List.length_map, List.length_dropLast]
    omega
  · intro i hi
    obtain ⟨x, _, rfl⟩ := List.mem_map.mp (show i ∈ ms.dropLast.map _ from hi)
    by_cases e : x = m
    · rw [if_pos e]
      exact ⟨show 1 < 2 by decide, rfl⟩
    · rw [if_neg e]
      exact ⟨show 0 < 2 by decide, rfl⟩
  · intro r hr
    rcases List.mem_cons.mp (show r ∈ [Rw.fl, .ng 0] from hr) with rfl | hr
    · decide
    · rw [List.mem_singleton.mp hr]
      decide
theorem in_strs (m : Str) (ms : List Str) : inV (.str m) (ms.map V.str) = decide (m ∈ ms) := by
  rw [Bool.eq_iff_iff]
  simp only [inV, List.any_eq_true, List.mem_map, decide_eq_true_eq]
  constructor
  · rintro ⟨x, ⟨y, hy, rfl⟩, e⟩
    have e : (y == m) = true := e
    exact (eq_of_beq e) ▸ hy
  · intro h
    exact ⟨_, ⟨m, h, rfl⟩, show (m == m) = true from beq_self_eq_true m⟩
theorem flat_strs (ms : List Str) : (ms.map V.str).all flatV = true := by
  rw [List.all_eq_true]
  intro x hx
  obtain ⟨y, _, rfl⟩ := List.mem_map.mp hx
  rfl
theorem trE_put {P : Pl} {tr : Nat → Bool} {i m : Nat} (h : P.marks[i]? = some m) : putK ((trE P tr).take i) (kN m) (.bl (tr m)) = (trE P tr).take (i + 1) := by
  have so := marks_sorted P
  unfold trE
  generalize P.marks = ms at h so
  rw [List.take_add_one, List.getElem?_map, h]
  show putK _ _ _ = _ ++ [(kN m, V.bl (tr m))]
  unfold putK
  rw [if_neg]
  rw [List.any_eq_true]
  rintro ⟨x, hx, e⟩
  rw [← List.map_take] at hx
  obtain ⟨j, hj, rfl⟩ := List.mem_map.mp hx
  have e : (Sum.inl ((j : Nat) : Int) : Key) = Sum.inl ((m : Nat) : Int) := of_decide_eq_true e
  injection e with e
  obtain ⟨k, hk⟩ := List.mem_iff_getElem?.mp hj
  obtain ⟨hk1, hk2⟩ := List.getElem?_eq_some_iff.mp hk
  obtain ⟨hi1, hi2⟩ := List.getElem?_eq_some_iff.mp h
  have hki : k < i := by
    rw [List.length_take] at hk1
    omega
  have := (List.pairwise_iff_getElem.mp so) k i (by omega) hi1 hki
  rw [List.getElem_take] at hk2
  omega
def spPlain (cP : Addr) : Sp := fun vs H Q _ => ∃ a ms m, vs = [.ref a, .str m] ∧ Lt H a (ms.map V.str) ∧ Mv ms ∧ m ∈ ms ∧ ∀ p H', Same H H' → PlAt cP H' p (plainPl ms m) → Q (.ref p) H'
section
variable {P : Program} {w : World} {K : PySem.W.Frag} {mg : Str → Option Value} {base : Heap} {cP cG cT : Addr} {f : Addr} {fd : FuncData} (T : Txt K w mg cP cG cT)
include T
theorem ok_led_truths {C_values : Cal P w K mg base "values" 2 ["rows", "wanted", "truths", "ring"] spValues} (F : FnP K "led_truths" "led_truths" s_led_truths f fd) : FnOk P w K mg base CX0 3 f fd ["rows", "wanted", "truths", "level", "ring"] spLed := by
  refine okN F sc_led_truths (fun vs H Q E h => ?_) (fun cdv A outer s H vs Q E hr h => ?_)
  · obtain ⟨a, b, t, g, n, xs, P, tr, ring, rfl, _⟩ := h
    rfl
  · obtain ⟨a, b, t, g, n, xs, P, tr, ring, rfl, ha, hrs, ok, hb, ht, hg, q⟩ := h
    refine ⟨_, (pss_cons (ps_set (i := 5) sc_led_truths.nd rfl (Or.inl rfl) (pe_cal C_values hr (pa_cons (pv 0) (pa_cons (pv 1) (pa_cons (pv 2) (pa_cons (pv 4) pa_nil))))))
      (pss_cons (ps_set (i := 6) sc_led_truths.nd rfl (Or.inl rfl) pe_dnewK)
      (pss_cons (ps_lock (ps_for PassesOwn.never rfl (pi_keys (pv 2)) (pg_name (i := 7) sc_led_truths.nd rfl (Or.inl rfl)) (pss_cons (ps_asg (pe_ix (ixT K) (pv 0) (pv 7) (fun _ _ => rfl)) (pgT K 3 rfl (pgs_cons (pg_name (i := 8) sc_led_truths.nd rfl (Or.inl rfl)) (pgs_cons (pg_name (i := 9) sc_led_truths.nd rfl (Or.inl rfl)) (pgs_cons (pg_name (i := 10) sc_led_truths.nd rfl (Or.inl rfl)) pgs_nil)))))
      (pss_one (ps_dput (hu_of hr) (pv 6) (pv 7) (pe_and (pe_dget (hu_of hr) (pv 2) (pv 7) (fun _ _ => rfl)) (pe_one (pe_or (pe_cmpR op_lt (pv 3) (pv 9) (nomark _)) (pe_one (pe_dget (hu_of hr) (pv 5) (pv 10) (fun _ _ => rfl)))))) rfl)))))
      (pss_one (ps_ret (pv 6)))))), ?_⟩
    refine ⟨_, rfl, _, rfl, _, rfl, _, rfl, ?_⟩
    refine ⟨a, b, t, g, xs, P.rows, P.cone, trE P tr, ring, tr, rfl, ha, hrs, ok.rows, hb, cone_len P ok.len, cone_sorted _ _, cone_closed ok.rows, .inl ht, fun i hi hs => trE_val (mem_marks.mpr ⟨hi, hs⟩), hg, fun k kvs H1 s1 nk hk hkv => ?_⟩
    intro D hD
    have s2 := s1.trans (same_new (o := .dK []) hD)
    have hk2 : (upd H1 D (.dK [])) k = some (.dK kvs) := same_new hD _ _ hk
    have hd2 : (upd H1 D (.dK [])) D = some (.dK []) := upd_same
    have nD : H D = none := none_of s1 hD
    have hkD : k ≠ D := ne_of_none hk hD
    generalize upd H1 D (.dK []) = H2 at s2 hk2 hd2
    refine ⟨t, _, s2 _ _ ht, trivial, fun od => ?_⟩
    have htD : t ≠ D := ne_of_none ht nD
    have hne : ∀ {c : Addr} {o : HO}, H c = some o → o ≠ .dK (trE P tr) → c ≠ t := fun hc h e => h (by subst e; rw [ht] at hc; exact (Option.some.inj hc).symm)
    have hkt : k ≠ t := by
      rintro rfl
      rw [s1 _ _ ht] at hk
      have := none_of s1 hD
      rw [ht] at nk
      cases nk
    refine ⟨_, rfl, t, od, rfl, .inl ⟨_, upd_same, ?_⟩⟩
    refine for_it (walk_keys (kvs := trE P tr)) (fun i σ H' => (∀ c o, c ≠ t → H c = some o → H' c = some o) ∧ H' t = some (.frz od (.dK (trE P tr))) ∧ H' k = some (.dK kvs) ∧ (∃ u1 u2 u3 u4, σ = [some (.ref a), some (.ref b), some (.ref t), some (nV n), some (.ref g), some (.ref k), some (.ref D), u1, u2, u3, u4]) ∧
      H' D = some (.dK ((trE P (P.later tr n ring)).take i))) ⟨fun c o hc e => by rw [upd_ne hc]; exact s2 _ _ e, upd_same, by rw [upd_ne hkt]; exact hk2, ⟨_, _, _, _, rfl⟩, by rw [upd_ne htD.symm]; exact hd2⟩ (fun i σ H' hi h => h.2.1) (fun i x σ H9 H3 hi h y => ?_) (fun σ H3 h => ?_)
    · obtain ⟨hf, ht3, hk3, ⟨u1, u2, u3, u4, rfl⟩, hd3⟩ := h
      obtain ⟨rfl, k', v', e1, rfl⟩ := y
      have e1' := e1
      unfold trE at e1'
      rw [List.getElem?_map] at e1'
      obtain ⟨m, hm, e2⟩ := Option.map_eq_some_iff.mp e1'
      cases e2
      have hmm := List.mem_of_getElem? hm
      obtain ⟨lv, j, hr', el, ej⟩ := sh_row hmm
      obtain ⟨ra, hra, har⟩ := hrs.get' hr'
      have hjc : j ∈ P.cone := by
        obtain ⟨r2, hr2, hc2⟩ := cone_closed ok.rows m (mem_marks.mp hmm).1
        rw [hr'] at hr2
        cases hr2
        exact hc2 j (by simp [Rw.refs])
      have hlen : ((trE P (P.later tr n ring)).take i).length < sizeLine := by
        rw [List.length_take]
        have := marks_len P ok.len
        unfold trE
        rw [List.length_map]
        exact sz_lt (by omega)
      have eL : P.later tr n ring m = (tr m && (decide (n < lv) || hold P.rows tr ring j)) := by
        unfold Pl.later
        rw [el, ej]
      refine ⟨_, rfl, _, rfl, a, xs, _, _, rfl, rfl, .inl (.inl (hf a _ (hne ha (by simp)) ha)), atI_nat hra, ?_⟩
      refine ⟨ra, _, rfl, .inl (.inl (hf ra _ (hne har (by simp)) har)), rfl, _, _, rfl, _, _, rfl, _, _, rfl, rfl, ?_⟩
      refine ⟨_, rfl, _, rfl, t, _, rfl, dget (.inr ⟨od, ht3⟩) (trE_val hmm), _, rfl, ?_⟩
      have step : ∀ v : Bool, v = P.later tr n ring m → (∀ c o, c ≠ t → H c = some o → (upd H3 D (.dK (putK ((trE P (P.later tr n ring)).take i) (kN m) (.bl v)))) c = some o) ∧ (upd H3 D (.dK (putK ((trE P (P.later tr n ring)).take i) (kN m) (.bl v)))) t = some (.frz od (.dK (trE P tr))) ∧
          (upd H3 D (.dK (putK ((trE P (P.later tr n ring)).take i) (kN m) (.bl v)))) k = some (.dK kvs) ∧ (upd H3 D (.dK (putK ((trE P (P.later tr n ring)).take i) (kN m) (.bl v)))) D = some (.dK ((trE P (P.later tr n ring)).take (i + 1))) := fun v hv => by
        refine ⟨fun c o hc e => ?_, ?_, ?_, ?_⟩
        · rw [upd_ne (ne_of_none e nD)]
          exact hf c o hc e
        · rw [upd_ne htD]
          exact ht3
        · rw [upd_ne hkD]
          exact hk3
        · rw [upd_same, hv, trE_put hm]
      cases htr : tr m with
      | false =>
        refine iteF ?_
        obtain ⟨z1, z2, z3, z4⟩ := step false (by rw [eL, htr]; rfl)
        exact ⟨_, rfl, _, rfl, D, _, rfl, DPut.k (k := kN m) hd3 hlen, z1, z2, z3, ⟨_, _, _, _, rfl⟩, z4⟩
      | true =>
        refine iteT ?_
        refine ⟨_, rfl, _, rfl, _, _, rfl, rfl, _, rfl, ?_⟩
        by_cases hn : n < lv
        · refine ifT (by omega) ?_
          obtain ⟨z1, z2, z3, z4⟩ := step true (by rw [eL, htr, decide_eq_true hn]; rfl)
          exact ⟨_, rfl, _, rfl, D, _, rfl, DPut.k (k := kN m) hd3 hlen, z1, z2, z3, ⟨_, _, _, _, rfl⟩, z4⟩
        · refine ifF (by omega) ?_
          refine ⟨_, rfl, _, rfl, k, _, rfl, dget (.inl hk3) (hkv j hjc), ?_⟩
          obtain ⟨z1, z2, z3, z4⟩ := step (hold P.rows tr ring j) (by rw [eL, htr, decide_eq_false hn]; rfl)
          exact ⟨_, rfl, _, rfl, D, _, rfl, DPut.k (k := kN m) hd3 hlen, z1, z2, z3, ⟨_, _, _, _, rfl⟩, z4⟩
    · obtain ⟨hf, ht3, hk3, ⟨u1, u2, u3, u4, rfl⟩, hd3⟩ := h
      refine ⟨ht3, _, rfl, ?_⟩
      refine q D _ (fun c o e => ?_) nD ?_
      · by_cases hc : c = t
        · subst hc
          rw [ht] at e
          cases e
          exact upd_same
        · rw [upd_ne hc]
          exact hf c o hc e
      · rw [upd_ne htD.symm, hd3, List.take_of_length_le (by unfold trE; simp)]
theorem ok_plain {C_need_moves : Cal P w K mg base "need_moves" 3 ["thing"] spNeedMoves} {K_Player : Mak P w K mg base cP "Player" 4 ["self", "moves", "rows", "chosen"] (spPlayer cP)} (F : FnP K "plain" "plain" s_plain f fd) : FnOk P w K mg base CX0 6 f fd ["moves", "move"] (spPlain cP) := by
  refine okN F sc_plain (fun vs H Q E h => ?_) (fun cdv A outer s H vs Q E hr h => ?_)
  · obtain ⟨a, ms, m, rfl, _⟩ := h
    rfl
  · obtain ⟨a, ms, m, rfl, ha, mv, hm, q⟩ := h
    refine ⟨_, (pss_cons (ps_expr (pe_cal C_need_moves hr (pa_cons (pv 0) pa_nil)))
      (pss_cons (ps_if (PW.pt (pw_or (pt_not (pt_val (pe_callB call_isi (by rfl) T.isinstance_ b_isinstance (pa_cons (pv 1) (pa_cons (ty_str T) pa_nil))))) (pw_or1 (pt_cmpR (notInS K) (pv 1) (pv 0) rfl)))) (pss_one ps_never) pss_nil)
      (pss_cons (ps_asg (pv 0) (pg_star (n := 2) (i := 0) rfl (pgs_star (pg_name (i := 2) sc_plain.nd rfl (Or.inl rfl)) (pgs_cons (pg_name (i := 3) sc_plain.nd rfl (Or.inl rfl)) pgs_nil))))
      (pss_one (ps_ret (pe_mak K_Player hr (pa_cons (pv 0) (pa_cons (pe_lst (pa_cons (pe_tup (pa_cons pe_str pa_nil)) (pa_cons (pe_tup (pa_cons pe_str (pa_cons pe_int pa_nil))) pa_nil))) (pa_cons (pe_lc (own := [("one", 4)]) rfl sc_plain.nd (pi_sq (pv 2)) (blkOk_by (own := [("one", 4)]) (N := ["moves", "move", "others", "last", "one"]) (sc := defScope s_plain) (by decide +kernel)) (fun _ _ _ _ _ => pg_name (i := 4) sc_plain.nd rfl (Or.inl rfl)) (fun _ _ _ _ _ => pts_nil) (fun _ _ _ _ _ => (pe_callTy call_int1 (by rfl) T.int_ b_int (pa_cons (pe_cmpR op_eq (pv 4) (pv 1) (nomark _)) pa_nil)))) pa_nil))))))))), ?_⟩
    refine ⟨_, rfl, a, ms, rfl, ha, mv, fun H1 s1 => ?_⟩
    have ha1 := ha.mono s1
    refine ⟨_, rfl, _, _, _, _, true, rfl, .ty _, .base (.str _), by exact kit_ty (by decide +kernel), true, rfl, ?_⟩
    refine iteF ?_
    refine ⟨_, rfl, _, rfl, a, _, rfl, ha1.sq, rfl, flat_strs ms, _, rfl, ?_⟩
    show if (!inV (.str m) (ms.map V.str)) = true then _ else _
    rw [in_strs]
    refine ifNF hm ?_
    have hne : ms ≠ [] := by
      intro e
      have := mv.pos
      rw [e] at this
      cases this
    obtain ⟨l, z, el⟩ : ∃ l z, ms = l ++ [z] := ⟨ms.dropLast, ms.getLast hne, (List.dropLast_concat_getLast hne).symm⟩
    have hfew := mv.few
    have hlen : ms.length = l.length + 1 := by rw [el]; simp
    refine ⟨_, rfl, a, _, rfl, ha1.sq, by rw [List.length_map]; omega, by rw [List.length_map]; omega, fun D hD => ?_⟩
    have e1 : (ms.map V.str).take 0 ++ [V.ref D] ++ ((ms.map V.str).drop 0).drop ((ms.map V.str).length + 1 - 2) = [.ref D, .str z] := by
      rw [el]
      simp
    have e2 : (((ms.map V.str).drop 0).take ((ms.map V.str).length + 1 - 2)) = l.map V.str := by
      rw [el]
      simp
    rw [e1, e2]
    refine ⟨_, _, rfl, _, _, rfl, rfl, ?_⟩
    have s2 := s1.trans (same_new (o := .lst (l.map V.str)) hD)
    have hd2 : (upd H1 D (.lst (l.map V.str))) D = some (.lst (l.map V.str)) := upd_same
    generalize upd H1 D (.lst (l.map V.str)) = H2 at s2 hd2
    refine ⟨_, rfl, (by show 1 ≤ sizeLine; decide), fun t1 n1 => ⟨(by show 2 ≤ sizeLine; decide), fun t2 n2 => ⟨(by show 2 ≤ sizeLine; decide), fun L nL => ?_⟩⟩⟩
    have s3 := s2.trans (same_new (o := .tup [.str "false"]) n1)
    have s4 := s3.trans (same_new (o := .tup [.str "not", .int 0]) n2)
    have s5 := s4.trans (same_new (o := .lst [.ref t1, .ref t2]) nL)
    have g1 : (upd (upd (upd H2 t1 (.tup [.str "false"])) t2 (.tup [.str "not", .int 0])) L (.lst [.ref t1, .ref t2])) t1 = some (.tup [.str "false"]) := same_new nL _ _ (same_new n2 _ _ upd_same)
    have g2 : (upd (upd (upd H2 t1 (.tup [.str "false"])) t2 (.tup [.str "not", .int 0])) L (.lst [.ref t1, .ref t2])) t2 = some (.tup [.str "not", .int 0]) := same_new nL _ _ upd_same
    have g3 : (upd (upd (upd H2 t1 (.tup [.str "false"])) t2 (.tup [.str "not", .int 0])) L (.lst [.ref t1, .ref t2])) L = some (.lst [.ref t1, .ref t2]) := upd_same
    have g4 := same_new (o := .lst [.ref t1, .ref t2]) nL _ _ (same_new (o := .tup [.str "not", .int 0]) n2 _ _ (same_new (o := .tup [.str "false"]) n1 _ _ hd2))
    generalize upd (upd (upd H2 t1 (.tup [.str "false"])) t2 (.tup [.str "not", .int 0])) L (.lst [.ref t1, .ref t2]) = H5 at s5 g1 g2 g3 g4
    refine ⟨_, rfl, D, _, rfl, .inl g4, fun J hJ D2 hD2 => ?_⟩
    refine lcW_fm hJ (fun i => (l[i]?).map fun x => nV (if x = m then 1 else 0)) hD2 (by simp; omega) (fun H6 s6 => same_of s6 (.inl g4)) (fun i x H9 H6 hi s6 y K1 K0 k1 k0 => ?_) (fun H6 s6 e => ?_)
    · obtain ⟨rfl, hx⟩ := y
      rw [List.getElem?_map] at hx
      obtain ⟨y, hy, rfl⟩ := Option.map_eq_some_iff.mp hx
      refine ⟨rfl, yesT ?_⟩
      refine ⟨_, rfl, _, rfl, rfl, .inr ⟨_, rfl, k1 _ _ ?_ (fun _ _ e => e)⟩⟩
      rw [hy]
      by_cases h : y = m
      · subst h
        simp
      · have : ¬ V.str y = V.str m := str_ne h
        simp [h]
    · intro x dx nx ndx nex
      rw [List.length_map, range_mapA] at e
      have s7 : Same H6 (upd (upd H6 dx (.own x)) x (.ins cP dx [])) := (same_new ndx).trans (same_new (by rw [upd_ne nex.symm]; exact nx))
      have s8 := s6.trans s7
      refine ⟨x, dx, a, L, D2, [.ref t1, .ref t2], plainPl ms m, rfl, upd_same, ha.mono (s5.trans s8), .inl (s8 _ _ g3), .cons ⟨t1, rfl, s8 _ _ g1⟩ (.cons ⟨t2, rfl, s8 _ _ g2⟩ .nil), .inl ?_, plain_ok mv, fun H7 z7 hp7 => ⟨rfl, q x H7 (fun c u ec => ?_) hp7⟩⟩
      · rw [s7 _ _ e]
        show some (HO.lst _) = some (HO.lst ((ms.dropLast.map fun x => if x = m then 1 else 0).map nV))
        rw [List.map_map, el, List.dropLast_concat]
        rfl
      · exact z7 c u (ne_of_none ((s5.trans s6) _ _ ec) nx) ((s5.trans s8) _ _ ec)
end
end Lk

set_option maxHeartbeats 4000000
namespace Lk
open PySem PySem.Spec PyProof.Rows L2
theorem pc_ninP {X : Cx} (P : Program) (w : World) {i o : Expr} {ty td : TE} (hu : X.A.units + 16 < cLine) (hi : PE X i ty) (ho : PE X o td) (h1 : X.prog = P := by rfl) (h2 : X.w = w := by rfl) : PC X .In i o (tNIn P w false ty td) := h1 ▸ h2 ▸ pc_nin hu hi ho
theorem ngetP {X : Cx} (P : Program) (w : World) {i o : Expr} {pos : Pos} {ty td : TE} (hu : X.A.units + 16 < cLine) (ho : PE X o td) (hi : PE X i ty) (hs : NoSl i) (h1 : X.prog = P := by rfl) (h2 : X.w = w := by rfl) : PE X (.Subscript o i pos) (tNGet P w td ty) := h1 ▸ h2 ▸ pe_nget hu ho hi hs
theorem trE_zip {L : Pl} {s : Sd} (h : s.2.length = L.marks.length) : trE L (L.tr s) = (L.marks.zip s.2).map fun x => (kN x.1, V.bl x.2) := by
  have e := tr_bits h
  unfold trE
  generalize L.tr s = g at e
  rw [← e]
  generalize L.marks = ms
  induction ms with
  | nil => rfl
  | cons m r ih => simp [ih]
theorem merge_nd : ∀ (more pre : List (Key × V)), ((pre ++ more).map (·.1)).Nodup → mergeK pre more = pre ++ more
  | [], pre, _ => by simp [mergeK]
  | x :: r, pre, nd => by
    show mergeK (putK pre x.1 x.2) r = _
    have hn : ¬ (pre.any fun kv => decide (kv.1 = x.1)) = true := by
      rw [List.any_eq_true]
      rintro ⟨y, hy, e⟩
      have e := of_decide_eq_true e
      rw [List.map_append, List.map_cons] at nd
      exact (List.nodup_append.mp nd).2.2 y.1 (List.mem_map_of_mem hy) x.1 (by simp) e
    have e : putK pre x.1 x.2 = pre ++ [x] := by
      unfold putK
      rw [if_neg hn]
    rw [e, merge_nd r _ (by rw [List.append_assoc]; exact nd), List.append_assoc]
    rfl
theorem trE_nd (L : Pl) (tr : Nat → Bool) : ((trE L tr).map (·.1)).Nodup := by
  unfold trE
  rw [List.map_map]
  exact List.Pairwise.map _ (fun a b h e => h (by have e : (Sum.inl ((a : Nat) : Int) : Key) = Sum.inl ((b : Nat) : Int) := e; injection e with e; omega)) (marks_nd L)
theorem PlAt.monoX {cP : Addr} {H H' : Hp} {x p C dx : Addr} {fs : List (Str × V)} {L : Pl} (s : SameX x H H') (hx : H x = some (.ins C dx fs)) (hf : fs.length < 4) (h : PlAt cP H p L) : PlAt cP H' p L := by
  obtain ⟨dy, a, b, c, d, xs, h1, h2, h3, h4, h5, h6⟩ := h.ex
  refine ⟨dy, a, b, c, d, xs, s _ _ (ne_x hx h1 ?_) h1, s _ _ (ne_x hx h2 (by simp)) h2, s _ _ (ne_x hx h3 (by simp)) h3, h4.monoX s hx, s _ _ (ne_x hx h5 (by simp)) h5, s _ _ (ne_x hx h6 (by simp)) h6⟩
  intro e
  injection e with _ _ e
  rw [e] at hf
  exact absurd hf (by simp)
def spNeedPlayer (cP : Addr) : Sp := fun vs H Q _ => ∃ p L, vs = [.ref p] ∧ PlAt cP H p L ∧ Q .non H
def spGait (cP cG : Addr) : Sp := fun vs H Q _ => ∃ x dx p L, vs = [.ref x, .ref p] ∧ H x = some (.ins cG dx []) ∧ PlAt cP H p L ∧ L.rows.length ≤ 40 ∧ ∀ H', SameX x H H' → GaAt cP cG H' x L → Q .non H'
def spFirst (cP cG : Addr) : Sp := fun vs H Q _ => ∃ g L, vs = [.ref g] ∧ GaAt cP cG H g L ∧ L.rows.length ≤ 40 ∧ ∀ a H', Same H H' → SdAt H' a L.init → Q (.ref a) H'
def spTruths (cP cG : Addr) : Sp := fun vs H Q _ => ∃ g a L s, vs = [.ref g, .ref a] ∧ GaAt cP cG H g L ∧ SdAt H a s ∧ s.2.length = L.marks.length ∧ ∀ q H', Same H H' → H q = none → H' q = some (.dK (trE L (L.tr s))) → Q (.ref q) H'
def spMove (cP cG : Addr) : Sp := fun vs H Q _ => ∃ g a L s, vs = [.ref g, .ref a] ∧ GaAt cP cG H g L ∧ L.Ok ∧ SdAt H a s ∧ s.2.length = L.marks.length ∧ ∀ H', Same H H' → Q (.str (L.mvs s)) H'
def spBehind (cP cG : Addr) : Sp := fun vs H Q _ => ∃ g a L s y, vs = [.ref g, .ref a, .str y] ∧ GaAt cP cG H g L ∧ L.Ok ∧ SdAt H a s ∧ s.2.length = L.marks.length ∧ ∀ q H', Same H H' → SdAt H' q (L.step s y) → Q (.ref q) H'
def spRests (cP cG : Addr) : Sp := fun vs H Q _ => ∃ g a L s y, vs = [.ref g, .ref a, .str y] ∧ GaAt cP cG H g L ∧ L.Ok ∧ SdAt H a s ∧ s.2.length = L.marks.length ∧ ∀ H', Same H H' → Q (.bl (L.rest s y)) H'
section
variable {P : Program} {w : World} {K : PySem.W.Frag} {mg : Str → Option Value} {base : Heap} {cP cG cT : Addr} {f : Addr} {fd : FuncData} (T : Txt K w mg cP cG cT)
include T
theorem ok_need_player (F : FnP K "need_player" "need_player" s_need_player f fd) : FnOk P w K mg base CX0 1 f fd ["thing"] (spNeedPlayer cP) := by
  refine okN F sc_need_player (fun vs H Q E h => ?_) (fun cdv A outer s H vs Q E hr h => ?_)
  · obtain ⟨p, L, rfl, _⟩ := h
    rfl
  · obtain ⟨p, L, rfl, hp, q⟩ := h
    obtain ⟨dx, a, b, c, d, xs, h1, h2, h3, h4, h5, h6⟩ := hp.ex
    refine ⟨_, (pss_one (ps_if (pt_not (pt_val (pe_callB call_isi (by rfl) T.isinstance_ b_isinstance (pa_cons (pv 0) (pa_cons (gl_Player T) pa_nil))))) (pss_one ps_never) pss_nil)), ?_⟩
    refine ⟨_, rfl, _, _, _, _, true, rfl, .own _, .base (.ins h1 T.clP T.isP.1 T.isP.2.1 T.isP.2.2.1 T.isP.2.2.2.1), T.isP.2.2.2.2, true, rfl, ?_⟩
    exact iteF q
theorem ok_Gait {M_showns : Mth P w K mg base cP "showns" 1 ["self"] (spShowns cP)} {M_top : Mth P w K mg base cP "top" 2 ["self"] (spTop cP)} (F : FnP K "__init__" "Gait.__init__" s_Gait___init__ f fd) :
    FnOk P w K mg base CX0 3 f fd ["self", "player"] (spGait cP cG) := by
  refine okN F sc_Gait___init (fun vs H Q E h => ?_) (fun cdv A outer s H vs Q E hr h => ?_)
  · obtain ⟨x, dx, p, L, rfl, _⟩ := h
    rfl
  · obtain ⟨x, dx, p, L, rfl, hx, hp, hl, q⟩ := h
    obtain ⟨dy, a, b, c, d, xs, h1, h2, h3, h4, h5, h6⟩ := hp.ex
    refine ⟨_, (pss_cons (ps_fld (pv 0) (pv 1) rfl)
      (pss_cons (ps_fld (pv 0) (pe_mth0 T.clP M_showns hr (pv 1)) rfl)
      (pss_one (ps_fld (pv 0) (pe_mth0 T.clP M_top hr (pv 1)) rfl)))), ?_⟩
    refine ⟨_, rfl, _, rfl, x, _, _, _, rfl, hx, T.clG, T.naG _ (by simp), by decide, ?_⟩
    have z1 : SameX x H (upd H x (.ins cG dx [("walker", .ref p)])) := sameX_upd
    have hp1 := hp.monoX z1 hx (by decide)
    have hx1 : (upd H x (.ins cG dx [("walker", .ref p)])) x = some (.ins cG dx [("walker", .ref p)]) := upd_same
    show tSeq _ _ _ _ (upd H x (.ins cG dx [("walker", .ref p)]))
    generalize upd H x (.ins cG dx [("walker", .ref p)]) = H1 at z1 hp1 hx1
    obtain ⟨dy1, a1, b1, c1, d1, xs1, g1, _⟩ := hp1.ex
    refine ⟨_, rfl, p, _, _, rfl, g1, rfl, p, L, rfl, hp1, hl, fun m H2 s2 nm hm => ?_⟩
    have hx2 := s2 _ _ hx1
    have z2 := z1.trans (sx s2)
    have hp2 := hp1.mono s2
    refine ⟨_, rfl, x, _, _, _, rfl, hx2, T.clG, T.naG _ (by simp), by simp, ?_⟩
    have e2 : putF "marks" (.ref m) [("walker", V.ref p)] = ([("walker", V.ref p), ("marks", V.ref m)] : List (Str × V)) := by rfl
    rw [e2]
    have z3 : SameX x H2 (upd H2 x (.ins cG dx [("walker", .ref p), ("marks", .ref m)])) := sameX_upd
    have hp3 := hp2.monoX z3 hx2 (by simp)
    have hm3 := z3 _ _ (ne_x hx2 hm (by simp)) hm
    have z3 := z2.trans z3
    have hx3 : (upd H2 x (.ins cG dx [("walker", .ref p), ("marks", .ref m)])) x = some (.ins cG dx [("walker", .ref p), ("marks", .ref m)]) := upd_same
    generalize upd H2 x (.ins cG dx [("walker", .ref p), ("marks", .ref m)]) = H3 at z3 hp3 hx3 hm3
    obtain ⟨dy3, a3, b3, c3, d3, xs3, g3, _⟩ := hp3.ex
    refine ⟨_, rfl, p, _, _, rfl, g3, rfl, p, L, rfl, hp3, hl, fun H4 s4 => ?_⟩
    have hx4 := s4 _ _ hx3
    refine ⟨_, rfl, x, _, _, _, rfl, hx4, T.clG, T.naG _ (by simp), by simp, ?_⟩
    have e4 : putF "high" (nV L.high) [("walker", V.ref p), ("marks", V.ref m)] = ([("walker", V.ref p), ("marks", V.ref m), ("high", nV L.high)] : List (Str × V)) := by rfl
    rw [e4]
    have z5 : SameX x H4 (upd H4 x (.ins cG dx [("walker", .ref p), ("marks", .ref m), ("high", nV L.high)])) := sameX_upd
    exact q _ ((z3.trans (sx s4)).trans z5) ⟨dx, p, m, upd_same, (hp3.mono s4).monoX z5 hx4 (by simp), z5 _ _ (ne_x hx4 (s4 _ _ hm3) (by simp)) (s4 _ _ hm3)⟩
theorem ok_first (F : FnP K "first" "Gait.first" s_Gait_first f fd) : FnOk P w K mg base CX0 1 f fd ["self"] (spFirst cP cG) := by
  refine okN F sc_Gait_first (fun vs H Q E h => ?_) (fun cdv A outer s H vs Q E hr h => ?_)
  · obtain ⟨g, L, rfl, _⟩ := h
    rfl
  · obtain ⟨g, L, rfl, hg, hl, q⟩ := h
    obtain ⟨dx, p, m, h1, h2, h3⟩ := hg.ex
    refine ⟨_, (pss_one (ps_ret (pe_tup (pa_cons pe_int (pa_cons (pe_op op_repA (pe_tup (pa_cons pe_bl pa_nil)) (pe_callB (lenS K) (by rfl) T.len_ b_len (pa_cons (fldK K (pv 0) rfl) pa_nil))) pa_nil))))), ?_⟩
    refine ⟨(by show 1 ≤ sizeLine; decide), fun t ht => ?_⟩
    have s1 : Same H (upd H t (.tup [.bl true])) := same_new ht
    have ht1 : (upd H t (.tup [.bl true])) t = some (.tup [.bl true]) := upd_same
    generalize upd H t (.tup [.bl true]) = H1 at s1 ht1
    have hml := marks_len L hl
    refine ⟨_, rfl, g, _, _, _, _, rfl, s1 _ _ h1, T.clG, T.naG _ (by simp), rfl, m, _, rfl, .inl (.inl (.inl (s1 _ _ h3))), t, _, _, rfl, rfl, ht1, by omega, by rw [List.length_map]; omega, fun b H2 s2 hb => ?_⟩
    refine ⟨(by show 2 ≤ sizeLine; decide), fun r nr => ?_⟩
    refine q r _ ((s1.trans s2).trans (same_new nr)) ⟨b, upd_same, ?_⟩
    rw [upd_ne (ne_of_none hb nr), hb, List.length_map, Int.toNat_natCast]
    show _ = some (HO.tup ((List.replicate L.marks.length true).map V.bl))
    rw [List.map_replicate]
theorem ok_truths (F : FnP K "truths" "Gait.truths" s_Gait_truths f fd) : FnOk P w K mg base CX0 1 f fd ["self", "stand"] (spTruths cP cG) := by
  refine okN F sc_Gait_truths (fun vs H Q E h => ?_) (fun cdv A outer s H vs Q E hr h => ?_)
  · obtain ⟨g, a, L, s, rfl, _⟩ := h
    rfl
  · obtain ⟨g, a, L, s, rfl, hg, ha, hl, q⟩ := h
    obtain ⟨dx, p, m, h1, h2, h3⟩ := hg.ex
    obtain ⟨b, h4, h5⟩ := ha
    refine ⟨_, (pss_one (ps_ret (pe_callTy (call_dictP rfl) (by rfl) T.dict_ b_dict (pa_cons (pe_listZip (by rfl) T.list_ (by rfl) T.zip_ (pa_cons (fldK K (pv 0) rfl) (pa_cons (pe_ix (ixT K) (pv 1) pe_int (fun _ _ => rfl)) pa_nil))) pa_nil)))), ?_⟩
    refine ⟨_, rfl, g, _, _, _, _, rfl, h1, T.clG, T.naG _ (by simp), rfl, _, rfl, a, _, _, _, rfl, rfl, .inl (.inl h4), atI_nat (j := 1) rfl, ?_⟩
    refine ⟨m, b, _, _, rfl, .inl (.inl (.inl h3)), .inr (.inl (.inl h5)), by simp [hl], fun H1 z ts s1 nz hz pr => ?_⟩
    refine ⟨z, ts, trE L (L.tr s), rfl, .inl (.inl hz), ?_, fun r nr => ?_⟩
    · rw [trE_zip hl]
      rw [List.zip_map] at pr
      clear hz
      generalize L.marks.zip s.2 = zs at pr
      induction zs generalizing ts with
      | nil => cases pr; exact .nil
      | cons y r ih =>
        cases pr with
        | cons h t => exact .cons (.inl (.inl h)) (ih _ t)
    · rw [merge_nd _ [] (by rw [List.nil_append]; exact trE_nd L _), List.nil_append]
      exact q r _ (s1.trans (same_new nr)) (none_of s1 nr) upd_same
theorem ok_move {C_move_of : Cal P w K mg base "move_of" 3 ["player", "truths"] (spMoveOf cP)} {M_truths : Mth P w K mg base cG "truths" 1 ["self", "stand"] (spTruths cP cG)} (F : FnP K "move" "Gait.move" s_Gait_move f fd) : FnOk P w K mg base CX0 4 f fd ["self", "stand"] (spMove cP cG) := by
  refine okN F sc_Gait_move (fun vs H Q E h => ?_) (fun cdv A outer s H vs Q E hr h => ?_)
  · obtain ⟨g, a, L, s, rfl, _⟩ := h
    rfl
  · obtain ⟨g, a, L, s, rfl, hg, ok, ha, hl, q⟩ := h
    obtain ⟨dx, p, m, h1, h2, h3⟩ := hg.ex
    refine ⟨_, (pss_one (ps_ret (pe_cal C_move_of hr (pa_cons (fldK K (pv 0) rfl) (pa_cons (pe_mth T.clG M_truths hr (pv 0) (pa_cons (pv 1) pa_nil)) pa_nil))))), ?_⟩
    refine ⟨_, rfl, g, _, _, _, _, rfl, h1, T.clG, T.naG _ (by simp), rfl, _, rfl, g, _, _, rfl, h1, rfl, _, rfl, g, a, L, s, rfl, hg, ha, hl, fun t H1 s1 nt ht => ?_⟩
    exact ⟨p, t, L, L.tr s, rfl, h2.mono s1, ok, .inl ht, fun H2 s2 => q _ (s1.trans s2)⟩
end
end Lk

set_option maxHeartbeats 4000000
namespace Lk
open PySem PySem.Spec PyProof.Rows L2
def sdata (s : Sd) : PyData := .tuple [.int s.1, .tuple ((s.2.map V.bl).map vD)]
theorem dp_sd {K : PySem.W.Frag} {H : Hp} {a : Addr} {s : Sd} (h : SdAt H a s) : Dp K H (.ref a) (sdata s) := by
  obtain ⟨b, h1, h2⟩ := h
  refine .tup (.inl (.inl h1)) (.cons (.int _) (.cons (.tup (.inl (.inl h2)) (dp_all _ ?_)) .nil))
  rw [List.all_eq_true]
  intro x hx
  obtain ⟨y, _, rfl⟩ := List.mem_map.mp hx
  rfl
theorem sd_shaped (s : Sd) : SeqAt.shaped (sdata s) = true := by
  obtain ⟨h1, h2⟩ := shp_all (s.2.map V.bl) (by
    rw [List.all_eq_true]
    intro x hx
    obtain ⟨y, _, rfl⟩ := List.mem_map.mp hx
    rfl)
  simp only [sdata, SeqAt.shaped, PyData.canLay0, PyData.canLayAll0, PyData.depth, PyData.depthAll, h1, h2]
  decide
theorem eqv_bits : ∀ xs ys : List Bool, PyData.eqvAll ((xs.map V.bl).map vD) ((ys.map V.bl).map vD) = decide (xs = ys)
  | [], [] => by simp [PyData.eqvAll]
  | [], _ :: _ => by simp [PyData.eqvAll]
  | _ :: _, [] => by simp [PyData.eqvAll]
  | x :: xs, y :: ys => by
    simp only [List.map_cons, vD, PyData.eqvAll, PyData.eqv, eqv_bits xs ys]
    rw [Bool.eq_iff_iff]
    simp
theorem eqv_sd (s t : Sd) : PyData.eqv (sdata s) (sdata t) = decide (s = t) := by
  simp only [sdata, PyData.eqv, PyData.eqvAll, eqv_bits]
  rw [Bool.eq_iff_iff]
  simp only [Bool.and_eq_true, decide_eq_true_eq, beq_iff_eq, Bool.and_true, and_true]
  constructor
  · rintro ⟨h1, h2⟩
    exact Prod.ext (by omega) h2
  · rintro rfl
    exact ⟨rfl, rfl⟩
section
variable {P : Program} {w : World} {K : PySem.W.Frag} {mg : Str → Option Value} {base : Heap} {cP cG cT : Addr} {f : Addr} {fd : FuncData} (T : Txt K w mg cP cG cT)
include T
theorem ok_behind {C_led_truths : Cal P w K mg base "led_truths" 3 ["rows", "wanted", "truths", "level", "ring"] spLed} {M_truths : Mth P w K mg base cG "truths" 1 ["self", "stand"] (spTruths cP cG)} {M_move : Mth P w K mg base cG "move" 4 ["self", "stand"] (spMove cP cG)}
    {M_rows : Mth P w K mg base cP "rows" 1 ["self"] (spRows cP)} (F : FnP K "behind" "Gait.behind" s_Gait_behind f fd) : FnOk P w K mg base CX0 5 f fd ["self", "stand", "letter"] (spBehind cP cG) := by
  refine okN F sc_Gait_behind (fun vs H Q E h => ?_) (fun cdv A outer s H vs Q E hr h => ?_)
  · obtain ⟨g, a, L, s, y, rfl, _⟩ := h
    rfl
  · obtain ⟨g, a, L, s, y, rfl, hg, ok, ha, hl, q⟩ := h
    have hg' := hg
    have ha' := ha
    obtain ⟨dx, p, m, h1, h2, h3⟩ := hg.ex
    obtain ⟨b, h4, h5⟩ := ha
    refine ⟨_, (pss_cons (ps_par (i := 3) (j := 4) (by rfl) sc_Gait_behind.nd rfl rfl (by decide) rfl rfl (pa_cons (pe_mth T.clG M_truths hr (pv 0) (pa_cons (pv 1) pa_nil)) (pa_cons (pe_tup (pa_cons (pe_mth T.clG M_move hr (pv 0) (pa_cons (pv 1) pa_nil)) (pa_cons (pv 2) pa_nil))) pa_nil)) (by rfl))
      (pss_cons (ps_set (i := 5) sc_Gait_behind.nd rfl (Or.inr rfl) (pe_cal C_led_truths hr (pa_cons (pe_mth0 T.clP M_rows hr (fldK K (pv 0) rfl)) (pa_cons (fldK K (fldK K (pv 0) rfl) rfl) (pa_cons (pv 3) (pa_cons (pe_ix (ixT K) (pv 1) pe_int (fun _ _ => rfl)) (pa_cons (pv 4) pa_nil)))))))
      (pss_one (ps_ret (pe_tup (pa_cons (pe_callB (call_min2 rfl) (by rfl) T.min_ b_min (pa_cons (pe_op op_add (pe_ix (ixT K) (pv 1) pe_int (fun _ _ => rfl)) pe_int) (pa_cons (fldK K (pv 0) rfl) pa_nil))) (pa_cons (pe_callTy tupA (by rfl) T.tuple_ b_tuple (pa_cons (pe_lc (own := [("at", 6)]) rfl sc_Gait_behind.nd (pi_sq (fldK K (pv 0) rfl)) (blkOk_by (own := [("at", 6)]) (N := ["self", "stand", "letter", "truths", "ring", "later", "at"]) (sc := defScope s_Gait_behind) (by decide +kernel)) (fun _ _ _ _ _ => pg_name (i := 6) sc_Gait_behind.nd rfl (Or.inl rfl)) (fun _ _ _ _ _ => pts_nil) (fun _ _ _ _ _ => (pe_dget (hu_of hr) (pv 5) (pv 6) (fun _ _ => rfl)))) pa_nil)) pa_nil))))))), ?_⟩
    refine ⟨_, rfl, g, _, _, rfl, h1, rfl, _, rfl, g, a, L, s, rfl, hg', ha', hl, fun t H1 s1 nt ht => ?_⟩
    refine ⟨_, rfl, g, _, _, rfl, s1 _ _ h1, rfl, _, rfl, g, a, L, s, rfl, hg'.mono s1, ok, ha'.mono s1, hl, fun H2 s2 => ?_⟩
    refine ⟨_, rfl, (by show 2 ≤ sizeLine; decide), fun r nr => ?_⟩
    have ht3 : (upd H2 r (.tup [.str (L.mvs s), .str y])) t = some (.dK (trE L (L.tr s))) := same_new nr _ _ (s2 _ _ ht)
    have s3 := (s1.trans s2).trans (same_new (o := .tup [.str (L.mvs s), .str y]) nr)
    have hr3 : (upd H2 r (.tup [.str (L.mvs s), .str y])) r = some (.tup [.str (L.mvs s), .str y]) := upd_same
    refine ⟨_, _, rfl, ?_⟩
    generalize upd H2 r (.tup [.str (L.mvs s), .str y]) = H3 at s3 ht3 hr3
    have hp3 := h2.mono s3
    obtain ⟨dy, wa, wb, wc, wd, xs, k1, k2, k3, k4, k5, k6⟩ := hp3.ex
    refine ⟨_, rfl, g, _, _, _, _, rfl, s3 _ _ h1, T.clG, T.naG _ (by simp), rfl, p, _, _, rfl, k1, rfl, p, L, rfl, hp3, fun b2 xs2 hb2 hrs2 => ?_⟩
    refine ⟨_, rfl, g, _, _, _, _, rfl, s3 _ _ h1, T.clG, T.naG _ (by simp), rfl, p, _, _, _, _, rfl, k1, T.clP, T.naP _ (by simp), rfl, _, rfl, _, rfl, a, _, _, _, rfl, rfl, .inl (.inl (s3 _ _ h4)), atI_nat (j := 0) rfl, _, rfl, ?_⟩
    refine ⟨b2, wd, t, r, s.1, xs2, L, L.tr s, [L.mvs s, y], rfl, hb2, hrs2, ok, k6, ht3, hr3, fun l H4 s4 nl hl4 => ?_⟩
    have s4 := s3.trans s4
    refine ⟨_, rfl, a, _, _, _, rfl, rfl, .inl (.inl (s4 _ _ h4)), atI_nat (j := 0) rfl, _, _, rfl, rfl, _, rfl, g, _, _, _, _, rfl, s4 _ _ h1, T.clG, T.naG _ (by simp), rfl, _, _, rfl, ?_⟩
    refine ⟨_, rfl, g, _, _, _, _, rfl, s4 _ _ h1, T.clG, T.naG _ (by simp), rfl, m, _, rfl, .inl (s4 _ _ h3), fun J hJ D hD => ?_⟩
    refine lcW_fm hJ (fun i => (L.marks[i]?).map fun j => .bl (L.later (L.tr s) s.1 [L.mvs s, y] j)) hD (by have := marks_len L ok.len; simp; omega) (fun H6 s6 => same_of s6 (.inl (s4 _ _ h3))) (fun i x H9 H6 hi s6 y' K1 K0 z1 z0 => ?_) (fun H6 s6 e => ?_)
    · obtain ⟨rfl, hx⟩ := y'
      rw [List.getElem?_map] at hx
      obtain ⟨j, hj, rfl⟩ := Option.map_eq_some_iff.mp hx
      refine ⟨rfl, yesT ?_⟩
      refine ⟨_, rfl, _, rfl, l, _, rfl, dget (.inl (s6 _ _ hl4)) (trE_val (List.mem_of_getElem? hj)), ?_⟩
      exact z1 _ _ (by rw [hj]; rfl) (fun _ _ e => e)
    · rw [List.length_map, range_mapA] at e
      refine ⟨D, _, rfl, .inl e, fun u H7 s7 hu => ?_⟩
      refine ⟨(by show 2 ≤ sizeLine; decide), fun z nz => ?_⟩
      refine q z _ (((s4.trans s6).trans s7).trans (same_new nz)) ⟨u, ?_, ?_⟩
      · rw [upd_same]
        have em : (if ((L.high : Nat) : Int) < ((s.1 : Nat) : Int) + 1 then ((L.high : Nat) : Int) else ((s.1 : Nat) : Int) + 1) = (((min (s.1 + 1) L.high : Nat)) : Int) := by
          split <;> omega
        rw [em]
        rfl
      · rw [upd_ne (ne_of_none hu nz), hu]
        show some (HO.tup _) = some (HO.tup ((L.marks.map _).map V.bl))
        rw [List.map_map]
        rfl
theorem ok_rests {M_behind : Mth P w K mg base cG "behind" 5 ["self", "stand", "letter"] (spBehind cP cG)} (F : FnP K "rests" "Gait.rests" s_Gait_rests f fd) : FnOk P w K mg base CX0 6 f fd ["self", "stand", "letter"] (spRests cP cG) := by
  refine okN F sc_Gait_rests (fun vs H Q E h => ?_) (fun cdv A outer s H vs Q E hr h => ?_)
  · obtain ⟨g, a, L, s, y, rfl, _⟩ := h
    rfl
  · obtain ⟨g, a, L, s, y, rfl, hg, ok, ha, hl, q⟩ := h
    have ha' := ha
    obtain ⟨dx, p, m, h1, h2, h3⟩ := hg.ex
    obtain ⟨b, h4, h5⟩ := ha
    refine ⟨_, (pss_one (ps_ret (pe_and (pe_cmpR op_eq (pe_ix (ixT K) (pv 1) pe_int (fun _ _ => rfl)) (fldK K (pv 0) rfl) (nomark _)) (pe_one (pe_cmpR (op_eqD hr.units) (pe_mth T.clG M_behind hr (pv 0) (pa_cons (pv 1) (pa_cons (pv 2) pa_nil))) (pv 1) (nomark _)))))), ?_⟩
    refine ⟨_, rfl, a, _, _, _, rfl, rfl, .inl (.inl h4), atI_nat (j := 0) rfl, _, rfl, g, _, _, _, _, rfl, h1, T.clG, T.naG _ (by simp), rfl, rfl, _, rfl, ?_⟩
    unfold Pl.rest at q
    by_cases e : s.1 = L.high
    · refine ifT (by rw [e]) ?_
      rw [decide_eq_true e] at q
      refine ⟨_, rfl, g, _, _, rfl, h1, rfl, _, rfl, _, rfl, g, a, L, s, y, rfl, hg, ok, ha', hl, fun r H1 s1 hr1 => ?_⟩
      refine ⟨_, rfl, _, _, dp_sd hr1, dp_sd (ha'.mono s1), sd_shaped _, sd_shaped _, ?_⟩
      rw [eqv_sd]
      exact q _ s1
    · have hne : ¬ V.int ((s.1 : Nat) : Int) = V.int ((L.high : Nat) : Int) := by
        intro z
        injection z with z
        omega
      refine ifF hne ?_
      rw [decide_eq_false e] at q
      exact q _ (fun _ _ e => e)
end
end Lk

set_option maxHeartbeats 4000000
namespace Lk
open PySem PySem.Spec PyProof.Rows L2
def spEnd (cP cG : Addr) : Sp := fun vs H Q _ => ∃ g a L s y, vs = [.ref g, .ref a, .str y] ∧ GaAt cP cG H g L ∧ L.Ok ∧ SdAt H a s ∧ Sd.Ok L s ∧ ∀ H', Same H H' → Q (.str (L.endM s y)) H'
/-- the search's dict and line on the heap -/
def WdsAt (H : Hp) (es : DnE) (W : List Wd) : Prop := Paired (fun (e : NestedKey × Addr × V) (x : Wd) => e.1 = skey x.1 ∧ SdAt H e.2.1 x.1 ∧ ∃ b, e.2.2 = .ref b ∧ H b = some (.tup (x.2.map V.str))) es W
def LnAt (H : Hp) (xs : List V) (W : List Wd) : Prop := Paired (fun (v : V) (x : Wd) => ∃ a, v = .ref a ∧ SdAt H a x.1) xs W
theorem WdsAt.mono {H H' : Hp} (s : Same H H') {es : DnE} {W : List Wd} (h : WdsAt H es W) : WdsAt H' es W := by
  induction h with
  | nil => exact .nil
  | cons h _ ih =>
    obtain ⟨h1, h2, b, h3, h4⟩ := h
    exact .cons ⟨h1, h2.mono s, b, h3, s _ _ h4⟩ ih
theorem LnAt.mono {H H' : Hp} (s : Same H H') {xs : List V} {W : List Wd} (h : LnAt H xs W) : LnAt H' xs W := by
  induction h with
  | nil => exact .nil
  | cons h _ ih =>
    obtain ⟨a, h1, h2⟩ := h
    exact .cons ⟨a, h1, h2.mono s⟩ ih
theorem paired_snoc {α β : Type} {R : α → β → Prop} {xs : List α} {ys : List β} {x : α} {y : β} (h : Paired R xs ys) (r : R x y) : Paired R (xs ++ [x]) (ys ++ [y]) := by
  induction h with
  | nil => exact .cons r .nil
  | cons h _ ih => exact .cons h ih
theorem paired_get {α β : Type} {R : α → β → Prop} {xs : List α} {ys : List β} (h : Paired R xs ys) : ∀ {i : Nat} {y : β}, ys[i]? = some y → ∃ x, xs[i]? = some x ∧ R x y := by
  induction h with
  | nil => intro i y e; simp at e
  | cons h _ ih =>
    intro i y e
    cases i with
    | zero => cases e; exact ⟨_, rfl, h⟩
    | succ i => exact ih (i := i) e
theorem paired_len {α β : Type} {R : α → β → Prop} {xs : List α} {ys : List β} (h : Paired R xs ys) : xs.length = ys.length := by
  induction h with
  | nil => rfl
  | cons _ _ ih => simp [ih]
theorem WdsAt.keys {H : Hp} {es : DnE} {W : List Wd} (h : WdsAt H es W) : dnKeys H es := by
  induction h with
  | nil => intro p hp; cases hp
  | cons h _ ih =>
    intro p hp
    rcases List.mem_cons.mp hp with rfl | hp
    · rw [h.1]
      exact h.2.1.nk
    · exact ih p hp
theorem WdsAt.find {H : Hp} {es : DnE} {W : List Wd} (h : WdsAt H es W) (s : Sd) : (s ∉ W.map (·.1) ∧ dnAt es (skey s) = none) ∨ ∃ x a b, x ∈ W ∧ x.1 = s ∧ dnAt es (skey s) = some (a, .ref b) ∧ H b = some (.tup (x.2.map V.str)) := by
  induction h with
  | nil => exact .inl ⟨by simp, rfl⟩
  | @cons e x _ _ h _ ih =>
    obtain ⟨h1, h2, b, h3, h4⟩ := h
    by_cases q : x.1 = s
    · refine .inr ⟨x, e.2.1, b, List.mem_cons_self, q, ?_, h4⟩
      unfold dnAt
      rw [List.find?_cons, decide_eq_true (by rw [h1, q])]
      show some (e.2.1, e.2.2) = _
      rw [h3]
    · have ek : decide (e.1 = skey s) = false := decide_eq_false fun z => q (skey_inj (by rw [← h1]; exact z))
      have er : ∀ r : DnE, dnAt (e :: r) (skey s) = dnAt r (skey s) := fun r => by
        unfold dnAt
        rw [List.find?_cons, ek]
      rw [er]
      rcases ih with ⟨i1, i2⟩ | ⟨x', a, b', i1, i2, i3, i4⟩
      · refine .inl ⟨?_, i2⟩
        rw [List.map_cons, List.mem_cons]
        rintro (z | z)
        · exact q z.symm
        · exact i1 z
      · exact .inr ⟨x', a, b', List.mem_cons_of_mem _ i1, i2, i3, i4⟩
theorem sd_uniq {W : List Wd} (nd : (W.map (·.1)).Nodup) {x y : Wd} (hx : x ∈ W) (hy : y ∈ W) (e : x.1 = y.1) : x = y := by
  induction W with
  | nil => cases hx
  | cons z r ih =>
    rw [List.map_cons, List.nodup_cons] at nd
    rcases List.mem_cons.mp hx with hx1 | hx1
    · rcases List.mem_cons.mp hy with hy1 | hy1
      · rw [hx1, hy1]
      · have hm := List.mem_map_of_mem (f := (·.1)) hy1
        rw [← e, hx1] at hm
        exact absurd hm nd.1
    · rcases List.mem_cons.mp hy with hy1 | hy1
      · have hm := List.mem_map_of_mem (f := (·.1)) hx1
        rw [e, hy1] at hm
        exact absurd hm nd.1
      · exact ih nd.2 hx1 hy1
theorem dnPut_new {es : DnE} {k : NestedKey} {a : Addr} {v : V} (h : dnAt es k = none) : dnPut es k a v = es ++ [(k, a, v)] := by
  unfold dnPut
  rw [h]
  rfl
def Pl.Small (L : Pl) : Prop := L.marks.length ≤ 4 ∧ L.high ≤ 12
theorem bound_le {L : Pl} (h : L.Small) : (L.high + 1) * 2 ^ L.marks.length ≤ 208 := by
  have h1 : 2 ^ L.marks.length ≤ 2 ^ 4 := Nat.pow_le_pow_right (by decide) h.1
  have h2 : L.high + 1 ≤ 13 := by have := h.2; omega
  calc (L.high + 1) * 2 ^ L.marks.length ≤ 13 * 2 ^ 4 := Nat.mul_le_mul h2 h1
    _ = 208 := by decide
def spWords (P : Program) (w : World) (cP cG : Addr) : Sp := fun vs H Q _ => ∃ g l L ls, vs = [.ref g, .ref l] ∧ GaAt cP cG H g L ∧ L.Ok ∧ L.Small ∧ Lt H l (ls.map V.str) ∧ ls.length ≤ 4 ∧
  ∀ d H' es W, Same H H' → H d = none → H' d = some (DN P w d es) → WdsAt H' es W → Bf L ls W.length W → Q (.ref d) H'
section
variable {P : Program} {w : World} {K : PySem.W.Frag} {mg : Str → Option Value} {base : Heap} {cP cG cT : Addr} {f : Addr} {fd : FuncData} (T : Txt K w mg cP cG cT)
include T
theorem ok_end {M_rests : Mth P w K mg base cG "rests" 6 ["self", "stand", "letter"] (spRests cP cG)} {M_behind : Mth P w K mg base cG "behind" 5 ["self", "stand", "letter"] (spBehind cP cG)} {M_move : Mth P w K mg base cG "move" 4 ["self", "stand"] (spMove cP cG)}
    (F : FnP K "end" "Gait.end" s_Gait_end f fd) : FnOk P w K mg base CX0 7 f fd ["self", "stand", "letter"] (spEnd cP cG) := by
  refine okN F sc_Gait_end (fun vs H Q E h => ?_) (fun cdv A outer s H vs Q E hr h => ?_)
  · obtain ⟨g, a, L, s, y, rfl, _⟩ := h
    rfl
  · obtain ⟨g, a, L, s, y, rfl, hg, ok, ha, hs, q⟩ := h
    obtain ⟨dx, p, m, h1, h2, h3⟩ := hg.ex
    refine ⟨_, (pss_cons (ps_while PassesOwn.never (pt_not (pt_val (pe_mth T.clG M_rests hr (pv 0) (pa_cons (pv 1) (pa_cons (pv 2) pa_nil))))) (pss_one (ps_set (i := 1) sc_Gait_end.nd rfl (Or.inl rfl) (pe_mth T.clG M_behind hr (pv 0) (pa_cons (pv 1) (pa_cons (pv 2) pa_nil))))))
      (pss_one (ps_ret (pe_mth T.clG M_move hr (pv 0) (pa_cons (pv 1) pa_nil))))), ?_⟩
    refine ⟨fun m σ H' => Same H H' ∧ ∃ a' s', σ = [some (.ref g), some (.ref a'), some (.str y)] ∧ SdAt H' a' s' ∧ Sd.Ok L s' ∧ L.endS s' y = L.endS s y ∧ L.mu s' = m, ⟨_, fun _ _ e => e, a, s, rfl, ha, hs, rfl, rfl⟩, ?_⟩
    rintro m' σ H1 ⟨s1, a', s', rfl, ha', hs', ee, em⟩
    refine ⟨_, rfl, g, _, _, rfl, s1 _ _ h1, rfl, _, rfl, _, rfl, g, a', L, s', y, rfl, hg.mono s1, ok, ha', hs'.2, fun H2 s2 => ⟨_, rfl, ?_⟩⟩
    have s2 := s1.trans s2
    have ha2 := ha'.mono (by assumption)
    cases hrr : L.rest s' y with
    | true =>
      refine iteF ?_
      refine ⟨_, rfl, g, _, _, rfl, s2 _ _ h1, rfl, _, rfl, g, a', L, s', rfl, hg.mono s2, ok, ha2, hs'.2, fun H3 s3 => ?_⟩
      have q := q _ (s2.trans s3)
      unfold Pl.endM at q
      rw [← ee, endS_rest hs' hrr] at q
      exact q
    | false =>
      refine iteT ?_
      refine ⟨fun σ' H'' => ∃ m'', m'' < m' ∧ Same H H'' ∧ ∃ a' s', σ' = [some (.ref g), some (.ref a'), some (.str y)] ∧ SdAt H'' a' s' ∧ Sd.Ok L s' ∧ L.endS s' y = L.endS s y ∧ L.mu s' = m'', fun σ' H'' h => h, ?_⟩
      refine ⟨_, rfl, g, _, _, rfl, s2 _ _ h1, rfl, _, rfl, _, rfl, g, a', L, s', y, rfl, hg.mono s2, ok, ha2, hs'.2, fun r H3 s3 hr3 => ?_⟩
      refine ⟨_, ?_, s2.trans s3, r, _, rfl, hr3, step_ok _ _, ?_, rfl⟩
      · have := mu_lt hs' hrr
        omega
      · rw [endS_step hs' hrr, ee]
end
end Lk

set_option maxHeartbeats 4000000
namespace Lk
open PySem PySem.Spec PyProof.Rows L2
/-- t + u, one way -/
theorem catT {X : Cx} : OpR X (binaryOp .Add) (fun x y H Q => ∃ a b xs ys, x = .ref a ∧ y = .ref b ∧ H a = some (.tup xs) ∧ H b = some (.tup ys) ∧ xs.length + ys.length ≤ sizeLine ∧ ∀ p H', Same H H' → H' p = some (.tup (xs ++ ys)) → Q (.ref p) H') := by
  intro pins s σ H x y v u Q I rx ry h
  obtain ⟨a, b, xs, ys, rfl, rfl, ha, hb, hz, q⟩ := h
  refine op_catA pins s σ H _ _ v u Q I rx ry ⟨a, b, xs, ys, rfl, rfl, .inl (.inl ha), .inl (.inl hb), hz, fun e => ?_, fun _ e => ?_, fun _ _ p np => q p _ (same_new np) upd_same⟩
  · subst e
    exact q b H (fun _ _ e => e) hb
  · subst e
    exact q a H (fun _ _ e => e) (by rw [List.append_nil]; exact ha)
theorem WdsAt.updX {H : Hp} {d : Addr} {o : HO} {es : DnE} {W : List Wd} (hd : ∀ xs, H d ≠ some (.tup xs)) (h : WdsAt H es W) : WdsAt (upd H d o) es W := by
  have k : ∀ {c xs}, H c = some (.tup xs) → (upd H d o) c = some (.tup xs) := fun {c xs} e => by
    rw [upd_ne (by rintro rfl; exact hd _ e)]
    exact e
  induction h with
  | nil => exact .nil
  | cons h _ ih =>
    obtain ⟨h1, ⟨b1, h2, h2'⟩, b, h3, h4⟩ := h
    exact .cons ⟨h1, ⟨b1, k h2, k h2'⟩, b, h3, k h4⟩ ih
theorem SdAt.updX {H : Hp} {d a : Addr} {o : HO} {s : Sd} (hd : ∀ xs, H d ≠ some (.tup xs)) (h : SdAt H a s) : SdAt (upd H d o) a s := by
  have k : ∀ {c xs}, H c = some (.tup xs) → (upd H d o) c = some (.tup xs) := fun {c xs} e => by
    rw [upd_ne (by rintro rfl; exact hd _ e)]
    exact e
  obtain ⟨b1, h2, h2'⟩ := h
  exact ⟨b1, k h2, k h2'⟩
theorem LnAt.updX {H : Hp} {d : Addr} {o : HO} {xs : List V} {W : List Wd} (hd : ∀ xs, H d ≠ some (.tup xs)) (h : LnAt H xs W) : LnAt (upd H d o) xs W := by
  induction h with
  | nil => exact .nil
  | cons h _ ih =>
    obtain ⟨a, h1, h2⟩ := h
    exact .cons ⟨a, h1, h2.updX hd⟩ ih
section
variable {P : Program} {w : World} {K : PySem.W.Frag} {mg : Str → Option Value} {base : Heap} {cP cG cT : Addr} {f : Addr} {fd : FuncData} (T : Txt K w mg cP cG cT)
include T
theorem ok_words {M_first : Mth P w K mg base cG "first" 1 ["self"] (spFirst cP cG)} {M_behind : Mth P w K mg base cG "behind" 5 ["self", "stand", "letter"] (spBehind cP cG)}
    (F : FnP K "words" "Gait.words" s_Gait_words f fd) : FnOk P w K mg base CX0 6 f fd ["self", "letters"] (spWords P w cP cG) := by
  refine okN F sc_Gait_words (fun vs H Q E h => ?_) (fun cdv A outer s H vs Q E hr h => ?_)
  · obtain ⟨g, l, L, ls, rfl, _⟩ := h
    rfl
  · obtain ⟨g, l, L, ls, rfl, hg, ok, sm, hl, hls, q⟩ := h
    obtain ⟨dx, p, m, h1, h2, h3⟩ := hg.ex
    refine ⟨_, (pss_cons (ps_par3 (i := 2) (j := 3) (l := 4) rfl sc_Gait_words.nd rfl rfl rfl (by decide) (by decide) (by decide) rfl rfl rfl (pa_cons (pe_ndisp (hu16 hr) (pe_mth0 T.clG M_first hr (pv 0)) (pe_tup pa_nil)) (pa_cons (pe_lst (pa_cons (pe_mth0 T.clG M_first hr (pv 0)) pa_nil)) (pa_cons pe_int pa_nil))) (by rfl))
      (pss_cons (ps_while PassesOwn.never (pt_cmpR op_lt (pv 4) (pe_callB (lenS K) (by rfl) T.len_ b_len (pa_cons (pv 3) pa_nil)) (nomark _)) (pss_cons (ps_set (i := 5) sc_Gait_words.nd rfl (Or.inl rfl) (pe_ix (ixL K) (pv 3) (pv 4) (fun _ _ => rfl)))
      (pss_cons (ps_for PassesOwn.never rfl (pi_sq (pv 1)) (pg_name (i := 6) sc_Gait_words.nd rfl (Or.inl rfl)) (pss_cons (ps_set (i := 7) sc_Gait_words.nd rfl (Or.inl rfl) (pe_mth T.clG M_behind hr (pv 0) (pa_cons (pv 5) (pa_cons (pv 6) pa_nil))))
      (pss_one (ps_if (pt_cmp (pc_nnotin (hu16 hr) (pv 7) (pv 2)) rfl) (pss_cons (ps_nput (hu16 hr) (pv 2) (pv 7) (pe_op catT (pe_nget (hu16 hr) (pv 2) (pv 5) (fun _ _ => rfl)) (pe_tup (pa_cons (pv 6) pa_nil))) rfl)
      (pss_one (ps_expr (pe_bm PySem.F.plainAttrs_list PySem.F.slot_list_append PySem.F.type_list_append mt_append (pv 3) (pa_cons (pv 7) pa_nil))))) pss_nil))))
      (pss_one (ps_set (i := 4) sc_Gait_words.nd rfl (Or.inl rfl) (pe_op op_add (pv 4) pe_int))))))
      (pss_one (ps_ret (pv 2))))), ?_⟩
    intro d nd
    have s0 : Same H (upd H d (.dK [])) := same_new nd
    have hd0 : (upd H d (.dK [])) d = some (.dK []) := upd_same
    generalize upd H d (.dK []) = H0 at s0 hd0
    refine ⟨_, rfl, g, _, _, rfl, s0 _ _ h1, rfl, g, L, rfl, hg.mono s0, ok.len, fun a0 H1 s1 ha0 => ?_⟩
    refine ⟨(by show 0 ≤ sizeLine; decide), fun t nt => ?_⟩
    have s2 := s1.trans (same_new (o := .tup []) nt)
    have ha2 := ha0.mono (same_new (o := .tup []) nt)
    have ht2 : (upd H1 t (.tup [])) t = some (.tup []) := upd_same
    generalize upd H1 t (.tup []) = H2 at s2 ha2 ht2
    have hd2 := s2 _ _ hd0
    refine ⟨hd2, a0, skey L.init, .ref t, rfl, ha2.nk, ?_⟩
    have s3 : Same H (upd H2 d (DN P w d [(skey L.init, a0, .ref t)])) := same_mut (s0.trans s2) nd
    have hd3 : (upd H2 d (DN P w d [(skey L.init, a0, .ref t)])) d = some (DN P w d [(skey L.init, a0, .ref t)]) := upd_same
    have hw3 : WdsAt (upd H2 d (DN P w d [(skey L.init, a0, .ref t)])) [(skey L.init, a0, .ref t)] [(L.init, [])] :=
      WdsAt.updX (fun xs e => by rw [hd2] at e; cases e) (.cons ⟨rfl, ha2, t, rfl, ht2⟩ .nil)
    show tCons _ _ _ (upd H2 d (DN P w d [(skey L.init, a0, .ref t)])) _
    generalize upd H2 d (DN P w d [(skey L.init, a0, .ref t)]) = H3 at s3 hd3 hw3
    refine ⟨_, rfl, g, _, _, rfl, s3 _ _ h1, rfl, g, L, rfl, hg.mono s3, ok.len, fun a1 H4 s4 ha1 => ?_⟩
    refine ⟨(by show 1 ≤ sizeLine; decide), fun n nn => ?_⟩
    have hd4 := s4 _ _ hd3
    have s5 : Same H (upd H4 n (.lst [.ref a1])) := (s3.trans s4).trans (same_new nn)
    have hn5 : (upd H4 n (.lst [.ref a1])) n = some (.lst [.ref a1]) := upd_same
    have hd5 : (upd H4 n (.lst [.ref a1])) d = some (DN P w d [(skey L.init, a0, .ref t)]) := same_new nn _ _ hd4
    have hw5 := (hw3.mono s4).mono (same_new (o := .lst [.ref a1]) nn)
    have hl5 : LnAt (upd H4 n (.lst [.ref a1])) [.ref a1] [(L.init, [])] := .cons ⟨a1, rfl, ha1.mono (same_new nn)⟩ .nil
    have hn0 : H n = none := none_of (s3.trans s4) nn
    generalize upd H4 n (.lst [.ref a1]) = H5 at s5 hn5 hd5 hw5 hl5
    refine ⟨_, _, _, rfl, ?_⟩
    refine ⟨fun mm σ H' => Same H H' ∧ ∃ i W es xs u v z, σ = [some (.ref g), some (.ref l), some (.ref d), some (.ref n), some (nV i), u, v, z] ∧ H' d = some (DN P w d es) ∧ H' n = some (.lst xs) ∧ WdsAt H' es W ∧ LnAt H' xs W ∧ Bf L ls i W ∧ i ≤ W.length ∧ mm = 209 - i,
      ⟨_, s5, 0, _, _, _, _, _, _, rfl, hd5, hn5, hw5, hl5, bf_zero L ls, Nat.zero_le _, rfl⟩, ?_⟩
    rintro mm σ H' ⟨s', i, W, es, xs, u, v, z, rfl, hd', hn', hw', hl', bf, hi, rfl⟩
    have hxl := paired_len hl'
    have hel := paired_len hw'
    have hwl := Nat.le_trans bf.len (bound_le sm)
    refine ⟨_, rfl, _, rfl, n, xs, rfl, .inl (.inl (.inl hn')), _, _, rfl, rfl, _, rfl, ?_⟩
    by_cases hlt : i < W.length
    · refine ifT (by omega) ?_
      obtain ⟨c, hc⟩ : ∃ c, W[i]? = some c := ⟨_, List.getElem?_eq_getElem hlt⟩
      obtain ⟨xv, hxv, a, rfl, hac⟩ := paired_get hl' hc
      refine ⟨fun σ' H'' => ∃ m'', m'' < 209 - i ∧ Same H H'' ∧ ∃ i W es xs u v z, σ' = [some (.ref g), some (.ref l), some (.ref d), some (.ref n), some (nV i), u, v, z] ∧ H'' d = some (DN P w d es) ∧ H'' n = some (.lst xs) ∧ WdsAt H'' es W ∧ LnAt H'' xs W ∧ Bf L ls i W ∧ i ≤ W.length ∧ m'' = 209 - i,
        fun σ' H'' h => h, ?_⟩
      refine ⟨_, rfl, _, rfl, n, xs, _, _, rfl, rfl, .inl (.inl hn'), atI_nat hxv, ?_⟩
      refine ⟨_, rfl, l, _, rfl, hl.mono s', fun J hJ => ?_⟩
      refine for_it hJ (fun k σ H'' => Same H H'' ∧ ∃ W es xs v z, σ = [some (.ref g), some (.ref l), some (.ref d), some (.ref n), some (nV i), some (.ref a), v, z] ∧ H'' d = some (DN P w d es) ∧ H'' n = some (.lst xs) ∧ WdsAt H'' es W ∧ LnAt H'' xs W ∧ Bg L ls i k c W ∧ SdAt H'' a c.1)
        ⟨s', W, es, xs, _, _, rfl, hd', hn', hw', hl', bf.start hc, hac⟩ (fun k σ H'' hk h => (same_of h.1 hl).trans (same_of s' hl).symm) (fun k x σ H9 H6 hk h y => ?_) (fun σ H6 h => ?_)
      · obtain ⟨s6, W, es, xs, v, z, rfl, hd6, hn6, hw6, hl6, bg, ha6⟩ := h
        obtain ⟨rfl, hx⟩ := y
        rw [List.getElem?_map] at hx
        obtain ⟨y, hy, rfl⟩ := Option.map_eq_some_iff.mp hx
        have hWl := Nat.le_trans bg.b.len (bound_le sm)
        have hEl := paired_len hw6
        have hXl := paired_len hl6
        have hcm : c ∈ W := List.mem_of_getElem? bg.at_
        refine ⟨_, rfl, g, _, _, rfl, s6 _ _ h1, rfl, _, rfl, _, rfl, g, a, L, c.1, y, rfl, hg.mono s6, ok, ha6, (bg.b.ok c hcm).2, fun r H7 s7 hr7 => ?_⟩
        have hd7 := s7 _ _ hd6
        have hn7 := s7 _ _ hn6
        have hw7 := hw6.mono s7
        have hl7 := hl6.mono s7
        have ha7 := ha6.mono s7
        have s7 := s6.trans s7
        refine ⟨_, rfl, _, rfl, r, d, es, skey (L.step c.1 y), rfl, rfl, .inl hd7, hw7.keys, hr7.nk, _, rfl, ?_⟩
        rcases hw7.find (L.step c.1 y) with ⟨f1, f2⟩ | ⟨x, a', b', f0, f1, f2, f3⟩
        · show if (!(dnAt es (skey (L.step c.1 y))).isSome) = true then _ else _
          rw [f2]
          refine iteT ?_
          rcases hw7.find c.1 with ⟨f3, _⟩ | ⟨x, a', b', g0, g1, g2, g3⟩
          · exact absurd (List.mem_map_of_mem hcm) f3
          · have exc := sd_uniq bg.b.nd g0 hcm g1
            subst exc
            refine ⟨_, rfl, _, rfl, a, d, es, skey x.1, a', .ref b', rfl, rfl, .inl hd7, hw7.keys, ha7.nk, g2, ?_⟩
            refine ⟨_, rfl, (by show 1 ≤ sizeLine; decide), fun t1 n1 => ?_⟩
            have s8 := s7.trans (same_new (o := .tup [.str y]) n1)
            have hb8 := same_new (o := .tup [.str y]) n1 _ _ g3
            have hd8 := same_new (o := .tup [.str y]) n1 _ _ hd7
            have hn8 := same_new (o := .tup [.str y]) n1 _ _ hn7
            have hw8 := hw7.mono (same_new (o := .tup [.str y]) n1)
            have hl8 := hl7.mono (same_new (o := .tup [.str y]) n1)
            have ha8 := ha7.mono (same_new (o := .tup [.str y]) n1)
            have hr8 := hr7.mono (same_new (o := .tup [.str y]) n1)
            have ht8 : (upd H7 t1 (.tup [.str y])) t1 = some (.tup [.str y]) := upd_same
            generalize upd H7 t1 (.tup [.str y]) = H8 at s8 hb8 hd8 hn8 hw8 hl8 ha8 hr8 ht8
            have hlen : x.2.length ≤ 208 := by
              obtain ⟨j, hj⟩ := List.mem_iff_getElem?.mp hcm
              exact Nat.le_trans (bg.b.wl j _ hj) (by have := (List.getElem?_eq_some_iff.mp hj).1; omega)
            refine ⟨b', t1, _, _, rfl, rfl, hb8, ht8, by rw [List.length_map]; exact sz_le (by simp; omega), fun wa H9 s9 hwa => ?_⟩
            have s10 := s8.trans s9
            have hd9 := s9 _ _ hd8
            have hn9 := s9 _ _ hn8
            have hw9 := hw8.mono s9
            have hl9 := hl8.mono s9
            have ha9 := ha8.mono s9
            have hr9 := hr8.mono s9
            refine ⟨_, rfl, _, rfl, r, d, es, skey (L.step x.1 y), rfl, rfl, hd9, hw9.keys, hr9.nk, by omega, ?_⟩
            rw [dnPut_new f2]
            have ntd : ∀ zs, H9 d ≠ some (.tup zs) := fun zs e => by rw [hd9] at e; cases e
            have s11 : Same H (upd H9 d (DN P w d (es ++ [(skey (L.step x.1 y), r, .ref wa)]))) := same_mut s10 nd
            have hdn : d ≠ n := by
              rintro rfl
              rw [hd9] at hn9
              cases hn9
            have hdA : (upd H9 d (DN P w d (es ++ [(skey (L.step x.1 y), r, .ref wa)]))) d = some (DN P w d (es ++ [(skey (L.step x.1 y), r, .ref wa)])) := upd_same
            have hnA : (upd H9 d (DN P w d (es ++ [(skey (L.step x.1 y), r, .ref wa)]))) n = some (.lst xs) := by rw [upd_ne hdn.symm]; exact hn9
            have hwA : WdsAt (upd H9 d (DN P w d (es ++ [(skey (L.step x.1 y), r, .ref wa)]))) (es ++ [(skey (L.step x.1 y), r, .ref wa)]) (W ++ [(L.step x.1 y, x.2 ++ [y])]) :=
              WdsAt.updX ntd (paired_snoc hw9 ⟨rfl, hr9, wa, rfl, by rw [hwa]; simp⟩)
            have hlA := hl9.updX (o := DN P w d (es ++ [(skey (L.step x.1 y), r, .ref wa)])) ntd
            have haA := ha9.updX (o := DN P w d (es ++ [(skey (L.step x.1 y), r, .ref wa)])) ntd
            have hrA := hr9.updX (o := DN P w d (es ++ [(skey (L.step x.1 y), r, .ref wa)])) ntd
            refine ⟨_, rfl, .inl ⟨rfl, _, .inl (.inl hnA)⟩, _, rfl, n, xs, .ref r, rfl, rfl, hnA, sz_lt (by omega), ?_⟩
            have ntn : ∀ zs, (upd H9 d (DN P w d (es ++ [(skey (L.step x.1 y), r, .ref wa)]))) n ≠ some (.tup zs) := fun zs e => by rw [hnA] at e; cases e
            exact ⟨same_mut s11 hn0, _, _, _, _, _, rfl, by rw [upd_ne hdn]; exact hdA, upd_same, hwA.updX ntn, LnAt.updX ntn (paired_snoc (y := (L.step x.1 y, x.2 ++ [y])) hlA ⟨r, rfl, hrA⟩), bg.new hy f1, haA.updX ntn⟩
        · show if (!(dnAt es (skey (L.step c.1 y))).isSome) = true then _ else _
          rw [f2]
          refine iteF ?_
          exact ⟨s7, W, es, xs, _, _, rfl, hd7, hn7, hw7, hl7, bg.old hy (f1 ▸ List.mem_map_of_mem f0), ha7⟩
      · obtain ⟨s6, W, es, xs, v, z, rfl, hd6, hn6, hw6, hl6, bg, ha6⟩ := h
        rw [List.length_map] at bg
        have hi2 : i < W.length := (List.getElem?_eq_some_iff.mp bg.at_).1
        refine ⟨_, rfl, _, _, rfl, rfl, _, ?_, s6, i + 1, W, es, xs, _, _, _, rfl, hd6, hn6, hw6, hl6, bg.fin, hi2, rfl⟩
        omega
    · refine ifF (by omega) ?_
      have ei : i = W.length := by omega
      subst ei
      exact ⟨_, rfl, q d H' es W s' nd hd' hw' bf⟩
end
end Lk

set_option maxHeartbeats 4000000
namespace Lk
open PySem PySem.Spec PyProof.Rows L2
/-! ### walks, one inside another -/
section
variable {J : It} {n : Nat} {G : Hp → Prop} {Y : Nat → Hp → V → Hp → Prop} {P : Program} {w : World}
theorem it_by (wk : Walk J n G Y) {B : (Hp → Prop) → V → Hp → Prop} {Qd : Hp → Prop} {H0 : Hp} (Pv : Nat → Hp → Prop) (h0 : Pv 0 H0) (hG : ∀ i H, i ≤ n → Pv i H → G H)
    (hs : ∀ i x H H', i < n → Pv i H → Y i H x H' → B (Pv (i + 1)) x H') (hd : ∀ H, Pv n H → Qd H) :
    ∃ W : Nat → Nat → Hp → Prop, (∃ m, W 0 m H0) ∧ ∀ i m H, W i m H →
      (J.stop i H ∧ Qd H) ∨ (J.go i H ∧ ∃ Nx : Hp → Prop, (∀ H', Nx H' → ∃ m', m' < m ∧ W (i + 1) m' H') ∧ ∀ x H', J.yld i H x H' → B Nx x H') := by
  refine ⟨fun i m H => m = n - i ∧ i ≤ n ∧ Pv i H, ⟨n, by simp, Nat.zero_le _, h0⟩, ?_⟩
  rintro i m H ⟨rfl, hi, p⟩
  have q := hG i H hi p
  by_cases hlt : i < n
  · refine .inr ⟨wk.goes i H hlt q, Pv (i + 1), fun H' p' => ⟨n - (i + 1), by omega, rfl, hlt, p'⟩, fun x H' y => hs i x H H' hlt p (wk.yields i H x H' hlt q y)⟩
  · have e : i = n := by omega
    subst e
    exact .inl ⟨wk.stops H q, hd H p⟩
theorem it_byD (wk : Walk J n G Y) {B : (Hp → Prop) → V → Hp → Prop} {Qd : Hp → Prop} {H1 : Hp} {D : Addr} (o : HO) (em : Emp P w D o) (Pv : Nat → Hp → Prop) (h0 : Pv 0 (upd H1 D o)) (hG : ∀ i H, i ≤ n → Pv i H → G H)
    (hs : ∀ i x H H', i < n → Pv i H → Y i H x H' → B (Pv (i + 1)) x H') (hd : ∀ H, Pv n H → Qd H) :
    ∃ W : Nat → Nat → Hp → Prop, (∃ m o, Emp P w D o ∧ W 0 m (upd H1 D o)) ∧ ∀ i m H, W i m H →
      (J.stop i H ∧ Qd H) ∨ (J.go i H ∧ ∃ Nx : Hp → Prop, (∀ H', Nx H' → ∃ m', m' < m ∧ W (i + 1) m' H') ∧ ∀ x H', J.yld i H x H' → B Nx x H') := by
  refine ⟨fun i m H => m = n - i ∧ i ≤ n ∧ Pv i H, ⟨n, o, em, by simp, Nat.zero_le _, h0⟩, ?_⟩
  rintro i m H ⟨rfl, hi, p⟩
  have q := hG i H hi p
  by_cases hlt : i < n
  · refine .inr ⟨wk.goes i H hlt q, Pv (i + 1), fun H' p' => ⟨n - (i + 1), by omega, rfl, hlt, p'⟩, fun x H' y => hs i x H H' hlt p (wk.yields i H x H' hlt q y)⟩
  · have e : i = n := by omega
    subst e
    exact .inl ⟨wk.stops H q, hd H p⟩
theorem walk_itemsN {d : Addr} {o : Obj} {es : DnE} : Walk (ItN P w d o es) es.length (fun H => H d = some (.frz o (DN P w d es))) (YPair (fun i => es[i]?.map fun e => .ref e.2.1) (fun i => es[i]?.map fun e => e.2.2)) := by
  refine ⟨fun _ _ hi q => ⟨q, hi⟩, fun _ q => ⟨q, Nat.le_refl _⟩, fun i H x H' _ _ y => ?_⟩
  obtain ⟨T, k, a, v, h1, h2, h3, h4⟩ := y
  exact ⟨T, .ref a, v, h2, h3, h4, by simp [h1], by simp [h1]⟩
end
/-- a dict of pairs, by its keys -/
def MetAt (H : Hp) (es : DnE) (S : List (Str × Str)) : Prop := Paired (fun (e : NestedKey × Addr × V) (x : Str × Str) => e.1 = pkey x.1 x.2 ∧ H e.2.1 = some (.tup [.str x.1, .str x.2])) es S
theorem MetAt.keep {H H' : Hp} (k : ∀ a xs, H a = some (.tup xs) → H' a = some (.tup xs)) {es : DnE} {S : List (Str × Str)} (h : MetAt H es S) : MetAt H' es S := by
  induction h with
  | nil => exact .nil
  | cons h _ ih => exact .cons ⟨h.1, k _ _ h.2⟩ ih
theorem MetAt.keys {H : Hp} {es : DnE} {S : List (Str × Str)} (h : MetAt H es S) : dnKeys H es := by
  induction h with
  | nil => intro p hp; cases hp
  | cons h _ ih =>
    intro p hp
    rcases List.mem_cons.mp hp with rfl | hp
    · rw [h.1]
      exact pk_at h.2
    · exact ih p hp
theorem MetAt.has {H : Hp} {es : DnE} {S : List (Str × Str)} (h : MetAt H es S) (m y : Str) : (dnAt es (pkey m y)).isSome = decide ((m, y) ∈ S) := by
  induction h with
  | nil => rfl
  | @cons e x _ _ h _ ih =>
    unfold dnAt at ih ⊢
    rw [List.find?_cons]
    by_cases q : x = (m, y)
    · rw [decide_eq_true (by rw [h.1, q]), decide_eq_true (by rw [q]; exact List.mem_cons_self)]
      rfl
    · have e1 : decide (e.1 = pkey m y) = false := decide_eq_false fun z => q (by rw [h.1] at z; obtain ⟨z1, z2⟩ := pkey_inj z; exact Prod.ext z1 z2)
      rw [e1]
      show (Option.map _ _).isSome = _
      rw [ih, Bool.eq_iff_iff]
      simp only [decide_eq_true_eq, List.mem_cons]
      constructor
      · exact .inr
      · rintro (z | z)
        · exact absurd z.symm q
        · exact z
theorem MetAt.mapv {H : Hp} {es : DnE} {S : List (Str × Str)} (k : NestedKey) (v : V) (h : MetAt H es S) : MetAt H (es.map fun x => if x.1 = k then (x.1, x.2.1, v) else x) S := by
  induction h with
  | nil => exact .nil
  | cons h _ ih =>
    refine .cons ?_ ih
    show (if _ then _ else _ : NestedKey × Addr × V).1 = _ ∧ H (if _ then _ else _ : NestedKey × Addr × V).2.1 = _
    split
    · exact h
    · exact h
theorem MetAt.put {H : Hp} {es : DnE} {S : List (Str × Str)} {m y : Str} {a : Addr} {v : V} (h : MetAt H es S) (ha : H a = some (.tup [.str m, .str y])) : MetAt H (dnPut es (pkey m y) a v) (if (m, y) ∈ S then S else S ++ [(m, y)]) := by
  unfold dnPut
  rw [h.has m y]
  by_cases q : (m, y) ∈ S
  · rw [if_pos (by simpa using q), if_pos q]
    exact h.mapv _ _
  · rw [if_neg (by simpa using q), if_neg q]
    exact paired_snoc h ⟨rfl, ha⟩
def Ends (L : Pl) (ls : List Str) (m y : Str) : Prop := ∃ u : List Str, (∀ z ∈ u, z ∈ ls) ∧ L.endM (L.run L.init u) y = m
open Classical in
noncomputable def pfM (L : Pl) (ls : List Str) (m : Str) (ys : List Str) : List (Str × Str) := (ys.filter fun y => decide (Ends L ls m y)).map fun y => (m, y)
theorem pf_t {L : Pl} {ls : List Str} {m y : Str} {ys : List Str} (h : Ends L ls m y) : pfM L ls m (ys ++ [y]) = pfM L ls m ys ++ [(m, y)] := by
  simp [pfM, h]
theorem pf_f {L : Pl} {ls : List Str} {m y : Str} {ys : List Str} (h : ¬ Ends L ls m y) : pfM L ls m (ys ++ [y]) = pfM L ls m ys := by
  simp [pfM, h]
noncomputable def endPrs (L : Pl) (ls : List Str) : List (Str × Str) := L.moves.flatMap fun m => pfM L ls m ls
theorem mem_endPrs {L : Pl} {ls : List Str} {m y : Str} : (m, y) ∈ endPrs L ls ↔ m ∈ L.moves ∧ y ∈ ls ∧ Ends L ls m y := by
  unfold endPrs pfM
  simp only [List.mem_flatMap, List.mem_map, List.mem_filter, decide_eq_true_eq, Prod.mk.injEq]
  constructor
  · rintro ⟨m', h1, y', ⟨h2, h3⟩, rfl, rfl⟩
    exact ⟨h1, h2, h3⟩
  · rintro ⟨h1, h2, h3⟩
    exact ⟨m, h1, y, ⟨h2, h3⟩, rfl, rfl⟩
def PrsAt (H : Hp) (xs : List V) (ps : List (Str × Str)) : Prop := Paired (fun (v : V) (x : Str × Str) => ∃ a, v = .ref a ∧ H a = some (.tup [.str x.1, .str x.2])) xs ps
theorem PrsAt.mono {H H' : Hp} (s : Same H H') {xs : List V} {ps : List (Str × Str)} (h : PrsAt H xs ps) : PrsAt H' xs ps := by
  induction h with
  | nil => exact .nil
  | cons h _ ih =>
    obtain ⟨a, h1, h2⟩ := h
    exact .cons ⟨a, h1, s _ _ h2⟩ ih
theorem PrsAt.updX {H : Hp} {d : Addr} {o : HO} {xs : List V} {ps : List (Str × Str)} (hd : ∀ xs, H d ≠ some (.tup xs)) (h : PrsAt H xs ps) : PrsAt (upd H d o) xs ps := by
  induction h with
  | nil => exact .nil
  | cons h _ ih =>
    obtain ⟨a, h1, h2⟩ := h
    exact .cons ⟨a, h1, by rw [upd_ne (by rintro rfl; exact hd _ h2)]; exact h2⟩ ih
def spNeedAmong : Sp := fun vs H Q _ => ∃ (m : Str) (a : Addr) (ms : List Str), vs = [.str m, .ref a] ∧ Lt H a (ms.map V.str) ∧ m ∈ ms ∧ Q .non H
def spEndings (cP : Addr) : Sp := fun vs H Q _ => ∃ (p l : Addr) (L : Pl) (ls : List Str), vs = [.ref p, .ref l] ∧ PlAt cP H p L ∧ L.Ok ∧ L.Small ∧ Lt H l (ls.map V.str) ∧ Mv ls ∧ ∀ q H' xs, Same H H' → H q = none → H' q = some (.lst xs) → PrsAt H' xs (endPrs L ls) → Q (.ref q) H'
def spBrought (cP : Addr) : Sp := fun vs H Q _ => ∃ (p l : Addr) (L : Pl) (ls : List Str) (m y : Str), vs = [.ref p, .ref l, .str m, .str y] ∧ PlAt cP H p L ∧ L.Ok ∧ L.Small ∧ Lt H l (ls.map V.str) ∧ Mv ls ∧ m ∈ L.moves ∧ y ∈ ls ∧ Ends L ls m y ∧
  ∀ (q b : Addr) (H' : Hp) (u : List Str), Same H H' → H' q = some (.tup [.str "row", .ref b]) → H' b = some (.tup (u.map V.str)) → (∀ z ∈ u, z ∈ ls) → L.endM (L.run L.init u) y = m → (∀ v : List Str, (∀ z ∈ v, z ∈ ls) → L.endM (L.run L.init v) y = m → u.length ≤ v.length) → Q (.ref q) H'
section
variable {P : Program} {w : World} {K : PySem.W.Frag} {mg : Str → Option Value} {base : Heap} {cP cG cT : Addr} {f : Addr} {fd : FuncData} (T : Txt K w mg cP cG cT)
include T
theorem ok_need_among (F : FnP K "need_among" "need_among" s_need_among f fd) : FnOk P w K mg base CX0 1 f fd ["thing", "moves"] spNeedAmong := by
  refine okN F sc_need_among (fun vs H Q E h => ?_) (fun cdv A outer s H vs Q E hr h => ?_)
  · obtain ⟨m, a, ms, rfl, _⟩ := h
    rfl
  · obtain ⟨m, a, ms, rfl, ha, hm, q⟩ := h
    refine ⟨_, (pss_one (ps_if (PW.pt (pw_or (pt_not (pt_val (pe_callB call_isi (by rfl) T.isinstance_ b_isinstance (pa_cons (pv 0) (pa_cons (ty_str T) pa_nil))))) (pw_or1 (pt_cmpR (notInS K) (pv 0) (pv 1) rfl)))) (pss_one ps_never) pss_nil)), ?_⟩
    refine ⟨_, rfl, _, _, _, _, true, rfl, .ty _, .base (.str _), by exact kit_ty (by decide +kernel), true, rfl, ?_⟩
    refine iteF ?_
    refine ⟨_, rfl, _, rfl, a, _, rfl, ha.sq, rfl, flat_strs ms, _, rfl, ?_⟩
    show if (!inV (.str m) (ms.map V.str)) = true then _ else _
    rw [in_strs]
    exact ifNF hm q
theorem ok_endings {C_need_player : Cal P w K mg base "need_player" 1 ["thing"] (spNeedPlayer cP)} {C_need_moves : Cal P w K mg base "need_moves" 3 ["thing"] spNeedMoves} {K_Gait : Mak P w K mg base cG "Gait" 3 ["self", "player"] (spGait cP cG)}
    {M_words : Mth P w K mg base cG "words" 6 ["self", "letters"] (spWords P w cP cG)} {M_end : Mth P w K mg base cG "end" 7 ["self", "stand", "letter"] (spEnd cP cG)} {M_moves : Mth P w K mg base cP "moves" 1 ["self"] (spMoves cP)}
    (F : FnP K "endings" "endings" s_endings f fd) : FnOk P w K mg base CX0 8 f fd ["player", "others"] (spEndings cP) := by
  refine okN F sc_endings (fun vs H Q E h => ?_) (fun cdv A outer s H vs Q E hr h => ?_)
  · obtain ⟨p, l, L, ls, rfl, _⟩ := h
    rfl
  · obtain ⟨p, l, L, ls, rfl, hp, ok, sm, hl, mv, q⟩ := h
    refine ⟨_, (pss_cons (ps_expr (pe_cal C_need_player hr (pa_cons (pv 0) pa_nil)))
      (pss_cons (ps_expr (pe_cal C_need_moves hr (pa_cons (pv 1) pa_nil)))
      (pss_cons (ps_set (i := 2) sc_endings.nd rfl (Or.inr rfl) (pe_mak K_Gait hr (pa_cons (pv 0) pa_nil)))
      (pss_cons (ps_set (i := 3) sc_endings.nd rfl (Or.inl rfl) (pe_callTy (call_list_dn rfl) (by rfl) T.list_ b_list (pa_cons (pe_mth T.clG M_words hr (pv 2) (pa_cons (pv 1) pa_nil)) pa_nil)))
      (pss_cons (ps_set (i := 4) sc_endings.nd rfl (Or.inr rfl) (pe_dcN2 (hu16 hr) (own := [("stand", 5), ("yours", 6)]) (vs1 := [6]) rfl sc_endings.nd (pi_sq (pv 3)) (blkOk_by (own := [("stand", 5), ("yours", 6)]) (N := ["player", "others", "gait", "stands", "met", "stand", "yours", "mine"]) (sc := defScope s_endings) (by decide +kernel)) (by decide) (fun _ _ _ _ _ => pg_name (i := 5) sc_endings.nd rfl (Or.inl rfl)) (fun _ _ _ _ _ => pts_nil) (fun _ _ _ _ _ => (pi_sq (pv 1))) (fun _ _ _ _ _ => pg_name (i := 6) sc_endings.nd rfl (Or.inl rfl)) (fun _ _ _ _ _ => pts_nil) (fun _ _ _ _ _ => (pe_tup (pa_cons (pe_mth T.clG M_end hr (pv 2) (pa_cons (pv 5) (pa_cons (pv 6) pa_nil))) (pa_cons (pv 6) pa_nil)))) (fun _ _ _ _ _ => pe_bl)))
      (pss_one (ps_ret (pe_lc2 (own := [("mine", 7), ("yours", 6)]) (vs1 := [6]) rfl sc_endings.nd (pi_sq (pe_mth0 T.clP M_moves hr (pv 0))) (blkOk_by (own := [("mine", 7), ("yours", 6)]) (N := ["player", "others", "gait", "stands", "met", "stand", "yours", "mine"]) (sc := defScope s_endings) (by decide +kernel)) (by decide) (fun _ _ _ _ _ => pg_name (i := 7) sc_endings.nd rfl (Or.inl rfl)) (fun _ _ _ _ _ => pts_nil) (fun _ _ _ _ _ => (pi_sq (pv 1))) (fun _ _ _ _ _ => pg_name (i := 6) sc_endings.nd rfl (Or.inl rfl)) (fun _ _ _ _ _ => pts_one (pt_cmp (pc_ninP P w (hu16 hr) (pe_tup (pa_cons (pv 7) (pa_cons (pv 6) pa_nil))) (pv 4)) rfl)) (fun _ _ _ _ _ => (pe_tup (pa_cons (pv 7) (pa_cons (pv 6) pa_nil)))))))))))), ?_⟩
    refine ⟨_, rfl, p, L, rfl, hp, ?_⟩
    refine ⟨_, rfl, l, ls, rfl, hl, mv, fun H1 s1 => ?_⟩
    refine ⟨_, rfl, fun g dg ng ndg neg => ?_⟩
    have s2 : Same H1 (upd (upd H1 dg (.own g)) g (.ins cG dg [])) := (same_new ndg).trans (same_new (by rw [upd_ne neg.symm]; exact ng))
    refine ⟨g, dg, p, L, rfl, upd_same, (hp.mono s1).mono s2, ok.len, fun H2 z2 hg2 => ⟨rfl, ?_⟩⟩
    have s3 : Same H H2 := fun c u e => z2 c u (ne_of_none (s1 _ _ e) ng) (s2 _ _ (s1 _ _ e))
    clear s2 z2
    obtain ⟨dx, p', m', h1, h2, h3⟩ := hg2.ex
    refine ⟨_, rfl, g, _, _, rfl, h1, rfl, _, rfl, g, l, L, ls, rfl, hg2, ok, sm, hl.mono s3, mv.few, fun d H3 es W s4 nd hd hw bf => ?_⟩
    refine ⟨d, es, rfl, .inl hd, fun st nst => ?_⟩
    have s5 := s4.trans (same_new (o := .lst (es.map fun x => V.ref x.2.1)) nst)
    have hw5 := hw.mono (same_new (o := .lst (es.map fun x => V.ref x.2.1)) nst)
    have hst : (upd H3 st (.lst (es.map fun x => V.ref x.2.1))) st = some (.lst (es.map fun x => V.ref x.2.1)) := upd_same
    generalize upd H3 st (.lst (es.map fun x => V.ref x.2.1)) = H5 at s5 hw5 hst
    have hg5 := hg2.mono s5
    have s6 := s3.trans s5
    have hWl := Nat.le_trans bf.len (bound_le sm)
    have hel := paired_len hw5
    have hl6 := hl.mono s6
    have htake : ∀ (xs : List V) (i : Nat), (xs.length) = W.length → True := fun _ _ _ => trivial
    refine ⟨_, rfl, st, _, rfl, .inl hst, fun J hJ D hD => ?_⟩
    refine it_byD hJ (DN P w D []) (.inr rfl) (fun i H' => Same H5 H' ∧ ∃ es' S, H' D = some (DN P w D es') ∧ MetAt H' es' S ∧ S.length ≤ 4 * i ∧ ∀ m y, (m, y) ∈ S ↔ ∃ j c, j < i ∧ W[j]? = some c ∧ y ∈ ls ∧ L.endM c.1 y = m)
      ⟨same_new hD, [], [], upd_same, .nil, Nat.le_refl _, fun m y => ⟨fun z => (by cases z), fun ⟨j, c, z, _⟩ => (by omega)⟩⟩ (fun i H' hi h => same_of h.1 (.inl hst)) (fun i x H9 H6 hi h y => ?_) (fun H6 h => ?_)
    · obtain ⟨s7, es', S, hD6, hM, hSl, hS⟩ := h
      obtain ⟨rfl, hx⟩ := y
      rw [List.getElem?_map] at hx
      obtain ⟨e, he, rfl⟩ := Option.map_eq_some_iff.mp hx
      have hiW : i < W.length := by
        have := (List.getElem?_eq_some_iff.mp he).1
        omega
      obtain ⟨c, hc⟩ : ∃ c, W[i]? = some c := ⟨_, List.getElem?_eq_getElem hiW⟩
      obtain ⟨e', he', k1, k2, _⟩ := paired_get hw5 hc
      rw [he] at he'
      cases he'
      have hcm : c ∈ W := List.mem_of_getElem? hc
      refine ⟨rfl, yesT ?_⟩
      refine ⟨_, rfl, l, _, rfl, hl6.mono s7, fun J1 hJ1 => ?_⟩
      refine it_by hJ1 (fun k H' => Same H5 H' ∧ ∃ es' S, H' D = some (DN P w D es') ∧ MetAt H' es' S ∧ S.length ≤ 4 * i + k ∧ ∀ m y, (m, y) ∈ S ↔ (∃ j c, j < i ∧ W[j]? = some c ∧ y ∈ ls ∧ L.endM c.1 y = m) ∨ (y ∈ ls.take k ∧ L.endM c.1 y = m))
        ⟨s7, es', S, hD6, hM, hSl, fun m y => by rw [hS]; simp⟩ (fun k H' hk h => (same_of h.1 hl6).trans (same_of s7 hl6).symm) (fun k x HA H7 hk h y => ?_) (fun H7 h => ?_)
      · obtain ⟨s8, es2, S2, hD8, hM8, hSl8, hS8⟩ := h
        obtain ⟨rfl, hx⟩ := y
        rw [List.getElem?_map] at hx
        obtain ⟨y, hy, rfl⟩ := Option.map_eq_some_iff.mp hx
        have hk4 : k < 4 := by
          have := (List.getElem?_eq_some_iff.mp hy).1
          have := mv.few
          omega
        refine ⟨rfl, yesT ?_⟩
        have hg8 := hg5.mono s8
        obtain ⟨dx8, p8, m8, h81, _⟩ := hg8.ex
        refine ⟨_, rfl, g, _, _, rfl, h81, rfl, _, rfl, _, rfl, g, e.2.1, L, c.1, y, rfl, hg8, ok, k2.mono s8, bf.ok c hcm, fun H8 s9 => ?_⟩
        have s10 := s8.trans s9
        refine ⟨_, rfl, (by show 2 ≤ sizeLine; decide), fun t nt => ?_⟩
        have hDt : D ≠ t := ne_of_none (s9 _ _ hD8) nt
        have sN := same_new (o := .tup [.str (L.endM c.1 y), .str y]) nt
        have htt : (upd H8 t (.tup [.str (L.endM c.1 y), .str y])) t = some (.tup [.str (L.endM c.1 y), .str y]) := upd_same
        have hDn := sN _ _ (s9 _ _ hD8)
        have hMn := hM8.keep fun a xs e => sN _ _ (s9 _ _ e)
        have s11 := s10.trans sN
        generalize upd H8 t (.tup [.str (L.endM c.1 y), .str y]) = H9 at sN htt hDn hMn s11
        have hel2 := paired_len hMn
        refine .inr ⟨t, es2, pkey (L.endM c.1 y) y, rfl, hDn, hMn.keys, pk_at htt, by omega, ?_⟩
        have ntD : ∀ zs, H9 D ≠ some (.tup zs) := fun zs e => by rw [hDn] at e; cases e
        refine ⟨same_mut s11 hD, _, _, upd_same, (hMn.put htt).keep fun a xs e => by rw [upd_ne (by rintro rfl; exact ntD _ e)]; exact e, ?_, fun m y' => ?_⟩
        · split
          · omega
          · simp
            omega
        · have e1 : ((m, y') ∈ if (L.endM c.1 y, y) ∈ S2 then S2 else S2 ++ [(L.endM c.1 y, y)]) ↔ (m, y') ∈ S2 ∨ (m, y') = (L.endM c.1 y, y) := by
            split
            · constructor
              · exact .inl
              · rintro (z | z)
                · exact z
                · rw [z]; assumption
            · simp
          rw [e1, hS8, List.take_add_one, hy, List.mem_append]
          constructor
          · rintro ((z | z) | z)
            · exact .inl z
            · exact .inr ⟨.inl z.1, z.2⟩
            · obtain ⟨rfl, rfl⟩ := Prod.mk.inj z
              exact .inr ⟨.inr (by simp), rfl⟩
          · rintro (z | ⟨z | z, z2⟩)
            · exact .inl (.inl z)
            · exact .inl (.inr ⟨z, z2⟩)
            · have z : y' = y := by simpa using z
              subst z
              exact .inr (by rw [z2])
      · obtain ⟨s8, es2, S2, hD8, hM8, hSl8, hS8⟩ := h
        rw [List.length_map] at hSl8 hS8
        have hf := mv.few
        refine ⟨s8, es2, S2, hD8, hM8, by omega, fun m y => ?_⟩
        rw [hS8, List.take_length]
        constructor
        · rintro (⟨j, c', z1, z2⟩ | ⟨z1, z2⟩)
          · exact ⟨j, c', by omega, z2⟩
          · exact ⟨i, c, by omega, hc, z1, z2⟩
        · rintro ⟨j, c', z1, z2, z3, z4⟩
          by_cases ej : j = i
          · subst ej
            rw [hc] at z2
            cases z2
            exact .inr ⟨z3, z4⟩
          · exact .inl ⟨j, c', by omega, z2, z3, z4⟩
    · obtain ⟨s7, es', S, hD6, hM, hSl, hS⟩ := h
      have hS' : ∀ m y, (m, y) ∈ S ↔ y ∈ ls ∧ Ends L ls m y := fun m y => by
        rw [hS]
        constructor
        · rintro ⟨j, c, z1, z2, z3, z4⟩
          refine ⟨z3, c.2, (bf.lead c (List.mem_of_getElem? z2)).2, ?_⟩
          rw [(bf.lead c (List.mem_of_getElem? z2)).1]
          exact z4
        · rintro ⟨z3, u, hu, z4⟩
          obtain ⟨z, hz, e1, _⟩ := bf.all u hu
          obtain ⟨j, hj⟩ := List.mem_iff_getElem?.mp hz
          refine ⟨j, z, ?_, hj, z3, by rw [e1]; exact z4⟩
          have := (List.getElem?_eq_some_iff.mp hj).1
          simp
          omega
      have s8 := s6.trans s7
      have hp8 := (hp.mono s1)
      have hpF := hp.mono s8
      obtain ⟨dy, pa, pb, pc, pd, pxs, g1, g2, _⟩ := hpF.ex
      refine ⟨_, rfl, p, _, _, rfl, g1, rfl, p, L, rfl, hpF, fun m1 hm1 => ?_⟩
      refine ⟨m1, _, rfl, .inr hm1, fun J2 hJ2 D2 hD2 => ?_⟩
      have hlF := hl.mono s8
      refine it_by hJ2 (fun i H' => Same H6 H' ∧ ∃ xs, H' D2 = some (.lst xs) ∧ PrsAt H' xs ((L.moves.take i).flatMap fun m => pfM L ls m ls) ∧ xs.length ≤ 4 * i) ⟨same_new hD2, [], upd_same, .nil, Nat.le_refl _⟩ (fun i H' hi h => same_of h.1 (.inr hm1)) (fun i x H9 H7 hi h y => ?_) (fun H7 h => ?_)
      · obtain ⟨s9, xs, hx9, hp9, hl9⟩ := h
        obtain ⟨rfl, hx⟩ := y
        rw [List.getElem?_map] at hx
        obtain ⟨m, hm, rfl⟩ := Option.map_eq_some_iff.mp hx
        refine ⟨rfl, yesT ?_⟩
        refine ⟨_, rfl, l, _, rfl, hlF.mono s9, fun J3 hJ3 => ?_⟩
        refine it_by hJ3 (fun k H' => Same H6 H' ∧ ∃ xs, H' D2 = some (.lst xs) ∧ PrsAt H' xs (((L.moves.take i).flatMap fun m => pfM L ls m ls) ++ pfM L ls m (ls.take k)) ∧ xs.length ≤ 4 * i + k)
          ⟨s9, xs, hx9, by simpa [pfM] using hp9, by omega⟩ (fun k H' hk h => (same_of h.1 hlF).trans (same_of s9 hlF).symm) (fun k x HA H8 hk h y => ?_) (fun H8 h => ?_)
        · obtain ⟨s10, xs2, hx10, hp10, hl10⟩ := h
          obtain ⟨rfl, hx⟩ := y
          rw [List.getElem?_map] at hx
          obtain ⟨y, hy, rfl⟩ := Option.map_eq_some_iff.mp hx
          have hk4 : k < 4 := by
            have := (List.getElem?_eq_some_iff.mp hy).1
            have := mv.few
            omega
          have hi4 : i < 4 := by
            have := (List.getElem?_eq_some_iff.mp hm).1
            have := ok.mv.few
            omega
          refine ⟨rfl, ?_⟩
          refine ⟨_, rfl, _, rfl, (by show 2 ≤ sizeLine; decide), fun t nt => ?_⟩
          have sN := same_new (o := .tup [.str m, .str y]) nt
          have htt : (upd H8 t (.tup [.str m, .str y])) t = some (.tup [.str m, .str y]) := upd_same
          have hDn := sN _ _ (s10 _ _ hD6)
          have hMn := hM.keep fun a xs e => sN _ _ (s10 _ _ e)
          have hx11 := sN _ _ hx10
          have hp11 := hp10.mono sN
          have s11 := s10.trans sN
          generalize upd H8 t (.tup [.str m, .str y]) = H9 at sN htt hDn hMn s11 hx11 hp11
          refine ⟨_, rfl, t, D, es', pkey m y, rfl, rfl, .inl hDn, hMn.keys, pk_at htt, _, rfl, ?_⟩
          show if (dnAt es' (pkey m y)).isSome = true then _ else _
          rw [hMn.has]
          have eT : ls.take (k + 1) = ls.take k ++ [y] := by rw [List.take_add_one, hy]; rfl
          by_cases hE : Ends L ls m y
          · refine ifT ((hS' m y).mpr ⟨List.mem_of_getElem? hy, hE⟩) ?_
            refine ⟨_, rfl, _, rfl, (by show 2 ≤ sizeLine; decide), fun t2 nt2 => ?_⟩
            have sM := same_new (o := .tup [.str m, .str y]) nt2
            refine ⟨xs2, sM _ _ hx11, sz_lt (by omega), same_mut (s11.trans sM) hD2, _, upd_same, ?_, ?_⟩
            · have eP : pfM L ls m (ls.take (k + 1)) = pfM L ls m (ls.take k) ++ [(m, y)] := by
                rw [eT]
                exact pf_t hE
              rw [eP, ← List.append_assoc]
              have ntx : ∀ zs, (upd H9 t2 (.tup [.str m, .str y])) D2 ≠ some (.tup zs) := fun zs e => by rw [sM _ _ hx11] at e; cases e
              exact PrsAt.updX ntx (paired_snoc (hp11.mono sM) ⟨t2, rfl, upd_same⟩)
            · simp
              omega
          · refine ifF (fun z => hE ((hS' m y).mp z).2) ?_
            refine ⟨s11, xs2, hx11, ?_, by omega⟩
            have eP : pfM L ls m (ls.take (k + 1)) = pfM L ls m (ls.take k) := by
              rw [eT]
              exact pf_f hE
            rw [eP]
            exact hp11
        · obtain ⟨s10, xs2, hx10, hp10, hl10⟩ := h
          rw [List.length_map] at hp10 hl10
          rw [List.take_length] at hp10
          have hf := mv.few
          refine ⟨s10, xs2, hx10, ?_, by omega⟩
          rw [List.take_add_one, hm, List.flatMap_append]
          simpa using hp10
      · obtain ⟨s9, xs, hx9, hp9, hl9⟩ := h
        refine q D2 H7 xs (s8.trans s9) (none_of s8 hD2) hx9 ?_
        rw [List.take_of_length_le (by simp)] at hp9
        exact hp9
end
end Lk

set_option maxHeartbeats 4000000
namespace Lk
open PySem PySem.Spec PyProof.Rows L2
theorem keepTup {H : Hp} {d : Addr} {o u : HO} (hd : H d = some o) (ho : ∀ xs, o ≠ .tup xs) : ∀ a xs, H a = some (.tup xs) → (upd H d u) a = some (.tup xs) := fun a xs e => by
  rw [upd_ne (by rintro rfl; rw [hd] at e; exact ho _ (Option.some.inj e))]
  exact e
theorem WdsAt.keep {H H' : Hp} (k : ∀ a xs, H a = some (.tup xs) → H' a = some (.tup xs)) {es : DnE} {W : List Wd} (h : WdsAt H es W) : WdsAt H' es W := by
  induction h with
  | nil => exact .nil
  | cons h _ ih =>
    obtain ⟨h1, ⟨b1, h2, h2'⟩, b, h3, h4⟩ := h
    exact .cons ⟨h1, ⟨b1, k _ _ h2, k _ _ h2'⟩, b, h3, k _ _ h4⟩ ih
section
variable {P : Program} {w : World} {K : PySem.W.Frag} {mg : Str → Option Value} {base : Heap} {cP cG cT : Addr} {f : Addr} {fd : FuncData} (T : Txt K w mg cP cG cT)
include T
theorem ok_brought {C_need_player : Cal P w K mg base "need_player" 1 ["thing"] (spNeedPlayer cP)} {C_need_moves : Cal P w K mg base "need_moves" 3 ["thing"] spNeedMoves} {C_need_among : Cal P w K mg base "need_among" 1 ["thing", "moves"] spNeedAmong} {K_Gait : Mak P w K mg base cG "Gait" 3 ["self", "player"] (spGait cP cG)}
    {M_words : Mth P w K mg base cG "words" 6 ["self", "letters"] (spWords P w cP cG)} {M_end : Mth P w K mg base cG "end" 7 ["self", "stand", "letter"] (spEnd cP cG)} {M_moves : Mth P w K mg base cP "moves" 1 ["self"] (spMoves cP)}
    (F : FnP K "brought" "brought" s_brought f fd) : FnOk P w K mg base CX0 8 f fd ["player", "others", "mine", "yours"] (spBrought cP) := by
  refine okN F sc_brought (fun vs H Q E h => ?_) (fun cdv A outer s H vs Q E hr h => ?_)
  · obtain ⟨p, l, L, ls, m, y, rfl, _⟩ := h
    rfl
  · obtain ⟨p, l, L, ls, m, y, rfl, hp, ok, sm, hl, mv, hm, hy, hE, q⟩ := h
    refine ⟨_, (pss_cons (ps_expr (pe_cal C_need_player hr (pa_cons (pv 0) pa_nil)))
      (pss_cons (ps_expr (pe_cal C_need_moves hr (pa_cons (pv 1) pa_nil)))
      (pss_cons (ps_expr (pe_cal C_need_among hr (pa_cons (pv 2) (pa_cons (pe_mth0 T.clP M_moves hr (pv 0)) pa_nil))))
      (pss_cons (ps_expr (pe_cal C_need_among hr (pa_cons (pv 3) (pa_cons (pv 1) pa_nil))))
      (pss_cons (ps_set (i := 4) sc_brought.nd rfl (Or.inl rfl) (pe_mak K_Gait hr (pa_cons (pv 0) pa_nil)))
      (pss_cons (ps_set (i := 5) sc_brought.nd rfl (Or.inl rfl) (pe_mth T.clG M_words hr (pv 4) (pa_cons (pv 1) pa_nil)))
      (pss_cons (ps_lock (ps_for PassesOwn.never rfl (pi_itemsN (pv 5)) (pgT K 2 rfl (pgs_cons (pg_name (i := 6) sc_brought.nd rfl (Or.inl rfl)) (pgs_cons (pg_name (i := 7) sc_brought.nd rfl (Or.inl rfl)) pgs_nil))) (pss_one (ps_if (pt_cmpR op_eq (pe_mth T.clG M_end hr (pv 4) (pa_cons (pv 6) (pa_cons (pv 3) pa_nil))) (pv 2) (nomark _)) (pss_one (ps_ret (pe_tup (pa_cons pe_str (pa_cons (pv 7) pa_nil))))) pss_nil))))
      (pss_one ps_never)))))))), ?_⟩
    refine ⟨_, rfl, p, L, rfl, hp, ?_⟩
    refine ⟨_, rfl, l, ls, rfl, hl, mv, fun H1 s1 => ?_⟩
    have hp1 := hp.mono s1
    obtain ⟨dy, pa, pb, pc, pd, pxs, g1, g2, _⟩ := hp1.ex
    refine ⟨_, rfl, _, rfl, p, _, _, rfl, g1, rfl, p, L, rfl, hp1, fun m1 hm1 => ?_⟩
    refine ⟨m, m1, L.moves, rfl, .inr hm1, hm, ?_⟩
    refine ⟨_, rfl, _, rfl, y, l, ls, rfl, hl.mono s1, hy, ?_⟩
    refine ⟨_, rfl, fun g dg ng ndg neg => ?_⟩
    have s2 : Same H1 (upd (upd H1 dg (.own g)) g (.ins cG dg [])) := (same_new ndg).trans (same_new (by rw [upd_ne neg.symm]; exact ng))
    refine ⟨g, dg, p, L, rfl, upd_same, hp1.mono s2, ok.len, fun H2 z2 hg2 => ⟨rfl, ?_⟩⟩
    have s3 : Same H H2 := fun c u e => z2 c u (ne_of_none (s1 _ _ e) ng) (s2 _ _ (s1 _ _ e))
    clear s2 z2
    obtain ⟨dx, p', m', h1, h2, h3⟩ := hg2.ex
    refine ⟨_, rfl, g, _, _, rfl, h1, rfl, _, rfl, g, l, L, ls, rfl, hg2, ok, sm, hl.mono s3, mv.few, fun d H3 es W s4 nd hd hw bf => ?_⟩
    refine ⟨d, _, hd, trivial, fun od => ?_⟩
    have nDN : ∀ xs, DN P w d es ≠ .tup xs := fun xs e => by unfold DN at e; cases e
    have sF : ∀ c u, c ≠ d → H3 c = some u → (upd H3 d (.frz od (DN P w d es))) c = some u := fun c u n e => by rw [upd_ne n]; exact e
    have hwF : WdsAt (upd H3 d (.frz od (DN P w d es))) es W := hw.keep (keepTup hd nDN)
    have hg3 := hg2.mono s4
    have hsF : Same H (upd H3 d (.frz od (DN P w d es))) := same_mut (s3.trans s4) (none_of s3 nd)
    have hgF : GaAt cP cG (upd H3 d (.frz od (DN P w d es))) g L := hg2.mono (same_mut s4 nd)
    have hdF : (upd H3 d (.frz od (DN P w d es))) d = some (.frz od (DN P w d es)) := upd_same
    refine ⟨_, rfl, d, od, es, rfl, hdF, ?_⟩
    have hel := paired_len hwF
    refine for_it walk_itemsN (fun i σ H' => Same (upd H3 d (.frz od (DN P w d es))) H' ∧ (∃ u v, σ = [some (.ref p), some (.ref l), some (.str m), some (.str y), some (.ref g), some (.ref d), u, v]) ∧ ∀ j c, j < i → W[j]? = some c → L.endM c.1 y ≠ m)
      ⟨fun _ _ e => e, ⟨_, _, rfl⟩, fun j c hj => by omega⟩ (fun i σ H' hi h => h.1 _ _ hdF) (fun i x σ H4 H9 hi h yy => ?_) (fun σ H4 h => ?_)
    · obtain ⟨s5, ⟨u, v, rfl⟩, hno⟩ := h
      obtain ⟨t, u1, v1, rfl, nt, rfl, e1, e2⟩ := yy
      simp only [Option.map_eq_some_iff] at e1 e2
      obtain ⟨e, he, rfl⟩ := e1
      obtain ⟨e', he', rfl⟩ := e2
      rw [he] at he'
      cases he'
      have hiW : i < W.length := by
        have := (List.getElem?_eq_some_iff.mp he).1
        omega
      obtain ⟨c, hc⟩ : ∃ c, W[i]? = some c := ⟨_, List.getElem?_eq_getElem hiW⟩
      obtain ⟨e', he', k1, k2, b, k3, k4⟩ := paired_get hwF hc
      rw [he] at he'
      cases he'
      have hcm : c ∈ W := List.mem_of_getElem? hc
      have s6 := s5.trans (same_new (o := .tup [.ref e.2.1, e.2.2]) nt)
      refine ⟨t, _, rfl, .inl (.inl upd_same), rfl, _, _, rfl, _, _, rfl, rfl, ?_⟩
      have hg6 := hgF.mono s6
      obtain ⟨dx6, p6, m6, h61, _⟩ := hg6.ex
      refine ⟨_, rfl, g, _, _, rfl, h61, rfl, _, rfl, _, rfl, g, e.2.1, L, c.1, y, rfl, hg6, ok, k2.mono s6, bf.ok c hcm, fun H7 s7 => ?_⟩
      have s7 := s6.trans s7
      refine ⟨_, rfl, rfl, _, rfl, ?_⟩
      by_cases hEm : L.endM c.1 y = m
      · refine ifT (congrArg V.str hEm) ?_
        refine ⟨_, rfl, (by show 2 ≤ sizeLine; decide), fun r nr => ?_⟩
        have s8 := s7.trans (same_new (o := .tup [.str "row", e.2.2]) nr)
        have hr8 : (upd H7 r (.tup [.str "row", e.2.2])) r = some (.tup [.str "row", e.2.2]) := upd_same
        refine ⟨s8 _ _ hdF, ?_⟩
        have ntF : ∀ xs, HO.frz od (DN P w d es) ≠ .tup xs := fun xs z => by cases z
        refine q r b _ c.2 (fun a u0 e0 => ?_) ?_ ?_ (bf.lead c hcm).2 ?_ (fun v hv hve => ?_)
        · have hne : a ≠ d := ne_of_none e0 (none_of s3 nd)
          rw [upd_ne hne]
          exact s8 _ _ (hsF _ _ e0)
        · rw [← k3]
          exact keepTup (s8 _ _ hdF) ntF _ _ hr8
        · exact keepTup (s8 _ _ hdF) ntF _ _ (s8 _ _ k4)
        · rw [(bf.lead c hcm).1]
          exact hEm
        · obtain ⟨z, hz, ez, lz⟩ := bf.all v hv
          obtain ⟨j, hj⟩ := List.mem_iff_getElem?.mp hz
          have hij : i ≤ j := by
            by_cases h : j < i
            · exact absurd (by rw [ez]; exact hve) (hno j z h hj)
            · omega
          by_cases eij : i = j
          · subst eij
            rw [hc] at hj
            cases hj
            exact lz
          · obtain ⟨q1, q2⟩ := List.getElem?_eq_some_iff.mp hc
            obtain ⟨r1, r2⟩ := List.getElem?_eq_some_iff.mp hj
            have := (List.pairwise_iff_getElem.mp bf.so) i j q1 r1 (by omega)
            rw [q2, r2] at this
            omega
      · refine ifF (str_ne hEm) ?_
        refine ⟨s7, ⟨_, _, rfl⟩, fun j c' hj hc' => ?_⟩
        by_cases ej : j = i
        · subst ej
          rw [hc] at hc'
          cases hc'
          exact hEm
        · exact hno j c' (by omega) hc'
    · obtain ⟨s5, ⟨u, v, rfl⟩, hno⟩ := h
      obtain ⟨w', hw', hwe⟩ := hE
      obtain ⟨z, hz, ez, lz⟩ := bf.all w' hw'
      obtain ⟨j, hj⟩ := List.mem_iff_getElem?.mp hz
      have := (List.getElem?_eq_some_iff.mp hj).1
      exact absurd (by rw [ez]; exact hwe) (hno j z (by omega) hj)
end
end Lk

set_option maxHeartbeats 4000000
namespace Lk
open PySem PySem.Spec PyProof.Rows L2
theorem rev2K {X : Cx} (K : PySem.W.Frag) {e : Expr} {te : TE} {k : Nat} {p1 p2 p3 pos : Pos} (he : PE X e te) (h : X.K = K := by rfl) : PE X (.Subscript e (.Slice none none (some (.UnaryOp .USub (.Constant (.int 1) k p1) p2)) p3) pos) (tRev2 K te) := h ▸ pe_rev2 he
def bodyLc : List Stmt → Scope
  | .Assign _ (.ListComp _ _ s _) _ :: _ => s
  | _ => { kind := .function, names := [], isGenerator := false, isCoroutine := false }
abbrev Ws := Str → Str → Int × Int
def wV (x : Int × Int) : List V := [.int x.1, .int x.2]
def prod (xs ys : List Str) : List (Str × Str) := xs.flatMap fun a => ys.map fun b => (a, b)
theorem mem_prod {xs ys : List Str} {a b : Str} : (a, b) ∈ prod xs ys ↔ a ∈ xs ∧ b ∈ ys := by
  unfold prod
  simp only [List.mem_flatMap, List.mem_map, Prod.mk.injEq]
  constructor
  · rintro ⟨a', h1, b', h2, rfl, rfl⟩
    exact ⟨h1, h2⟩
  · rintro ⟨h1, h2⟩
    exact ⟨a, h1, b, h2, rfl, rfl⟩
theorem prod_len (xs ys : List Str) : (prod xs ys).length = xs.length * ys.length := by
  unfold prod
  induction xs with
  | nil => simp
  | cons x r ih =>
    rw [List.flatMap_cons, List.length_append, ih, List.length_map, List.length_cons, Nat.add_mul]
    omega
theorem prod_nd {xs ys : List Str} (hx : xs.Nodup) (hy : ys.Nodup) : (prod xs ys).Nodup := by
  unfold prod
  induction xs with
  | nil => exact List.nodup_nil
  | cons x r ih =>
    rw [List.nodup_cons] at hx
    rw [List.flatMap_cons, List.nodup_append]
    refine ⟨?_, ih hx.2, fun a ha b hb e => ?_⟩
    · rw [List.Nodup, List.pairwise_map]
      exact hy.imp fun {a b} h e => h (Prod.mk.inj e).2
    · obtain ⟨y, _, rfl⟩ := List.mem_map.mp ha
      subst e
      have := (mem_prod (xs := r) (ys := ys)).mp hb
      exact hx.1 this.1
/-- a dict of worths -/
def WoAt (H : Hp) (es : DnE) (S : List (Str × Str)) (W : Ws) : Prop := Paired (fun (e : NestedKey × Addr × V) (x : Str × Str) => e.1 = pkey x.1 x.2 ∧ H e.2.1 = some (.tup [.str x.1, .str x.2]) ∧ ∃ q, e.2.2 = .ref q ∧ H q = some (.tup (wV (W x.1 x.2)))) es S
theorem WoAt.met {H : Hp} {es : DnE} {S : List (Str × Str)} {W : Ws} (h : WoAt H es S W) : MetAt H es S := by
  induction h with
  | nil => exact .nil
  | cons h _ ih => exact .cons ⟨h.1, h.2.1⟩ ih
theorem WoAt.keep {H H' : Hp} (k : ∀ a xs, H a = some (.tup xs) → H' a = some (.tup xs)) {es : DnE} {S : List (Str × Str)} {W : Ws} (h : WoAt H es S W) : WoAt H' es S W := by
  induction h with
  | nil => exact .nil
  | cons h _ ih =>
    obtain ⟨h1, h2, q, h3, h4⟩ := h
    exact .cons ⟨h1, k _ _ h2, q, h3, k _ _ h4⟩ ih
theorem WoAt.mono {H H' : Hp} (s : Same H H') {es : DnE} {S : List (Str × Str)} {W : Ws} (h : WoAt H es S W) : WoAt H' es S W := h.keep fun a xs e => s _ _ e
theorem WoAt.find {H : Hp} {es : DnE} {S : List (Str × Str)} {W : Ws} (h : WoAt H es S W) {m y : Str} (hm : (m, y) ∈ S) : ∃ a q, dnAt es (pkey m y) = some (a, .ref q) ∧ H q = some (.tup (wV (W m y))) := by
  induction h with
  | nil => cases hm
  | @cons e x _ _ h _ ih =>
    obtain ⟨h1, h2, q, h3, h4⟩ := h
    unfold dnAt at ih ⊢
    rw [List.find?_cons]
    by_cases hq : x = (m, y)
    · subst hq
      rw [decide_eq_true h1]
      refine ⟨e.2.1, q, ?_, h4⟩
      show some (e.2.1, e.2.2) = _
      rw [h3]
    · have e1 : decide (e.1 = pkey m y) = false := decide_eq_false fun z => hq (by rw [h1] at z; obtain ⟨z1, z2⟩ := pkey_inj z; exact Prod.ext z1 z2)
      rw [e1]
      refine ih ?_
      rcases List.mem_cons.mp hm with z | z
      · exact absurd z.symm hq
      · exact z
def WLim (mine yours : List Str) (W : Ws) : Prop := ∀ a ∈ mine, ∀ b ∈ yours, (-1000 ≤ (W a b).1 ∧ (W a b).1 ≤ 1000) ∧ (-1000 ≤ (W a b).2 ∧ (W a b).2 ≤ 1000)
structure TbAt (P : Program) (w : World) (cT : Addr) (H : Hp) (t : Addr) (mine yours : List Str) (W : Ws) : Prop where
  ex : ∃ dx a b d es S, H t = some (.ins cT dx [("left_moves", .ref a), ("right_moves", .ref b), ("by_pair", .ref d)]) ∧ H a = some (.tup (mine.map V.str)) ∧ H b = some (.tup (yours.map V.str)) ∧ H d = some (DN P w d es) ∧ WoAt H es S W ∧ S.Perm (prod mine yours)
  m1 : Mv mine
  m2 : Mv yours
  lim : WLim mine yours W
theorem TbAt.mono {P : Program} {w : World} {cT : Addr} {H H' : Hp} {t : Addr} {mine yours : List Str} {W : Ws} (s : Same H H') (h : TbAt P w cT H t mine yours W) : TbAt P w cT H' t mine yours W := by
  obtain ⟨⟨dx, a, b, d, es, S, h1, h2, h3, h4, h5, h6⟩, m1, m2, l⟩ := h
  exact ⟨⟨dx, a, b, d, es, S, s _ _ h1, s _ _ h2, s _ _ h3, s _ _ h4, h5.mono s, h6⟩, m1, m2, l⟩
def spIsWorth : Sp := fun vs H Q _ => ∃ (q : Addr) (x : Int × Int), vs = [.ref q] ∧ H q = some (.tup (wV x)) ∧ (-1000 ≤ x.1 ∧ x.1 ≤ 1000) ∧ (-1000 ≤ x.2 ∧ x.2 ≤ 1000) ∧ ∀ H', Same H H' → Q (.bl true) H'
def spNeedWorths (P : Program) (w : World) : Sp := fun vs H Q _ => ∃ (a b d : Addr) (mine yours : List Str) (es : DnE) (S : List (Str × Str)) (W : Ws), vs = [.ref a, .ref b, .ref d] ∧ Lt H a (mine.map V.str) ∧ Lt H b (yours.map V.str) ∧ Mv mine ∧ Mv yours ∧ H d = some (DN P w d es) ∧ WoAt H es S W ∧ S.Perm (prod mine yours) ∧
  WLim mine yours W ∧ ∀ H', Same H H' → Q .non H'
section
variable {P : Program} {w : World} {K : PySem.W.Frag} {mg : Str → Option Value} {base : Heap} {cP cG cT : Addr} {f : Addr} {fd : FuncData} (T : Txt K w mg cP cG cT)
include T
theorem ok_is_worth {C_is_list : Cal P w K mg base "is_list" 1 ["thing"] spIsList} {C_is_number : Cal P w K mg base "is_number" 1 ["thing", "low", "high"] spIsNumber} (F : FnP K "is_worth" "is_worth" s_is_worth f fd) : FnOk P w K mg base CX0 2 f fd ["thing"] spIsWorth := by
  refine okN F sc_is_worth (fun vs H Q E h => ?_) (fun cdv A outer s H vs Q E hr h => ?_)
  · obtain ⟨q, x, rfl, _⟩ := h
    rfl
  · obtain ⟨a, x, rfl, ha, h1, h2, q⟩ := h
    refine ⟨_, (pss_cons (ps_if (PW.pt (pw_or (pt_not (pt_val (pe_cal C_is_list hr (pa_cons (pv 0) pa_nil)))) (pw_or1 (pt_cmpR op_ne (pe_callB (lenS K) (by rfl) T.len_ b_len (pa_cons (pv 0) pa_nil)) (pe_callB (lenS K) (by rfl) T.len_ b_len (pa_cons (gl_SEATS T) pa_nil)) (nomark _))))) (pss_one (ps_ret pe_bl)) pss_nil)
      (pss_one (ps_ret (pe_callB (allS K rfl) (by rfl) T.all_ b_all (pa_cons (pe_lc (own := [("one", 1)]) rfl sc_is_worth.nd (pi_sq (pv 0)) (blkOk_by (own := [("one", 1)]) (N := ["thing", "one"]) (sc := defScope s_is_worth) (by decide +kernel)) (fun _ _ _ _ _ => pg_name (i := 1) sc_is_worth.nd rfl (Or.inl rfl)) (fun _ _ _ _ _ => pts_nil) (fun _ _ _ _ _ => (pe_cal C_is_number hr (pa_cons (pv 1) (pa_cons (pe_un un_neg (gl_MOST_WORTH T)) (pa_cons (gl_MOST_WORTH T) pa_nil)))))) pa_nil))))), ?_⟩
    refine ⟨_, rfl, a, _, rfl, .inr ha, fun H1 s1 => ⟨true, rfl, ?_⟩⟩
    refine iteF ?_
    have ha1 := s1 _ _ ha
    refine ⟨_, rfl, a, _, rfl, .inr (.inl (.inl ha1)), _, _, rfl, .inr (T.SEATS.choose_spec.2.sq H1), rfl, _, rfl, ?_⟩
    refine ifNF rfl ?_
    refine ⟨_, rfl, a, _, rfl, .inr ha1, fun J hJ D hD => ?_⟩
    refine lcW_fm hJ (fun _ => some (.bl true)) hD (by show 2 ≤ 100000; decide) (fun H2 s2 => same_of s2 (.inr ha1)) (fun i y H9 H2 hi s2 yy K1 K0 k1 k0 => ?_) (fun H2 s2 e => ?_)
    · obtain ⟨rfl, hx⟩ := yy
      have : ∃ z : Int, y = .int z ∧ -1000 ≤ z ∧ z ≤ 1000 := by
        match i, hx with
        | 0, hx => cases hx; exact ⟨_, rfl, h1⟩
        | 1, hx => cases hx; exact ⟨_, rfl, h2⟩
        | i + 2, hx => cases hx
      obtain ⟨z, rfl, z1, z2⟩ := this
      refine ⟨rfl, yesT ?_⟩
      refine ⟨_, rfl, _, rfl, _, _, _, rfl, ?_⟩
      rw [decide_eq_true (by omega), decide_eq_true (by omega)]
      exact k1 _ _ rfl (fun _ _ e => e)
    · refine ⟨D, List.replicate 2 true, rfl, .inl (.inl (by rw [e]; rfl)), ?_⟩
      exact q _ (s1.trans s2)
theorem ok_need_worths {C_is_worth : Cal P w K mg base "is_worth" 2 ["thing"] spIsWorth} (F : FnP K "need_worths" "need_worths" s_need_worths f fd) : FnOk P w K mg base CX0 3 f fd ["mine", "yours", "thing"] (spNeedWorths P w) := by
  refine okN F sc_need_worths (fun vs H Q E h => ?_) (fun cdv A outer s H vs Q E hr h => ?_)
  · obtain ⟨a, b, d, mine, yours, es, S, W, rfl, _⟩ := h
    rfl
  · obtain ⟨a, b, d, mine, yours, es, S, W, rfl, ha, hb, m1, m2, hd, hw, hS, lim, q⟩ := h
    refine ⟨_, (pss_cons (ps_setLc2 (i := 3) (own := [("a", 4), ("b", 5)]) (vs1 := [5]) rfl sc_need_worths.nd rfl rfl (sw_true rfl rfl rfl (by decide +kernel)) (pi_sq (pv 0)) (blkOk_by (own := [("a", 4), ("b", 5)]) (N := ["mine", "yours", "thing", "pairs", "a", "b", "pair"]) (sc := defScope s_need_worths) (by decide +kernel)) (by decide) (fun _ _ _ _ _ => pg_name (i := 4) sc_need_worths.nd rfl (Or.inl rfl)) (fun _ _ _ _ _ => pts_nil) (fun _ _ _ _ _ => (pi_sq (pv 1))) (fun _ _ _ _ _ => pg_name (i := 5) sc_need_worths.nd rfl (Or.inl rfl)) (fun _ _ _ _ _ => pts_nil) (fun _ _ _ _ _ => (pe_tup (pa_cons (pv 4) (pa_cons (pv 5) pa_nil)))))
      (pss_cons (ps_if (PW.pt (pw_or (pt_not (pt_val (pe_callB call_isi_dn (by rfl) T.isinstance_ b_isinstance (pa_cons (pv 2) (pa_cons (ty_dict T) pa_nil))))) (pw_or1 (pt_cmpR op_ne (pe_callB call_len_dn (by rfl) T.len_ b_len (pa_cons (pv 2) pa_nil)) (pe_callB (lenS K) (by rfl) T.len_ b_len (pa_cons (pv 3) pa_nil)) (nomark _))))) (pss_one ps_never) pss_nil)
      (pss_one (ps_if (pt_not (pt_val (pe_callB (allS K rfl) (by rfl) T.all_ b_all (pa_cons (pe_lc (own := [("pair", 6)]) rfl sc_need_worths.nd (pi_sq (pv 3)) (blkOk_by (own := [("pair", 6)]) (N := ["mine", "yours", "thing", "pairs", "a", "b", "pair"]) (sc := defScope s_need_worths) (by decide +kernel)) (fun _ _ _ _ _ => pg_name (i := 6) sc_need_worths.nd rfl (Or.inl rfl)) (fun _ _ _ _ _ => pts_nil) (fun _ _ _ _ _ => (pe_and (pe_cmp (pc_ninP P w (hu16 hr) (pv 6) (pv 2)) rfl) (pe_one (pe_cal C_is_worth hr (pa_cons (ngetP P w (hu16 hr) (pv 2) (pv 6) (fun _ _ => rfl)) pa_nil)))))) pa_nil)))) (pss_one ps_never) pss_nil)))), ?_⟩
    refine ⟨_, rfl, a, _, rfl, ha, fun J hJ D hD => ?_⟩
    refine it_by hJ (fun i H' => Same H H' ∧ ∃ xs, H' D = some (.lst xs) ∧ PrsAt H' xs ((mine.take i).flatMap fun a => yours.map fun b => (a, b)) ∧ xs.length ≤ 4 * i) ⟨same_new hD, [], upd_same, .nil, Nat.le_refl _⟩ (fun i H' hi h => same_of h.1 ha) (fun i x H9 H2 hi h y => ?_) (fun H2 h => ?_)
    · obtain ⟨s2, xs, hx2, hp2, hl2⟩ := h
      obtain ⟨rfl, hx⟩ := y
      rw [List.getElem?_map] at hx
      obtain ⟨m, hm, rfl⟩ := Option.map_eq_some_iff.mp hx
      refine ⟨rfl, yesT ?_⟩
      refine ⟨_, rfl, b, _, rfl, hb.mono s2, fun J3 hJ3 => ?_⟩
      refine it_by hJ3 (fun k H' => Same H H' ∧ ∃ xs, H' D = some (.lst xs) ∧ PrsAt H' xs (((mine.take i).flatMap fun a => yours.map fun b => (a, b)) ++ (yours.take k).map fun b => (m, b)) ∧ xs.length ≤ 4 * i + k)
        ⟨s2, xs, hx2, by simpa using hp2, by omega⟩ (fun k H' hk h => (same_of h.1 hb).trans (same_of s2 hb).symm) (fun k x HA H3 hk h y => ?_) (fun H3 h => ?_)
      · obtain ⟨s3, xs3, hx3, hp3, hl3⟩ := h
        obtain ⟨rfl, hx⟩ := y
        rw [List.getElem?_map] at hx
        obtain ⟨y, hy, rfl⟩ := Option.map_eq_some_iff.mp hx
        have hk4 : k < 4 := by
          have := (List.getElem?_eq_some_iff.mp hy).1
          have := m2.few
          omega
        have hi4 : i < 4 := by
          have := (List.getElem?_eq_some_iff.mp hm).1
          have := m1.few
          omega
        refine ⟨rfl, yesT ?_⟩
        refine ⟨_, rfl, _, rfl, (by show 2 ≤ sizeLine; decide), fun t nt => ?_⟩
        have sM := same_new (o := .tup [.str m, .str y]) nt
        refine ⟨xs3, sM _ _ hx3, sz_lt (by omega), same_mut (s3.trans sM) hD, _, upd_same, ?_, ?_⟩
        · rw [List.take_add_one, hy]
          show PrsAt _ _ (_ ++ List.map _ (_ ++ [y]))
          rw [List.map_append, ← List.append_assoc]
          have ntx : ∀ zs, (upd H3 t (.tup [.str m, .str y])) D ≠ some (.tup zs) := fun zs e => by rw [sM _ _ hx3] at e; cases e
          exact PrsAt.updX ntx (paired_snoc (hp3.mono sM) ⟨t, rfl, upd_same⟩)
        · simp
          omega
      · obtain ⟨s3, xs3, hx3, hp3, hl3⟩ := h
        rw [List.length_map] at hp3 hl3
        rw [List.take_length] at hp3
        have := m2.few
        refine ⟨s3, xs3, hx3, ?_, by omega⟩
        rw [List.take_add_one, hm, List.flatMap_append]
        simpa using hp3
    · obtain ⟨s2, xs, hx2, hp2, hl2⟩ := h
      rw [List.take_of_length_le (by simp)] at hp2
      have hp2 : PrsAt H2 xs (prod mine yours) := hp2
      have hd2 := s2 _ _ hd
      have hw2 := hw.mono s2
      have hlen : es.length = xs.length := by
        rw [paired_len hp2, paired_len hw2, hS.length_eq]
      have hxl : xs.length ≤ 16 := by
        rw [paired_len hp2, prod_len]
        exact Nat.mul_le_mul m1.few m2.few
      refine ⟨_, rfl, d, es, _, _, true, rfl, .ty _, .inl hd2, kit_ty (by decide +kernel), true, rfl, ?_⟩
      refine iteF ?_
      refine ⟨_, rfl, d, es, rfl, .inl hd2, hw2.met.keys, _, rfl, D, xs, rfl, .inl (.inl (.inl hx2)), rfl, _, rfl, ?_⟩
      refine ifNF (by rw [hlen]) ?_
      refine ⟨_, rfl, D, xs, rfl, .inl hx2, fun J3 hJ3 D3 hD3 => ?_⟩
      refine lcW_fm hJ3 (fun _ => some (.bl true)) hD3 (by omega) (fun H4 s4 => same_of s4 (.inl hx2)) (fun i y H9 H4 hi s4 yy K1 K0 k1 k0 => ?_) (fun H4 s4 e => ?_)
      · obtain ⟨rfl, hx⟩ := yy
        obtain ⟨pr, hpr⟩ : ∃ pr, (prod mine yours)[i]? = some pr := ⟨_, List.getElem?_eq_getElem (by rw [← paired_len hp2]; exact hi)⟩
        obtain ⟨x', hx', c, rfl, hc⟩ := paired_get hp2 hpr
        rw [hx] at hx'
        cases hx'
        have hprm : pr ∈ prod mine yours := List.mem_of_getElem? hpr
        have hprS : (pr.1, pr.2) ∈ S := hS.mem_iff.mpr hprm
        have hmem := mem_prod.mp (show (pr.1, pr.2) ∈ prod mine yours from hprm)
        have hw4 := hw2.mono s4
        have hc4 := s4 _ _ hc
        refine ⟨rfl, yesT ?_⟩
        refine ⟨_, rfl, _, rfl, c, d, es, pkey pr.1 pr.2, rfl, rfl, .inl (s4 _ _ hd2), hw4.met.keys, pk_at hc4, _, rfl, ?_⟩
        show if (dnAt es (pkey pr.1 pr.2)).isSome = true then _ else _
        rw [hw4.met.has]
        refine ifT hprS ?_
        obtain ⟨a', q', e1, e2⟩ := hw4.find hprS
        refine ⟨_, rfl, _, rfl, c, d, es, pkey pr.1 pr.2, a', .ref q', rfl, rfl, .inl (s4 _ _ hd2), hw4.met.keys, pk_at hc4, e1, ?_⟩
        have lm := lim pr.1 hmem.1 pr.2 hmem.2
        exact ⟨q', W pr.1 pr.2, rfl, e2, lm.1, lm.2, fun H5 s5 => k1 _ _ rfl s5⟩
      · refine ⟨D3, List.replicate xs.length true, rfl, .inl (.inl ?_), ?_⟩
        · rw [e, rep_bl]
          simp [List.filterMap_eq_map, List.map_const']
        · rw [all_rep]
          refine ⟨true, rfl, ?_⟩
          refine iteF ?_
          exact q _ (s2.trans s4)
end
end Lk

set_option maxHeartbeats 4000000
namespace Lk
open PySem PySem.Spec PyProof.Rows L2
theorem WoAt.put {H : Hp} {es : DnE} {S : List (Str × Str)} {W : Ws} {m y : Str} {a q : Addr} (h : WoAt H es S W) (hn : (m, y) ∉ S) (ha : H a = some (.tup [.str m, .str y])) (hq : H q = some (.tup (wV (W m y)))) : WoAt H (dnPut es (pkey m y) a (.ref q)) (S ++ [(m, y)]) W := by
  have e := h.met.has m y
  rw [decide_eq_false hn] at e
  rw [dnPut_new (by cases z : dnAt es (pkey m y) with | none => rfl | some v => rw [z] at e; cases e)]
  exact paired_snoc h ⟨rfl, ha, q, rfl, hq⟩
theorem perm_nd {S T : List (Str × Str)} (p : S.Perm T) (h : T.Nodup) : S.Nodup := p.symm.nodup h
theorem take_fresh {S : List (Str × Str)} (nd : S.Nodup) {i : Nat} {x : Str × Str} (h : S[i]? = some x) : x ∉ S.take i := by
  intro hx
  obtain ⟨j, hj⟩ := List.mem_iff_getElem?.mp hx
  obtain ⟨hj1, hj2⟩ := List.getElem?_eq_some_iff.mp hj
  obtain ⟨hi1, hi2⟩ := List.getElem?_eq_some_iff.mp h
  have hji : j < i := by
    rw [List.length_take] at hj1
    omega
  rw [List.getElem_take] at hj2
  have := (List.pairwise_iff_getElem.mp nd) j i (by omega) hi1 hji
  exact this (hj2.trans hi2.symm)
theorem perm_len {S : List (Str × Str)} {mine yours : List Str} (p : S.Perm (prod mine yours)) (m1 : Mv mine) (m2 : Mv yours) : S.length ≤ 16 := by
  rw [p.length_eq, prod_len]
  exact Nat.mul_le_mul m1.few m2.few
theorem prod_swap {S : List (Str × Str)} {mine yours : List Str} (p : S.Perm (prod mine yours)) (m1 : Mv mine) (m2 : Mv yours) : (S.map fun x => (x.2, x.1)).Perm (prod yours mine) := by
  refine (List.perm_ext_iff_of_nodup ?_ (prod_nd m2.nd m1.nd)).mpr fun x => ?_
  · rw [List.Nodup, List.pairwise_map]
    exact (perm_nd p (prod_nd m1.nd m2.nd)).imp fun {a b} h e => h (Prod.ext (Prod.mk.inj e).2 (Prod.mk.inj e).1)
  · rw [List.mem_map]
    constructor
    · rintro ⟨y, hy, rfl⟩
      have := mem_prod.mp (show (y.1, y.2) ∈ prod mine yours from p.mem_iff.mp hy)
      exact mem_prod.mpr ⟨this.2, this.1⟩
    · intro hx
      have := mem_prod.mp (show (x.1, x.2) ∈ prod yours mine from hx)
      exact ⟨(x.2, x.1), p.mem_iff.mpr (mem_prod.mpr ⟨this.2, this.1⟩), rfl⟩
def spTable (P : Program) (w : World) (cT : Addr) : Sp := fun vs H Q _ => ∃ (x dx a b d : Addr) (mine yours : List Str) (es : DnE) (S : List (Str × Str)) (W : Ws), vs = [.ref x, .ref a, .ref b, .ref d] ∧ H x = some (.ins cT dx []) ∧ Lt H a (mine.map V.str) ∧ Lt H b (yours.map V.str) ∧ Mv mine ∧ Mv yours ∧ H d = some (DN P w d es) ∧ WoAt H es S W ∧
  S.Perm (prod mine yours) ∧ WLim mine yours W ∧ ∀ H', SameX x H H' → TbAt P w cT H' x mine yours W → Q .non H'
def spMine (P : Program) (w : World) (cT : Addr) : Sp := fun vs H Q _ => ∃ (t : Addr) (mine yours : List Str) (W : Ws), vs = [.ref t] ∧ TbAt P w cT H t mine yours W ∧ ∀ a, H a = some (.tup (mine.map V.str)) → Q (.ref a) H
def spYours (P : Program) (w : World) (cT : Addr) : Sp := fun vs H Q _ => ∃ (t : Addr) (mine yours : List Str) (W : Ws), vs = [.ref t] ∧ TbAt P w cT H t mine yours W ∧ ∀ a, H a = some (.tup (yours.map V.str)) → Q (.ref a) H
def spWorth (P : Program) (w : World) (cT : Addr) : Sp := fun vs H Q _ => ∃ (t : Addr) (m y : Str) (mine yours : List Str) (W : Ws), vs = [.ref t, .str m, .str y] ∧ TbAt P w cT H t mine yours W ∧ m ∈ mine ∧ y ∈ yours ∧ ∀ q H', Same H H' → H' q = some (.tup (wV (W m y))) → Q (.ref q) H'
def spTurned (P : Program) (w : World) (cT : Addr) : Sp := fun vs H Q _ => ∃ (t : Addr) (mine yours : List Str) (W : Ws), vs = [.ref t] ∧ TbAt P w cT H t mine yours W ∧ ∀ q H', Same H H' → TbAt P w cT H' q yours mine (fun a b => ((W b a).2, (W b a).1)) → Q (.ref q) H'
section
variable {P : Program} {w : World} {K : PySem.W.Frag} {mg : Str → Option Value} {base : Heap} {cP cG cT : Addr} {f : Addr} {fd : FuncData} (T : Txt K w mg cP cG cT)
include T
theorem ok_mine (F : FnP K "mine" "Table.mine" s_Table_mine f fd) : FnOk P w K mg base CX0 1 f fd ["self"] (spMine P w cT) := by
  refine okN F sc_Table_mine (fun vs H Q E h => ?_) (fun cdv A outer s H vs Q E hr h => ?_)
  · obtain ⟨t, mine, yours, W, rfl, _⟩ := h
    rfl
  · obtain ⟨t, mine, yours, W, rfl, ht, q⟩ := h
    obtain ⟨dx, a, b, d, es, S, h1, h2, _⟩ := ht.ex
    refine ⟨_, (pss_one (ps_ret (fldK K (pv 0) rfl))), ?_⟩
    exact ⟨_, rfl, t, _, _, _, _, rfl, h1, T.clT, T.naT _ (by simp), rfl, q a h2⟩
theorem ok_yours (F : FnP K "yours" "Table.yours" s_Table_yours f fd) : FnOk P w K mg base CX0 1 f fd ["self"] (spYours P w cT) := by
  refine okN F sc_Table_yours (fun vs H Q E h => ?_) (fun cdv A outer s H vs Q E hr h => ?_)
  · obtain ⟨t, mine, yours, W, rfl, _⟩ := h
    rfl
  · obtain ⟨t, mine, yours, W, rfl, ht, q⟩ := h
    obtain ⟨dx, a, b, d, es, S, h1, h2, h3, _⟩ := ht.ex
    refine ⟨_, (pss_one (ps_ret (fldK K (pv 0) rfl))), ?_⟩
    exact ⟨_, rfl, t, _, _, _, _, rfl, h1, T.clT, T.naT _ (by simp), rfl, q b h3⟩
theorem ok_worth {C_need_among : Cal P w K mg base "need_among" 1 ["thing", "moves"] spNeedAmong} (F : FnP K "worth" "Table.worth" s_Table_worth f fd) : FnOk P w K mg base CX0 2 f fd ["self", "a", "b"] (spWorth P w cT) := by
  refine okN F sc_Table_worth (fun vs H Q E h => ?_) (fun cdv A outer s H vs Q E hr h => ?_)
  · obtain ⟨t, m, y, mine, yours, W, rfl, _⟩ := h
    rfl
  · obtain ⟨t, m, y, mine, yours, W, rfl, ht, hm, hy, q⟩ := h
    obtain ⟨dx, a, b, d, es, S, h1, h2, h3, h4, h5, h6⟩ := ht.ex
    refine ⟨_, (pss_cons (ps_expr (pe_cal C_need_among hr (pa_cons (pv 1) (pa_cons (fldK K (pv 0) rfl) pa_nil))))
      (pss_cons (ps_expr (pe_cal C_need_among hr (pa_cons (pv 2) (pa_cons (fldK K (pv 0) rfl) pa_nil))))
      (pss_one (ps_ret (pe_nget (hu16 hr) (fldK K (pv 0) rfl) (pe_tup (pa_cons (pv 1) (pa_cons (pv 2) pa_nil))) (fun _ _ => rfl)))))), ?_⟩
    refine ⟨_, rfl, _, rfl, t, _, _, _, _, rfl, h1, T.clT, T.naT _ (by simp), rfl, m, a, mine, rfl, .inr h2, hm, ?_⟩
    refine ⟨_, rfl, _, rfl, t, _, _, _, _, rfl, h1, T.clT, T.naT _ (by simp), rfl, y, b, yours, rfl, .inr h3, hy, ?_⟩
    refine ⟨_, rfl, t, _, _, _, _, rfl, h1, T.clT, T.naT _ (by simp), rfl, _, rfl, _, rfl, (by show 2 ≤ sizeLine; decide), fun k nk => ?_⟩
    have s1 := same_new (o := .tup [.str m, .str y]) nk
    have hw1 := h5.mono s1
    obtain ⟨a', q', e1, e2⟩ := hw1.find (h6.mem_iff.mpr (mem_prod.mpr ⟨hm, hy⟩))
    exact ⟨k, d, es, pkey m y, a', .ref q', rfl, rfl, .inl (s1 _ _ h4), hw1.met.keys, pk_at upd_same, e1, q q' _ s1 e2⟩
theorem ok_Table {C_need_moves : Cal P w K mg base "need_moves" 3 ["thing"] spNeedMoves} {C_need_worths : Cal P w K mg base "need_worths" 3 ["mine", "yours", "thing"] (spNeedWorths P w)} (F : FnP K "__init__" "Table.__init__" s_Table___init__ f fd) :
    FnOk P w K mg base CX0 4 f fd ["self", "mine", "yours", "worths"] (spTable P w cT) := by
  refine okN F sc_Table___init (fun vs H Q E h => ?_) (fun cdv A outer s H vs Q E hr h => ?_)
  · obtain ⟨x, dx, a, b, d, mine, yours, es, S, W, rfl, _⟩ := h
    rfl
  · obtain ⟨x, dx, a, b, d, mine, yours, es, S, W, rfl, hx, ha, hb, m1, m2, hd, hw, hS, lim, q⟩ := h
    have hSl := perm_len hS m1 m2
    have hSn := perm_nd hS (prod_nd m1.nd m2.nd)
    refine ⟨_, (pss_cons (ps_expr (pe_cal C_need_moves hr (pa_cons (pv 1) pa_nil)))
      (pss_cons (ps_expr (pe_cal C_need_moves hr (pa_cons (pv 2) pa_nil)))
      (pss_cons (ps_expr (pe_cal C_need_worths hr (pa_cons (pv 1) (pa_cons (pv 2) (pa_cons (pv 3) pa_nil)))))
      (pss_cons (ps_fld (pv 0) (pe_callTy tupA (by rfl) T.tuple_ b_tuple (pa_cons (pv 1) pa_nil)) rfl)
      (pss_cons (ps_fld (pv 0) (pe_callTy tupA (by rfl) T.tuple_ b_tuple (pa_cons (pv 2) pa_nil)) rfl)
      (pss_one (ps_fld (pv 0) (pe_lock (pe_dcN (hu16 hr) (own := [("pair", 4), ("both", 5)]) rfl sc_Table___init.nd (pi_itemsN (pv 3)) (blkOk_by (own := [("pair", 4), ("both", 5)]) (N := ["self", "mine", "yours", "worths", "pair", "both"]) (sc := defScope s_Table___init__) (by decide +kernel)) (fun _ _ _ _ _ => pgT K 2 rfl (pgs_cons (pg_name (i := 4) sc_Table___init.nd rfl (Or.inl rfl)) (pgs_cons (pg_name (i := 5) sc_Table___init.nd rfl (Or.inl rfl)) pgs_nil))) (fun _ _ _ _ _ => pts_nil) (fun _ _ _ _ _ => (pv 4)) (fun _ _ _ _ _ => (pe_callTy tupA (by rfl) T.tuple_ b_tuple (pa_cons (pv 5) pa_nil))))) rfl))))))), ?_⟩
    refine ⟨_, rfl, a, _, rfl, ha, m1, fun H1 s1 => ?_⟩
    refine ⟨_, rfl, b, _, rfl, hb.mono s1, m2, fun H2 s2 => ?_⟩
    have s2 := s1.trans s2
    refine ⟨_, rfl, _, rfl, _, rfl, a, b, d, mine, yours, es, S, W, rfl, ha.mono s2, hb.mono s2, m1, m2, s2 _ _ hd, hw.mono s2, hS, lim, fun H3 s3 => ?_⟩
    have s3 := s2.trans s3
    refine ⟨_, rfl, a, _, rfl, ha.mono s3, fun w1 H4 s4 hw1 => ?_⟩
    have s4 := s3.trans s4
    have hx4 := s4 _ _ hx
    refine ⟨_, rfl, x, _, _, _, rfl, hx4, T.clT, T.naT _ (by simp), by decide, ?_⟩
    have z5 : SameX x H (upd H4 x (.ins cT dx [("left_moves", .ref w1)])) := (sx s4).trans sameX_upd
    have hw1 : (upd H4 x (.ins cT dx [("left_moves", .ref w1)])) w1 = some (.tup (mine.map V.str)) := by rw [upd_ne (ne_x hx4 hw1 (by simp))]; exact hw1
    have hx5 : (upd H4 x (.ins cT dx [("left_moves", .ref w1)])) x = some (.ins cT dx [("left_moves", .ref w1)]) := upd_same
    show tSeq _ _ _ _ (upd H4 x (.ins cT dx [("left_moves", .ref w1)]))
    generalize upd H4 x (.ins cT dx [("left_moves", .ref w1)]) = H5 at z5 hw1 hx5
    refine ⟨_, rfl, b, _, rfl, hb.monoX z5 hx, fun w2 H6 s6 hw2 => ?_⟩
    have z6 := z5.trans (sx s6)
    have hx6 := s6 _ _ hx5
    have hw1 := s6 _ _ hw1
    refine ⟨_, rfl, x, _, _, _, rfl, hx6, T.clT, T.naT _ (by simp), by simp, ?_⟩
    have e2 : putF "right_moves" (.ref w2) [("left_moves", V.ref w1)] = ([("left_moves", V.ref w1), ("right_moves", V.ref w2)] : List (Str × V)) := by rfl
    rw [e2]
    have z7 : SameX x H (upd H6 x (.ins cT dx [("left_moves", .ref w1), ("right_moves", .ref w2)])) := z6.trans sameX_upd
    have hw1 : (upd H6 x (.ins cT dx [("left_moves", .ref w1), ("right_moves", .ref w2)])) w1 = some (.tup (mine.map V.str)) := by rw [upd_ne (ne_x hx6 hw1 (by simp))]; exact hw1
    have hw2 : (upd H6 x (.ins cT dx [("left_moves", .ref w1), ("right_moves", .ref w2)])) w2 = some (.tup (yours.map V.str)) := by rw [upd_ne (ne_x hx6 hw2 (by simp))]; exact hw2
    have hx7 : (upd H6 x (.ins cT dx [("left_moves", .ref w1), ("right_moves", .ref w2)])) x = some (.ins cT dx [("left_moves", .ref w1), ("right_moves", .ref w2)]) := upd_same
    generalize upd H6 x (.ins cT dx [("left_moves", .ref w1), ("right_moves", .ref w2)]) = H7 at z7 hw1 hw2 hx7
    have nDN : ∀ xs, DN P w d es ≠ .tup xs := fun xs e => by unfold DN at e; cases e
    have hdx : d ≠ x := ne_x hx hd (fun e => by unfold DN at e; cases e)
    have hd7 := z7 _ _ hdx hd
    have hw7 : WoAt H7 es S W := hw.keep fun c xs e => z7 _ _ (ne_x hx e (by simp)) e
    refine ⟨d, _, hd7, trivial, fun od => ?_⟩
    have hdF : (upd H7 d (.frz od (DN P w d es))) d = some (.frz od (DN P w d es)) := upd_same
    have hwF : WoAt (upd H7 d (.frz od (DN P w d es))) es S W := hw7.keep (keepTup hd7 nDN)
    have kF : ∀ c o, c ≠ d → H7 c = some o → (upd H7 d (.frz od (DN P w d es))) c = some o := fun c o n e => by rw [upd_ne n]; exact e
    have hel := paired_len hwF
    refine ⟨_, rfl, d, od, es, rfl, hdF, fun D hD => ?_⟩
    generalize hHF : upd H7 d (.frz od (DN P w d es)) = HF at hdF hwF kF hD
    refine it_byD walk_itemsN (DN P w D []) (.inr rfl) (fun i H' => Same HF H' ∧ ∃ es', H' D = some (DN P w D es') ∧ WoAt H' es' (S.take i) W) ⟨same_new hD, [], upd_same, .nil⟩ (fun i H' hi h => h.1 _ _ hdF) (fun i v HA HB hi h y => ?_) (fun H8 h => ?_)
    · obtain ⟨s8, es', hD8, hw8⟩ := h
      obtain ⟨t, u1, v1, rfl, nt, rfl, e1, e3⟩ := y
      simp only [Option.map_eq_some_iff] at e1 e3
      obtain ⟨e, he, rfl⟩ := e1
      obtain ⟨e', he', rfl⟩ := e3
      rw [he] at he'
      cases he'
      obtain ⟨pr, hpr⟩ : ∃ pr, S[i]? = some pr := ⟨_, List.getElem?_eq_getElem (by omega)⟩
      obtain ⟨e', he', k1, k2, b', k3, k4⟩ := paired_get hwF hpr
      rw [he] at he'
      cases he'
      have sN := same_new (o := .tup [.ref e.2.1, e.2.2]) nt
      have htt : (upd HA t (.tup [.ref e.2.1, e.2.2])) t = some (.tup [.ref e.2.1, e.2.2]) := upd_same
      have s9 := s8.trans sN
      have hD9 := sN _ _ hD8
      have hw9 := hw8.mono sN
      generalize upd HA t (.tup [.ref e.2.1, e.2.2]) = H9 at sN htt s9 hD9 hw9
      refine ⟨t, _, rfl, .inl (.inl htt), rfl, _, _, rfl, _, _, rfl, rfl, rfl, yesT ?_⟩
      refine ⟨_, rfl, e.2.2, rfl, ?_⟩
      rw [k3]
      refine ⟨b', _, rfl, .inr (s9 _ _ k4), fun p' H10 s10 hp' => ?_⟩
      have s11 := s9.trans s10
      have hD10 := s10 _ _ hD9
      have hw10 := hw9.mono s10
      have hel2 := paired_len hw10
      refine .inr ⟨e.2.1, es', pkey pr.1 pr.2, rfl, hD10, hw10.met.keys, pk_at (s11 _ _ k2), ?_, ?_⟩
      · rw [hel2, List.length_take]
        omega
      have ntD : ∀ zs, DN P w D es' ≠ .tup zs := fun zs e => by unfold DN at e; cases e
      refine ⟨same_mut s11 hD, _, upd_same, ?_⟩
      have hput := (hw10.put (take_fresh hSn hpr) (s11 _ _ k2) hp').keep (keepTup (u := DN P w D (dnPut es' (pkey pr.1 pr.2) e.2.1 (.ref p'))) hD10 ntD)
      rw [List.take_add_one, hpr]
      exact hput
    · obtain ⟨s8, es', hD8, hw8⟩ := h
      rw [List.take_of_length_le (by omega)] at hw8
      refine ⟨s8 _ _ hdF, ?_⟩
      have hne : D ≠ d := (ne_of_none hdF hD).symm
      have ntF : ∀ xs, HO.frz od (DN P w d es) ≠ .tup xs := fun xs z => by cases z
      have k8 := keepTup (u := DN P w d es) (s8 _ _ hdF) ntF
      have kk : ∀ c o, c ≠ d → H7 c = some o → (upd H8 d (DN P w d es)) c = some o := fun c o n e => by rw [upd_ne n]; exact s8 _ _ (kF _ _ n e)
      have hx8 := kk _ _ hdx.symm hx7
      refine ⟨_, rfl, x, _, _, _, rfl, hx8, T.clT, T.naT _ (by simp), by simp, ?_⟩
      have e4 : putF "by_pair" (.ref D) [("left_moves", V.ref w1), ("right_moves", V.ref w2)] = ([("left_moves", V.ref w1), ("right_moves", V.ref w2), ("by_pair", V.ref D)] : List (Str × V)) := by rfl
      rw [e4]
      have kz : ∀ c o, c ≠ x → (upd H8 d (DN P w d es)) c = some o → (upd (upd H8 d (DN P w d es)) x (.ins cT dx [("left_moves", .ref w1), ("right_moves", .ref w2), ("by_pair", .ref D)])) c = some o := fun c o n e => by rw [upd_ne n]; exact e
      have hDx : D ≠ x := by
        rintro rfl
        have : HF D = none := hD
        rw [kF _ _ hne hx7] at this
        cases this
      refine q _ (fun c o n e => ?_) ⟨⟨dx, w1, w2, D, es', S, upd_same, kz _ _ (ne_x hx7 hw1 (by simp)) (kk _ _ (fun z => by rw [z, hd7] at hw1; exact nDN _ (Option.some.inj hw1)) hw1), kz _ _ (ne_x hx7 hw2 (by simp)) (kk _ _ (fun z => by rw [z, hd7] at hw2; exact nDN _ (Option.some.inj hw2)) hw2),
        kz _ _ hDx (by rw [upd_ne hne]; exact hD8), (hw8.keep k8).keep (keepTup hx8 (by simp)), hS⟩, m1, m2, lim⟩
      by_cases hc : c = d
      · subst hc
        rw [hd] at e
        cases e
        exact kz _ _ n upd_same
      · exact kz _ _ n (kk _ _ hc (z7 _ _ n e))
end
end Lk

set_option maxHeartbeats 4000000
namespace Lk
open PySem PySem.Spec PyProof.Rows L2
abbrev swW (W : Ws) : Ws := fun a b => ((W b a).2, (W b a).1)
section
variable {P : Program} {w : World} {K : PySem.W.Frag} {mg : Str → Option Value} {base : Heap} {cP cG cT : Addr} {f : Addr} {fd : FuncData} (T : Txt K w mg cP cG cT)
include T
theorem ok_turned {K_Table : Mak P w K mg base cT "Table" 4 ["self", "mine", "yours", "worths"] (spTable P w cT)} (F : FnP K "turned" "Table.turned" s_Table_turned f fd) : FnOk P w K mg base CX0 6 f fd ["self"] (spTurned P w cT) := by
  refine okN F sc_Table_turned (fun vs H Q E h => ?_) (fun cdv A outer s H vs Q E hr h => ?_)
  · obtain ⟨t, mine, yours, W, rfl, _⟩ := h
    rfl
  · obtain ⟨t, mine, yours, W, rfl, ht, q⟩ := h
    obtain ⟨dx, a, b, d, es, S, h1, h2, h3, h4, h5, h6⟩ := ht.ex
    have m1 := ht.m1
    have m2 := ht.m2
    have hSl := perm_len h6 m1 m2
    have hSn := perm_nd h6 (prod_nd m1.nd m2.nd)
    have hS2 := prod_swap h6 m1 m2
    have hSn2 := perm_nd hS2 (prod_nd m2.nd m1.nd)
    refine ⟨_, (pss_cons (ps_lock (ps_setDcN (i := 1) (own := [("both", 2), ("a", 3), ("b", 4)]) (hu16 hr) rfl sc_Table_turned.nd rfl rfl (swD_true rfl rfl rfl (by decide +kernel)) (pi_itemsN (fldK K (pv 0) rfl)) (blkOk_by (own := [("both", 2), ("a", 3), ("b", 4)]) (N := ["self", "other_way", "both", "a", "b"]) (sc := defScope s_Table_turned) (by decide +kernel)) (fun _ _ _ _ _ => pgT K 2 rfl (pgs_cons (pgT K 2 rfl (pgs_cons (pg_name (i := 3) sc_Table_turned.nd rfl (Or.inl rfl)) (pgs_cons (pg_name (i := 4) sc_Table_turned.nd rfl (Or.inl rfl)) pgs_nil))) (pgs_cons (pg_name (i := 2) sc_Table_turned.nd rfl (Or.inl rfl)) pgs_nil))) (fun _ _ _ _ _ => pts_nil) (fun _ _ _ _ _ => (pe_tup (pa_cons (pv 4) (pa_cons (pv 3) pa_nil)))) (fun _ _ _ _ _ => (rev2K K (pv 2)))))
      (pss_one (ps_ret (pe_mak K_Table hr (pa_cons (fldK K (pv 0) rfl) (pa_cons (fldK K (pv 0) rfl) (pa_cons (pv 1) pa_nil))))))), ?_⟩
    have nDN : ∀ xs, DN P w d es ≠ .tup xs := fun xs e => by unfold DN at e; cases e
    refine ⟨d, _, h4, trivial, fun od => ?_⟩
    have hdF : (upd H d (.frz od (DN P w d es))) d = some (.frz od (DN P w d es)) := upd_same
    have hwF : WoAt (upd H d (.frz od (DN P w d es))) es S W := h5.keep (keepTup h4 nDN)
    have kF : ∀ c o, c ≠ d → H c = some o → (upd H d (.frz od (DN P w d es))) c = some o := fun c o n e => by rw [upd_ne n]; exact e
    have hel := paired_len hwF
    have hdt : d ≠ t := by
      rintro rfl
      rw [h1] at h4
      unfold DN at h4
      cases h4
    generalize hHF : upd H d (.frz od (DN P w d es)) = HF at hdF hwF kF
    refine ⟨_, rfl, t, _, _, _, _, rfl, kF _ _ hdt.symm h1, T.clT, T.naT _ (by simp), rfl, d, od, es, rfl, hdF, fun D hD => ?_⟩
    refine it_byD walk_itemsN (DN P w D []) (.inr rfl) (fun i H' => Same HF H' ∧ ∃ es', H' D = some (DN P w D es') ∧ WoAt H' es' ((S.map fun x => (x.2, x.1)).take i) (swW W)) ⟨same_new hD, [], upd_same, .nil⟩ (fun i H' hi h => h.1 _ _ hdF) (fun i v HA HB hi h y => ?_) (fun H8 h => ?_)
    · obtain ⟨s8, es', hD8, hw8⟩ := h
      obtain ⟨t1, u1, v1, rfl, nt, rfl, e1, e3⟩ := y
      simp only [Option.map_eq_some_iff] at e1 e3
      obtain ⟨e, he, rfl⟩ := e1
      obtain ⟨e', he', rfl⟩ := e3
      rw [he] at he'
      cases he'
      obtain ⟨pr, hpr⟩ : ∃ pr, S[i]? = some pr := ⟨_, List.getElem?_eq_getElem (by omega)⟩
      obtain ⟨e', he', k1, k2, b', k3, k4⟩ := paired_get hwF hpr
      rw [he] at he'
      cases he'
      have hpr2 : (S.map fun x => (x.2, x.1))[i]? = some (pr.2, pr.1) := by rw [List.getElem?_map, hpr]; rfl
      have sN := same_new (o := .tup [.ref e.2.1, e.2.2]) nt
      have htt : (upd HA t1 (.tup [.ref e.2.1, e.2.2])) t1 = some (.tup [.ref e.2.1, e.2.2]) := upd_same
      have s9 := s8.trans sN
      have hD9 := sN _ _ hD8
      have hw9 := hw8.mono sN
      generalize upd HA t1 (.tup [.ref e.2.1, e.2.2]) = H9 at sN htt s9 hD9 hw9
      refine ⟨t1, _, rfl, .inl (.inl htt), rfl, _, _, rfl, ?_⟩
      refine ⟨e.2.1, _, rfl, .inl (.inl (s9 _ _ k2)), rfl, _, _, rfl, _, _, rfl, rfl, _, _, rfl, rfl, rfl, yesT ?_⟩
      refine ⟨_, rfl, _, rfl, (by show 2 ≤ sizeLine; decide), fun kk nk => ?_⟩
      have sK := same_new (o := .tup [.str pr.2, .str pr.1]) nk
      have hkk : (upd H9 kk (.tup [.str pr.2, .str pr.1])) kk = some (.tup [.str pr.2, .str pr.1]) := upd_same
      have s10 := s9.trans sK
      have hD10 := sK _ _ hD9
      have hw10 := hw9.mono sK
      generalize upd H9 kk (.tup [.str pr.2, .str pr.1]) = H10 at sK hkk s10 hD10 hw10
      refine ⟨e.2.2, rfl, ?_⟩
      rw [k3]
      refine ⟨b', _, _, rfl, .inl (.inl (s10 _ _ k4)), fun p' np => ?_⟩
      have sP := same_new (o := .tup [.int (W pr.1 pr.2).2, .int (W pr.1 pr.2).1]) np
      have hp' : (upd H10 p' (.tup [.int (W pr.1 pr.2).2, .int (W pr.1 pr.2).1])) p' = some (.tup (wV (swW W pr.2 pr.1))) := upd_same
      have s11 := s10.trans sP
      have hD11 := sP _ _ hD10
      have hw11 := hw10.mono sP
      have hk11 := sP _ _ hkk
      generalize upd H10 p' (.tup [.int (W pr.1 pr.2).2, .int (W pr.1 pr.2).1]) = H11 at sP hp' s11 hD11 hw11 hk11
      have hel2 := paired_len hw11
      refine .inr ⟨kk, es', pkey pr.2 pr.1, rfl, hD11, hw11.met.keys, pk_at hk11, ?_, ?_⟩
      · rw [hel2, List.length_take, List.length_map]
        omega
      have ntD : ∀ zs, DN P w D es' ≠ .tup zs := fun zs e => by unfold DN at e; cases e
      refine ⟨same_mut s11 hD, _, upd_same, ?_⟩
      have hput := (hw11.put (take_fresh hSn2 hpr2) hk11 hp').keep (keepTup (u := DN P w D (dnPut es' (pkey pr.2 pr.1) kk (.ref p'))) hD11 ntD)
      rw [List.take_add_one, hpr2]
      exact hput
    · obtain ⟨s8, es', hD8, hw8⟩ := h
      rw [List.take_of_length_le (by rw [List.length_map]; omega)] at hw8
      refine ⟨s8 _ _ hdF, ?_⟩
      have hne : D ≠ d := (ne_of_none hdF hD).symm
      have ntF : ∀ xs, HO.frz od (DN P w d es) ≠ .tup xs := fun xs z => by cases z
      have k8 := keepTup (u := DN P w d es) (s8 _ _ hdF) ntF
      have sF : Same H (upd H8 d (DN P w d es)) := fun c o e => by
        by_cases hc : c = d
        · subst hc
          rw [h4] at e
          cases e
          exact upd_same
        · rw [upd_ne hc]
          exact s8 _ _ (kF _ _ hc e)
      have hDF : (upd H8 d (DN P w d es)) D = some (DN P w D es') := by rw [upd_ne hne]; exact hD8
      have hwD := hw8.keep k8
      generalize upd H8 d (DN P w d es) = HZ at sF hDF hwD
      refine ⟨_, rfl, t, _, _, _, _, rfl, sF _ _ h1, T.clT, T.naT _ (by simp), rfl, _, rfl, t, _, _, _, _, rfl, sF _ _ h1, T.clT, T.naT _ (by simp), rfl, _, rfl, fun x dz nx ndx nex => ?_⟩
      have s2 : Same HZ (upd (upd HZ dz (.own x)) x (.ins cT dz [])) := (same_new ndx).trans (same_new (by rw [upd_ne nex.symm]; exact nx))
      refine ⟨x, dz, b, a, D, yours, mine, es', S.map fun x => (x.2, x.1), swW W, rfl, upd_same, .inr (s2 _ _ (sF _ _ h3)), .inr (s2 _ _ (sF _ _ h2)), m2, m1, s2 _ _ hDF, hwD.mono s2, hS2, fun y hy z hz => ?_, fun H9 z9 ht9 => ⟨rfl, q x H9 (fun c o e => ?_) ht9⟩⟩
      · have := ht.lim z hz y hy
        exact ⟨this.2, this.1⟩
      · exact z9 c o (ne_of_none (sF _ _ e) nx) (s2 _ _ (sF _ _ e))
end
end Lk

set_option maxHeartbeats 4000000
namespace Lk
open PySem PySem.Spec PyProof.Rows L2
def mxL : List Int → Int
  | [] => 0
  | x :: r => r.foldl max x
theorem mxL_mem : ∀ {l : List Int}, l ≠ [] → mxL l ∈ l ∧ ∀ y ∈ l, y ≤ mxL l
  | [], h => absurd rfl h
  | x :: r, _ => by
    have key : ∀ (r : List Int) (a : Int), (r.foldl max a ∈ a :: r) ∧ (∀ y ∈ a :: r, y ≤ r.foldl max a) := by
      intro r
      induction r with
      | nil => intro a; simp
      | cons y q ih =>
        intro a
        obtain ⟨h1, h2⟩ := ih (max a y)
        rw [List.foldl_cons]
        refine ⟨?_, fun z hz => ?_⟩
        · rcases List.mem_cons.mp h1 with e | e
          · rw [e]
            rcases Int.le_total a y with h | h
            · rw [Int.max_eq_right h]; simp
            · rw [Int.max_eq_left h]; simp
          · simp [e]
        · have hm := h2 (max a y) (by simp)
          rcases List.mem_cons.mp hz with e | e
          · rw [e]; omega
          · rcases List.mem_cons.mp e with e | e
            · rw [e]; omega
            · exact h2 z (by simp [e])
    exact key r x
theorem mxL_eq {l : List Int} {m : Int} (h : m ∈ l) (h2 : ∀ y ∈ l, y ≤ m) : m = mxL l := by
  have hne : l ≠ [] := fun e => by rw [e] at h; cases h
  obtain ⟨k1, k2⟩ := mxL_mem hne
  have := h2 _ k1
  have := k2 _ h
  omega
def mxW (W : Ws) (ys : List Str) (a : Str) : Int := mxL (ys.map fun b => (W a b).2)
theorem mxW_mem {W : Ws} {ys : List Str} {a : Str} (h : ys ≠ []) : (∃ b ∈ ys, (W a b).2 = mxW W ys a) ∧ ∀ b ∈ ys, (W a b).2 ≤ mxW W ys a := by
  have hne : (ys.map fun b => (W a b).2) ≠ [] := fun e => h (List.map_eq_nil_iff.mp e)
  obtain ⟨k1, k2⟩ := mxL_mem hne
  obtain ⟨b, hb, e⟩ := List.mem_map.mp k1
  exact ⟨⟨b, hb, e⟩, fun b hb => k2 _ (List.mem_map_of_mem (f := fun b => (W a b).2) hb)⟩
theorem Mv.ne {ms : List Str} (h : Mv ms) : ms ≠ [] := fun e => by
  have := h.pos
  rw [e] at this
  cases this
theorem first_ix {α : Type} [DecidableEq α] {y : α} : ∀ {l : List α}, y ∈ l → ∃ j : Nat, l[j]? = some y ∧ ∀ (m : Nat) z, m < j → l[m]? = some z → z ≠ y
  | x :: r, h => by
    by_cases e : x = y
    · exact ⟨0, by rw [e]; rfl, fun m z hm => by omega⟩
    · rcases List.mem_cons.mp h with h | h
      · exact absurd h.symm e
      · obtain ⟨j, h1, h2⟩ := first_ix h
        refine ⟨j + 1, h1, fun m z hm hz => ?_⟩
        cases m with
        | zero => cases hz; exact e
        | succ m => exact h2 m z (by omega) hz
theorem pick_mem {ms : List Str} {ps : List Nat} {h : Nat → Bool} (hm : ms ≠ []) : pickMv ms ps h ∈ ms := by
  unfold pickMv
  cases e : (ms.zip ps).find? fun x => h x.2 with
  | none =>
    show ms.getLastD "" ∈ ms
    rw [List.getLastD_eq_getLast?, List.getLast?_eq_getLast hm]
    exact List.getLast_mem hm
  | some x => exact (List.of_mem_zip (List.mem_of_find?_eq_some e)).1
theorem mvs_mem {L : Pl} (ok : L.Ok) (s : Sd) : L.mvs s ∈ L.moves := pick_mem ok.mv.ne
theorem endM_mem {L : Pl} (ok : L.Ok) (s : Sd) (y : Str) : L.endM s y ∈ L.moves := mvs_mem ok _
theorem end_any {L : Pl} (ok : L.Ok) {ls : List Str} {y : Str} (hy : y ∈ ls) : (L.endM L.init y, y) ∈ endPrs L ls := mem_endPrs.mpr ⟨endM_mem ok _ _, hy, [], ⟨(fun z hz => (nomatch hz)), rfl⟩⟩
theorem scal_strs {ms : List Str} (h : ∀ m ∈ ms, isMv m) : (ms.map V.str).all scalV = true := by
  rw [List.all_eq_true]
  intro x hx
  obtain ⟨y, hy, rfl⟩ := List.mem_map.mp hx
  exact (h y hy).strOk
theorem eqv_strs : ∀ ms : List Str, PyData.eqvAll ((ms.map V.str).map vD) ((ms.map V.str).map vD) = true
  | [] => by simp [PyData.eqvAll]
  | m :: r => by simp [PyData.eqvAll, PyData.eqv, vD, eqv_strs r] <;> simpa using eqv_strs r
def spFloor (P : Program) (w : World) (cT : Addr) : Sp := fun vs H Q _ => ∃ (t : Addr) (mine yours : List Str) (W : Ws), vs = [.ref t] ∧ TbAt P w cT H t mine yours W ∧ ∀ q H' m, Same H H' → m ∈ mine → (∀ a ∈ mine, mxW W yours m ≤ mxW W yours a) → H' q = some (.tup [.int (mxW W yours m), .str m]) → Q (.ref q) H'
def spBest (P : Program) (w : World) (cT cP : Addr) : Sp := fun vs H Q _ => ∃ (t p : Addr) (yours : List Str) (W : Ws) (L : Pl), vs = [.ref t, .ref p] ∧ TbAt P w cT H t L.moves yours W ∧ PlAt cP H p L ∧ L.Ok ∧ L.Small ∧
  ∀ q H' v x y, Same H H' → (∃ z ∈ endPrs L yours, (W z.1 z.2).2 = v) → (∀ z ∈ endPrs L yours, (W z.1 z.2).2 ≤ v) → H' q = some (.tup [.int v, x, y]) → Q (.ref q) H'
section
variable {P : Program} {w : World} {K : PySem.W.Frag} {mg : Str → Option Value} {base : Heap} {cP cG cT : Addr} {f : Addr} {fd : FuncData} (T : Txt K w mg cP cG cT)
include T
theorem ok_floor {M_mine : Mth P w K mg base cT "mine" 1 ["self"] (spMine P w cT)} {M_yours : Mth P w K mg base cT "yours" 1 ["self"] (spYours P w cT)} {M_worth : Mth P w K mg base cT "worth" 2 ["self", "a", "b"] (spWorth P w cT)} (F : FnP K "floor" "floor" s_floor f fd) :
    FnOk P w K mg base CX0 3 f fd ["table"] (spFloor P w cT) := by
  refine okN F sc_floor (fun vs H Q E h => ?_) (fun cdv A outer s H vs Q E hr h => ?_)
  · obtain ⟨t, mine, yours, W, rfl, _⟩ := h
    rfl
  · obtain ⟨t, mine, yours, W, rfl, ht, q⟩ := h
    obtain ⟨dx, a, b, d, es, S, h1, _⟩ := ht.ex
    have m1 := ht.m1
    have m2 := ht.m2
    have hf1 := m1.few
    have hf2 := m2.few
    refine ⟨_, (pss_cons (ps_setLc (i := 1) (own := [("a", 3)]) rfl sc_floor.nd rfl rfl (sw_true rfl rfl rfl (by decide +kernel)) (pi_sq (pe_mth0 T.clT M_mine hr (pv 0))) (blkOk_by (own := [("a", 3)]) (N := ["table", "most", "least", "a", "b"]) (sc := defScope s_floor) (by decide +kernel)) (fun _ _ _ _ _ => pg_name (i := 3) sc_floor.nd rfl (Or.inr rfl)) (fun _ _ _ _ _ => pts_nil) (fun _ _ _ _ _ => (pe_callB (maxS K rfl) (by rfl) T.max_ b_max (pa_cons (pe_lc (own := [("b", 4)]) rfl sc_floor.nd (pi_sq (pe_mth0 T.clT M_yours hr (pv 0))) (blkOk_by (own := [("b", 4)]) (N := ["table", "most", "least", "a", "b"]) (sc := relS (bodyLc (defBody s_floor)) (defScope s_floor)) (by decide +kernel)) (fun _ _ _ _ _ => pg_name (i := 4) sc_floor.nd rfl (Or.inl rfl)) (fun _ _ _ _ _ => pts_nil) (fun _ _ _ _ _ => (pe_ix (ixT K) (pe_mth T.clT M_worth hr (pv 0) (pa_cons (pv 3) (pa_cons (pv 4) pa_nil))) pe_int (fun _ _ => rfl)))) pa_nil))))
      (pss_cons (ps_set (i := 2) sc_floor.nd rfl (Or.inl rfl) (pe_callB (minS K rfl) (by rfl) T.min_ b_min (pa_cons (pv 1) pa_nil)))
      (pss_one (ps_ret (pe_tup (pa_cons (pv 2) (pa_cons (pe_ix (ixT K) (pe_mth0 T.clT M_mine hr (pv 0)) (pe_bm PySem.F.plainAttrs_list PySem.F.slot_list_index PySem.F.type_list_index mt_index (pv 1) (pa_cons (pv 2) pa_nil)) (fun _ _ => rfl)) pa_nil))))))), ?_⟩
    refine ⟨_, rfl, t, _, _, rfl, h1, rfl, t, mine, yours, W, rfl, ht, fun a1 ha1 => ?_⟩
    refine ⟨a1, _, rfl, .inr ha1, fun J hJ D hD => ?_⟩
    refine lcW_fm hJ (fun i => (mine[i]?).map fun a => .int (mxW W yours a)) hD (by rw [List.length_map]; omega) (fun H2 s2 => same_of s2 (.inr ha1)) (fun i x H9 H2 hi s2 yy K1 K0 k1 k0 => ?_) (fun H2 s2 e => ?_)
    · obtain ⟨rfl, hx⟩ := yy
      rw [List.getElem?_map] at hx
      obtain ⟨m, hm, rfl⟩ := Option.map_eq_some_iff.mp hx
      refine ⟨rfl, yesT ?_⟩
      have ht2 := ht.mono s2
      refine ⟨_, rfl, t, _, _, rfl, s2 _ _ h1, rfl, t, mine, yours, W, rfl, ht2, fun b1 hb1 => ?_⟩
      refine ⟨b1, _, rfl, .inr hb1, fun J2 hJ2 D2 hD2 => ?_⟩
      refine lcW_fm hJ2 (fun i => (yours[i]?).map fun b => .int (W m b).2) hD2 (by rw [List.length_map]; omega) (fun H3 s3 => same_of s3 (.inr hb1)) (fun i x HA H3 hi s3 yy K1' K0' k1' k0' => ?_) (fun H3 s3 e => ?_)
      · obtain ⟨rfl, hx⟩ := yy
        rw [List.getElem?_map] at hx
        obtain ⟨y, hy, rfl⟩ := Option.map_eq_some_iff.mp hx
        refine ⟨rfl, yesT ?_⟩
        refine ⟨_, rfl, t, _, _, rfl, (s2.trans s3) _ _ h1, rfl, _, rfl, _, rfl, t, m, y, mine, yours, W, rfl, ht2.mono s3, List.mem_of_getElem? hm, List.mem_of_getElem? hy, fun z H4 s4 hz => ?_⟩
        refine ⟨z, _, _, .int (W m y).2, rfl, rfl, .inl (.inl hz), atI_nat (j := 1) rfl, ?_⟩
        exact k1' _ _ (by rw [hy]; rfl) s4
      · rw [List.length_map, range_mapA] at e
        have e2 : (yours.map fun b => V.int (W m b).2) = (yours.map fun b => (W m b).2).map V.int := by rw [List.map_map]; rfl
        rw [e2] at e
        refine ⟨D2, _, rfl, .inl (.inl e), by rw [List.length_map]; have := m2.pos; omega, fun v hv1 hv2 => ?_⟩
        rw [mxL_eq hv1 hv2]
        exact k1 _ _ (by rw [hm]; rfl) s3
    · rw [List.length_map, range_mapA] at e
      have e2 : (mine.map fun a => V.int (mxW W yours a)) = (mine.map (mxW W yours)).map V.int := by rw [List.map_map]; rfl
      rw [e2] at e
      refine ⟨_, rfl, D, _, rfl, .inl (.inl e), by rw [List.length_map]; have := m1.pos; omega, fun v hv1 hv2 => ?_⟩
      obtain ⟨j, hj, hj2⟩ := first_ix hv1
      rw [List.getElem?_map] at hj
      obtain ⟨m, hm, hmv⟩ := Option.map_eq_some_iff.mp hj
      refine ⟨_, rfl, _, rfl, t, _, _, rfl, s2 _ _ h1, rfl, t, mine, yours, W, rfl, ht.mono s2, fun a3 ha3 => ?_⟩
      refine ⟨_, rfl, .inl ⟨rfl, _, .inl (.inl e)⟩, _, rfl, D, _, .int v, j, .int v, rfl, rfl, .inl (.inl e), rfl, ?_, ?_, ?_, ?_, ?_⟩
      · rw [List.all_eq_true]
        intro x hx
        obtain ⟨y, _, rfl⟩ := List.mem_map.mp hx
        rfl
      · rw [List.getElem?_map, List.getElem?_map, hm, ← hmv]
        rfl
      · show (v == v) = true
        simp
      · intro k z' hk hz'
        rw [List.getElem?_map] at hz'
        obtain ⟨z, hz, rfl⟩ := Option.map_eq_some_iff.mp hz'
        have := hj2 k z hk hz
        show (z == v) = false
        simpa using this
      · refine ⟨a3, _, _, .str m, rfl, rfl, .inl (.inl ha3), atI_nat (by rw [List.getElem?_map, hm]; rfl), (by show 2 ≤ sizeLine; decide), fun r nr => ?_⟩
        refine q r _ m (s2.trans (same_new nr)) (List.mem_of_getElem? hm) (fun a ha => ?_) ?_
        · rw [hmv]
          exact hv2 _ (List.mem_map_of_mem ha)
        · rw [upd_same, hmv]
theorem ok_best {M_moves : Mth P w K mg base cP "moves" 1 ["self"] (spMoves cP)} {M_mine : Mth P w K mg base cT "mine" 1 ["self"] (spMine P w cT)} {M_yours : Mth P w K mg base cT "yours" 1 ["self"] (spYours P w cT)} {M_worth : Mth P w K mg base cT "worth" 2 ["self", "a", "b"] (spWorth P w cT)}
    {C_endings : Cal P w K mg base "endings" 8 ["player", "others"] (spEndings cP)} {C_brought : Cal P w K mg base "brought" 8 ["player", "others", "mine", "yours"] (spBrought cP)} (F : FnP K "best" "best" s_best f fd) :
    FnOk P w K mg base CX0 9 f fd ["table", "player"] (spBest P w cT cP) := by
  refine okN F sc_best (fun vs H Q E h => ?_) (fun cdv A outer s H vs Q E hr h => ?_)
  · obtain ⟨t, p, yours, W, L, rfl, _⟩ := h
    rfl
  · obtain ⟨t, p, yours, W, L, rfl, ht, hp, ok, sm, q⟩ := h
    obtain ⟨dx, a, b, d, es, S, h1, _⟩ := ht.ex
    obtain ⟨dy, pa, pb, pc, pd, pxs, g1, _⟩ := hp.ex
    have m1 := ht.m1
    have m2 := ht.m2
    have hf1 := m1.few
    have hf2 := m2.few
    refine ⟨_, (pss_cons (ps_if (PW.pt (pw_or (pt_not (pt_val (pe_callB call_isi (by rfl) T.isinstance_ b_isinstance (pa_cons (pv 1) (pa_cons (gl_Player T) pa_nil))))) (pw_or1 (pt_cmpR (op_neD hr.units) (pe_mth0 T.clP M_moves hr (pv 1)) (pe_mth0 T.clT M_mine hr (pv 0)) (nomark _))))) (pss_one ps_never) pss_nil)
      (pss_cons (ps_set (i := 2) sc_best.nd rfl (Or.inl rfl) (pe_cal C_endings hr (pa_cons (pv 1) (pa_cons (pe_mth0 T.clT M_yours hr (pv 0)) pa_nil))))
      (pss_cons (ps_set (i := 3) sc_best.nd rfl (Or.inr rfl) (pe_callB (maxS K rfl) (by rfl) T.max_ b_max (pa_cons (pe_lc (own := [("a", 8), ("b", 9)]) rfl sc_best.nd (pi_sq (pv 2)) (blkOk_by (own := [("a", 8), ("b", 9)]) (N := ["table", "player", "pairs", "most", "mine", "yours", "word", "letters", "a", "b", "pair"]) (sc := defScope s_best) (by decide +kernel)) (fun _ _ _ _ _ => pgT K 2 rfl (pgs_cons (pg_name (i := 8) sc_best.nd rfl (Or.inl rfl)) (pgs_cons (pg_name (i := 9) sc_best.nd rfl (Or.inl rfl)) pgs_nil))) (fun _ _ _ _ _ => pts_nil) (fun _ _ _ _ _ => (pe_ix (ixT K) (pe_mth T.clT M_worth hr (pv 0) (pa_cons (pv 8) (pa_cons (pv 9) pa_nil))) pe_int (fun _ _ => rfl)))) pa_nil)))
      (pss_cons (ps_asg (pe_ix (ixL K) (pe_lc (own := [("pair", 10)]) rfl sc_best.nd (pi_sq (pv 2)) (blkOk_by (own := [("pair", 10)]) (N := ["table", "player", "pairs", "most", "mine", "yours", "word", "letters", "a", "b", "pair"]) (sc := defScope s_best) (by decide +kernel)) (fun _ _ _ _ _ => pg_name (i := 10) sc_best.nd rfl (Or.inl rfl)) (fun _ _ _ _ _ => pts_one (pt_cmpR op_eq (pe_ix (ixT K) (pe_mth T.clT M_worth hr (pv 0) (pa_cons (pe_ix (ixT K) (pv 10) pe_int (fun _ _ => rfl)) (pa_cons (pe_ix (ixT K) (pv 10) pe_int (fun _ _ => rfl)) pa_nil))) pe_int (fun _ _ => rfl)) (pv 3) (nomark _))) (fun _ _ _ _ _ => (pv 10))) pe_int (fun _ _ => rfl)) (pgT K 2 rfl (pgs_cons (pg_name (i := 4) sc_best.nd rfl (Or.inl rfl)) (pgs_cons (pg_name (i := 5) sc_best.nd rfl (Or.inl rfl)) pgs_nil))))
      (pss_cons (ps_asg (pe_cal C_brought hr (pa_cons (pv 1) (pa_cons (pe_mth0 T.clT M_yours hr (pv 0)) (pa_cons (pv 4) (pa_cons (pv 5) pa_nil))))) (pgT K 2 rfl (pgs_cons (pg_name (i := 6) sc_best.nd rfl (Or.inl rfl)) (pgs_cons (pg_name (i := 7) sc_best.nd rfl (Or.inl rfl)) pgs_nil))))
      (pss_one (ps_ret (pe_tup (pa_cons (pv 3) (pa_cons (pe_tup (pa_cons (pv 4) (pa_cons (pv 5) pa_nil))) (pa_cons (pv 7) pa_nil))))))))))), ?_⟩
    refine ⟨_, rfl, _, _, _, _, true, rfl, .own _, .base (.ins g1 T.clP T.isP.1 T.isP.2.1 T.isP.2.2.1 T.isP.2.2.2.1), T.isP.2.2.2.2, true, rfl, ?_⟩
    refine iteF ?_
    refine ⟨_, rfl, p, _, _, rfl, g1, rfl, p, L, rfl, hp, fun x1 hx1 => ?_⟩
    refine ⟨_, rfl, t, _, _, rfl, h1, rfl, t, L.moves, yours, W, rfl, ht, fun x2 hx2 => ?_⟩
    have sc := scal_strs m1.mv
    refine ⟨_, _, .tup (.inl (.inl hx1)) (dp_all _ sc), .tup (.inl (.inl hx2)) (dp_all _ sc), shp_tup sc, shp_tup sc, false, ?_, ?_⟩
    · simp only [PyData.eqv, eqv_strs]
      rfl
    refine iteF ?_
    refine ⟨_, rfl, _, rfl, t, _, _, rfl, h1, rfl, t, L.moves, yours, W, rfl, ht, fun y1 hy1 => ?_⟩
    refine ⟨p, y1, L, yours, rfl, hp, ok, sm, .inr hy1, m2, fun l H1 xs s1 nl hl hps => ?_⟩
    have hxl : xs.length ≤ 16 := by
      have e1 := paired_len hps
      have : (endPrs L yours).length ≤ 16 := by
        unfold endPrs
        have key : ∀ ms : List Str, (ms.flatMap fun m => pfM L yours m yours).length ≤ ms.length * 4 := by
          intro ms
          induction ms with
          | nil => simp
          | cons m r ih =>
            rw [List.flatMap_cons, List.length_append, List.length_cons, Nat.add_mul]
            have : (pfM L yours m yours).length ≤ 4 := by
              unfold pfM
              rw [List.length_map]
              exact Nat.le_trans (List.length_filter_le _ _) hf2
            omega
        exact Nat.le_trans (key _) (by omega)
      omega
    have ht1 := ht.mono s1
    have h11 := s1 _ _ h1
    have hpm : ∀ {z : Str × Str}, z ∈ endPrs L yours → z.1 ∈ L.moves ∧ z.2 ∈ yours ∧ Ends L yours z.1 z.2 := fun {z} hz => mem_endPrs.mp (show (z.1, z.2) ∈ endPrs L yours from hz)
    refine ⟨_, rfl, l, xs, rfl, .inl hl, fun J hJ D hD => ?_⟩
    refine lcW_fm hJ (fun i => ((endPrs L yours)[i]?).map fun z => .int (W z.1 z.2).2) hD (by omega) (fun H2 s2 => same_of s2 (.inl hl)) (fun i x H9 H2 hi s2 yy K1 K0 k1 k0 => ?_) (fun H2 s2 e => ?_)
    · obtain ⟨rfl, hx⟩ := yy
      obtain ⟨z, hz⟩ : ∃ z, (endPrs L yours)[i]? = some z := ⟨_, List.getElem?_eq_getElem (by rw [← paired_len hps]; exact hi)⟩
      obtain ⟨x', hx', c, rfl, hc⟩ := paired_get hps hz
      rw [hx] at hx'
      cases hx'
      have hzm := hpm (List.mem_of_getElem? hz)
      refine ⟨c, _, rfl, .inl (.inl (s2 _ _ hc)), rfl, _, _, rfl, _, _, rfl, rfl, rfl, yesT ?_⟩
      refine ⟨_, rfl, t, _, _, rfl, s2 _ _ h11, rfl, _, rfl, _, rfl, t, z.1, z.2, L.moves, yours, W, rfl, ht1.mono s2, hzm.1, hzm.2.1, fun r H4 s4 hr4 => ?_⟩
      refine ⟨r, _, _, .int (W z.1 z.2).2, rfl, rfl, .inl (.inl hr4), atI_nat (j := 1) rfl, ?_⟩
      exact k1 _ _ (by rw [hz]; rfl) s4
    · rw [paired_len hps, range_mapA] at e
      have e2 : ((endPrs L yours).map fun z => V.int (W z.1 z.2).2) = ((endPrs L yours).map fun z => (W z.1 z.2).2).map V.int := by rw [List.map_map]; rfl
      rw [e2] at e
      have hpos : 0 < (endPrs L yours).length := by
        obtain ⟨y, hy⟩ := List.exists_mem_of_ne_nil _ m2.ne
        exact List.length_pos_of_mem (end_any ok hy)
      refine ⟨D, _, rfl, .inl (.inl e), by rw [List.length_map]; exact hpos, fun v hv1 hv2 => ?_⟩
      obtain ⟨z0, hz0, hzv⟩ := List.mem_map.mp hv1
      have ht2 := ht1.mono s2
      have s2' := s1.trans s2
      have hl2 := s2 _ _ hl
      have hps2 := hps.mono s2
      refine ⟨_, rfl, l, xs, rfl, .inl hl2, fun J2 hJ2 D2 hD2 => ?_⟩
      refine lcW_fm hJ2 (fun i => ((endPrs L yours)[i]?).bind fun z => if (W z.1 z.2).2 = v then xs[i]? else none) hD2 (by omega) (fun H3 s3 => same_of s3 (.inl hl2)) (fun i x H9 H3 hi s3 yy K1 K0 k1 k0 => ?_) (fun H3 s3 e3 => ?_)
      · obtain ⟨rfl, hx⟩ := yy
        obtain ⟨z, hz⟩ : ∃ z, (endPrs L yours)[i]? = some z := ⟨_, List.getElem?_eq_getElem (by rw [← paired_len hps]; exact hi)⟩
        obtain ⟨x', hx', c, rfl, hc⟩ := paired_get hps2 hz
        rw [hx] at hx'
        cases hx'
        have hzm := hpm (List.mem_of_getElem? hz)
        refine ⟨rfl, ?_⟩
        refine ⟨_, rfl, t, _, _, rfl, s3 _ _ (s2 _ _ h11), rfl, _, rfl, c, _, _, .str z.1, rfl, rfl, .inl (.inl (s3 _ _ hc)), atI_nat (j := 0) rfl, _, rfl, c, _, _, .str z.2, rfl, rfl, .inl (.inl (s3 _ _ hc)), atI_nat (j := 1) rfl, ?_⟩
        refine ⟨t, z.1, z.2, L.moves, yours, W, rfl, ht2.mono s3, hzm.1, hzm.2.1, fun r H4 s4 hr4 => ?_⟩
        refine ⟨r, _, _, .int (W z.1 z.2).2, rfl, rfl, .inl (.inl hr4), atI_nat (j := 1) rfl, _, rfl, rfl, _, rfl, ?_⟩
        by_cases hq : (W z.1 z.2).2 = v
        · refine ifT (congrArg V.int hq) ?_
          exact ⟨_, rfl, k1 _ _ (by rw [hz]; show (if _ then _ else _) = _; rw [if_pos hq, hx]) s4⟩
        · refine ifF (fun z => hq (by injection z)) ?_
          exact k0 _ (by rw [hz]; show (if _ then _ else _) = _; rw [if_neg hq]) s4
      · have hfm : ∃ c z, ((List.range xs.length).filterMap (fun i => ((endPrs L yours)[i]?).bind fun z => if (W z.1 z.2).2 = v then xs[i]? else none))[0]? = some (.ref c) ∧ z ∈ endPrs L yours ∧ H2 c = some (.tup [.str z.1, .str z.2]) := by
          obtain ⟨k, hk⟩ := List.mem_iff_getElem?.mp hz0
          have hne : ((List.range xs.length).filterMap (fun i => ((endPrs L yours)[i]?).bind fun z => if (W z.1 z.2).2 = v then xs[i]? else none)) ≠ [] := by
            intro en
            have := List.filterMap_eq_nil_iff.mp en k (by rw [List.mem_range, paired_len hps]; exact (List.getElem?_eq_some_iff.mp hk).1)
            rw [hk] at this
            have this : (if (W z0.1 z0.2).2 = v then xs[k]? else none) = none := this
            rw [if_pos hzv] at this
            obtain ⟨x', hx', _⟩ := paired_get hps2 hk
            rw [this] at hx'
            cases hx'
          obtain ⟨x0, hx0⟩ : ∃ x0, ((List.range xs.length).filterMap (fun i => ((endPrs L yours)[i]?).bind fun z => if (W z.1 z.2).2 = v then xs[i]? else none))[0]? = some x0 := ⟨_, List.getElem?_eq_getElem (List.length_pos_iff.mpr hne)⟩
          obtain ⟨i, _, hi2⟩ := List.mem_filterMap.mp (List.mem_of_getElem? hx0)
          obtain ⟨z, hz, hz2⟩ := Option.bind_eq_some_iff.mp hi2
          obtain ⟨x', hx', c, rfl, hc⟩ := paired_get hps2 hz
          split at hz2
          · rw [hx'] at hz2
            cases hz2
            exact ⟨c, z, hx0, List.mem_of_getElem? hz, hc⟩
          · cases hz2
        obtain ⟨c, z, hc1, hz1, hc2⟩ := hfm
        have s3' := s2'.trans s3
        have hzm := hpm hz1
        refine ⟨D2, _, _, .ref c, rfl, rfl, .inl (.inl e3), atI_nat (j := 0) hc1, ?_⟩
        refine ⟨c, _, rfl, .inl (.inl (s3 _ _ hc2)), rfl, _, _, rfl, _, _, rfl, rfl, ?_⟩
        refine ⟨_, rfl, _, rfl, t, _, _, rfl, s3' _ _ h1, rfl, t, L.moves, yours, W, rfl, ht.mono s3', fun y2 hy2 => ?_⟩
        refine ⟨_, rfl, _, rfl, p, y2, L, yours, z.1, z.2, rfl, hp.mono s3', ok, sm, .inr hy2, m2, hzm.1, hzm.2.1, hzm.2.2, fun r bb H5 u s5 hr5 hb5 _ _ _ => ?_⟩
        refine ⟨r, _, rfl, .inl (.inl hr5), rfl, _, _, rfl, _, _, rfl, rfl, ?_⟩
        refine ⟨_, rfl, _, rfl, _, rfl, (by show 2 ≤ sizeLine; decide), fun t1 n1 => ⟨_, rfl, (by show 3 ≤ sizeLine; decide), fun t2 n2 => ?_⟩⟩
        refine q t2 _ v _ _ (((s3'.trans s5).trans (same_new n1)).trans (same_new n2)) ⟨z0, hz0, hzv⟩ (fun z hz => hv2 _ (List.mem_map_of_mem (f := fun z : Str × Str => (W z.1 z.2).2) hz)) upd_same
end
end Lk

set_option maxHeartbeats 4000000
namespace Lk
open PySem PySem.Spec PyProof.Rows L2
/-! ### the draw -/
/-- the heap without the draw's two lists -/
def cut (d c : Addr) (H : Hp) : Hp := fun a => if a = d ∨ a = c then none else H a
theorem cut_same {d c : Addr} {H : Hp} : Same (cut d c H) H := fun a u e => by
  unfold cut at e
  split at e
  · cases e
  · exact e
theorem cut_mono {d c : Addr} {H H' : Hp} (s : Same H H') : Same (cut d c H) (cut d c H') := fun a u e => by
  unfold cut at e ⊢
  split at e
  · cases e
  · rename_i h
    rw [if_neg h]
    exact s _ _ e
theorem cut_at {d c a : Addr} {H : Hp} {u : HO} (h : H a = some u) (h1 : a ≠ d) (h2 : a ≠ c) : cut d c H a = some u := by
  unfold cut
  rw [if_neg (by simp [h1, h2])]
  exact h
theorem cut_upd {d c p : Addr} {H : Hp} {o : HO} (h : p = d ∨ p = c) : Same (cut d c H) (cut d c (upd H p o)) := fun a u e => by
  unfold cut at e ⊢
  split at e
  · cases e
  · rename_i hn
    rw [if_neg hn, upd_ne (by rintro rfl; exact hn h)]
    exact e
/-- a list of one's own, changed -/
theorem cut_mut {d c p : Addr} {H0 H1 : Hp} {o : HO} (s : Same (cut d c H0) (cut d c H1)) (h : H0 p = none) : Same (cut d c H0) (cut d c (upd H1 p o)) := fun a u e => by
  have hne : a ≠ p := by
    rintro rfl
    have := cut_same _ _ e
    rw [h] at this
    cases this
  have := s _ _ e
  unfold cut at this ⊢
  split at this
  · cases this
  · rename_i hn
    rw [if_neg hn, upd_ne hne]
    exact this
structure Dw (d c : Addr) (H : Hp) : Prop where
  ne : d ≠ c
  ex : ∃ (cells : List Int) (i m : Int), H d = some (.lst [.ref c, .int i, .int m]) ∧ H c = some (.lst (cells.map V.int)) ∧ 0 < cells.length ∧ cells.length ≤ 63 ∧ (∀ x ∈ cells, 0 ≤ x) ∧ 0 ≤ i ∧ 0 ≤ m ∧ m < 2147483647
theorem Dw.mono {d c : Addr} {H H' : Hp} (h : Dw d c H) (s : Same H H') : Dw d c H' := by
  obtain ⟨ne, cells, i, m, h1, h2, h3⟩ := h
  exact ⟨ne, cells, i, m, s _ _ h1, s _ _ h2, h3⟩
theorem Dw.upd {d c p : Addr} {H : Hp} {o : HO} (h : Dw d c H) (h1 : p ≠ d) (h2 : p ≠ c) : Dw d c (upd H p o) := by
  obtain ⟨ne, cells, i, m, g1, g2, g3⟩ := h
  exact ⟨ne, cells, i, m, by rw [upd_ne h1.symm]; exact g1, by rw [upd_ne h2.symm]; exact g2, g3⟩
theorem Dw.nd {d c p : Addr} {H : Hp} (h : Dw d c H) (np : H p = none) : p ≠ d ∧ p ≠ c := by
  obtain ⟨ne, cells, i, m, g1, g2, g3⟩ := h
  exact ⟨(by rintro rfl; rw [np] at g1; cases g1), (by rintro rfl; rw [np] at g2; cases g2)⟩
/-- a new thing stands outside the draw -/
theorem Dw.new {d c p : Addr} {H : Hp} {o : HO} (h : Dw d c H) (np : H p = none) : (cut d c (L2.upd H p o)) p = some o := by
  obtain ⟨h1, h2⟩ := h.nd np
  exact cut_at upd_same h1 h2
theorem cut63 (xs : List V) : cutV xs none (some 63) = xs.take 63 := by
  unfold cutV
  show (xs.drop 0).take (min (63 : Int).toNat xs.length - 0) = xs.take 63
  rw [List.drop_zero, Nat.sub_zero]
  show xs.take (min 63 xs.length) = _
  rcases Nat.le_total 63 xs.length with h | h
  · rw [Nat.min_eq_left h]
  · rw [Nat.min_eq_right h, List.take_length, List.take_of_length_le h]
def spBegin (K : PySem.W.Frag) : Sp := fun vs H Q _ => ∃ (a : Addr) (ns : List Int), vs = [.ref a] ∧ SqL K H a (ns.map V.int) ∧ ns.length ≤ 1000 ∧ ∀ d c H', Same H H' → Dw d c H' → H d = none → H c = none → Q (.ref d) H'
def spTake : Sp := fun vs H Q _ => ∃ (d c : Addr) (z : Int), vs = [.ref d, .int z] ∧ Dw d c H ∧ 0 < z ∧ z < 1073741824 ∧ ∀ (r : Int) H', 0 ≤ r → r < z → Dw d c H' → Same (cut d c H) (cut d c H') → Q (.int r) H'
def spPick : Sp := fun vs H Q _ => ∃ (d c : Addr) (v : V), vs = [.ref d, v] ∧ Dw d c H ∧
  ((∃ l xs, v = .ref l ∧ Lt (cut d c H) l xs ∧ 0 < xs.length ∧ xs.length ≤ 1000 ∧ ∀ x H', x ∈ xs → Dw d c H' → Same (cut d c H) (cut d c H') → Q x H') ∨
   (∃ z : Str, v = .str z ∧ 0 < z.length ∧ z.length ≤ 1000 ∧ ∀ k H', k ∈ z.cps.toList → Dw d c H' → Same (cut d c H) (cut d c H') → Q (.str ⟨#[k]⟩) H'))
section
variable {P : Program} {w : World} {K : PySem.W.Frag} {mg : Str → Option Value} {base : Heap} {cP cG cT : Addr} {f : Addr} {fd : FuncData} (T : Txt K w mg cP cG cT)
include T
theorem ok_law_begin (F : FnP K "_law_begin" "_law_begin" s_law_begin f fd) : FnOk P w K mg base CX0 1 f fd ["script"] (spBegin K) := by
  refine okN F sc_law_begin (fun vs H Q E h => ?_) (fun cdv A outer s H vs Q E hr h => ?_)
  · obtain ⟨a, ns, rfl, _⟩ := h
    rfl
  · obtain ⟨a, ns, rfl, ha, hl, q⟩ := h
    refine ⟨_, (pss_cons (ps_setLc (i := 1) (own := [("cell", 2)]) rfl sc_law_begin.nd rfl rfl (sw_true rfl rfl rfl (by decide +kernel)) (pi_sq (pe_slice (slL K) (pv 0) po_none (po_some pe_int))) (blkOk_by (own := [("cell", 2)]) (N := ["script", "cells", "cell"]) (sc := defScope s_law_begin) (by decide +kernel)) (fun _ _ _ _ _ => pg_name (i := 2) sc_law_begin.nd rfl (Or.inl rfl)) (fun _ _ _ _ _ => pts_nil) (fun _ _ _ _ _ => (pe_callB call_abs (by rfl) T.abs_ b_abs (pa_cons (pv 2) pa_nil))))
      (pss_cons (ps_if (pt_cmpR (op_eqD hr.units) (pv 1) (pe_lst pa_nil) (nomark _)) (pss_one (ps_set (i := 1) sc_law_begin.nd rfl (Or.inl rfl) (pe_lst (pa_cons pe_int pa_nil)))) pss_nil)
      (pss_one (ps_ret (pe_lst (pa_cons (pv 1) (pa_cons pe_int (pa_cons pe_int pa_nil)))))))), ?_⟩
    refine ⟨_, rfl, _, rfl, a, _, rfl, ha, fun s1 ns1 => ?_⟩
    rw [cut63]
    have sA := same_new (o := .lst ((ns.map V.int).take 63)) ns1
    have g1 : (upd H s1 (.lst ((ns.map V.int).take 63))) s1 = some (.lst ((ns.map V.int).take 63)) := upd_same
    generalize upd H s1 (.lst ((ns.map V.int).take 63)) = H1 at sA g1
    refine ⟨s1, _, rfl, .inl g1, fun J hJ D hD => ?_⟩
    refine lcW_fm hJ (fun i => ((ns.take 63)[i]?).map fun n => .int (if n < 0 then -n else n)) hD (by simp; omega) (fun H2 s2 => same_of s2 (.inl g1)) (fun i x H9 H2 hi s2 yy K1 K0 k1 k0 => ?_) (fun H2 s2 e => ?_)
    · obtain ⟨rfl, hx⟩ := yy
      rw [← List.map_take, List.getElem?_map] at hx
      obtain ⟨n, hn, rfl⟩ := Option.map_eq_some_iff.mp hx
      refine ⟨rfl, yesT ?_⟩
      exact ⟨_, rfl, n, rfl, k1 _ _ (by rw [hn]; rfl) (fun _ _ e => e)⟩
    · rw [← List.map_take, List.length_map, range_mapA] at e
      have e2 : ((ns.take 63).map fun n => V.int (if n < 0 then -n else n)) = ((ns.take 63).map fun n => if n < 0 then -n else n).map V.int := by rw [List.map_map]; rfl
      rw [e2] at e
      have sB := sA.trans s2
      have hlen : ((ns.take 63).map fun n => if n < 0 then -n else n).length ≤ 63 := by
        rw [List.length_map, List.length_take]
        omega
      have hpos : ∀ x ∈ ((ns.take 63).map fun n => if n < 0 then -n else n), 0 ≤ x := fun x hx => by
        obtain ⟨n, _, rfl⟩ := List.mem_map.mp hx
        split <;> omega
      generalize ((ns.take 63).map fun n => if n < 0 then -n else n) = cells at e hlen hpos
      refine ⟨_, rfl, (by show 0 ≤ sizeLine; decide), fun l nl => ?_⟩
      have sC := same_new (o := .lst []) nl
      have sc : (cells.map V.int).all scalV = true := by
        rw [List.all_eq_true]
        intro x hx
        obtain ⟨y, _, rfl⟩ := List.mem_map.mp hx
        rfl
      have shl : ∀ xs : List V, xs.all scalV = true → SeqAt.shaped (.list (xs.map vD)) = true := fun xs h => by
        obtain ⟨h1, h2⟩ := shp_all xs h
        simp [SeqAt.shaped, PyData.canLay0, PyData.depth, h1, h2]
      refine ⟨_, .list [], .lst (.inl (.inl (sC _ _ e))) (dp_all _ sc), .lst (.inl (.inl upd_same)) .nil, shl _ sc, shl [] rfl, ?_⟩
      have hn1 : H D = none := none_of sA hD
      cases cells with
      | nil =>
        refine ⟨true, by simp [PyData.eqv, PyData.eqvAll], ?_⟩
        refine iteT ?_
        refine ⟨(by show 1 ≤ sizeLine; decide), fun l2 nl2 => ?_⟩
        have sD := sC.trans (same_new (o := .lst [.int 7]) nl2)
        refine ⟨_, rfl, (by show 3 ≤ sizeLine; decide), fun r nr => ?_⟩
        refine q r l2 _ ((sB.trans sD).trans (same_new nr)) ⟨(ne_of_none upd_same nr).symm, [7], 0, 1, upd_same, same_new nr _ _ upd_same, by decide, by decide, by decide, by decide, by decide, by decide⟩ (none_of (sB.trans sD) nr) (none_of (sB.trans sC) nl2)
      | cons c0 cs =>
        refine ⟨false, by simp [PyData.eqv, PyData.eqvAll], ?_⟩
        refine iteF ?_
        refine ⟨_, rfl, (by show 3 ≤ sizeLine; decide), fun r nr => ?_⟩
        have eD := sC _ _ e
        exact q r D _ ((sB.trans sC).trans (same_new nr)) ⟨(ne_of_none eD nr).symm, c0 :: cs, 0, 1, upd_same, same_new nr _ _ eD, by simp, hlen, hpos, by decide, by decide, by decide⟩ (none_of (sB.trans sC) nr) hn1
theorem ok_law_take (F : FnP K "_law_take" "_law_take" s_law_take f fd) : FnOk P w K mg base CX0 1 f fd ["draw", "size"] spTake := by
  refine okN F sc_law_take (fun vs H Q E h => ?_) (fun cdv A outer s H vs Q E hr h => ?_)
  · obtain ⟨d, c, z, rfl, _⟩ := h
    rfl
  · obtain ⟨d, c, z, rfl, hd, z0, z1, q⟩ := h
    obtain ⟨hne, cells, i, m, h1, h2, l1, l2, hc, hi, hm, hm2⟩ := hd
    refine ⟨_, (pss_cons (ps_set (i := 2) sc_law_take.nd rfl (Or.inl rfl) (pe_ix (ixL K) (pv 0) pe_int (fun _ _ => rfl)))
      (pss_cons (ps_set (i := 3) sc_law_take.nd rfl (Or.inl rfl) (pe_op op_modN (pe_ix (ixL K) (pv 0) pe_int (fun _ _ => rfl)) (pe_callB (lenS K) (by rfl) T.len_ b_len (pa_cons (pv 2) pa_nil))))
      (pss_cons (ps_set (i := 4) sc_law_take.nd rfl (Or.inl rfl) (pe_ix (ixL K) (pv 2) (pv 3) (fun _ _ => rfl)))
      (pss_cons (ps_if (pt_cmpR op_ge (pv 4) (pe_op op_pow pe_int pe_int) (nomark _)) (pss_cons (ps_asg (pe_op op_fdivN (pv 4) (pv 1)) (pg_sub (pv 2) (pv 3) L2.set_list))
      (pss_one (ps_ret (pe_op op_modN (pv 4) (pv 1))))) pss_nil)
      (pss_cons (ps_asg (pe_op op_add (pe_ix (ixL K) (pv 0) pe_int (fun _ _ => rfl)) pe_int) (pg_sub (pv 0) pe_int L2.set_list))
      (pss_cons (ps_asg (pe_op op_modN (pe_op op_add (pe_op op_add (pe_op op_add (pe_op op_mul (pe_ix (ixL K) (pv 0) pe_int (fun _ _ => rfl)) pe_int) (pv 4)) (pe_op op_mul pe_int (pe_ix (ixL K) (pv 0) pe_int (fun _ _ => rfl)))) pe_int) pe_int) (pg_sub (pv 0) pe_int L2.set_list))
      (pss_one (ps_ret (pe_op op_modN (pe_op op_fdivN (pe_op op_modN (pe_op op_mul (pe_ix (ixL K) (pv 0) pe_int (fun _ _ => rfl)) (pe_ix (ixL K) (pv 0) pe_int (fun _ _ => rfl))) pe_int) pe_int) (pv 1)))))))))), ?_⟩
    refine ⟨_, rfl, d, _, _, .ref c, rfl, rfl, .inl (.inl h1), atI_nat (j := 0) rfl, ?_⟩
    refine ⟨_, rfl, d, _, _, .int i, rfl, rfl, .inl (.inl h1), atI_nat (j := 1) rfl, _, rfl, c, _, rfl, .inl (.inl (.inl h2)), _, _, rfl, rfl, by rw [List.length_map]; omega, ?_⟩
    rw [List.length_map]
    have hL : (0 : Int) < ((cells.length : Nat) : Int) := by omega
    have k0 : 0 ≤ i.fmod ((cells.length : Nat) : Int) := Int.fmod_nonneg_of_pos _ hL
    have k1 : i.fmod ((cells.length : Nat) : Int) < ((cells.length : Nat) : Int) := Int.fmod_lt_of_pos _ hL
    obtain ⟨j, hj⟩ : ∃ j : Nat, i.fmod ((cells.length : Nat) : Int) = (j : Int) := ⟨_, (Int.toNat_of_nonneg k0).symm⟩
    rw [hj] at k1
    show gName 3 (V.int (i.fmod ((cells.length : Nat) : Int))) _ H _
    rw [hj]
    have hjl : j < cells.length := by omega
    have hcj : (cells.map V.int)[j]? = some (.int cells[j]) := by rw [List.getElem?_map, List.getElem?_eq_getElem hjl]; rfl
    have hc0 := hc _ (List.getElem_mem hjl)
    refine ⟨_, rfl, _, rfl, c, _, _, .int cells[j], rfl, rfl, .inl (.inl h2), atI_nat hcj, ?_⟩
    refine ⟨_, rfl, _, _, rfl, rfl, ⟨by decide, by decide, by decide⟩, _, _, rfl, rfl, _, rfl, ?_⟩
    have hne' : c ≠ d := hne.symm
    by_cases hb : (10 : Int) ^ (18 : Int).toNat ≤ cells[j]
    · refine ifT hb ?_
      refine ⟨_, rfl, _, rfl, _, _, rfl, rfl, ⟨by omega, by omega⟩, ?_⟩
      refine ⟨_, rfl, _, rfl, c, _, _, j, rfl, rfl, h2, ?_, ?_⟩
      · unfold ixN
        simp
        omega
      refine ⟨_, rfl, _, rfl, _, _, rfl, rfl, by omega, ?_⟩
      have e1 : (cells.map V.int).set j (.int (cells[j].fdiv z)) = (cells.set j (cells[j].fdiv z)).map V.int := by rw [List.map_set]
      rw [e1]
      refine q _ _ (Int.fmod_nonneg_of_pos _ z0) (Int.fmod_lt_of_pos _ z0) ⟨hne, cells.set j (cells[j].fdiv z), i, m, by rw [upd_ne hne]; exact h1, upd_same, by simpa using l1, by simpa using l2, fun x hx => ?_, hi, hm, hm2⟩ (cut_upd (.inr rfl))
      rcases List.mem_or_eq_of_mem_set hx with h | h
      · exact hc x h
      · rw [h]
        exact Int.fdiv_nonneg hc0 (by omega)
    · refine ifF hb ?_
      refine ⟨_, rfl, d, _, _, .int i, rfl, rfl, .inl (.inl h1), atI_nat (j := 1) rfl, _, _, rfl, rfl, ?_⟩
      refine ⟨_, rfl, d, _, _, 1, rfl, rfl, h1, rfl, ?_⟩
      have g1 : (upd H d (.lst (([V.ref c, .int i, .int m]).set 1 (.int (i + 1))))) d = some (.lst [.ref c, .int (i + 1), .int m]) := upd_same
      have g2 : (upd H d (.lst (([V.ref c, .int i, .int m]).set 1 (.int (i + 1))))) c = some (.lst (cells.map V.int)) := by rw [upd_ne hne']; exact h2
      have g3 : Same (cut d c H) (cut d c (upd H d (.lst (([V.ref c, .int i, .int m]).set 1 (.int (i + 1)))))) := cut_upd (.inl rfl)
      generalize upd H d (.lst (([V.ref c, .int i, .int m]).set 1 (.int (i + 1)))) = H1 at g1 g2 g3
      refine ⟨_, rfl, d, _, _, .int m, rfl, rfl, .inl (.inl g1), atI_nat (j := 2) rfl, _, _, rfl, rfl, .inl ⟨by omega, by omega⟩, ?_⟩
      refine ⟨_, rfl, _, _, rfl, rfl, _, rfl, d, _, _, .int (i + 1), rfl, rfl, .inl (.inl g1), atI_nat (j := 1) rfl, _, _, rfl, rfl, .inl ⟨by decide, by decide⟩, _, _, rfl, rfl, _, _, rfl, rfl, _, _, rfl, rfl, (show (2147483647 : Int) ≠ 0 by decide), ?_⟩
      have n0 := Int.fmod_nonneg_of_pos (m * 48271 + cells[j] + 7919 * (i + 1) + 12345) (show (0 : Int) < 2147483647 by decide)
      have n1 := Int.fmod_lt_of_pos (m * 48271 + cells[j] + 7919 * (i + 1) + 12345) (show (0 : Int) < 2147483647 by decide)
      show gSub (tVar 0) (tC (.int 2)) rSetL (V.int ((m * 48271 + cells[j] + 7919 * (i + 1) + 12345).fmod 2147483647)) _ H1 _
      generalize (m * 48271 + cells[j] + 7919 * (i + 1) + 12345).fmod 2147483647 = m' at n0 n1
      refine ⟨_, rfl, d, _, _, 2, rfl, rfl, g1, rfl, ?_⟩
      have k1' : (upd H1 d (.lst (([V.ref c, .int (i + 1), .int m]).set 2 (.int m')))) d = some (.lst [.ref c, .int (i + 1), .int m']) := upd_same
      have k2' : (upd H1 d (.lst (([V.ref c, .int (i + 1), .int m]).set 2 (.int m')))) c = some (.lst (cells.map V.int)) := by rw [upd_ne hne']; exact g2
      have k3' : Same (cut d c H) (cut d c (upd H1 d (.lst (([V.ref c, .int (i + 1), .int m]).set 2 (.int m'))))) := g3.trans (cut_upd (.inl rfl))
      generalize upd H1 d (.lst (([V.ref c, .int (i + 1), .int m]).set 2 (.int m'))) = H2 at k1' k2' k3'
      refine ⟨_, rfl, d, _, _, .int m', rfl, rfl, .inl (.inl k1'), atI_nat (j := 2) rfl, _, rfl, d, _, _, .int m', rfl, rfl, .inl (.inl k1'), atI_nat (j := 2) rfl, _, _, rfl, rfl, .inl ⟨by omega, by omega⟩, _, _, rfl, rfl, (show (2147483629 : Int) ≠ 0 by decide), _, _, rfl, rfl, ⟨by decide, by decide⟩, _, rfl, _, _, rfl, rfl, by omega, ?_⟩
      exact q _ _ (Int.fmod_nonneg_of_pos _ z0) (Int.fmod_lt_of_pos _ z0) ⟨hne, cells, i + 1, m', k1', k2', l1, l2, hc, by omega, n0, n1⟩ k3'
theorem ok_law_pick {C_law_take : Cal P w K mg base "_law_take" 1 ["draw", "size"] spTake} (F : FnP K "_law_pick" "_law_pick" s_law_pick f fd) : FnOk P w K mg base CX0 2 f fd ["draw", "some"] spPick := by
  refine okN F sc_law_pick (fun vs H Q E h => ?_) (fun cdv A outer s H vs Q E hr h => ?_)
  · obtain ⟨d, c, v, rfl, _⟩ := h
    rfl
  · obtain ⟨d, c, v, rfl, hd, hv⟩ := h
    refine ⟨_, (pss_one (ps_ret (pe_ix (ixS K) (pv 1) (pe_cal C_law_take hr (pa_cons (pv 0) (pa_cons (pe_callB call_len (by rfl) T.len_ b_len (pa_cons (pv 1) pa_nil)) pa_nil))) (fun _ _ => rfl)))), ?_⟩
    rcases hv with ⟨l, xs, rfl, hl, h0, h1, q⟩ | ⟨z, rfl, h0, h1, q⟩
    · have hlH : Lt H l xs := hl.mono cut_same
      refine ⟨_, rfl, _, rfl, _, rfl, _, xs.length, rfl, ?_, ?_⟩
      · rcases hlH with h | h
        · exact .inl ⟨xs, .inl (.inl h), rfl⟩
        · exact .inr ⟨xs, .inl (.inl h), rfl⟩
      · refine ⟨d, c, ((xs.length : Nat) : Int), rfl, hd, by omega, by omega, fun r H1 r0 r1 hd1 s1 => ?_⟩
        obtain ⟨j, rfl⟩ : ∃ j : Nat, r = (j : Int) := ⟨_, (Int.toNat_of_nonneg r0).symm⟩
        have hj : j < xs.length := by omega
        have hl1 := (hl.mono s1).mono cut_same
        exact ixS_at hl1 (List.getElem?_eq_getElem hj) (q _ _ (List.getElem_mem hj) hd1 s1)
    · refine ⟨_, rfl, _, rfl, _, rfl, _, z.length, rfl, ?_, ?_⟩
      · exact ⟨sz_le (by omega), rfl⟩
      · refine ⟨d, c, ((z.length : Nat) : Int), rfl, hd, by omega, by omega, fun r H1 r0 r1 hd1 s1 => ?_⟩
        obtain ⟨j, rfl⟩ : ∃ j : Nat, r = (j : Int) := ⟨_, (Int.toNat_of_nonneg r0).symm⟩
        have hj : j < z.cps.toList.length := by
          have : z.cps.toList.length = z.length := by simp [Str.length]
          omega
        exact .inr (.inr ⟨z, _, z.cps.toList[j], rfl, rfl, sz_le (by omega), atI_nat (List.getElem?_eq_getElem hj), q _ _ (List.getElem_mem hj) hd1 s1⟩)
end
end Lk

set_option maxHeartbeats 4000000
namespace Lk
open PySem PySem.Spec PyProof.Rows L2
theorem keepC {d c a : Addr} {H H' : Hp} {u : HO} (s : Same (cut d c H) (cut d c H')) (h : H a = some u) (h1 : a ≠ d) (h2 : a ≠ c) : H' a = some u := cut_same _ _ (s _ _ (cut_at h h1 h2))
theorem sub_len {α : Type} [DecidableEq α] : ∀ {xs ys : List α}, xs.Nodup → (∀ x ∈ xs, x ∈ ys) → xs.length ≤ ys.length
  | [], _, _, _ => Nat.zero_le _
  | x :: r, ys, nd, h => by
    rw [List.nodup_cons] at nd
    have h1 := sub_len (ys := ys.erase x) nd.2 fun z hz => by
      have hne : z ≠ x := fun e => nd.1 (e ▸ hz)
      exact (List.mem_erase_of_ne hne).mpr (h z (List.mem_cons_of_mem _ hz))
    have hx := h x (by simp)
    rw [List.length_erase_of_mem hx] at h1
    have := List.length_pos_of_mem hx
    rw [List.length_cons]
    omega
def sgn (c : Nat) : Str := ⟨#[c]⟩
theorem cps_app (a b : Str) : (a ++ b).cps.toList = a.cps.toList ++ b.cps.toList := by
  show (a.cps ++ b.cps).toList = _
  simp
theorem len_cps (a : Str) : a.cps.toList.length = a.length := by simp [Str.length]
theorem sgn_inj {p : Str} {x y : Nat} (h : p ++ sgn x = p ++ sgn y) : x = y := by
  have := congrArg (fun z : Str => z.cps.toList) h
  simp only [cps_app] at this
  have := List.append_cancel_left this
  simpa [sgn] using this
theorem az_nd : az.cps.toList.Nodup := by decide +kernel
theorem join_cps (ys : List Str) : (Txt.join "" ys).cps.toList = (ys.map fun y => y.cps.toList).flatten := by
  rw [TL.join_eq]
  induction ys with
  | nil => rfl
  | cons x r ih =>
    cases r with
    | nil => simp [Str.join]
    | cons y q =>
      show (x ++ ("" : Str) ++ Str.join "" (y :: q)).cps.toList = _
      rw [cps_app, cps_app, ih]
      have e : ("" : Str).cps.toList = [] := by decide +kernel
      rw [e]
      simp
def wl12 : List Str := ["c", "d", "shown", "does", "not", "choose", "false", "moves", "by", "over", "e", "row"]
theorem wl12_mv : ∀ m ∈ wl12, isMv m := by
  unfold isMv
  decide +kernel
theorem isMv_of {z : Str} (h1 : 1 ≤ z.cps.toList.length) (h2 : z.cps.toList.length ≤ 8) (h3 : ∀ c ∈ z.cps.toList, c ∈ az.cps.toList) : isMv z := by
  rw [len_cps] at h1 h2
  exact ⟨h1, h2, h3⟩
theorem cut_str (z : Str) : (cutS z none (some 7)).cps.toList = z.cps.toList.take 7 := by
  unfold cutS
  show (((z.cps.toList.drop 0).take (min (7 : Int).toNat z.length - 0)).toArray).toList = _
  rw [List.drop_zero, Nat.sub_zero]
  show z.cps.toList.take (min 7 z.length) = _
  rcases Nat.le_total 7 z.length with h | h
  · rw [Nat.min_eq_left h]
  · have e := len_cps z
    rw [Nat.min_eq_right h, List.take_of_length_le (by omega), List.take_of_length_le (by omega)]
theorem word_mv {w : Str} (h : isMv w) {c : Nat} (hc : c ∈ az.cps.toList) : isMv (cutS w none (some 7) ++ sgn c) := by
  refine isMv_of ?_ ?_ fun x hx => ?_
  · rw [cps_app]
    simp [sgn]
  · rw [cps_app, cut_str]
    simp [sgn]
    omega
  · rw [cps_app, cut_str] at hx
    rcases List.mem_append.mp hx with hx | hx
    · exact h.2.2 x (List.mem_of_mem_take hx)
    · have : x = c := by simpa [sgn] using hx
      exact this ▸ hc
/-- some of the 27 words isn't among three -/
theorem fresh_word {w p : Str} {ms : List Str} (h : ms.length ≤ 3) : ∃ z, z ∈ (w :: az.cps.toList.map fun c => p ++ sgn c) ∧ z ∉ ms := by
  by_cases hall : ∀ z ∈ (az.cps.toList.map fun c => p ++ sgn c), z ∈ ms
  · have nd : (az.cps.toList.map fun c => p ++ sgn c).Nodup := by
      rw [List.Nodup, List.pairwise_map]
      exact az_nd.imp fun {a b} h e => h (sgn_inj e)
    have := sub_len nd hall
    rw [List.length_map] at this
    have e : az.cps.toList.length = 26 := by decide +kernel
    omega
  · have : ∃ z, z ∈ (az.cps.toList.map fun c => p ++ sgn c) ∧ z ∉ ms := by
      by_cases hx : ∃ z, z ∈ (az.cps.toList.map fun c => p ++ sgn c) ∧ z ∉ ms
      · exact hx
      · exact absurd (fun z hz => Classical.byContradiction fun hn => hx ⟨z, hz, hn⟩) hall
    obtain ⟨z, h1, h2⟩ := this
    exact ⟨z, List.mem_cons_of_mem _ h1, h2⟩
theorem none_of_cut {d c p : Addr} {H H' : Hp} (s : Same (cut d c H) (cut d c H')) (np : H' p = none) (h1 : p ≠ d) (h2 : p ≠ c) : H p = none := by
  cases e : H p with
  | none => rfl
  | some u => rw [keepC s e h1 h2] at np; cases np
/-- an if without else: what follows, said once -/
theorem if_share {b : Bool} {D : L2.Ends} {t : TS} {σ : L2.St} {H : Hp} (C : L2.St → Hp → Prop) (hC : ∀ σ' H', C σ' H' → D.nx σ' H') (h1 : b = true → (∀ σ' H', C σ' H' → D.nx σ' H') → t D σ H) (h2 : b = false → C σ H) : if b = true then t D σ H else tNext D σ H := by
  cases b with
  | true => exact h1 rfl hC
  | false => exact hC σ H (h2 rfl)
def spWordsL : Sp := fun vs H Q _ => ∃ (d c : Addr) (n : Nat), vs = [.ref d, nV n] ∧ Dw d c H ∧ 1 ≤ n ∧ n ≤ 4 ∧ ∀ l ms H', Mv ms → ms.length = n → Dw d c H' → Same (cut d c H) (cut d c H') → (cut d c H') l = some (.lst (ms.map V.str)) → H l = none → Q (.ref l) H'
section
variable {P : Program} {w : World} {K : PySem.W.Frag} {mg : Str → Option Value} {base : Heap} {cP cG cT : Addr} {f : Addr} {fd : FuncData} (T : Txt K w mg cP cG cT)
include T
theorem ok_law_words {C_law_take : Cal P w K mg base "_law_take" 1 ["draw", "size"] spTake} {C_law_pick : Cal P w K mg base "_law_pick" 2 ["draw", "some"] spPick} (F : FnP K "_law_words" "_law_words" s_law_words f fd) : FnOk P w K mg base CX0 3 f fd ["draw", "many"] spWordsL := by
  refine okN F sc_law_words (fun vs H Q E h => ?_) (fun cdv A outer s H vs Q E hr h => ?_)
  · obtain ⟨d, c, n, rfl, _⟩ := h
    rfl
  · obtain ⟨d, c, n, rfl, hd, n1, n4, q⟩ := h
    refine ⟨_, (pss_cons (ps_asg (pe_tup (pa_cons pe_str (pa_cons (pe_lst pa_nil) pa_nil))) (pgT K 2 rfl (pgs_cons (pg_name (i := 2) sc_law_words.nd rfl (Or.inr rfl)) (pgs_cons (pg_name (i := 3) sc_law_words.nd rfl (Or.inr rfl)) pgs_nil))))
      (pss_cons (ps_for PassesOwn.never rfl (pi_range1 rfl T.range_ (pa_cons (pv 1) pa_nil)) (pg_name (i := 4) sc_law_words.nd rfl (Or.inl rfl)) (pss_cons (ps_set (i := 5) sc_law_words.nd rfl (Or.inr rfl) (pe_cal C_law_pick hr (pa_cons (pv 0) (pa_cons (pe_lst (pa_cons pe_str (pa_cons pe_str (pa_cons pe_str (pa_cons pe_str (pa_cons pe_str (pa_cons pe_str (pa_cons pe_str (pa_cons pe_str (pa_cons pe_str (pa_cons pe_str (pa_cons pe_str (pa_cons pe_str pa_nil))))))))))))) pa_nil))))
      (pss_cons (ps_if (pt_cmpR op_eq (pe_cal C_law_take hr (pa_cons (pv 0) (pa_cons pe_int pa_nil))) pe_int (nomark _)) (pss_one (ps_set (i := 5) sc_law_words.nd rfl (Or.inr rfl) (pe_join pe_str (pe_lc (own := [("j", 8)]) rfl sc_law_words.nd (pi_range1 rfl T.range_ (pa_cons (pe_op op_add pe_int (pe_cal C_law_take hr (pa_cons (pv 0) (pa_cons pe_int pa_nil)))) pa_nil)) (blkOk_by (own := [("j", 8)]) (N := ["draw", "many", "signs", "found", "k", "word", "some", "sign", "j", "one"]) (sc := defScope s_law_words) (by decide +kernel)) (fun _ _ _ _ _ => pg_name (i := 8) sc_law_words.nd rfl (Or.inl rfl)) (fun _ _ _ _ _ => pts_nil) (fun _ _ _ _ _ => (pe_cal C_law_pick hr (pa_cons (pv 0) (pa_cons (pv 2) pa_nil)))))))) pss_nil)
      (pss_cons (ps_set (i := 6) sc_law_words.nd rfl (Or.inl rfl) (pe_op op_cat (pe_lst (pa_cons (pv 5) pa_nil)) (pe_lc (own := [("sign", 7)]) rfl sc_law_words.nd (pi_str (pv 2)) (blkOk_by (own := [("sign", 7)]) (N := ["draw", "many", "signs", "found", "k", "word", "some", "sign", "j", "one"]) (sc := defScope s_law_words) (by decide +kernel)) (fun _ _ _ _ _ => pg_name (i := 7) sc_law_words.nd rfl (Or.inl rfl)) (fun _ _ _ _ _ => pts_nil) (fun _ _ _ _ _ => (pe_op op_add_str (pe_slice sl_str (pv 5) po_none (po_some pe_int)) (pv 7))))))
      (pss_one (ps_expr (pe_bm PySem.F.plainAttrs_list PySem.F.slot_list_append PySem.F.type_list_append mt_append (pv 3) (pa_cons (pe_ix (ixL K) (pe_lc (own := [("one", 9)]) rfl sc_law_words.nd (pi_sq (pv 6)) (blkOk_by (own := [("one", 9)]) (N := ["draw", "many", "signs", "found", "k", "word", "some", "sign", "j", "one"]) (sc := defScope s_law_words) (by decide +kernel)) (fun _ _ _ _ _ => pg_name (i := 9) sc_law_words.nd rfl (Or.inl rfl)) (fun _ _ _ _ _ => pts_one (pt_cmpR (notInS K) (pv 9) (pv 3) rfl)) (fun _ _ _ _ _ => (pv 9))) pe_int (fun _ _ => rfl)) pa_nil))))))))
      (pss_one (ps_ret (pv 3))))), ?_⟩
    refine ⟨(by show 0 ≤ sizeLine; decide), fun F0 nF => ⟨(by show 2 ≤ sizeLine; decide), fun t nt => ?_⟩⟩
    obtain ⟨fd1, fc1⟩ := hd.nd nF
    have hF0 := same_new (o := .tup [.str az, .ref F0]) nt _ _ (upd_same (H := H) (a := F0) (o := .lst []))
    refine ⟨t, _, rfl, .inl (.inl upd_same), rfl, _, _, rfl, _, _, rfl, rfl, ?_⟩
    have sF := (same_new (o := .lst []) nF).trans (same_new (o := .tup [.str az, .ref F0]) nt)
    refine ⟨_, rfl, _, rfl, by omega, by omega, ?_⟩
    rw [Int.toNat_natCast]
    refine for_range (fun k σ H' => Dw d c H' ∧ Same (cut d c H) (cut d c H') ∧ (∃ u1 u2 u3 u4 u5 u6, σ = [some (.ref d), some (nV n), some (.str az), some (.ref F0), u1, u2, u3, u4, u5, u6]) ∧ ∃ ms : List Str, H' F0 = some (.lst (ms.map V.str)) ∧ ms.length = k ∧ ms.Nodup ∧ ∀ m ∈ ms, isMv m)
      ⟨hd.mono sF, cut_mono sF, ⟨_, _, _, _, _, _, rfl⟩, [], hF0, rfl, List.nodup_nil, fun m hm => nomatch hm⟩ (fun k σ H1 hk h => ?_) (fun σ H1 h => ?_)
    · obtain ⟨hd1, s1, ⟨u1, u2, u3, u4, u5, u6, rfl⟩, ms, hm1, hml, hmn, hmm⟩ := h
      refine ⟨_, rfl, (by show 12 ≤ sizeLine; decide), fun l nl => ?_⟩
      have sN := same_new (o := .lst (wl12.map V.str)) nl
      have hl := hd1.new nl (o := .lst (wl12.map V.str))
      have hm2 := sN _ _ hm1
      have hd2 := hd1.mono sN
      have s2 := s1.trans (cut_mono sN)
      refine ⟨d, c, .ref l, rfl, hd2, .inl ⟨l, _, rfl, .inl hl, by decide, by decide, fun x H3 hx hd3 s3 => ?_⟩⟩
      obtain ⟨w0, hw0, rfl⟩ := List.mem_map.mp hx
      have hw0 := wl12_mv w0 hw0
      have hm3 := keepC s3 hm2 fd1 fc1
      have s3 := s2.trans s3
      refine ⟨_, rfl, d, c, 3, rfl, hd3, by decide, by decide, fun r H4 r0 r1 hd4 s4 => ?_⟩
      have hm4 := keepC s4 hm3 fd1 fc1
      have s4 := s3.trans s4
      refine ⟨rfl, _, rfl, ?_⟩
      refine if_share (fun σ' H' => Dw d c H' ∧ Same (cut d c H) (cut d c H') ∧ H' F0 = some (.lst (ms.map V.str)) ∧ ∃ w1 v1 v3 v4 v5 v6, σ' = [some (.ref d), some (nV n), some (.str az), some (.ref F0), v1, some (.str w1), v3, v4, v5, v6] ∧ isMv w1) (fun σ5 H5 h => ?_) (fun _ hC => ?_) (fun _ => ⟨hd4, s4, hm4, w0, _, _, _, _, _, rfl, hw0⟩)
      · obtain ⟨hd5, s5, hm5, w1, v1, v3, v4, v5, v6, rfl, hw1⟩ := h
        refine ⟨_, rfl, (by show 1 ≤ sizeLine; decide), fun l1 nl1 => ?_⟩
        have sA := same_new (o := .lst [.str w1]) nl1
        have gA : (upd H5 l1 (.lst [.str w1])) l1 = some (.lst [.str w1]) := upd_same
        have hmA := sA _ _ hm5
        have hdA := hd5.mono sA
        have sA' := s5.trans (cut_mono sA)
        generalize upd H5 l1 (.lst [.str w1]) = HA at sA gA hmA hdA sA'
        refine ⟨_, rfl, az, rfl, fun D nD => ?_⟩
        refine lcW_fm walk_str (fun i => (az.cps.toList[i]?).map fun k => .str (cutS w1 none (some 7) ++ sgn k)) nD (by decide +kernel) (fun _ _ => trivial) (fun i x H9 HB hi sB y K1 K0 k1 k0 => ?_) (fun HB sB e => ?_)
        · obtain ⟨rfl, k', hk', rfl⟩ := y
          refine ⟨rfl, yesT ?_⟩
          refine ⟨_, rfl, 7, rfl, w1, rfl, sz_le (by have := hw1.2.1; omega), ?_⟩
          refine ⟨_, rfl, _, _, rfl, rfl, ?_, ?_⟩
          · have := cut_str w1
            have e1 := len_cps (cutS w1 none (some 7))
            rw [this, List.length_take] at e1
            have : (⟨#[k']⟩ : Str).length = 1 := rfl
            exact sz_le (by omega)
          · exact k1 _ _ (by rw [show az.cps.toList[i]? = some k' by simpa using hk']; rfl) (fun _ _ e => e)
        · have e27 : (List.range az.cps.size).filterMap (fun i => (az.cps.toList[i]?).map fun k => V.str (cutS w1 none (some 7) ++ sgn k)) = (az.cps.toList.map fun k => cutS w1 none (some 7) ++ sgn k).map V.str := by
            have := range_mapA az.cps.toList (fun k => V.str (cutS w1 none (some 7) ++ sgn k))
            rw [List.map_map]
            have el : az.cps.toList.length = az.cps.size := by simp
            rw [el] at this
            exact this
          rw [e27] at e
          have hmB := sB _ _ hmA
          have hdB := hdA.mono sB
          have sB' := sA'.trans (cut_mono sB)
          have gB := sB _ _ gA
          refine ⟨l1, D, _, _, rfl, rfl, gB, e, by simp; exact sz_le (by decide +kernel), fun l2 nl2 => ?_⟩
          have eC : [V.str w1] ++ (az.cps.toList.map fun k => cutS w1 none (some 7) ++ sgn k).map V.str = (w1 :: az.cps.toList.map fun k => cutS w1 none (some 7) ++ sgn k).map V.str := rfl
          rw [eC]
          have hcm : ∀ z ∈ (w1 :: az.cps.toList.map fun k => cutS w1 none (some 7) ++ sgn k), isMv z := fun z hz => by
            rcases List.mem_cons.mp hz with rfl | hz
            · exact hw1
            · obtain ⟨k', hk', rfl⟩ := List.mem_map.mp hz
              exact word_mv hw1 hk'
          have hfr := fresh_word (w := w1) (p := cutS w1 none (some 7)) (ms := ms) (by omega)
          have hcl : (w1 :: az.cps.toList.map fun k => cutS w1 none (some 7) ++ sgn k).length = 27 := by rw [List.length_cons, List.length_map]; decide +kernel
          generalize (w1 :: az.cps.toList.map fun k => cutS w1 none (some 7) ++ sgn k) = cs at hcm hfr hcl
          have sC := same_new (o := .lst (cs.map V.str)) nl2
          have gC : (upd HB l2 (.lst (cs.map V.str))) l2 = some (.lst (cs.map V.str)) := upd_same
          have hmC := sC _ _ hmB
          have hdC := hdB.mono sC
          have sC' := sB'.trans (cut_mono sC)
          refine ⟨_, rfl, .inl ⟨rfl, _, .inl (.inl hmC)⟩, ?_⟩
          refine ⟨_, rfl, l2, _, rfl, .inl gC, fun J hJ D2 nD2 => ?_⟩
          refine lcW_fm hJ (fun i => (cs[i]?).bind fun z => if decide (z ∉ ms) = true then some (.str z) else none) nD2 (by rw [List.length_map]; omega) (fun H6 s6 => same_of s6 (.inl gC)) (fun i x H9 H6 hi s6 y K1 K0 k1 k0 => ?_) (fun H6 s6 e6 => ?_)
          · obtain ⟨rfl, hx⟩ := y
            rw [List.getElem?_map] at hx
            obtain ⟨z, hz, rfl⟩ := Option.map_eq_some_iff.mp hx
            refine ⟨rfl, ?_⟩
            refine ⟨_, rfl, _, rfl, F0, _, rfl, .inl (.inl (.inl (s6 _ _ hmC))), rfl, flat_strs ms, _, rfl, ?_⟩
            show if (!inV (.str z) (ms.map V.str)) = true then _ else _
            rw [in_strs]
            by_cases hzm : z ∈ ms
            · refine ifNF hzm ?_
              exact k0 _ (by rw [hz]; show (if _ then _ else _) = _; rw [if_neg (by simpa using hzm)]) (fun _ _ e => e)
            · refine ifNT hzm ?_
              exact ⟨_, rfl, k1 _ _ (by rw [hz]; show (if _ then _ else _) = _; rw [if_pos (by simpa using hzm)]) (fun _ _ e => e)⟩
          · rw [List.length_map, range_fmA, fm_if] at e6
            obtain ⟨z0, hz0, hz1⟩ := hfr
            have hne : cs.filter (fun z => decide (z ∉ ms)) ≠ [] := by
              intro en
              have : z0 ∈ cs.filter (fun z => decide (z ∉ ms)) := List.mem_filter.mpr ⟨hz0, by simpa using hz1⟩
              rw [en] at this
              cases this
            obtain ⟨z, hz⟩ : ∃ z, (cs.filter (fun z => decide (z ∉ ms)))[0]? = some z := ⟨_, List.getElem?_eq_getElem (List.length_pos_iff.mpr hne)⟩
            obtain ⟨hzc, hzn⟩ := List.mem_filter.mp (List.mem_of_getElem? hz)
            refine ⟨D2, _, _, .str z, rfl, rfl, .inl (.inl e6), atI_nat (j := 0) (by rw [List.getElem?_map, hz]; rfl), ?_⟩
            have hm6 := s6 _ _ hmC
            refine ⟨F0, _, _, rfl, rfl, hm6, by rw [List.length_map]; exact sz_lt (by omega), ?_⟩
            refine ⟨(hdC.mono s6).upd fd1 fc1, cut_mut (sC'.trans (cut_mono s6)) nF, ⟨_, _, _, _, _, _, rfl⟩, ms ++ [z], by rw [upd_same, List.map_append]; rfl, by simp [hml], ?_, fun m hm => ?_⟩
            · rw [List.nodup_append]
              refine ⟨hmn, by simp, fun a ha b hb e => ?_⟩
              have : b = z := by simpa using hb
              have hzn : z ∉ ms := by simpa using hzn
              exact hzn (this ▸ e ▸ ha)
            · rcases List.mem_append.mp hm with h | h
              · exact hmm m h
              · rw [List.mem_singleton.mp h]
                exact hcm z hzc
      · refine ⟨⟨_, rfl⟩, _, rfl, d, c, 8, rfl, hd4, by decide, by decide, fun r2 H5 q0 q1 hd5 s5 => ⟨_, _, rfl, rfl, _, rfl, by omega, by omega, fun D nD => ?_⟩⟩
        have hm5 := keepC s5 hm4 fd1 fc1
        have s5 := s4.trans s5
        have hFD : F0 ≠ D := ne_of_none hm5 nD
        obtain ⟨hDd, hDc⟩ := hd5.nd nD
        refine it_by (walk_range (lo := 0) (n := (1 + r2).toNat)) (fun i H' => Dw d c H' ∧ Same (cut d c H) (cut d c H') ∧ H' F0 = some (.lst (ms.map V.str)) ∧ ∃ ws : List Str, H' D = some (.lst (ws.map V.str)) ∧ ws.length = i ∧ ∀ z ∈ ws, ∃ k, z = sgn k ∧ k ∈ az.cps.toList)
          ⟨hd5.mono (same_new nD), s5.trans (cut_mono (same_new nD)), same_new nD _ _ hm5, [], upd_same, rfl, fun z hz => nomatch hz⟩ (fun _ _ _ _ => trivial) (fun i x H9 H6 hi h y => ?_) (fun H6 h => ?_)
        · obtain ⟨hd6, s6, hm6, ws, hw6, wl, wm⟩ := h
          obtain ⟨rfl, hx⟩ := y
          refine ⟨rfl, yesT ?_⟩
          refine ⟨_, rfl, _, rfl, d, c, .str az, rfl, hd6, .inr ⟨az, rfl, by decide +kernel, by decide +kernel, fun k' H7 hk' hd7 s7 => ?_⟩⟩
          have hw7 := keepC s7 hw6 hDd hDc
          have hm7 := keepC s7 hm6 fd1 fc1
          refine ⟨_, hw7, by rw [List.length_map]; exact sz_lt (by omega), hd7.upd hDd hDc, cut_mut (s6.trans s7) (none_of_cut s5 nD hDd hDc), by rw [upd_ne hFD]; exact hm7, ws ++ [sgn k'], by rw [upd_same, List.map_append]; rfl, by simp [wl], fun z hz => ?_⟩
          rcases List.mem_append.mp hz with h | h
          · exact wm z h
          · exact ⟨k', List.mem_singleton.mp h, hk'⟩
        · obtain ⟨hd6, s6, hm6, ws, hw6, wl, wm⟩ := h
          have hl1 : ∀ ws : List Str, (∀ z ∈ ws, ∃ k, z = sgn k ∧ k ∈ az.cps.toList) → (ws.map (·.length)).sum = ws.length ∧ ((ws.map fun y => y.cps.toList).flatten).length = ws.length ∧ ∀ x ∈ (ws.map fun y => y.cps.toList).flatten, x ∈ az.cps.toList := by
            intro ws
            induction ws with
            | nil => intro _; exact ⟨rfl, rfl, fun x hx => nomatch hx⟩
            | cons y r ih =>
              intro h
              obtain ⟨k', rfl, hk'⟩ := h y (by simp)
              obtain ⟨i1, i2, i3⟩ := ih fun z hz => h z (List.mem_cons_of_mem _ hz)
              refine ⟨?_, ?_, fun x hx => ?_⟩
              · rw [List.map_cons, List.sum_cons, i1]
                show 1 + r.length = r.length + 1
                omega
              · rw [List.map_cons, List.flatten_cons, List.length_append, i2]
                show 1 + r.length = r.length + 1
                omega
              · rw [List.map_cons, List.flatten_cons] at hx
                rcases List.mem_append.mp hx with hx | hx
                · have : x = k' := by simpa [sgn] using hx
                  exact this ▸ hk'
                · exact i3 x hx
          obtain ⟨i1, i2, i3⟩ := hl1 ws wm
          refine ⟨"", D, ws, rfl, rfl, .inl (.inl (.inl hw6)), ?_, ?_⟩
          · rw [i1]
            show ws.length + ws.length * 0 ≤ 16777216
            omega
          · exact hC _ _ ⟨hd6, s6, hm6, _, _, _, _, _, _, rfl, isMv_of (by rw [join_cps, i2]; omega) (by rw [join_cps, i2]; omega) (by rw [join_cps]; exact i3)⟩
    · obtain ⟨hd1, s1, ⟨u1, u2, u3, u4, u5, u6, rfl⟩, ms, hm1, hml, hmn, hmm⟩ := h
      exact ⟨_, rfl, q F0 ms H1 ⟨by omega, by omega, hmn, hmm⟩ hml hd1 s1 (cut_at hm1 fd1 fc1) nF⟩
end
end Lk

set_option maxHeartbeats 4000000
namespace Lk
open PySem PySem.Spec PyProof.Rows L2
theorem Mv.rev {ms : List Str} (h : Mv ms) : Mv ms.reverse := ⟨by rw [List.length_reverse]; exact h.pos, by rw [List.length_reverse]; exact h.few, (List.reverse_perm ms).symm.nodup h.nd, fun m hm => h.mv m (List.mem_reverse.mp hm)⟩
def spSides : Sp := fun vs H Q _ => ∃ (d c : Addr), vs = [.ref d, .int 4] ∧ Dw d c H ∧ ∀ t a b mine yours H', Mv mine → Mv yours → Dw d c H' → Same (cut d c H) (cut d c H') → (cut d c H') t = some (.tup [.ref a, .ref b]) → (cut d c H') a = some (.lst (mine.map V.str)) → (cut d c H') b = some (.lst (yours.map V.str)) → Q (.ref t) H'
theorem Dw.newS {d c p : Addr} {H : Hp} {o : HO} (h : Dw d c H) (np : H p = none) : Dw d c (L2.upd H p o) ∧ Same (cut d c H) (cut d c (L2.upd H p o)) ∧ (cut d c (L2.upd H p o)) p = some o := ⟨h.mono (same_new np), cut_mono (same_new np), h.new np⟩
theorem WoAt.congr {H : Hp} {es : DnE} {S : List (Str × Str)} {W W' : Ws} (h : WoAt H es S W) (e : ∀ x ∈ S, W x.1 x.2 = W' x.1 x.2) : WoAt H es S W' := by
  induction h with
  | nil => exact .nil
  | cons h _ ih =>
    obtain ⟨h1, h2, q, h3, h4⟩ := h
    exact .cons ⟨h1, h2, q, h3, by rw [← e _ (by simp)]; exact h4⟩ (ih fun x hx => e x (List.mem_cons_of_mem _ hx))
def WLimS (S : List (Str × Str)) (W : Ws) : Prop := ∀ x ∈ S, (-1000 ≤ (W x.1 x.2).1 ∧ (W x.1 x.2).1 ≤ 1000) ∧ (-1000 ≤ (W x.1 x.2).2 ∧ (W x.1 x.2).2 ≤ 1000)
def spWorthsL (P : Program) (w : World) : Sp := fun vs H Q _ => ∃ (d c a b : Addr) (mine yours : List Str), vs = [.ref d, .ref a, .ref b] ∧ Dw d c H ∧ Lt (cut d c H) a (mine.map V.str) ∧ Lt (cut d c H) b (yours.map V.str) ∧ Mv mine ∧ Mv yours ∧
  ∀ D es W H', Dw d c H' → Same (cut d c H) (cut d c H') → (cut d c H') D = some (DN P w D es) → WoAt (cut d c H') es (prod mine yours) W → WLim mine yours W → Q (.ref D) H'
def spTurnedL (P : Program) (w : World) : Sp := fun vs H Q _ => ∃ (d c D : Addr) (es : DnE) (S : List (Str × Str)) (W : Ws), vs = [.ref d, .ref D] ∧ Dw d c H ∧ (cut d c H) D = some (DN P w D es) ∧ WoAt (cut d c H) es S W ∧ S.length ≤ 16 ∧ S.Nodup ∧ (∀ x ∈ S, isMv x.1 ∧ isMv x.2) ∧
  ∀ D' es' S' H', Dw d c H' → Same (cut d c H) (cut d c H') → (cut d c H') D' = some (DN P w D' es') → WoAt (cut d c H') es' S' W → S'.Perm S → Q (.ref D') H'
section
variable {P : Program} {w : World} {K : PySem.W.Frag} {mg : Str → Option Value} {base : Heap} {cP cG cT : Addr} {f : Addr} {fd : FuncData} (T : Txt K w mg cP cG cT)
include T
theorem ok_law_sides {C_law_take : Cal P w K mg base "_law_take" 1 ["draw", "size"] spTake} {C_law_words : Cal P w K mg base "_law_words" 3 ["draw", "many"] spWordsL} (F : FnP K "_law_sides" "_law_sides" s_law_sides f fd) : FnOk P w K mg base CX0 4 f fd ["draw", "many"] spSides := by
  refine okN F sc_law_sides (fun vs H Q E h => ?_) (fun cdv A outer s H vs Q E hr h => ?_)
  · obtain ⟨d, c, rfl, _⟩ := h
    rfl
  · obtain ⟨d, c, rfl, hd, q⟩ := h
    refine ⟨_, (pss_cons (ps_set (i := 2) sc_law_sides.nd rfl (Or.inl rfl) (pe_cal C_law_words hr (pa_cons (pv 0) (pa_cons (pe_op op_add pe_int (pe_cal C_law_take hr (pa_cons (pv 0) (pa_cons (pv 1) pa_nil)))) pa_nil))))
      (pss_cons (ps_set (i := 3) sc_law_sides.nd rfl (Or.inl rfl) (pe_cal C_law_words hr (pa_cons (pv 0) (pa_cons (pe_op op_add pe_int (pe_cal C_law_take hr (pa_cons (pv 0) (pa_cons (pv 1) pa_nil)))) pa_nil))))
      (pss_one (ps_ret (pe_tup (pa_cons (pv 2) (pa_cons (pe_ifExp (pt_cmpR op_eq (pe_cal C_law_take hr (pa_cons (pv 0) (pa_cons pe_int pa_nil))) pe_int (nomark _)) (pe_revL (pv 2)) (pv 3)) pa_nil))))))), ?_⟩
    refine ⟨_, rfl, _, rfl, _, rfl, d, c, 4, rfl, hd, by decide, by decide, fun r H1 r0 r1 hd1 s1 => ⟨_, _, rfl, rfl, ?_⟩⟩
    obtain ⟨j, rfl⟩ : ∃ j : Nat, r = (j : Int) := ⟨_, (Int.toNat_of_nonneg r0).symm⟩
    have e1 : (1 : Int) + (j : Int) = ((1 + j : Nat) : Int) := by omega
    refine ⟨d, c, 1 + j, by show [V.ref d, V.int (1 + (j : Int))] = _; rw [e1], hd1, by omega, by omega, fun a mine H2 m1 ml hd2 s2 ha _ => ?_⟩
    have s2 := s1.trans s2
    refine ⟨_, rfl, _, rfl, _, rfl, d, c, 4, rfl, hd2, by decide, by decide, fun r' H3 r0' r1' hd3 s3 => ⟨_, _, rfl, rfl, ?_⟩⟩
    obtain ⟨j', rfl⟩ : ∃ j : Nat, r' = (j : Int) := ⟨_, (Int.toNat_of_nonneg r0').symm⟩
    have e2 : (1 : Int) + (j' : Int) = ((1 + j' : Nat) : Int) := by omega
    refine ⟨d, c, 1 + j', by show [V.ref d, V.int (1 + (j' : Int))] = _; rw [e2], hd3, by omega, by omega, fun b yours H4 m2 ml2 hd4 s4 hb _ => ?_⟩
    have ha4 := s4 _ _ (s3 _ _ ha)
    have s4 := (s2.trans s3).trans s4
    refine ⟨_, rfl, _, rfl, d, c, 3, rfl, hd4, by decide, by decide, fun r5 H5 q0 q1 hd5 s5 => ?_⟩
    have ha5 := s5 _ _ ha4
    have hb5 := s5 _ _ hb
    have s5 := s4.trans s5
    refine ⟨rfl, _, rfl, ?_⟩
    by_cases h0 : r5 = 0
    · refine ifT (congrArg V.int h0) ?_
      refine ⟨_, rfl, a, _, rfl, .inl (.inl (cut_same _ _ ha5)), fun z nz => ?_⟩
      obtain ⟨hd6, sN, hz⟩ := hd5.newS nz (o := .lst (mine.map V.str).reverse)
      have ha6 := sN _ _ ha5
      have s6 := s5.trans sN
      generalize upd H5 z (.lst (mine.map V.str).reverse) = H6 at hd6 sN hz ha6 s6
      refine ⟨(by show 2 ≤ sizeLine; decide), fun t nt => ?_⟩
      obtain ⟨hd7, sM, ht⟩ := hd6.newS nt (o := .tup [.ref a, .ref z])
      refine q t a z mine mine.reverse _ m1 m1.rev hd7 (s6.trans sM) ht (sM _ _ ha6) ?_
      rw [List.map_reverse]
      exact sM _ _ hz
    · refine ifF (fun z => h0 (by injection z)) ?_
      refine ⟨_, rfl, (by show 2 ≤ sizeLine; decide), fun t nt => ?_⟩
      obtain ⟨hd7, sM, ht⟩ := hd5.newS nt (o := .tup [.ref a, .ref b])
      exact q t a b mine yours _ m1 m2 hd7 (s5.trans sM) ht (sM _ _ ha5) (sM _ _ hb5)
theorem ok_law_worths {C_law_take : Cal P w K mg base "_law_take" 1 ["draw", "size"] spTake} {C_law_pick : Cal P w K mg base "_law_pick" 2 ["draw", "some"] spPick} (F : FnP K "_law_worths" "_law_worths" s_law_worths f fd) : FnOk P w K mg base CX0 3 f fd ["draw", "mine", "yours"] (spWorthsL P w) := by
  refine okN F sc_law_worths (fun vs H Q E h => ?_) (fun cdv A outer s H vs Q E hr h => ?_)
  · obtain ⟨d, c, a, b, mine, yours, rfl, _⟩ := h
    rfl
  · obtain ⟨d, c, a, b, mine, yours, rfl, hd, ha, hb, m1, m2, q⟩ := h
    refine ⟨_, (pss_cons (ps_par (i := 3) (j := 4) (by rfl) sc_law_worths.nd rfl rfl (by decide) rfl rfl (pa_cons (pe_cal C_law_pick hr (pa_cons (pv 0) (pa_cons (pe_lst (pa_cons pe_int (pa_cons pe_int (pa_cons pe_int (pa_cons pe_int (pa_cons pe_int pa_nil)))))) pa_nil))) (pa_cons pe_dnewN pa_nil)) (by rfl))
      (pss_cons (ps_for PassesOwn.never rfl (pi_sq (pv 1)) (pg_name (i := 5) sc_law_worths.nd rfl (Or.inl rfl)) (pss_one (ps_for PassesOwn.never rfl (pi_sq (pv 2)) (pg_name (i := 6) sc_law_worths.nd rfl (Or.inl rfl)) (pss_one (ps_nput (hu16 hr) (pv 4) (pe_tup (pa_cons (pv 5) (pa_cons (pv 6) pa_nil))) (pe_tup (pa_cons (pe_op op_sub (pe_cal C_law_take hr (pa_cons (pv 0) (pa_cons (pe_op op_add (pe_op op_mul pe_int (pv 3)) pe_int) pa_nil))) (pv 3)) (pa_cons (pe_op op_sub (pe_cal C_law_take hr (pa_cons (pv 0) (pa_cons (pe_op op_add (pe_op op_mul pe_int (pv 3)) pe_int) pa_nil))) (pv 3)) pa_nil))) rfl)))))
      (pss_one (ps_ret (pv 4))))), ?_⟩
    refine ⟨_, rfl, (by show 5 ≤ sizeLine; decide), fun l nl => ?_⟩
    obtain ⟨hd1, s1, hl⟩ := hd.newS nl (o := .lst ([1, 1, 2, 3, 1000].map V.int))
    refine ⟨d, c, .ref l, rfl, hd1, .inl ⟨l, _, rfl, .inl hl, by decide, by decide, fun x H2 hx hd2 s2 => ?_⟩⟩
    have s2 := s1.trans s2
    obtain ⟨wd, hwd, hw1, rfl⟩ : ∃ wd : Int, 1 ≤ wd ∧ wd ≤ 1000 ∧ x = .int wd := by
      obtain ⟨z, hz, rfl⟩ := List.mem_map.mp hx
      refine ⟨z, ?_, ?_, rfl⟩ <;> (simp at hz; omega)
    intro D nD
    obtain ⟨hd3, s3, hD3⟩ := hd2.newS nD (o := DN P w D [])
    have s3 := s2.trans s3
    have hDd := hd2.nd nD
    have nD0 := none_of_cut s2 nD hDd.1 hDd.2
    refine ⟨_, _, rfl, ?_⟩
    refine ⟨_, rfl, a, _, rfl, (ha.mono s3).mono cut_same, fun J hJ => ?_⟩
    have haH : Lt H a (mine.map V.str) := ha.mono cut_same
    have hbH : Lt H b (yours.map V.str) := hb.mono cut_same
    have hf1 := m1.few
    have hf2 := m2.few
    have sL : ∀ {H' : Hp} {xs : List V} {e : Addr}, Same (cut d c H) (cut d c H') → Lt (cut d c H) e xs → H' e = (upd H2 D (DN P w D [])) e := fun {H' xs e} s h => by
      have h1 : Lt (upd H2 D (DN P w D [])) e xs := (h.mono s3).mono cut_same
      rcases h with h | h
      · rw [cut_same _ _ (s _ _ h), cut_same _ _ (s3 _ _ h)]
      · rw [cut_same _ _ (s _ _ h), cut_same _ _ (s3 _ _ h)]
    refine for_it hJ (fun i σ H' => Dw d c H' ∧ Same (cut d c H) (cut d c H') ∧ (∃ u v, σ = [some (.ref d), some (.ref a), some (.ref b), some (.int wd), some (.ref D), u, v]) ∧ ∃ es W, H' D = some (DN P w D es) ∧ WoAt (cut d c H') es (prod (mine.take i) yours) W ∧ WLimS (prod (mine.take i) yours) W)
      ⟨hd3, s3, ⟨_, _, rfl⟩, [], fun _ _ => (0, 0), upd_same, .nil, fun x hx => nomatch hx⟩ (fun i σ H' hi h => sL h.2.1 ha) (fun i x σ H9 H4 hi h y => ?_) (fun σ H4 h => ?_)
    · obtain ⟨hd4, s4, ⟨u, v, rfl⟩, es, W, hD4, hw4, hl4⟩ := h
      obtain ⟨rfl, hx⟩ := y
      rw [List.getElem?_map] at hx
      obtain ⟨m, hm, rfl⟩ := Option.map_eq_some_iff.mp hx
      have hmm := List.mem_of_getElem? hm
      refine ⟨_, rfl, b, _, rfl, (hb.mono s4).mono cut_same, fun J2 hJ2 => ?_⟩
      refine for_it hJ2 (fun k σ H' => Dw d c H' ∧ Same (cut d c H) (cut d c H') ∧ (∃ v, σ = [some (.ref d), some (.ref a), some (.ref b), some (.int wd), some (.ref D), some (.str m), v]) ∧ ∃ es W, H' D = some (DN P w D es) ∧ WoAt (cut d c H') es (prod (mine.take i) yours ++ (yours.take k).map fun y => (m, y)) W ∧ WLimS (prod (mine.take i) yours ++ (yours.take k).map fun y => (m, y)) W)
        ⟨hd4, s4, ⟨_, rfl⟩, es, W, hD4, by simpa using hw4, by simpa using hl4⟩ (fun k σ H' hk h => ?_) (fun k x σ H9 H5 hk h y => ?_) (fun σ H5 h => ?_)
      · rcases hb with h' | h'
        · rw [cut_same _ _ (h.2.1 _ _ h'), cut_same _ _ (s4 _ _ h')]
        · rw [cut_same _ _ (h.2.1 _ _ h'), cut_same _ _ (s4 _ _ h')]
      · obtain ⟨hd5, s5, ⟨v, rfl⟩, es, W, hD5, hw5, hl5⟩ := h
        obtain ⟨rfl, hx⟩ := y
        rw [List.getElem?_map] at hx
        obtain ⟨y, hy, rfl⟩ := Option.map_eq_some_iff.mp hx
        have hk4 : k < 4 := by
          have := (List.getElem?_eq_some_iff.mp hy).1
          omega
        have hi4 : i < 4 := by
          have := (List.getElem?_eq_some_iff.mp hm).1
          omega
        have hDd1 := hDd
        have tk : ∀ {H' : Hp} (Q : VK), Dw d c H' → Same (cut d c H) (cut d c H') → (∀ (r : Int) H'', -wd ≤ r → r ≤ wd → Dw d c H'' → Same (cut d c H') (cut d c H'') → Q (.int r) H'') →
            spTake [.ref d, .int (2 * wd + 1)] H' (fun x H1 => ∃ i j, x = .int i ∧ V.int wd = .int j ∧ Q (.int (i - j)) H1) E0 := fun {H'} Q hd' s' h => ⟨d, c, 2 * wd + 1, rfl, hd', by omega, by omega, fun r H'' r0 r1 hd'' s'' => ⟨r, wd, rfl, rfl, h _ _ (by omega) (by omega) hd'' s''⟩⟩
        refine ⟨_, rfl, _, rfl, _, _, rfl, rfl, .inl ⟨by decide, by decide⟩, _, _, rfl, rfl, d, c, 2 * wd + 1, rfl, hd5, by omega, by omega, fun r1 H6 r10 r11 hd6 s6 => ⟨_, rfl, _, _, rfl, rfl, ?_⟩⟩
        have hD6 := keepC s6 hD5 hDd.1 hDd.2
        have hw6 := hw5.mono s6
        have s6 := s5.trans s6
        refine ⟨_, rfl, _, rfl, _, _, rfl, rfl, .inl ⟨by decide, by decide⟩, _, _, rfl, rfl, d, c, 2 * wd + 1, rfl, hd6, by omega, by omega, fun r2 H7 r20 r21 hd7 s7 => ⟨_, rfl, _, _, rfl, rfl, ?_⟩⟩
        have hD7 := keepC s7 hD6 hDd.1 hDd.2
        have hw7 := hw6.mono s7
        have s7 := s6.trans s7
        refine ⟨(by show 2 ≤ sizeLine; decide), fun t nt => ?_⟩
        obtain ⟨hd8, sN, ht8⟩ := hd7.newS nt (o := .tup [.int (r1 - wd), .int (r2 - wd)])
        have hD8 := same_new (o := .tup [.int (r1 - wd), .int (r2 - wd)]) nt _ _ hD7
        have hw8 := hw7.mono sN
        have s8 := s7.trans sN
        generalize upd H7 t (.tup [.int (r1 - wd), .int (r2 - wd)]) = H8 at hd8 sN ht8 hD8 hw8 s8
        refine ⟨_, rfl, _, rfl, _, rfl, (by show 2 ≤ sizeLine; decide), fun kk nk => ?_⟩
        obtain ⟨hd9, sM, hk9⟩ := hd8.newS nk (o := .tup [.str m, .str y])
        have hD9 := same_new (o := .tup [.str m, .str y]) nk _ _ hD8
        have hw9 := hw8.mono sM
        have s9 := s8.trans sM
        have ht9 := sM _ _ ht8
        generalize upd H8 kk (.tup [.str m, .str y]) = H9 at hd9 sM hk9 hD9 hw9 s9 ht9
        have hel := paired_len hw9
        have hSl : (prod (mine.take i) yours ++ (yours.take k).map fun y => (m, y)).length ≤ 1000 := by
          rw [List.length_append, prod_len, List.length_map, List.length_take, List.length_take]
          have : min i mine.length * yours.length ≤ 4 * 4 := Nat.mul_le_mul (by omega) hf2
          omega
        have hfresh : (m, y) ∉ prod (mine.take i) yours ++ (yours.take k).map fun y => (m, y) := by
          intro hmem
          rcases List.mem_append.mp hmem with h | h
          · have h1 := (mem_prod.mp h).1
            obtain ⟨j, hj⟩ := List.mem_iff_getElem?.mp h1
            obtain ⟨hj1, hj2⟩ := List.getElem?_eq_some_iff.mp hj
            obtain ⟨hi1, hi2⟩ := List.getElem?_eq_some_iff.mp hm
            have hji : j < i := by
              rw [List.length_take] at hj1
              omega
            rw [List.getElem_take] at hj2
            exact (List.pairwise_iff_getElem.mp m1.nd) j i (by omega) hi1 hji (hj2.trans hi2.symm)
          · obtain ⟨y', hy', e⟩ := List.mem_map.mp h
            obtain ⟨_, rfl⟩ := Prod.mk.inj e
            obtain ⟨j, hj⟩ := List.mem_iff_getElem?.mp hy'
            obtain ⟨hj1, hj2⟩ := List.getElem?_eq_some_iff.mp hj
            obtain ⟨hi1, hi2⟩ := List.getElem?_eq_some_iff.mp hy
            have hji : j < k := by
              rw [List.length_take] at hj1
              omega
            rw [List.getElem_take] at hj2
            exact (List.pairwise_iff_getElem.mp m2.nd) j k (by omega) hi1 hji (hj2.trans hi2.symm)
        have hwc : WoAt (cut d c H9) es (prod (mine.take i) yours ++ (yours.take k).map fun y => (m, y)) (fun a b => if a = m ∧ b = y then (r1 - wd, r2 - wd) else W a b) := hw9.congr fun x hx => by
          rw [if_neg]
          rintro ⟨e1, e2⟩
          exact hfresh ((Prod.ext e1 e2 : x = (m, y)) ▸ hx)
        have hput := hwc.put hfresh hk9 (q := t) (by rw [if_pos ⟨rfl, rfl⟩]; exact ht9)
        have hDc9 := cut_at hD9 hDd.1 hDd.2
        have ntD : ∀ zs, DN P w D es ≠ .tup zs := fun zs e => by unfold DN at e; cases e
        refine ⟨kk, D, es, pkey m y, rfl, rfl, hD9, (hw9.met.keys).mono cut_same, (pk_at hk9).mono cut_same, by omega, ?_⟩
        have eS : (prod (mine.take i) yours ++ (yours.take (k + 1)).map fun y => (m, y)) = (prod (mine.take i) yours ++ (yours.take k).map fun y => (m, y)) ++ [(m, y)] := by
          rw [List.take_add_one, hy, List.map_append, List.append_assoc]
          rfl
        refine ⟨hd9.upd hDd.1 hDd.2, cut_mut s9 nD0, ⟨_, rfl⟩, _, (fun a b => if a = m ∧ b = y then (r1 - wd, r2 - wd) else W a b), upd_same, ?_, ?_⟩
        · rw [eS]
          refine hput.keep fun z zs e => ?_
          have hz := cut_same _ _ e
          have hne : z ≠ D := by
            rintro rfl
            rw [hD9] at hz
            exact ntD _ (Option.some.inj hz)
          refine cut_at (by rw [upd_ne hne]; exact hz) ?_ ?_
          · rintro rfl; unfold cut at e; rw [if_pos (.inl rfl)] at e; cases e
          · rintro rfl; unfold cut at e; rw [if_pos (.inr rfl)] at e; cases e
        · rw [eS]
          intro x hx
          rcases List.mem_append.mp hx with hx | hx
          · show (-1000 ≤ (if _ then _ else _ : Int × Int).1 ∧ (if _ then _ else _ : Int × Int).1 ≤ 1000) ∧ (-1000 ≤ (if _ then _ else _ : Int × Int).2 ∧ (if _ then _ else _ : Int × Int).2 ≤ 1000)
            rw [if_neg (by rintro ⟨e1, e2⟩; exact hfresh ((Prod.ext e1 e2 : x = (m, y)) ▸ hx))]
            exact hl5 x hx
          · rw [List.mem_singleton.mp hx]
            show (-1000 ≤ (if _ then _ else _ : Int × Int).1 ∧ (if _ then _ else _ : Int × Int).1 ≤ 1000) ∧ (-1000 ≤ (if _ then _ else _ : Int × Int).2 ∧ (if _ then _ else _ : Int × Int).2 ≤ 1000)
            rw [if_pos ⟨rfl, rfl⟩]
            exact ⟨⟨by show -1000 ≤ r1 - wd; omega, by show r1 - wd ≤ 1000; omega⟩, ⟨by show -1000 ≤ r2 - wd; omega, by show r2 - wd ≤ 1000; omega⟩⟩
      · obtain ⟨hd5, s5, ⟨v, rfl⟩, es, W, hD5, hw5, hl5⟩ := h
        rw [List.length_map] at hw5 hl5
        rw [List.take_length] at hw5 hl5
        have eP : prod (mine.take (i + 1)) yours = prod (mine.take i) yours ++ yours.map fun y => (m, y) := by
          unfold prod
          rw [List.take_add_one, hm, List.flatMap_append]
          simp
        refine ⟨hd5, s5, ⟨_, _, rfl⟩, es, W, hD5, by rw [eP]; exact hw5, by rw [eP]; exact hl5⟩
    · obtain ⟨hd4, s4, ⟨u, v, rfl⟩, es, W, hD4, hw4, hl4⟩ := h
      rw [List.take_of_length_le (by simp)] at hw4 hl4
      exact ⟨_, rfl, q D es W H4 hd4 s4 (cut_at hD4 hDd.1 hDd.2) hw4 fun a ha b hb => hl4 (a, b) (mem_prod.mpr ⟨ha, hb⟩)⟩
end
end Lk

set_option maxHeartbeats 4000000
namespace Lk
open PySem PySem.Spec PyProof.Rows L2
def prD (x : Str × Str) : PyData := .tuple [.str x.1, .str x.2]
theorem dp_prs {K : PySem.W.Frag} {H : Hp} : ∀ {xs : List V} {ps : List (Str × Str)}, PrsAt H xs ps → DpAll K H xs (ps.map prD)
  | _, _, .nil => .nil
  | _, _, .cons h t => by
    obtain ⟨a, rfl, h2⟩ := h
    exact .cons (.tup (.inl (.inl h2)) (.cons (.str _) (.cons (.str _) .nil))) (dp_prs t)
theorem sh_prs : ∀ ps : List (Str × Str), (∀ x ∈ ps, isMv x.1 ∧ isMv x.2) → PyData.canLayAll0 (ps.map prD) = true ∧ PyData.depthAll (ps.map prD) ≤ 1
  | [], _ => by simp [PyData.canLayAll0, PyData.depthAll]
  | x :: r, h => by
    obtain ⟨h1, h2⟩ := sh_prs r fun y hy => h y (List.mem_cons_of_mem _ hy)
    obtain ⟨k1, k2⟩ := h x (by simp)
    have k1 := k1.strOk
    have k2 := k2.strOk
    simp only [List.map_cons, prD, PyData.canLayAll0, PyData.depthAll, PyData.canLay0, PyData.depth, k1, k2, Bool.and_true, Bool.true_and]
    refine ⟨h1, ?_⟩
    have e : PyData.depthAll (r.map prD) ≤ 1 := h2
    exact Nat.max_le.mpr ⟨by decide, e⟩
theorem sh_prsL {ps : List (Str × Str)} (h : ∀ x ∈ ps, isMv x.1 ∧ isMv x.2) : SeqAt.shaped (.list (ps.map prD)) = true := by
  obtain ⟨h1, h2⟩ := sh_prs ps h
  simp only [SeqAt.shaped, PyData.canLay0, PyData.depth, h1, Bool.true_and, decide_eq_true_eq]
  exact decide_eq_true (Nat.le_trans (Nat.succ_le_succ h2) (by decide))
theorem prs_of {H : Hp} {es : DnE} {S : List (Str × Str)} (h : MetAt H es S) : PrsAt H (es.map fun x => V.ref x.2.1) S := by
  induction h with
  | nil => exact .nil
  | cons h _ ih => exact .cons ⟨_, rfl, h.2⟩ ih
theorem paired_erase {α β : Type} {R : α → β → Prop} {xs : List α} {ys : List β} (h : Paired R xs ys) : ∀ k, Paired R (xs.eraseIdx k) (ys.eraseIdx k) := by
  induction h with
  | nil => intro k; exact .nil
  | cons h t ih =>
    intro k
    cases k with
    | zero => exact t
    | succ k => exact .cons h (ih k)
theorem perm_erase {α : Type} : ∀ {xs : List α} {k : Nat} {x : α}, xs[k]? = some x → (x :: xs.eraseIdx k).Perm xs
  | y :: r, 0, x, h => by cases h; exact .refl _
  | y :: r, k + 1, x, h => by
    have ih := perm_erase (xs := r) (k := k) (x := x) h
    exact (List.Perm.swap y x _).trans (ih.cons y)
section
variable {P : Program} {w : World} {K : PySem.W.Frag} {mg : Str → Option Value} {base : Heap} {cP cG cT : Addr} {f : Addr} {fd : FuncData} (T : Txt K w mg cP cG cT)
include T
theorem ok_law_turned {C_law_take : Cal P w K mg base "_law_take" 1 ["draw", "size"] spTake} (F : FnP K "_law_turned" "_law_turned" s_law_turned f fd) : FnOk P w K mg base CX0 2 f fd ["draw", "worths"] (spTurnedL P w) := by
  refine okN F sc_law_turned (fun vs H Q E h => ?_) (fun cdv A outer s H vs Q E hr h => ?_)
  · obtain ⟨d, c, D, es, S, W, rfl, _⟩ := h
    rfl
  · obtain ⟨d, c, D, es, S, W, rfl, hd, hD, hw, hS, hSn, hmv, q⟩ := h
    refine ⟨_, (pss_cons (ps_par (i := 2) (j := 3) (by rfl) sc_law_turned.nd rfl rfl (by decide) rfl rfl (pa_cons (pe_callTy (call_list_dn rfl) (by rfl) T.list_ b_list (pa_cons (pv 1) pa_nil)) (pa_cons pe_dnewN pa_nil)) (by rfl))
      (pss_cons (ps_while PassesOwn.never (pt_cmpR (op_neD hr.units) (pv 2) (pe_lst pa_nil) (nomark _)) (pss_cons (ps_set (i := 4) sc_law_turned.nd rfl (Or.inl rfl) (pe_bm PySem.F.plainAttrs_list PySem.F.slot_list_pop PySem.F.type_list_pop mt_popAt (pv 2) (pa_cons (pe_cal C_law_take hr (pa_cons (pv 0) (pa_cons (pe_callB (lenS K) (by rfl) T.len_ b_len (pa_cons (pv 2) pa_nil)) pa_nil))) pa_nil)))
      (pss_one (ps_nput (hu16 hr) (pv 3) (pv 4) (pe_nget (hu16 hr) (pv 1) (pv 4) (fun _ _ => rfl)) rfl))))
      (pss_one (ps_ret (pv 3))))), ?_⟩
    have hDH := cut_same _ _ hD
    have hDd : D ≠ d ∧ D ≠ c := by
      constructor
      · rintro rfl; unfold cut at hD; rw [if_pos (.inl rfl)] at hD; cases hD
      · rintro rfl; unfold cut at hD; rw [if_pos (.inr rfl)] at hD; cases hD
    refine ⟨_, rfl, D, es, rfl, .inl hDH, fun l nl => ?_⟩
    obtain ⟨hd1, s1, hl1⟩ := hd.newS nl (o := .lst (es.map fun x => V.ref x.2.1))
    have hld := hd.nd nl
    have hw1 := hw.mono s1
    intro E' nE
    obtain ⟨hd2, s2, hE2⟩ := hd1.newS nE (o := DN P w E' [])
    have hEd := hd1.nd nE
    have hl2 := s2 _ _ hl1
    have hw2 := hw1.mono s2
    have s2 := s1.trans s2
    have nE0 := none_of_cut s1 nE hEd.1 hEd.2
    have hlE : l ≠ E' := ne_of_none upd_same nE
    refine ⟨_, _, rfl, ?_⟩
    refine ⟨fun mm σ H' => Dw d c H' ∧ Same (cut d c H) (cut d c H') ∧ (∃ u, σ = [some (.ref d), some (.ref D), some (.ref l), some (.ref E'), u]) ∧ ∃ xs es' S1 S2, H' l = some (.lst xs) ∧ H' E' = some (DN P w E' es') ∧ PrsAt (cut d c H') xs S1 ∧ WoAt (cut d c H') es' S2 W ∧ (S1 ++ S2).Perm S ∧ mm = xs.length,
      ⟨_, hd2, s2, ⟨_, rfl⟩, _, [], S, [], cut_same _ _ hl2, cut_same _ _ hE2, prs_of hw2.met, .nil, by simp, rfl⟩, ?_⟩
    rintro mm σ H3 ⟨hd3, s3, ⟨u, rfl⟩, xs, es', S1, S2, hl3, hE3, hp3, hw3, hpm, rfl⟩
    have hmv1 : ∀ x ∈ S1, isMv x.1 ∧ isMv x.2 := fun x hx => hmv x (hpm.mem_iff.mp (List.mem_append_left _ hx))
    have hxl : xs.length ≤ 16 := by
      have := hpm.length_eq
      rw [List.length_append] at this
      rw [paired_len hp3]
      omega
    have hel : es'.length ≤ 16 := by
      have := hpm.length_eq
      rw [List.length_append] at this
      rw [paired_len hw3]
      omega
    refine ⟨_, rfl, (by show 0 ≤ sizeLine; decide), fun t nt => ?_⟩
    have sN := same_new (o := .lst []) nt
    have hp3H : PrsAt H3 xs S1 := hp3.mono cut_same
    refine ⟨_, _, .lst (.inl (.inl (sN _ _ hl3))) (dp_prs (hp3H.mono sN)), .lst (.inl (.inl upd_same)) .nil, sh_prsL hmv1, sh_prsL (ps := []) (fun x hx => nomatch hx), ?_⟩
    obtain ⟨hd4, s4, _⟩ := hd3.newS nt (o := .lst [])
    have hl4 := sN _ _ hl3
    have hE4 := sN _ _ hE3
    have hp4 := hp3.mono s4
    have hw4 := hw3.mono s4
    have s4 := s3.trans s4
    generalize upd H3 t (.lst []) = H4 at hd4 s4 hl4 hE4 hp4 hw4
    cases S1 with
    | nil =>
      refine ⟨false, by simp [PyData.eqv, PyData.eqvAll], ?_⟩
      refine iteF ?_
      exact ⟨_, rfl, q E' es' S2 H4 hd4 s4 (cut_at hE4 hEd.1 hEd.2) hw4 hpm⟩
    | cons p0 ps =>
      refine ⟨true, by simp [PyData.eqv, PyData.eqvAll], ?_⟩
      refine iteT ?_
      refine ⟨fun σ' H'' => ∃ m'', m'' < xs.length ∧ Dw d c H'' ∧ Same (cut d c H) (cut d c H'') ∧ (∃ u, σ' = [some (.ref d), some (.ref D), some (.ref l), some (.ref E'), u]) ∧ ∃ xs es' S1 S2, H'' l = some (.lst xs) ∧ H'' E' = some (DN P w E' es') ∧ PrsAt (cut d c H'') xs S1 ∧ WoAt (cut d c H'') es' S2 W ∧ (S1 ++ S2).Perm S ∧ m'' = xs.length,
        fun σ' H'' h => h, ?_⟩
      have hxp := paired_len hp4
      have hx0 : 0 < xs.length := by rw [hxp]; simp
      refine ⟨_, rfl, .inl ⟨rfl, _, .inl (.inl hl4)⟩, _, rfl, _, rfl, l, xs, rfl, .inl (.inl (.inl hl4)), ?_⟩
      refine ⟨d, c, ((xs.length : Nat) : Int), rfl, hd4, by omega, by omega, fun r H5 r0 r1 hd5 s5 => ?_⟩
      obtain ⟨j, rfl⟩ : ∃ j : Nat, r = (j : Int) := ⟨_, (Int.toNat_of_nonneg r0).symm⟩
      have hj : j < xs.length := by omega
      have hl5 := keepC s5 hl4 hld.1 hld.2
      have hE5 := keepC s5 hE4 hEd.1 hEd.2
      have hp5 := hp4.mono s5
      have hw5 := hw4.mono s5
      have s5 := s4.trans s5
      obtain ⟨pr, hpr⟩ : ∃ pr, (p0 :: ps)[j]? = some pr := ⟨_, List.getElem?_eq_getElem (by rw [← hxp]; exact hj)⟩
      obtain ⟨xv, hxv, a, rfl, ha⟩ := paired_get hp5 hpr
      refine ⟨l, xs, _, j, .ref a, rfl, rfl, hl5, by omega, by omega, ?_, hxv, ?_⟩
      · unfold seqIndex?
        have : ¬ ((j : Int) < 0) := by omega
        simp [this, hj]
      have ntl : ∀ zs, HO.lst xs ≠ .tup zs := fun zs z => by cases z
      have hcl : ∀ {o : HO}, ∀ z zs, cut d c H5 z = some (.tup zs) → cut d c (upd H5 l o) z = some (.tup zs) := fun {o} z zs e => by
        have hz := cut_same _ _ e
        refine cut_at (keepTup hl5 ntl _ _ hz) ?_ ?_
        · rintro rfl; unfold cut at e; rw [if_pos (.inl rfl)] at e; cases e
        · rintro rfl; unfold cut at e; rw [if_pos (.inr rfl)] at e; cases e
      have hd6 := hd5.upd (o := .lst (xs.eraseIdx j)) hld.1 hld.2
      have s6 : Same (cut d c H) (cut d c (upd H5 l (.lst (xs.eraseIdx j)))) := cut_mut s5 nl
      have hl6 : (upd H5 l (.lst (xs.eraseIdx j))) l = some (.lst (xs.eraseIdx j)) := upd_same
      have hE6 : (upd H5 l (.lst (xs.eraseIdx j))) E' = some (DN P w E' es') := by rw [upd_ne hlE.symm]; exact hE5
      have hw6 : WoAt (cut d c (upd H5 l (.lst (xs.eraseIdx j)))) es' S2 W := hw5.keep (hcl (o := .lst (xs.eraseIdx j)))
      have hp6 : PrsAt (cut d c (upd H5 l (.lst (xs.eraseIdx j)))) (xs.eraseIdx j) ((p0 :: ps).eraseIdx j) := by
        have key : ∀ {xs : List V} {ps : List (Str × Str)}, PrsAt (cut d c H5) xs ps → ∀ o, PrsAt (cut d c (upd H5 l o)) xs ps := fun {ys ps} h o => by
          induction h with
          | nil => exact .nil
          | cons h _ ih =>
            obtain ⟨a, e1, e2⟩ := h
            exact .cons ⟨a, e1, hcl _ _ e2⟩ ih
        exact key (paired_erase hp5 j) _
      have ha6 := hcl (o := .lst (xs.eraseIdx j)) _ _ ha
      generalize hH6 : upd H5 l (.lst (xs.eraseIdx j)) = H6 at hd6 s6 hl6 hE6 hw6 hp6 ha6
      have hDc6 := s6 _ _ hD
      have hwD6 := hw.mono s6
      have hprS : (pr.1, pr.2) ∈ S := hpm.mem_iff.mp (List.mem_append_left _ (List.mem_of_getElem? hpr))
      obtain ⟨a', qv, f1, f2⟩ := hwD6.find hprS
      refine ⟨_, rfl, _, rfl, a, D, es, pkey pr.1 pr.2, a', .ref qv, rfl, rfl, .inl (cut_same _ _ hDc6), hwD6.met.keys.mono cut_same, (pk_at ha6).mono cut_same, f1, ?_⟩
      refine ⟨_, rfl, _, rfl, a, E', es', pkey pr.1 pr.2, rfl, rfl, hE6, hw6.met.keys.mono cut_same, (pk_at ha6).mono cut_same, by omega, ?_⟩
      have hperm := perm_erase hpr
      have hfresh : (pr.1, pr.2) ∉ S2 := by
        have nd : (((p0 :: ps) ++ S2)).Nodup := hpm.symm.nodup hSn
        intro h
        exact (List.nodup_append.mp nd).2.2 pr (List.mem_of_getElem? hpr) pr h rfl
      have ntE : ∀ zs, DN P w E' es' ≠ .tup zs := fun zs e => by unfold DN at e; cases e
      have hcE : ∀ {o : HO}, ∀ z zs, cut d c H6 z = some (.tup zs) → cut d c (upd H6 E' o) z = some (.tup zs) := fun {o} z zs e => by
        have hz := cut_same _ _ e
        refine cut_at (keepTup hE6 ntE _ _ hz) ?_ ?_
        · rintro rfl; unfold cut at e; rw [if_pos (.inl rfl)] at e; cases e
        · rintro rfl; unfold cut at e; rw [if_pos (.inr rfl)] at e; cases e
      refine ⟨(xs.eraseIdx j).length, ?_, hd6.upd hEd.1 hEd.2, cut_mut s6 nE0, ⟨_, rfl⟩, xs.eraseIdx j, dnPut es' (pkey pr.1 pr.2) a (.ref qv), (p0 :: ps).eraseIdx j, S2 ++ [(pr.1, pr.2)], by rw [upd_ne hlE]; exact hl6, upd_same, ?_, ((hw6.put hfresh ha6 f2).keep hcE), ?_, rfl⟩
      · rw [List.length_eraseIdx_of_lt hj]
        omega
      · have key : ∀ {xs : List V} {ps : List (Str × Str)}, PrsAt (cut d c H6) xs ps → ∀ o, PrsAt (cut d c (upd H6 E' o)) xs ps := fun {ys ps} h o => by
          induction h with
          | nil => exact .nil
          | cons h _ ih =>
            obtain ⟨a, e1, e2⟩ := h
            exact .cons ⟨a, e1, hcE _ _ e2⟩ ih
        exact key hp6 _
      · refine List.Perm.trans ?_ hpm
        have h1 : ((p0 :: ps).eraseIdx j ++ (S2 ++ [(pr.1, pr.2)])).Perm (pr :: ((p0 :: ps).eraseIdx j ++ S2)) := by
          rw [← List.append_assoc]
          exact List.perm_append_singleton _ _
        exact h1.trans (hperm.append_right S2)
end
end Lk

set_option maxHeartbeats 4000000
namespace Lk
open PySem PySem.Spec PyProof.Rows L2
section
variable {X : Cx} {x : Str} {k : Nat} {ps : List Str} {sp : Sp} {e : Expr} {es : List Expr} {p pos : Pos} {t : TA}
theorem pe_calS (F : Cal X.prog X.w X.K X.mg X.base x k ps sp) (hr : Room k X.A) (ha : PA X (e :: es) t) (hg : Gl X x := by rfl) (hdb : (x == ("__debug__" : Str)) = false := by decide)
    (he : starEach (e :: es) X.env = (false, eval e X.env) :: starEach es X.env := by rfl) (hpl : (backTo pos (starEach es X.env)).any (·.1) = false := by rfl) :
    PE X (.Call (.Name x p) (e :: es) [] pos) (tCall sp [] E0 t) := pe_cal F hr ha (Nat.le_refl _) hg hdb he hpl
end
/-! ### the law's own players: parts -/
structure PartsAt (H : Hp) (a : Addr) (L : Pl) : Prop where
  ex : ∃ m b c xs, H a = some (.tup [.ref m, .ref b, .ref c]) ∧ H m = some (.tup (L.moves.map V.str)) ∧ H b = some (.tup xs) ∧ RowsAt H xs L.rows ∧ H c = some (.tup (L.picks.map nV))
theorem PartsAt.mono {H H' : Hp} {a : Addr} {L : Pl} (s : Same H H') (h : PartsAt H a L) : PartsAt H' a L := by
  obtain ⟨m, b, c, xs, h1, h2, h3, h4, h5⟩ := h.ex
  exact ⟨m, b, c, xs, s _ _ h1, s _ _ h2, s _ _ h3, h4.mono s, s _ _ h5⟩
theorem rch_sub {rs : List Rw} {i j : Nat} {r : Rw} (e : rs[i]? = some r) (hj : j ∈ r.refs) : ∀ {x : Nat}, Rch rs [j] x → Rch rs [i] x := fun {x} h => by
  induction h with
  | pick h =>
    rw [List.mem_singleton.mp h]
    exact .ref (.pick (List.mem_singleton.mpr rfl)) e hj
  | ref _ e2 h2 ih => exact .ref ih e2 h2
theorem rch_of {rs : List Rw} {ps : List Nat} {i : Nat} (h : Rch rs ps i) : ∀ {x : Nat}, Rch rs [i] x → Rch rs ps x := fun {x} k => by
  induction k with
  | pick k => rw [List.mem_singleton.mp k]; exact h
  | ref _ e2 h2 ih => exact .ref ih e2 h2
theorem rch_lt {rs : List Rw} {ps : List Nat} (ok : RowsOk rs) (h : ∀ p ∈ ps, p < rs.length) {x : Nat} (k : Rch rs ps x) : x < rs.length := by
  induction k with
  | pick k => exact h _ k
  | ref _ e2 h2 ih =>
    have := (ok _ _ e2).refs h2
    omega
def spSo (n : Nat) : Sp := fun vs H Q _ => ∃ (a t g : Addr) (i : Nat) (xs : List V) (rs : List Rw) (tvs : List (Key × V)) (ring : List Str) (tr : Nat → Bool), vs = [.ref a, nV i, .ref t, .ref g] ∧ H a = some (.tup xs) ∧ RowsAt H xs rs ∧ RowsOk rs ∧ i < n ∧ i < rs.length ∧ Rd H t (.dK tvs) ∧
  (∀ j, Rch rs [i] j → shAt rs j = true → valV tvs (kN j) = some (.bl (tr j))) ∧ H g = some (.tup (ring.map V.str)) ∧ ∀ H', Same H H' → Q (.bl (hold rs tr ring i)) H'
theorem iteT' {b : Bool} {p q : Prop} (h : b = true) (k : p) : if b = true then p else q := by
  rw [if_pos h]
  exact k
theorem iteF' {b : Bool} {p q : Prop} (h : b = false) (k : q) : if b = true then p else q := by
  rw [if_neg (by rw [h]; exact Bool.false_ne_true)]
  exact k
section
variable {P : Program} {w : World} {K : PySem.W.Frag} {mg : Str → Option Value} {base : Heap} {cP cG cT : Addr} {f : Addr} {fd : FuncData} (T : Txt K w mg cP cG cT)
include T
theorem so_step {n : Nat} {C_law_so : Cal P w K mg base "_law_so" n ["lines", "here", "held", "ring"] (spSo n)} (F : FnP K "_law_so" "_law_so" s_law_so f fd) : FnOk P w K mg base CX0 (n + 1) f fd ["lines", "here", "held", "ring"] (spSo (n + 1)) := by
  refine okN F sc_law_so (fun vs H Q E h => ?_) (fun cdv A outer s H vs Q E hr h => ?_)
  · obtain ⟨a, t, g, i, xs, rs, tvs, ring, tr, rfl, _⟩ := h
    rfl
  · obtain ⟨a, t, g, i, xs, rs, tvs, ring, tr, rfl, ha, hrs, ok, hin, hil, ht, htr, hg, q⟩ := h
    refine ⟨_, (pss_cons (ps_set (i := 4) sc_law_so.nd rfl (Or.inl rfl) (pe_ix (ixT K) (pv 0) (pv 1) (fun _ _ => rfl)))
      (pss_cons (ps_if (pt_cmpR op_eq (pe_ix (ixT K) (pv 4) pe_int (fun _ _ => rfl)) pe_str (nomark _)) (pss_one (ps_ret (pe_and (pe_cmpR op_lt (pe_ix (ixT K) (pv 4) pe_int (fun _ _ => rfl)) (pe_callB (lenS K) (by rfl) T.len_ b_len (pa_cons (pv 3) pa_nil)) (nomark _)) (pe_one (pe_cmpR op_eq (pe_ix (ixT K) (pv 3) (pe_ix (ixT K) (pv 4) pe_int (fun _ _ => rfl)) (fun _ _ => rfl)) (pe_ix (ixT K) (pv 4) pe_int (fun _ _ => rfl)) (nomark _)))))) pss_nil)
      (pss_cons (ps_if (pt_cmpR (inS K) (pe_ix (ixT K) (pv 4) pe_int (fun _ _ => rfl)) (pe_tup (pa_cons pe_str (pa_cons pe_str pa_nil))) rfl) (pss_one (ps_ret (pe_and (pe_cmpR op_eq (pe_ix (ixT K) (pv 4) pe_int (fun _ _ => rfl)) pe_str (nomark _)) (pe_one (pe_dget (hu_of hr) (pv 2) (pv 1) (fun _ _ => rfl)))))) pss_nil)
      (pss_cons (ps_set (i := 5) sc_law_so.nd rfl (Or.inl rfl) (pe_calS C_law_so hr (pa_cons (pv 0) (pa_cons (pe_ix (ixT K) (pv 4) pe_int (fun _ _ => rfl)) (pa_cons (pv 2) (pa_cons (pv 3) pa_nil))))))
      (pss_cons (ps_if (pt_cmpR op_eq (pe_ix (ixT K) (pv 4) pe_int (fun _ _ => rfl)) pe_str (nomark _)) (pss_one (ps_ret (pe_not (pv 5)))) pss_nil)
      (pss_cons (ps_if (pt_cmpR op_eq (pe_ix (ixT K) (pv 4) pe_int (fun _ _ => rfl)) pe_str (nomark _)) (pss_one (ps_ret (pe_and (pv 5) (pe_one (pe_calS C_law_so hr (pa_cons (pv 0) (pa_cons (pe_ix (ixT K) (pv 4) pe_int (fun _ _ => rfl)) (pa_cons (pv 2) (pa_cons (pv 3) pa_nil))))))))) pss_nil)
      (pss_one (ps_ret (pe_or (pv 5) (pe_one (pe_calS C_law_so hr (pa_cons (pv 0) (pa_cons (pe_ix (ixT K) (pv 4) pe_int (fun _ _ => rfl)) (pa_cons (pv 2) (pa_cons (pv 3) pa_nil))))))))))))))), ?_⟩
    have hri : rs[i]? = some rs[i] := List.getElem?_eq_getElem hil
    obtain ⟨ra, hra, har⟩ := hrs.get' hri
    refine ⟨_, rfl, _, rfl, a, xs, _, _, rfl, rfl, .inl (.inl ha), atI_nat hra, ?_⟩
    rw [hold_eq ok hri] at q
    have okr := ok i _ hri
    have sub : ∀ j ∈ rs[i].refs, ∀ x, Rch rs [j] x → shAt rs x = true → valV tvs (kN x) = some (.bl (tr x)) := fun j hj x hx hs => htr x (rch_sub hri hj hx) hs
    have shi : rs[i].isSh = true → valV tvs (kN i) = some (.bl (tr i)) := fun h => htr i (.pick (by simp)) (by unfold shAt; rw [hri]; exact h)
    generalize rs[i] = r at hri har q okr sub shi
    cases r with
    | fl =>
      refine ⟨_, rfl, ra, _, _, (.str "false"), rfl, rfl, .inl (.inl har), atI_nat (j := 0) rfl, rfl, _, rfl, ?_⟩
      refine ifF (str_ne (a := "false") (by decide)) ?_
      refine ⟨_, rfl, ra, _, _, (.str "false"), rfl, rfl, .inl (.inl har), atI_nat (j := 0) rfl, (by show 2 ≤ sizeLine; decide), fun D nD => ?_⟩
      have sN := same_new (o := .tup [.str "false", .str "shown"]) nD
      have har2 := sN _ _ har
      have ha2 := sN _ _ ha
      have hrs2 := hrs.mono sN
      have ht2 := same_rd sN ht
      have hg2 := sN _ _ hg
      refine ⟨D, _, rfl, .inr (.inl (.inl upd_same)), rfl, rfl, _, rfl, ?_⟩
      have eI : inV (.str "false") [V.str "false", .str "shown"] = true := by decide +kernel
      refine iteT' eI ?_
      refine ⟨_, rfl, ra, _, _, (.str "false"), rfl, rfl, .inl (.inl har2), atI_nat (j := 0) rfl, rfl, _, rfl, ?_⟩
      refine ifF (str_ne (a := "false") (by decide)) ?_
      exact q _ sN
    | sh m j =>
      refine ⟨_, rfl, ra, _, _, (.str "shown"), rfl, rfl, .inl (.inl har), atI_nat (j := 0) rfl, rfl, _, rfl, ?_⟩
      refine ifF (str_ne (a := "shown") (by decide)) ?_
      refine ⟨_, rfl, ra, _, _, (.str "shown"), rfl, rfl, .inl (.inl har), atI_nat (j := 0) rfl, (by show 2 ≤ sizeLine; decide), fun D nD => ?_⟩
      have sN := same_new (o := .tup [.str "false", .str "shown"]) nD
      have har2 := sN _ _ har
      have ha2 := sN _ _ ha
      have hrs2 := hrs.mono sN
      have ht2 := same_rd sN ht
      have hg2 := sN _ _ hg
      refine ⟨D, _, rfl, .inr (.inl (.inl upd_same)), rfl, rfl, _, rfl, ?_⟩
      have eI : inV (.str "shown") [V.str "false", .str "shown"] = true := by decide +kernel
      refine iteT' eI ?_
      refine ⟨_, rfl, ra, _, _, (.str "shown"), rfl, rfl, .inl (.inl har2), atI_nat (j := 0) rfl, rfl, _, rfl, ?_⟩
      refine ifT rfl ?_
      exact ⟨_, rfl, _, rfl, t, _, rfl, dget ht2 (shi rfl), q _ sN⟩
    | ng j =>
      refine ⟨_, rfl, ra, _, _, (.str "not"), rfl, rfl, .inl (.inl har), atI_nat (j := 0) rfl, rfl, _, rfl, ?_⟩
      refine ifF (str_ne (a := "not") (by decide)) ?_
      refine ⟨_, rfl, ra, _, _, (.str "not"), rfl, rfl, .inl (.inl har), atI_nat (j := 0) rfl, (by show 2 ≤ sizeLine; decide), fun D nD => ?_⟩
      have sN := same_new (o := .tup [.str "false", .str "shown"]) nD
      have har2 := sN _ _ har
      have ha2 := sN _ _ ha
      have hrs2 := hrs.mono sN
      have ht2 := same_rd sN ht
      have hg2 := sN _ _ hg
      refine ⟨D, _, rfl, .inr (.inl (.inl upd_same)), rfl, rfl, _, rfl, ?_⟩
      have eI : inV (.str "not") [V.str "false", .str "shown"] = false := by decide +kernel
      refine iteF' eI ?_
      have hj : j < i := okr
      refine ⟨_, rfl, _, rfl, ra, _, _, nV j, rfl, rfl, .inl (.inl har2), atI_nat (j := 1) rfl, _, rfl, _, rfl, ?_⟩
      refine ⟨a, t, g, j, xs, rs, tvs, ring, tr, rfl, ha2, hrs2, ok, by omega, by omega, ht2, sub j (by simp [Rw.refs]), hg2, fun H2 s2 => ?_⟩
      have har3 := s2 _ _ har2
      have sA := sN.trans s2
      refine ⟨_, rfl, ra, _, _, (.str "not"), rfl, rfl, .inl (.inl har3), atI_nat (j := 0) rfl, rfl, _, rfl, ?_⟩
      refine ifT rfl ?_
      exact ⟨_, rfl, _, rfl, q _ sA⟩
    | cj j l =>
      refine ⟨_, rfl, ra, _, _, (.str "and"), rfl, rfl, .inl (.inl har), atI_nat (j := 0) rfl, rfl, _, rfl, ?_⟩
      refine ifF (str_ne (a := "and") (by decide)) ?_
      refine ⟨_, rfl, ra, _, _, (.str "and"), rfl, rfl, .inl (.inl har), atI_nat (j := 0) rfl, (by show 2 ≤ sizeLine; decide), fun D nD => ?_⟩
      have sN := same_new (o := .tup [.str "false", .str "shown"]) nD
      have har2 := sN _ _ har
      have ha2 := sN _ _ ha
      have hrs2 := hrs.mono sN
      have ht2 := same_rd sN ht
      have hg2 := sN _ _ hg
      refine ⟨D, _, rfl, .inr (.inl (.inl upd_same)), rfl, rfl, _, rfl, ?_⟩
      have eI : inV (.str "and") [V.str "false", .str "shown"] = false := by decide +kernel
      refine iteF' eI ?_
      obtain ⟨hj, hl⟩ : j < i ∧ l < i := okr
      refine ⟨_, rfl, _, rfl, ra, _, _, nV j, rfl, rfl, .inl (.inl har2), atI_nat (j := 1) rfl, _, rfl, _, rfl, ?_⟩
      refine ⟨a, t, g, j, xs, rs, tvs, ring, tr, rfl, ha2, hrs2, ok, by omega, by omega, ht2, sub j (by simp [Rw.refs]), hg2, fun H2 s2 => ?_⟩
      have har3 := s2 _ _ har2
      have sA := sN.trans s2
      refine ⟨_, rfl, ra, _, _, (.str "and"), rfl, rfl, .inl (.inl har3), atI_nat (j := 0) rfl, rfl, _, rfl, ?_⟩
      refine ifF (str_ne (a := "and") (by decide)) ?_
      refine ⟨_, rfl, ra, _, _, (.str "and"), rfl, rfl, .inl (.inl har3), atI_nat (j := 0) rfl, rfl, _, rfl, ?_⟩
      refine ifT rfl ?_
      simp only [Rw.val] at q
      refine ⟨_, rfl, _, rfl, ?_⟩
      cases h : hold rs tr ring j with
      | false =>
        rw [h] at q
        exact iteF (q _ sA)
      | true =>
        rw [h] at q
        refine iteT ?_
        refine ⟨_, rfl, _, rfl, ra, _, _, nV l, rfl, rfl, .inl (.inl har3), atI_nat (j := 2) rfl, _, rfl, _, rfl, ?_⟩
        exact ⟨a, t, g, l, xs, rs, tvs, ring, tr, rfl, s2 _ _ ha2, hrs2.mono s2, ok, by omega, by omega, same_rd s2 ht2, sub l (by simp [Rw.refs]), s2 _ _ hg2, fun H3 s3 => q _ (sA.trans s3)⟩
    | dj j l =>
      refine ⟨_, rfl, ra, _, _, (.str "or"), rfl, rfl, .inl (.inl har), atI_nat (j := 0) rfl, rfl, _, rfl, ?_⟩
      refine ifF (str_ne (a := "or") (by decide)) ?_
      refine ⟨_, rfl, ra, _, _, (.str "or"), rfl, rfl, .inl (.inl har), atI_nat (j := 0) rfl, (by show 2 ≤ sizeLine; decide), fun D nD => ?_⟩
      have sN := same_new (o := .tup [.str "false", .str "shown"]) nD
      have har2 := sN _ _ har
      have ha2 := sN _ _ ha
      have hrs2 := hrs.mono sN
      have ht2 := same_rd sN ht
      have hg2 := sN _ _ hg
      refine ⟨D, _, rfl, .inr (.inl (.inl upd_same)), rfl, rfl, _, rfl, ?_⟩
      have eI : inV (.str "or") [V.str "false", .str "shown"] = false := by decide +kernel
      refine iteF' eI ?_
      obtain ⟨hj, hl⟩ : j < i ∧ l < i := okr
      refine ⟨_, rfl, _, rfl, ra, _, _, nV j, rfl, rfl, .inl (.inl har2), atI_nat (j := 1) rfl, _, rfl, _, rfl, ?_⟩
      refine ⟨a, t, g, j, xs, rs, tvs, ring, tr, rfl, ha2, hrs2, ok, by omega, by omega, ht2, sub j (by simp [Rw.refs]), hg2, fun H2 s2 => ?_⟩
      have har3 := s2 _ _ har2
      have sA := sN.trans s2
      refine ⟨_, rfl, ra, _, _, (.str "or"), rfl, rfl, .inl (.inl har3), atI_nat (j := 0) rfl, rfl, _, rfl, ?_⟩
      refine ifF (str_ne (a := "or") (by decide)) ?_
      refine ⟨_, rfl, ra, _, _, (.str "or"), rfl, rfl, .inl (.inl har3), atI_nat (j := 0) rfl, rfl, _, rfl, ?_⟩
      refine ifF (str_ne (a := "or") (by decide)) ?_
      simp only [Rw.val] at q
      refine ⟨_, rfl, _, rfl, ?_⟩
      cases h : hold rs tr ring j with
      | true =>
        rw [h] at q
        exact iteT (q _ sA)
      | false =>
        rw [h] at q
        refine iteF ?_
        refine ⟨_, rfl, _, rfl, ra, _, _, nV l, rfl, rfl, .inl (.inl har3), atI_nat (j := 2) rfl, _, rfl, _, rfl, ?_⟩
        exact ⟨a, t, g, l, xs, rs, tvs, ring, tr, rfl, s2 _ _ ha2, hrs2.mono s2, ok, by omega, by omega, same_rd s2 ht2, sub l (by simp [Rw.refs]), s2 _ _ hg2, fun H3 s3 => q _ (sA.trans s3)⟩
    | ds m y =>
      refine ⟨_, rfl, ra, _, _, (.str "does"), rfl, rfl, .inl (.inl har), atI_nat (j := 0) rfl, rfl, _, rfl, ?_⟩
      refine ifT rfl ?_
      refine ⟨_, rfl, ra, _, _, nV m, rfl, rfl, .inl (.inl har), atI_nat (j := 1) rfl, ?_⟩
      refine ⟨_, rfl, g, _, rfl, .inr (.inl (.inl hg)), _, _, rfl, rfl, _, rfl, ?_⟩
      have q := q _ (fun _ _ e => e)
      simp only [Rw.val] at q
      rw [List.length_map]
      by_cases hm : m < ring.length
      · refine ifT (by omega) ?_
        refine ⟨_, rfl, _, rfl, ra, _, _, nV m, rfl, rfl, .inl (.inl har), atI_nat (j := 1) rfl, ?_⟩
        refine ⟨g, _, _, .str ring[m], rfl, rfl, .inl (.inl hg), atI_nat (by rw [List.getElem?_map, List.getElem?_eq_getElem hm]; rfl), ?_⟩
        refine ⟨_, rfl, ra, _, _, (.str y), rfl, rfl, .inl (.inl har), atI_nat (j := 2) rfl, ?_⟩
        refine ⟨rfl, ?_⟩
        have e : decide (V.str ring[m] = V.str y) = decide (ring[m]? = some y) := by
          rw [List.getElem?_eq_getElem hm]
          rw [Bool.eq_iff_iff]
          simp
        rw [e]
        exact q
      · refine ifF (by omega) ?_
        rw [List.getElem?_eq_none (by omega)] at q
        exact q
theorem ok_law_so (F : FnP K "_law_so" "_law_so" s_law_so f fd) (gl : mg "_law_so" = some (.ref f)) (kp : PySem.W.keepIn K (.ref f) = true) (bn : Binds K fd ["lines", "here", "held", "ring"] []) : ∀ n, FnOk P w K mg base CX0 n f fd ["lines", "here", "held", "ring"] (spSo n)
  | 0 => ⟨fun vs H Q E h => by
      obtain ⟨a, t, g, i, xs, rs, tvs, ring, tr, rfl, _⟩ := h
      rfl, fun A outer s H args us vs Q E hr he hb hv hs => by
      obtain ⟨a, t, g, i, xs, rs, tvs, ring, tr, rfl, _, _, _, h, _⟩ := hs
      omega⟩
  | n + 1 => so_step T (C_law_so := ⟨f, fd, gl, kp, bn, ok_law_so F gl kp bn n⟩) F
end
end Lk

set_option maxHeartbeats 4000000
namespace Lk
open PySem PySem.Spec PyProof.Rows L2
def spDoneL : Sp := fun vs H Q _ => ∃ (a t : Addr) (L : Pl) (tvs : List (Key × V)) (tr : Nat → Bool), vs = [.ref a, .ref t] ∧ PartsAt H a L ∧ L.Ok ∧ Rd H t (.dK tvs) ∧ (∀ i ∈ L.marks, valV tvs (kN i) = some (.bl (tr i))) ∧ ∀ H', Same H H' → Q (.str (L.does tr)) H'
def spOnL : Sp := fun vs H Q _ => ∃ (a t g : Addr) (n : Nat) (L : Pl) (tr : Nat → Bool) (ring : List Str), vs = [.ref a, .ref t, nV n, .ref g] ∧ PartsAt H a L ∧ L.Ok ∧ H t = some (.dK (trE L tr)) ∧ H g = some (.tup (ring.map V.str)) ∧
  ∀ p H', Same H H' → H p = none → H' p = some (.dK (trE L (L.later tr n ring))) → Q (.ref p) H'
theorem mark_so {L : Pl} (ok : L.Ok) {i j : Nat} (hi : i ∈ L.cone) (h : Rch L.rows [i] j) (hs : shAt L.rows j = true) : j ∈ L.marks := by
  have hr := rch_of (mem_cone.mp hi).2 h
  exact mem_marks.mpr ⟨mem_cone.mpr ⟨rch_lt ok.rows (fun p hp => (ok.pk p hp).1) hr, hr⟩, hs⟩
section
variable {P : Program} {w : World} {K : PySem.W.Frag} {mg : Str → Option Value} {base : Heap} {cP cG cT : Addr} {f : Addr} {fd : FuncData} (T : Txt K w mg cP cG cT)
include T
theorem ok_law_done {C_law_so : Cal P w K mg base "_law_so" 40 ["lines", "here", "held", "ring"] (spSo 40)} (F : FnP K "_law_done" "_law_done" s_law_done f fd) : FnOk P w K mg base CX0 41 f fd ["parts", "held"] spDoneL := by
  refine okN F sc_law_done (fun vs H Q E h => ?_) (fun cdv A outer s H vs Q E hr h => ?_)
  · obtain ⟨a, t, L, tvs, tr, rfl, _⟩ := h
    rfl
  · obtain ⟨a, t, L, tvs, tr, rfl, hp, ok, ht, htr, q⟩ := h
    obtain ⟨m, b, c, xs, h1, h2, h3, h4, h5⟩ := hp.ex
    refine ⟨_, (pss_cons (ps_for PassesOwn.never rfl (RZ.pi_zipA rfl T.zip_ (pa_cons (pe_ix (ixT K) (pv 0) pe_int (fun _ _ => rfl)) (pa_cons (pe_ix (ixT K) (pv 0) pe_int (fun _ _ => rfl)) pa_nil))) (pgT K 2 rfl (pgs_cons (pg_name (i := 2) sc_law_done.nd rfl (Or.inl rfl)) (pgs_cons (pg_name (i := 3) sc_law_done.nd rfl (Or.inl rfl)) pgs_nil))) (pss_one (ps_if (pt_val (pe_cal C_law_so hr (pa_cons (pe_ix (ixT K) (pv 0) pe_int (fun _ _ => rfl)) (pa_cons (pv 3) (pa_cons (pv 1) (pa_cons (pe_tup pa_nil) pa_nil)))))) (pss_one (ps_ret (pv 2))) pss_nil)))
      (pss_one (ps_ret (pe_ix (ixT K) (pe_ix (ixT K) (pv 0) pe_int (fun _ _ => rfl)) (pe_un un_neg pe_int) (fun _ _ => rfl))))), ?_⟩
    refine ⟨_, rfl, a, _, _, .ref m, rfl, rfl, .inl (.inl h1), atI_nat (j := 0) rfl, ?_⟩
    refine ⟨_, rfl, a, _, _, .ref c, rfl, rfl, .inl (.inl h1), atI_nat (j := 2) rfl, ?_⟩
    refine ⟨m, c, _, _, rfl, .inr ⟨.inl (.inl h2), .inl (.inl h5), ?_⟩⟩
    have hnp := ok.np
    refine for_it (walk_zipT (n := L.picks.length) (by simp; omega)) (fun i σ H' => Same H H' ∧ (∃ u v, σ = [some (.ref a), some (.ref t), u, v]) ∧ ∀ x ∈ (L.moves.zip L.picks).take i, hold L.rows tr [] x.2 = false) ⟨fun _ _ e => e, ⟨_, _, rfl⟩, fun x hx => by simp at hx⟩
      (fun i σ H' hi h => ⟨.inl (.inl (h.1 _ _ h2)), .inl (.inl (h.1 _ _ h5))⟩) (fun i x σ H3 H9 hi h y => ?_) (fun σ H3 h => ?_)
    · obtain ⟨s3, ⟨u, v, rfl⟩, hf⟩ := h
      obtain ⟨t1, u1, v1, rfl, nt1, rfl, e1, e2⟩ := y
      simp only [List.getElem?_map] at e1 e2
      obtain ⟨mv, hm, rfl⟩ := Option.map_eq_some_iff.mp e1
      obtain ⟨i', hi', rfl⟩ := Option.map_eq_some_iff.mp e2
      have s4 := s3.trans (same_new (o := .tup [.str mv, nV i']) nt1)
      refine ⟨t1, _, rfl, .inl (.inl upd_same), rfl, _, _, rfl, _, _, rfl, rfl, ?_⟩
      have hz : (L.moves.zip L.picks)[i]? = some (mv, i') := by
        rw [List.getElem?_zip_eq_some]
        exact ⟨hm, hi'⟩
      have hpi := (ok.pk i' (List.mem_of_getElem? hi')).1
      have hic : i' ∈ L.cone := mem_cone.mpr ⟨hpi, .pick (List.mem_of_getElem? hi')⟩
      refine ⟨_, rfl, a, _, _, .ref b, rfl, rfl, .inl (.inl (s4 _ _ h1)), atI_nat (j := 1) rfl, ?_⟩
      refine ⟨_, rfl, _, rfl, (by show 0 ≤ sizeLine; decide), fun g ng => ?_⟩
      have sN := same_new (o := .tup []) ng
      have s5 := s4.trans sN
      have hl := ok.len
      refine ⟨b, t, g, i', xs, L.rows, tvs, [], tr, rfl, s5 _ _ h3, h4.mono s5, ok.rows, by omega, hpi, same_rd s5 ht, fun j hj hs => htr j (mark_so ok hic hj hs), upd_same, fun H6 s6 => ?_⟩
      have s6 := s5.trans s6
      refine ⟨_, rfl, ?_⟩
      cases hh : hold L.rows tr [] i' with
      | true =>
        refine iteT ?_
        refine ⟨_, rfl, ?_⟩
        have e : L.does tr = mv := by
          unfold Pl.does pickMv
          have : (L.moves.zip L.picks).find? (fun x => hold L.rows tr [] x.2) = some (mv, i') := by
            rw [List.find?_eq_some_iff_getElem]
            obtain ⟨hz1, hz2⟩ := List.getElem?_eq_some_iff.mp hz
            refine ⟨hh, i, hz1, hz2, fun j hj => ?_⟩
            rw [hf _ (List.mem_iff_getElem?.mpr ⟨j, by rw [List.getElem?_take, if_pos hj]; exact List.getElem?_eq_getElem (by omega)⟩)]
            rfl
          rw [this]
          rfl
        have q' := q _ s6
        rw [e] at q'
        exact q'
      | false =>
        refine iteF ?_
        refine ⟨s6, ⟨_, _, rfl⟩, fun x hx => ?_⟩
        rw [List.take_add_one, hz] at hx
        rcases List.mem_append.mp hx with h | h
        · exact hf x h
        · have : x = (mv, i') := by simpa using h
          rw [this]
          exact hh
    · obtain ⟨s3, ⟨u, v, rfl⟩, hf⟩ := h
      refine ⟨_, rfl, a, _, _, .ref m, rfl, rfl, .inl (.inl (s3 _ _ h1)), atI_nat (j := 0) rfl, ?_⟩
      have hne : L.moves ≠ [] := ok.mv.ne
      refine ⟨_, rfl, m, _, _, _, rfl, rfl, .inl (.inl (s3 _ _ h2)), atI_neg V.str "" hne, ?_⟩
      have e : L.does tr = L.moves.getLastD "" := by
        unfold Pl.does pickMv
        have : (L.moves.zip L.picks).find? (fun x => hold L.rows tr [] x.2) = none := by
          rw [List.find?_eq_none]
          intro x hx
          rw [hf x]
          · exact Bool.false_ne_true
          · rw [List.take_of_length_le (by simp; omega)]
            exact hx
        rw [this]
        rfl
      have q' := q _ s3
      rw [e] at q'
      exact q'
theorem ok_law_on {C_law_so : Cal P w K mg base "_law_so" 40 ["lines", "here", "held", "ring"] (spSo 40)} (F : FnP K "_law_on" "_law_on" s_law_on f fd) : FnOk P w K mg base CX0 41 f fd ["parts", "held", "level", "ring"] spOnL := by
  refine okN F sc_law_on (fun vs H Q E h => ?_) (fun cdv A outer s H vs Q E hr h => ?_)
  · obtain ⟨a, t, g, n, L, tr, ring, rfl, _⟩ := h
    rfl
  · obtain ⟨a, t, g, n, L, tr, ring, rfl, hp, ok, ht, hg, q⟩ := h
    obtain ⟨m0, b, c, xs, h1, h2, h3, hrs, h5⟩ := hp.ex
    refine ⟨_, (pss_cons (ps_set (i := 4) sc_law_on.nd rfl (Or.inl rfl) pe_dnewK)
      (pss_cons (ps_lock (ps_for PassesOwn.never rfl (pi_keys (pv 1)) (pg_name (i := 5) sc_law_on.nd rfl (Or.inl rfl)) (pss_cons (ps_asg (pe_ix (ixT K) (pe_ix (ixT K) (pv 0) pe_int (fun _ _ => rfl)) (pv 5) (fun _ _ => rfl)) (pgT K 3 rfl (pgs_cons (pg_name (i := 6) sc_law_on.nd rfl (Or.inl rfl)) (pgs_cons (pg_name (i := 7) sc_law_on.nd rfl (Or.inl rfl)) (pgs_cons (pg_name (i := 8) sc_law_on.nd rfl (Or.inl rfl)) pgs_nil)))))
      (pss_one (ps_dput (hu_of hr) (pv 4) (pv 5) (pe_and (pe_dget (hu_of hr) (pv 1) (pv 5) (fun _ _ => rfl)) (pe_one (pe_or (pe_cmpR op_lt (pv 2) (pv 7) (nomark _)) (pe_one (pe_cal C_law_so hr (pa_cons (pe_ix (ixT K) (pv 0) pe_int (fun _ _ => rfl)) (pa_cons (pv 8) (pa_cons (pv 1) (pa_cons (pv 3) pa_nil))))))))) rfl)))))
      (pss_one (ps_ret (pv 4))))), ?_⟩
    intro D nD
    have s2 := same_new (o := .dK []) nD
    have hd2 : (upd H D (.dK [])) D = some (.dK []) := upd_same
    generalize upd H D (.dK []) = H2 at s2 hd2
    refine ⟨t, _, s2 _ _ ht, trivial, fun od => ?_⟩
    have htD : t ≠ D := ne_of_none ht nD
    have hne : ∀ {c : Addr} {xs : List V}, H c = some (.tup xs) → c ≠ t := fun hc h => by subst h; rw [ht] at hc; cases hc
    refine ⟨_, rfl, t, od, rfl, .inl ⟨_, upd_same, ?_⟩⟩
    refine for_it (walk_keys (kvs := trE L tr)) (fun i σ H' => (∀ c o, c ≠ t → H c = some o → H' c = some o) ∧ H' t = some (.frz od (.dK (trE L tr))) ∧ (∃ u1 u2 u3 u4, σ = [some (.ref a), some (.ref t), some (nV n), some (.ref g), some (.ref D), u1, u2, u3, u4]) ∧
      H' D = some (.dK ((trE L (L.later tr n ring)).take i))) ⟨fun c o hc e => by rw [upd_ne hc]; exact s2 _ _ e, upd_same, ⟨_, _, _, _, rfl⟩, by rw [upd_ne htD.symm]; exact hd2⟩ (fun i σ H' hi h => h.2.1) (fun i x σ H9 H3 hi h y => ?_) (fun σ H3 h => ?_)
    · obtain ⟨hf, ht3, ⟨u1, u2, u3, u4, rfl⟩, hd3⟩ := h
      obtain ⟨rfl, k', v', e1, rfl⟩ := y
      have e1' := e1
      unfold trE at e1'
      rw [List.getElem?_map] at e1'
      obtain ⟨m, hm, e2⟩ := Option.map_eq_some_iff.mp e1'
      cases e2
      have hmm := List.mem_of_getElem? hm
      obtain ⟨lv, j, hr', el, ej⟩ := sh_row hmm
      obtain ⟨ra, hra, har⟩ := hrs.get' hr'
      have hjc : j ∈ L.cone := by
        obtain ⟨r2, hr2, hc2⟩ := cone_closed ok.rows m (mem_marks.mp hmm).1
        rw [hr'] at hr2
        cases hr2
        exact hc2 j (by simp [Rw.refs])
      have hlen : ((trE L (L.later tr n ring)).take i).length < sizeLine := by
        rw [List.length_take]
        have := marks_len L ok.len
        unfold trE
        rw [List.length_map]
        exact sz_lt (by omega)
      have eL : L.later tr n ring m = (tr m && (decide (n < lv) || hold L.rows tr ring j)) := by
        unfold Pl.later
        rw [el, ej]
      refine ⟨_, rfl, a, _, _, .ref b, rfl, rfl, .inl (.inl (hf a _ (hne h1) h1)), atI_nat (j := 1) rfl, _, rfl, b, xs, _, _, rfl, rfl, .inl (.inl (hf b _ (hne h3) h3)), atI_nat hra, ?_⟩
      refine ⟨ra, _, rfl, .inl (.inl (hf ra _ (hne har) har)), rfl, _, _, rfl, _, _, rfl, _, _, rfl, rfl, ?_⟩
      refine ⟨_, rfl, _, rfl, t, _, rfl, dget (.inr ⟨od, ht3⟩) (trE_val hmm), _, rfl, ?_⟩
      have step : ∀ v : Bool, v = L.later tr n ring m → ∀ H4, Same H3 H4 → (∀ c o, c ≠ t → H c = some o → (upd H4 D (.dK (putK ((trE L (L.later tr n ring)).take i) (kN m) (.bl v)))) c = some o) ∧ (upd H4 D (.dK (putK ((trE L (L.later tr n ring)).take i) (kN m) (.bl v)))) t = some (.frz od (.dK (trE L tr))) ∧
          (upd H4 D (.dK (putK ((trE L (L.later tr n ring)).take i) (kN m) (.bl v)))) D = some (.dK ((trE L (L.later tr n ring)).take (i + 1))) := fun v hv H4 s4 => by
        refine ⟨fun c o hc e => ?_, ?_, ?_⟩
        · rw [upd_ne (ne_of_none e nD)]
          exact s4 _ _ (hf c o hc e)
        · rw [upd_ne htD]
          exact s4 _ _ ht3
        · rw [upd_same, hv, trE_put hm]
      cases htr : tr m with
      | false =>
        refine iteF ?_
        obtain ⟨z1, z2, z4⟩ := step false (by rw [eL, htr]; rfl) H3 (fun _ _ e => e)
        exact ⟨_, rfl, _, rfl, D, _, rfl, DPut.k (k := kN m) hd3 hlen, z1, z2, ⟨_, _, _, _, rfl⟩, z4⟩
      | true =>
        refine iteT ?_
        refine ⟨_, rfl, _, rfl, _, _, rfl, rfl, _, rfl, ?_⟩
        by_cases hn : n < lv
        · refine ifT (by omega) ?_
          obtain ⟨z1, z2, z4⟩ := step true (by rw [eL, htr, decide_eq_true hn]; rfl) H3 (fun _ _ e => e)
          exact ⟨_, rfl, _, rfl, D, _, rfl, DPut.k (k := kN m) hd3 hlen, z1, z2, ⟨_, _, _, _, rfl⟩, z4⟩
        · refine ifF (by omega) ?_
          refine ⟨_, rfl, a, _, _, .ref b, rfl, rfl, .inl (.inl (hf a _ (hne h1) h1)), atI_nat (j := 1) rfl, _, rfl, _, rfl, _, rfl, ?_⟩
          have hl := ok.len
          have hjl := (mem_cone.mp hjc).1
          have hrs3 : RowsAt H3 xs L.rows := by
            have key : ∀ {xs : List V} {rs : List Rw}, RowsAt H xs rs → RowsAt H3 xs rs := fun {ys rs} h => by
              induction h with
              | nil => exact .nil
              | cons h _ ih =>
                obtain ⟨a, e1, e2⟩ := h
                exact .cons ⟨a, e1, hf _ _ (hne e2) e2⟩ ih
            exact key hrs
          refine ⟨b, t, g, j, xs, L.rows, trE L tr, ring, tr, rfl, hf b _ (hne h3) h3, hrs3, ok.rows, by omega, hjl, .inr ⟨od, ht3⟩, fun x hx hs => trE_val (mark_so ok hjc hx hs), hf g _ (hne hg) hg, fun H4 s4 => ?_⟩
          obtain ⟨z1, z2, z4⟩ := step (hold L.rows tr ring j) (by rw [eL, htr, decide_eq_false hn]; rfl) H4 s4
          exact ⟨_, rfl, _, rfl, D, _, rfl, DPut.k (k := kN m) (s4 _ _ hd3) hlen, z1, z2, ⟨_, _, _, _, rfl⟩, z4⟩
    · obtain ⟨hf, ht3, ⟨u1, u2, u3, u4, rfl⟩, hd3⟩ := h
      refine ⟨ht3, _, rfl, ?_⟩
      refine q D _ (fun c o e => ?_) nD ?_
      · by_cases hc : c = t
        · subst hc
          rw [ht] at e
          cases e
          exact upd_same
        · rw [upd_ne hc]
          exact hf c o hc e
      · rw [upd_ne htD.symm, hd3, List.take_of_length_le (by unfold trE; simp)]
end
end Lk

set_option maxHeartbeats 4000000
namespace Lk
open PySem PySem.Spec PyProof.Rows L2
theorem in_nats (k : Nat) (ks : List Nat) : inV (nV k) (ks.map nV) = decide (k ∈ ks) := by
  rw [Bool.eq_iff_iff]
  simp only [inV, List.any_eq_true, List.mem_map, decide_eq_true_eq]
  constructor
  · rintro ⟨x, ⟨y, hy, rfl⟩, e⟩
    have e : (((y : Nat) : Int) == ((k : Nat) : Int)) = true := e
    have e := eq_of_beq e
    have : y = k := by omega
    exact this ▸ hy
  · intro h
    exact ⟨_, ⟨k, h, rfl⟩, show (((k : Nat) : Int) == ((k : Nat) : Int)) = true from beq_self_eq_true _⟩
theorem flat_nats (ms : List Nat) : (ms.map nV).all flatV = true := by
  rw [List.all_eq_true]
  intro x hx
  obtain ⟨y, _, rfl⟩ := List.mem_map.mp hx
  rfl
theorem scal_nats (ms : List Nat) : (ms.map nV).all scalV = true := by
  rw [List.all_eq_true]
  intro x hx
  obtain ⟨y, _, rfl⟩ := List.mem_map.mp hx
  rfl
theorem shp_scal {xs : List V} (h : xs.all scalV = true) : SeqAt.shaped (.list (xs.map vD)) = true := by
  obtain ⟨h1, h2⟩ := shp_all xs h
  simp [SeqAt.shaped, PyData.canLay0, PyData.depth, h1, h2]
/-- while some are left: met so far, left -/
structure Mk (L : Pl) (mt lf : List Nat) : Prop where
  nd : mt.Nodup
  ins : ∀ k, k ∈ mt ∨ k ∈ lf → k < L.rows.length ∧ Rch L.rows L.picks k
  pk : ∀ p ∈ L.picks, p ∈ mt ∨ p ∈ lf
  cl : ∀ k ∈ mt, ∀ r, L.rows[k]? = some r → ∀ j ∈ r.refs, j ∈ mt ∨ j ∈ lf
  few : lf.length + 3 * (L.rows.length - mt.length) ≤ 200
  fit : mt.length ≤ L.rows.length
theorem mk_len {L : Pl} {mt lf : List Nat} (h : Mk L mt lf) : mt.length ≤ L.rows.length := h.fit
theorem mk_zero {L : Pl} (ok : L.Ok) : Mk L [] L.picks := by
  refine ⟨List.nodup_nil, fun k h => ?_, fun p h => .inr h, (fun k h => nomatch h), ?_, Nat.zero_le _⟩
  · rcases h with h | h
    · cases h
    · exact ⟨(ok.pk k h).1, .pick h⟩
  · have := ok.len
    have := ok.np
    have := ok.mv.few
    simp
    omega
theorem mk_old {L : Pl} {mt lf : List Nat} {k : Nat} (h : Mk L mt (lf ++ [k])) (hk : k ∈ mt) : Mk L mt lf := by
  obtain ⟨h1, h2, h3, h4, h5, h6⟩ := h
  have red : ∀ {x}, (x ∈ mt ∨ x ∈ lf ++ [k]) → (x ∈ mt ∨ x ∈ lf) := fun {x} h => by
    rcases h with h | h
    · exact .inl h
    · rcases List.mem_append.mp h with h | h
      · exact .inr h
      · rw [List.mem_singleton.mp h]; exact .inl hk
  refine ⟨h1, fun x h => h2 x (h.imp id (List.mem_append_left _)), fun p hp => red (h3 p hp), fun x hx r e j hj => red (h4 x hx r e j hj), ?_, h6⟩
  rw [List.length_append] at h5
  simp at h5
  omega
theorem mk_new {L : Pl} {mt lf : List Nat} {k : Nat} {r : Rw} (ok : RowsOk L.rows) (h : Mk L mt (lf ++ [k])) (hk : k ∉ mt) (e : L.rows[k]? = some r) : Mk L (mt ++ [k]) (lf ++ r.refs) ∧ (lf ++ r.refs).length + 3 * (L.rows.length - (mt ++ [k]).length) < (lf ++ [k]).length + 3 * (L.rows.length - mt.length) := by
  obtain ⟨h1, h2, h3, h4, h5, h6⟩ := h
  have hr : r.refs.length ≤ 2 := by cases r <;> simp [Rw.refs]
  have hkn := h2 k (.inr (by simp))
  have nd : (mt ++ [k]).Nodup := by
    rw [List.nodup_append]
    refine ⟨h1, by simp, fun a ha b hb e => ?_⟩
    have : b = k := by simpa using hb
    exact hk (this ▸ e ▸ ha)
  have hmt : (mt ++ [k]).length ≤ L.rows.length := nd_len _ _ nd fun x hx => by
    rcases List.mem_append.mp hx with hx | hx
    · exact (h2 x (.inl hx)).1
    · rw [List.mem_singleton.mp hx]; exact hkn.1
  have red : ∀ {x}, (x ∈ mt ∨ x ∈ lf ++ [k]) → (x ∈ mt ++ [k] ∨ x ∈ lf ++ r.refs) := fun {x} h => by
    rcases h with h | h
    · exact .inl (List.mem_append_left _ h)
    · rcases List.mem_append.mp h with h | h
      · exact .inr (List.mem_append_left _ h)
      · exact .inl (List.mem_append_right _ h)
  have lt : (lf ++ r.refs).length + 3 * (L.rows.length - (mt ++ [k]).length) < (lf ++ [k]).length + 3 * (L.rows.length - mt.length) := by
    rw [List.length_append] at hmt ⊢
    rw [List.length_append, List.length_append]
    simp at hmt ⊢
    omega
  refine ⟨⟨nd, fun x h => ?_, fun p hp => red (h3 p hp), fun x hx r' e' j hj => ?_, by omega, hmt⟩, lt⟩
  · rcases h with h | h
    · rcases List.mem_append.mp h with h | h
      · exact h2 x (.inl h)
      · rw [List.mem_singleton.mp h]; exact hkn
    · rcases List.mem_append.mp h with h | h
      · exact h2 x (.inr (List.mem_append_left _ h))
      · have := (ok k r e).refs h
        exact ⟨by omega, .ref hkn.2 e h⟩
  · rcases List.mem_append.mp hx with hx | hx
    · exact red (h4 x hx r' e' j hj)
    · rw [List.mem_singleton.mp hx] at e'
      rw [e] at e'
      cases e'
      exact .inr (List.mem_append_right _ hj)
theorem mk_end {L : Pl} {mt : List Nat} {ys : List Int} (ok : L.Ok) (h : Mk L mt []) (pm : ys.Perm (mt.map fun i => ((i : Nat) : Int))) (so : ys.Pairwise (· ≤ ·)) : ys = L.cone.map fun i => ((i : Nat) : Int) :=
  cone_eq ok.rows (fun p hp => (ok.pk p hp).1) (fun p hp => (h.pk p hp).elim id fun h => nomatch h) (fun k hk => h.ins k (.inl hk)) (fun k hk r e j hj => (h.cl k hk r e j hj).elim id fun h => nomatch h) h.nd pm so
def spMarksL : Sp := fun vs H Q _ => ∃ (a : Addr) (L : Pl), vs = [.ref a] ∧ PartsAt H a L ∧ L.Ok ∧ ∀ l H', Same H H' → H l = none → H' l = some (.lst (L.marks.map nV)) → Q (.ref l) H'
section
variable {P : Program} {w : World} {K : PySem.W.Frag} {mg : Str → Option Value} {base : Heap} {cP cG cT : Addr} {f : Addr} {fd : FuncData} (T : Txt K w mg cP cG cT)
include T
theorem ok_law_marks (F : FnP K "_law_marks" "_law_marks" s_law_marks f fd) : FnOk P w K mg base CX0 1 f fd ["parts"] spMarksL := by
  refine okN F sc_law_marks (fun vs H Q E h => ?_) (fun cdv A outer s H vs Q E hr h => ?_)
  · obtain ⟨a, L, rfl, _⟩ := h
    rfl
  · obtain ⟨a, L, rfl, hp, ok, q⟩ := h
    obtain ⟨m0, b, c, xs, h1, h2, h3, hrs, h5⟩ := hp.ex
    refine ⟨_, (pss_cons (ps_asg (pe_tup (pa_cons (pe_ix (ixT K) (pv 0) pe_int (fun _ _ => rfl)) (pa_cons (pe_lst pa_nil) (pa_cons (pe_callTy (lstS K) (by rfl) T.list_ b_list (pa_cons (pe_ix (ixT K) (pv 0) pe_int (fun _ _ => rfl)) pa_nil)) pa_nil)))) (pgT K 3 rfl (pgs_cons (pg_name (i := 1) sc_law_marks.nd rfl (Or.inr rfl)) (pgs_cons (pg_name (i := 2) sc_law_marks.nd rfl (Or.inl rfl)) (pgs_cons (pg_name (i := 3) sc_law_marks.nd rfl (Or.inl rfl)) pgs_nil)))))
      (pss_cons (ps_while PassesOwn.never (pt_cmpR (op_neD hr.units) (pv 3) (pe_lst pa_nil) (nomark _)) (pss_cons (ps_set (i := 4) sc_law_marks.nd rfl (Or.inl rfl) (pe_bm0 PySem.F.plainAttrs_list PySem.F.slot_list_pop PySem.F.type_list_pop mt_pop (pv 3)))
      (pss_one (ps_if (pt_cmpR (notInS K) (pv 4) (pv 2) rfl) (pss_cons (ps_expr (pe_bm PySem.F.plainAttrs_list PySem.F.slot_list_append PySem.F.type_list_append mt_append (pv 2) (pa_cons (pv 4) pa_nil)))
      (pss_cons (ps_if (pt_cmpR (inS K) (pe_ix (ixT K) (pe_ix (ixT K) (pv 1) (pv 4) (fun _ _ => rfl)) pe_int (fun _ _ => rfl)) (pe_tup (pa_cons pe_str (pa_cons pe_str (pa_cons pe_str pa_nil)))) rfl) (pss_one (ps_set (i := 3) sc_law_marks.nd rfl (Or.inl rfl) (pe_op op_cat (pv 3) (pe_callTy (lstS K) (by rfl) T.list_ b_list (pa_cons (pe_slice (slT K) (pe_ix (ixT K) (pv 1) (pv 4) (fun _ _ => rfl)) (po_some pe_int) po_none) pa_nil))))) pss_nil)
      (pss_one (ps_if (pt_cmpR op_eq (pe_ix (ixT K) (pe_ix (ixT K) (pv 1) (pv 4) (fun _ _ => rfl)) pe_int (fun _ _ => rfl)) pe_str (nomark _)) (pss_one (ps_expr (pe_bm PySem.F.plainAttrs_list PySem.F.slot_list_append PySem.F.type_list_append mt_append (pv 3) (pa_cons (pe_ix (ixT K) (pe_ix (ixT K) (pv 1) (pv 4) (fun _ _ => rfl)) pe_int (fun _ _ => rfl)) pa_nil)))) pss_nil)))) pss_nil))))
      (pss_one (ps_ret (pe_lc (own := [("here", 4)]) rfl sc_law_marks.nd (pi_sq (pe_callB cr_sorted (by rfl) T.sorted_ b_sorted (pa_cons (pv 2) pa_nil))) (blkOk_by (own := [("here", 4)]) (N := ["parts", "lines", "met", "left", "here"]) (sc := defScope s_law_marks) (by decide +kernel)) (fun _ _ _ _ _ => pg_name (i := 4) sc_law_marks.nd rfl (Or.inl rfl)) (fun _ _ _ _ _ => pts_one (pt_cmpR op_eq (pe_ix (ixT K) (pe_ix (ixT K) (pv 1) (pv 4) (fun _ _ => rfl)) pe_int (fun _ _ => rfl)) pe_str (nomark _))) (fun _ _ _ _ _ => (pv 4))))))), ?_⟩
    refine ⟨_, rfl, a, _, _, .ref b, rfl, rfl, .inl (.inl h1), atI_nat (j := 1) rfl, (by show 0 ≤ sizeLine; decide), fun M nM => ?_⟩
    have s1 := same_new (o := .lst []) nM
    have gM : (upd H M (.lst [])) M = some (.lst []) := upd_same
    refine ⟨_, rfl, a, _, _, .ref c, rfl, rfl, .inl (.inl (s1 _ _ h1)), atI_nat (j := 2) rfl, c, _, rfl, .inr (.inl (.inl (s1 _ _ h5))), fun F0 nF => ⟨(by show 3 ≤ sizeLine; decide), fun t nt => ?_⟩⟩
    have s2 := same_new (o := .lst (L.picks.map nV)) nF
    have gF : (upd (upd H M (.lst [])) F0 (.lst (L.picks.map nV))) F0 = some (.lst (L.picks.map nV)) := upd_same
    have gM := s2 _ _ gM
    have nF0 := none_of s1 nF
    have neM : F0 ≠ M := fun e => by subst e; rw [upd_same] at nF; cases nF
    have s12 := s1.trans s2
    generalize upd (upd H M (.lst [])) F0 (.lst (L.picks.map nV)) = H2 at s12 gF gM nt
    have s3 := same_new (o := .tup [.ref b, .ref M, .ref F0]) nt
    refine ⟨t, _, rfl, .inl (.inl upd_same), rfl, _, _, rfl, _, _, rfl, _, _, rfl, rfl, ?_⟩
    have gM := s3 _ _ gM
    have gF := s3 _ _ gF
    have s13 := s12.trans s3
    generalize upd H2 t (.tup [.ref b, .ref M, .ref F0]) = H3 at s13 gF gM
    clear s1 s2 s3 s12 nt nF
    have hrl := ok.len
    refine ⟨fun mm σ H' => Same H H' ∧ ∃ Lf u mt lf, Lf ≠ M ∧ H Lf = none ∧ σ = [some (.ref a), some (.ref b), some (.ref M), some (.ref Lf), u] ∧ H' M = some (.lst (mt.map nV)) ∧ H' Lf = some (.lst (lf.map nV)) ∧ Mk L mt lf ∧ mm = lf.length + 3 * (L.rows.length - mt.length),
      ⟨_, s13, F0, _, [], L.picks, neM, nF0, rfl, gM, gF, mk_zero ok, rfl⟩, ?_⟩
    rintro mm σ H4 ⟨s4, Lf, u, mt, lf, hne, nL, rfl, gM4, gF4, mk, rfl⟩
    refine ⟨_, rfl, (by show 0 ≤ sizeLine; decide), fun t nt => ?_⟩
    have sN := same_new (o := .lst []) nt
    refine ⟨_, _, .lst (.inl (.inl (sN _ _ gF4))) (dp_all _ (scal_nats lf)), .lst (.inl (.inl upd_same)) .nil, shp_scal (scal_nats lf), shp_scal (xs := []) rfl, ?_⟩
    have gM4 := sN _ _ gM4
    have gF4 := sN _ _ gF4
    have s4 := s4.trans sN
    generalize upd H4 t (.lst []) = H5 at s4 gM4 gF4
    clear sN
    rcases List.eq_nil_or_concat lf with rfl | ⟨lf', k, rfl⟩
    · refine ⟨false, by simp [PyData.eqv, PyData.eqvAll], ?_⟩
      refine iteF ?_
      have eI : mt.map nV = (mt.map fun i => ((i : Nat) : Int)).map V.int := by rw [List.map_map]; rfl
      have hfit := mk.fit
      refine ⟨_, rfl, M, _, rfl, .inl (.inl (by rw [gM4, eI])), by rw [List.length_map]; omega, fun ns' p pm so np => ?_⟩
      have e2 := mk_end ok mk pm so
      subst e2
      have e3 : (L.cone.map fun i => ((i : Nat) : Int)).map V.int = L.cone.map nV := by rw [List.map_map]; rfl
      rw [e3]
      have s5 := s4.trans (same_new (o := .lst (L.cone.map nV)) np)
      have gp : (upd H5 p (.lst (L.cone.map nV))) p = some (.lst (L.cone.map nV)) := upd_same
      generalize upd H5 p (.lst (L.cone.map nV)) = H6 at s5 gp
      refine ⟨p, _, rfl, .inl gp, fun J hJ D hD => ?_⟩
      refine lcW_fm hJ (fun i => (L.cone[i]?).bind fun j => if shAt L.rows j then some (nV j) else none) hD (by have := cone_len L hrl; simp; omega) (fun H2 s2 => same_of s2 (.inl gp)) (fun i x H9 H2 hi s2 y K1 K0 k1 k0 => ?_) (fun H2 s2 e => ?_)
      · obtain ⟨rfl, hx⟩ := y
        rw [List.getElem?_map] at hx
        obtain ⟨j, hj, rfl⟩ := Option.map_eq_some_iff.mp hx
        have hjl := cone_lt (List.mem_of_getElem? hj)
        obtain ⟨r, hr'⟩ : ∃ r, L.rows[j]? = some r := ⟨_, List.getElem?_eq_getElem hjl⟩
        obtain ⟨ra, hra, har⟩ := hrs.get' hr'
        have s6 := s5.trans s2
        refine ⟨rfl, ?_⟩
        refine ⟨_, rfl, _, rfl, b, xs, _, _, rfl, rfl, .inl (.inl (s6 _ _ h3)), atI_nat hra, ra, _, _, .str r.word, rfl, rfl, .inl (.inl (s6 _ _ har)), atI_nat (j := 0) rfl, ?_⟩
        refine ⟨rfl, _, rfl, ?_⟩
        show if decide (V.str r.word = V.str "shown") = true then _ else _
        rw [sh_word]
        have eS : shAt L.rows j = r.isSh := by unfold shAt; rw [hr']; rfl
        cases hS : r.isSh with
        | true =>
          refine iteT ?_
          exact ⟨_, rfl, k1 _ _ (by rw [hj]; show (if shAt L.rows j = true then some (nV j) else none) = _; rw [eS, hS]; rfl) (fun _ _ e => e)⟩
        | false =>
          refine iteF ?_
          exact k0 _ (by rw [hj]; show (if shAt L.rows j = true then some (nV j) else none) = _; rw [eS, hS]; rfl) (fun _ _ e => e)
      · refine q D H2 (s5.trans s2) (none_of s5 hD) ?_
        rw [e, List.length_map, range_fmA, fm_if]
        rfl
    · refine ⟨true, by cases lf' <;> simp [PyData.eqv, PyData.eqvAll], ?_⟩
      refine iteT ?_
      refine ⟨fun σ' H'' => ∃ m'', m'' < (lf'.concat k).length + 3 * (L.rows.length - mt.length) ∧ Same H H'' ∧ ∃ Lf u mt lf, Lf ≠ M ∧ H Lf = none ∧ σ' = [some (.ref a), some (.ref b), some (.ref M), some (.ref Lf), u] ∧ H'' M = some (.lst (mt.map nV)) ∧ H'' Lf = some (.lst (lf.map nV)) ∧ Mk L mt lf ∧ m'' = lf.length + 3 * (L.rows.length - mt.length),
        fun σ' H'' h => h, ?_⟩
      rw [List.concat_eq_append] at *
      have hk := mk.ins k (.inr (by simp))
      have hrk : L.rows[k]? = some L.rows[k] := List.getElem?_eq_getElem hk.1
      obtain ⟨ra, hra, har⟩ := hrs.get' hrk
      generalize L.rows[k] = r at hrk har
      have eD : ((lf' ++ [k]).map nV).dropLast = lf'.map nV := by rw [List.map_append]; simp
      refine ⟨_, rfl, .inl ⟨rfl, _, .inl (.inl gF4)⟩, Lf, _, nV k, rfl, rfl, gF4, by rw [List.map_append]; simp, ?_⟩
      rw [eD]
      have s5 : Same H (upd H5 Lf (.lst (lf'.map nV))) := same_mut s4 nL
      have gM5 : (upd H5 Lf (.lst (lf'.map nV))) M = some (.lst (mt.map nV)) := by rw [upd_ne hne.symm]; exact gM4
      have gF5 : (upd H5 Lf (.lst (lf'.map nV))) Lf = some (.lst (lf'.map nV)) := upd_same
      generalize upd H5 Lf (.lst (lf'.map nV)) = H6 at s5 gM5 gF5
      refine ⟨_, rfl, _, rfl, M, _, rfl, .inl (.inl (.inl gM5)), rfl, flat_nats mt, _, rfl, ?_⟩
      show if (!inV (nV k) (mt.map nV)) = true then _ else _
      rw [in_nats]
      have hfit := mk.fit
      by_cases hkm : k ∈ mt
      · refine ifNF hkm ?_
        exact ⟨_, by simp, s5, Lf, _, mt, lf', hne, nL, rfl, gM5, gF5, mk_old mk hkm, rfl⟩
      · refine ifNT hkm ?_
        obtain ⟨mk', lt⟩ := mk_new ok.rows mk hkm hrk
        refine ⟨_, rfl, .inl ⟨rfl, _, .inl (.inl gM5)⟩, _, rfl, M, _, _, rfl, rfl, gM5, by rw [List.length_map]; exact sz_lt (by omega), ?_⟩
        have nM0 := nM
        have eM : mt.map nV ++ [nV k] = (mt ++ [k]).map nV := by rw [List.map_append]; rfl
        rw [eM]
        have s6 : Same H (upd H6 M (.lst ((mt ++ [k]).map nV))) := same_mut s5 nM
        have gM6 : (upd H6 M (.lst ((mt ++ [k]).map nV))) M = some (.lst ((mt ++ [k]).map nV)) := upd_same
        have gF6 : (upd H6 M (.lst ((mt ++ [k]).map nV))) Lf = some (.lst (lf'.map nV)) := by rw [upd_ne hne]; exact gF5
        generalize upd H6 M (.lst ((mt ++ [k]).map nV)) = H7 at s6 gM6 gF6
        have fin : ∀ (L2 : Addr) (H8 : Hp) (u : Option V), Same H H8 → L2 ≠ M → H L2 = none → H8 M = some (.lst ((mt ++ [k]).map nV)) → H8 L2 = some (.lst ((lf' ++ r.refs).map nV)) →
            ∃ m'', m'' < (lf' ++ [k]).length + 3 * (L.rows.length - mt.length) ∧ Same H H8 ∧ ∃ Lf u' mt lf, Lf ≠ M ∧ H Lf = none ∧ [some (.ref a), some (.ref b), some (.ref M), some (.ref L2), u] = [some (V.ref a), some (.ref b), some (.ref M), some (.ref Lf), u'] ∧ H8 M = some (.lst (mt.map nV)) ∧ H8 Lf = some (.lst (lf.map nV)) ∧ Mk L mt lf ∧ m'' = lf.length + 3 * (L.rows.length - mt.length) :=
          fun L2 H8 u s8 hn nL2 gM8 gF8 => ⟨_, lt, s8, L2, u, _, _, hn, nL2, rfl, gM8, gF8, mk', rfl⟩
        clear mk' lt
        have hlf : lf'.length ≤ 200 := by have := mk.few; rw [List.length_append] at this; omega
        refine ⟨_, rfl, _, rfl, b, xs, _, _, rfl, rfl, .inl (.inl (s6 _ _ h3)), atI_nat hra, ra, _, _, .str r.word, rfl, rfl, .inl (.inl (s6 _ _ har)), atI_nat (j := 0) rfl, (by show 3 ≤ sizeLine; decide), fun D nD => ?_⟩
        have sD := same_new (o := .tup [.str "not", .str "and", .str "or"]) nD
        have s7 := s6.trans sD
        have gM7 := sD _ _ gM6
        have gF7 := sD _ _ gF6
        refine ⟨D, _, rfl, .inr (.inl (.inl upd_same)), rfl, rfl, _, rfl, ?_⟩
        generalize upd H7 D (.tup [.str "not", .str "and", .str "or"]) = H8 at s7 gM7 gF7
        cases r with
        | fl =>
          have eI : inV (.str "false") [V.str "not", .str "and", .str "or"] = false := by decide +kernel
          refine iteF' eI ?_
          refine ⟨_, rfl, _, rfl, b, xs, _, _, rfl, rfl, .inl (.inl (s7 _ _ h3)), atI_nat hra, ra, _, _, .str "false", rfl, rfl, .inl (.inl (s7 _ _ har)), atI_nat (j := 0) rfl, rfl, _, rfl, ?_⟩
          refine ifF (str_ne (a := "false") (by decide)) ?_
          exact fin Lf _ _ s7 hne nL gM7 (by simpa [Rw.refs] using gF7)
        | ds m y =>
          have eI : inV (.str "does") [V.str "not", .str "and", .str "or"] = false := by decide +kernel
          refine iteF' eI ?_
          refine ⟨_, rfl, _, rfl, b, xs, _, _, rfl, rfl, .inl (.inl (s7 _ _ h3)), atI_nat hra, ra, _, _, .str "does", rfl, rfl, .inl (.inl (s7 _ _ har)), atI_nat (j := 0) rfl, rfl, _, rfl, ?_⟩
          refine ifF (str_ne (a := "does") (by decide)) ?_
          exact fin Lf _ _ s7 hne nL gM7 (by simpa [Rw.refs] using gF7)
        | sh m j =>
          have eI : inV (.str "shown") [V.str "not", .str "and", .str "or"] = false := by decide +kernel
          refine iteF' eI ?_
          refine ⟨_, rfl, _, rfl, b, xs, _, _, rfl, rfl, .inl (.inl (s7 _ _ h3)), atI_nat hra, ra, _, _, .str "shown", rfl, rfl, .inl (.inl (s7 _ _ har)), atI_nat (j := 0) rfl, rfl, _, rfl, ?_⟩
          refine ifT rfl ?_
          refine ⟨_, rfl, .inl ⟨rfl, _, .inl (.inl gF7)⟩, _, rfl, _, rfl, b, xs, _, _, rfl, rfl, .inl (.inl (s7 _ _ h3)), atI_nat hra, ra, _, _, nV j, rfl, rfl, .inl (.inl (s7 _ _ har)), atI_nat (j := 2) rfl, Lf, _, _, rfl, rfl, gF7, by rw [List.length_map]; exact sz_lt (by omega), ?_⟩
          refine fin Lf _ _ (same_mut s7 nL) hne nL (by rw [upd_ne hne.symm]; exact gM7) (by rw [upd_same, List.map_append]; rfl)
        | ng j =>
          have eI : inV (.str "not") [V.str "not", .str "and", .str "or"] = true := by decide +kernel
          refine iteT' eI ?_
          refine ⟨_, rfl, _, rfl, _, rfl, b, xs, _, _, rfl, rfl, .inl (.inl (s7 _ _ h3)), atI_nat hra, 1, rfl, ra, _, rfl, .inl (.inl (s7 _ _ har)), (fun z => absurd z (by simp [Rw.vs, Rw.parts, HT.sIx])), fun _ p np => ?_⟩
          have sp := same_new (o := .tup ([nV j])) np
          refine ⟨p, [nV j], rfl, .inr (.inl (.inl upd_same)), fun l nl => ?_⟩
          have sl := same_new (o := .lst ([nV j])) nl
          have s9 := (s7.trans sp).trans sl
          have gM9 := sl _ _ (sp _ _ gM7)
          refine ⟨Lf, l, lf'.map nV, [nV j], rfl, rfl, sl _ _ (sp _ _ gF7), upd_same, by rw [List.length_map]; exact sz_le (by simp; omega), fun l2 nl2 => ?_⟩
          have s10 := same_new (o := .lst (lf'.map nV ++ [nV j])) nl2
          have s11 := s9.trans s10
          refine ⟨_, rfl, _, rfl, b, xs, _, _, rfl, rfl, .inl (.inl (s11 _ _ h3)), atI_nat hra, ra, _, _, .str "not", rfl, rfl, .inl (.inl (s11 _ _ har)), atI_nat (j := 0) rfl, rfl, _, rfl, ?_⟩
          refine ifF (str_ne (a := "not") (by decide)) ?_
          exact fin l2 _ _ s11 (ne_of_none gM9 nl2).symm (none_of s9 nl2) (s10 _ _ gM9) (by rw [upd_same, List.map_append]; rfl)
        | cj j l0 =>
          have eI : inV (.str "and") [V.str "not", .str "and", .str "or"] = true := by decide +kernel
          refine iteT' eI ?_
          refine ⟨_, rfl, _, rfl, _, rfl, b, xs, _, _, rfl, rfl, .inl (.inl (s7 _ _ h3)), atI_nat hra, 1, rfl, ra, _, rfl, .inl (.inl (s7 _ _ har)), (fun z => absurd z (by simp [Rw.vs, Rw.parts, HT.sIx])), fun _ p np => ?_⟩
          have sp := same_new (o := .tup ([nV j, nV l0])) np
          refine ⟨p, [nV j, nV l0], rfl, .inr (.inl (.inl upd_same)), fun l nl => ?_⟩
          have sl := same_new (o := .lst ([nV j, nV l0])) nl
          have s9 := (s7.trans sp).trans sl
          have gM9 := sl _ _ (sp _ _ gM7)
          refine ⟨Lf, l, lf'.map nV, [nV j, nV l0], rfl, rfl, sl _ _ (sp _ _ gF7), upd_same, by rw [List.length_map]; exact sz_le (by simp; omega), fun l2 nl2 => ?_⟩
          have s10 := same_new (o := .lst (lf'.map nV ++ [nV j, nV l0])) nl2
          have s11 := s9.trans s10
          refine ⟨_, rfl, _, rfl, b, xs, _, _, rfl, rfl, .inl (.inl (s11 _ _ h3)), atI_nat hra, ra, _, _, .str "and", rfl, rfl, .inl (.inl (s11 _ _ har)), atI_nat (j := 0) rfl, rfl, _, rfl, ?_⟩
          refine ifF (str_ne (a := "and") (by decide)) ?_
          exact fin l2 _ _ s11 (ne_of_none gM9 nl2).symm (none_of s9 nl2) (s10 _ _ gM9) (by rw [upd_same, List.map_append]; rfl)
        | dj j l0 =>
          have eI : inV (.str "or") [V.str "not", .str "and", .str "or"] = true := by decide +kernel
          refine iteT' eI ?_
          refine ⟨_, rfl, _, rfl, _, rfl, b, xs, _, _, rfl, rfl, .inl (.inl (s7 _ _ h3)), atI_nat hra, 1, rfl, ra, _, rfl, .inl (.inl (s7 _ _ har)), (fun z => absurd z (by simp [Rw.vs, Rw.parts, HT.sIx])), fun _ p np => ?_⟩
          have sp := same_new (o := .tup ([nV j, nV l0])) np
          refine ⟨p, [nV j, nV l0], rfl, .inr (.inl (.inl upd_same)), fun l nl => ?_⟩
          have sl := same_new (o := .lst ([nV j, nV l0])) nl
          have s9 := (s7.trans sp).trans sl
          have gM9 := sl _ _ (sp _ _ gM7)
          refine ⟨Lf, l, lf'.map nV, [nV j, nV l0], rfl, rfl, sl _ _ (sp _ _ gF7), upd_same, by rw [List.length_map]; exact sz_le (by simp; omega), fun l2 nl2 => ?_⟩
          have s10 := same_new (o := .lst (lf'.map nV ++ [nV j, nV l0])) nl2
          have s11 := s9.trans s10
          refine ⟨_, rfl, _, rfl, b, xs, _, _, rfl, rfl, .inl (.inl (s11 _ _ h3)), atI_nat hra, ra, _, _, .str "or", rfl, rfl, .inl (.inl (s11 _ _ har)), atI_nat (j := 0) rfl, rfl, _, rfl, ?_⟩
          refine ifF (str_ne (a := "or") (by decide)) ?_
          exact fin l2 _ _ s11 (ne_of_none gM9 nl2).symm (none_of s9 nl2) (s10 _ _ gM9) (by rw [upd_same, List.map_append]; rfl)
end
end Lk

set_option maxHeartbeats 4000000
namespace Lk
open PySem PySem.Spec PyProof.Rows L2
theorem maxL_cast : ∀ (ls : List Nat) (a : Nat), (ls.map fun i => ((i : Nat) : Int)).foldl max ((a : Nat) : Int) = ((ls.foldl max a : Nat) : Int)
  | [], _ => rfl
  | x :: r, a => by
    rw [List.map_cons, List.foldl_cons, List.foldl_cons, ← maxL_cast r (max a x)]
    have : max ((a : Nat) : Int) ((x : Nat) : Int) = ((max a x : Nat) : Int) := by omega
    rw [this]
theorem high_eq {L : Pl} {m : Int} (h : m ∈ ((L.marks.map fun j => ((levAt L.rows j : Nat) : Int)) ++ [0])) (h2 : ∀ y ∈ ((L.marks.map fun j => ((levAt L.rows j : Nat) : Int)) ++ [0]), y ≤ m) : m = ((L.high : Nat) : Int) := by
  have e : m = mxL (0 :: L.marks.map fun j => ((levAt L.rows j : Nat) : Int)) := mxL_eq (by simpa [or_comm] using h) fun y hy => h2 y (by simpa [or_comm] using hy)
  rw [e]
  unfold Pl.high
  rw [← maxL_cast]
  show List.foldl max 0 _ = _
  rw [List.map_map]
  rfl
def spHighL : Sp := fun vs H Q _ => ∃ (a : Addr) (L : Pl), vs = [.ref a] ∧ PartsAt H a L ∧ L.Ok ∧ ∀ H', Same H H' → Q (nV L.high) H'
def spMoveL : Sp := fun vs H Q _ => ∃ (a b : Addr) (L : Pl) (s : Sd), vs = [.ref a, .ref b] ∧ PartsAt H a L ∧ L.Ok ∧ SdAt H b s ∧ s.2.length = L.marks.length ∧ ∀ H', Same H H' → Q (.str (L.mvs s)) H'
def spStepL : Sp := fun vs H Q _ => ∃ (a b : Addr) (L : Pl) (s : Sd) (y : Str), vs = [.ref a, .ref b, .str y] ∧ PartsAt H a L ∧ L.Ok ∧ SdAt H b s ∧ s.2.length = L.marks.length ∧ ∀ r H', Same H H' → SdAt H' r (L.step s y) → Q (.ref r) H'
def spStillL : Sp := fun vs H Q _ => ∃ (a b : Addr) (L : Pl) (s : Sd) (y : Str), vs = [.ref a, .ref b, .str y] ∧ PartsAt H a L ∧ L.Ok ∧ SdAt H b s ∧ s.2.length = L.marks.length ∧ ∀ H', Same H H' → Q (.bl (L.rest s y)) H'
theorem dict_marks {L : Pl} {s : Sd} {H : Hp} {m b : Addr} {K : PySem.W.Frag} {Q : VK} (hl : s.2.length = L.marks.length) (hm : H m = some (.lst (L.marks.map nV))) (hb : H b = some (.tup (s.2.map V.bl)))
    (q : ∀ r H', Same H H' → H r = none → H' r = some (.dK (trE L (L.tr s))) → Q (.ref r) H') : True := trivial
section
variable {P : Program} {w : World} {K : PySem.W.Frag} {mg : Str → Option Value} {base : Heap} {cP cG cT : Addr} {f : Addr} {fd : FuncData} (T : Txt K w mg cP cG cT)
include T
theorem ok_law_high {C_law_marks : Cal P w K mg base "_law_marks" 1 ["parts"] spMarksL} (F : FnP K "_law_high" "_law_high" s_law_high f fd) : FnOk P w K mg base CX0 2 f fd ["parts"] spHighL := by
  refine okN F sc_law_high (fun vs H Q E h => ?_) (fun cdv A outer s H vs Q E hr h => ?_)
  · obtain ⟨a, L, rfl, _⟩ := h
    rfl
  · obtain ⟨a, L, rfl, hp, ok, q⟩ := h
    obtain ⟨m0, b, c, xs, h1, h2, h3, hrs, h5⟩ := hp.ex
    refine ⟨_, (pss_one (ps_ret (pe_callB (maxS K rfl) (by rfl) T.max_ b_max (pa_cons (pe_op op_cat (pe_lc (own := [("here", 1)]) rfl sc_law_high.nd (pi_sq (pe_cal C_law_marks hr (pa_cons (pv 0) pa_nil))) (blkOk_by (own := [("here", 1)]) (N := ["parts", "here"]) (sc := defScope s_law_high) (by decide +kernel)) (fun _ _ _ _ _ => pg_name (i := 1) sc_law_high.nd rfl (Or.inl rfl)) (fun _ _ _ _ _ => pts_nil) (fun _ _ _ _ _ => (pe_ix (ixT K) (pe_ix (ixT K) (pe_ix (ixT K) (pv 0) pe_int (fun _ _ => rfl)) (pv 1) (fun _ _ => rfl)) pe_int (fun _ _ => rfl)))) (pe_lst (pa_cons pe_int pa_nil))) pa_nil)))), ?_⟩
    refine ⟨_, rfl, a, L, rfl, hp, ok, fun m H1 s1 nm hm => ?_⟩
    refine ⟨m, _, rfl, .inl hm, fun J hJ D hD => ?_⟩
    refine lcW_fm hJ (fun i => (L.marks[i]?).map fun j => nV (levAt L.rows j)) hD (by have := marks_len L ok.len; simp; omega) (fun H2 s2 => same_of s2 (.inl hm)) (fun i x H9 H2 hi s2 y K1 K0 k1 k0 => ?_) (fun H2 s2 e => ?_)
    · obtain ⟨rfl, hx⟩ := y
      rw [List.getElem?_map] at hx
      obtain ⟨j, hj, rfl⟩ := Option.map_eq_some_iff.mp hx
      obtain ⟨k, i', hr', e1, e2⟩ := sh_row (List.mem_of_getElem? hj)
      obtain ⟨ra, hra, har⟩ := hrs.get' hr'
      have s2 := s1.trans s2
      refine ⟨rfl, yesT ?_⟩
      refine ⟨_, rfl, a, _, _, .ref b, rfl, rfl, .inl (.inl (s2 _ _ h1)), atI_nat (j := 1) rfl, _, rfl, b, xs, _, _, rfl, rfl, .inl (.inl (s2 _ _ h3)), atI_nat hra, ra, _, 1, nV k, rfl, rfl, .inl (.inl (s2 _ _ har)), atI_nat (j := 1) rfl, ?_⟩
      exact k1 _ _ (by rw [hj, Option.map_some, e1]) (fun _ _ e => e)
    · rw [List.length_map, range_mapA] at e
      have s3 := s1.trans s2
      refine ⟨(by show 1 ≤ sizeLine; decide), fun z nz => ?_⟩
      have sz := same_new (o := .lst [.int 0]) nz
      have hml := marks_len L ok.len
      refine ⟨D, z, _, _, rfl, rfl, sz _ _ e, upd_same, by rw [List.length_map]; exact sz_le (by simp; omega), fun y ny => ?_⟩
      have sy := same_new (o := .lst ((L.marks.map fun j => nV (levAt L.rows j)) ++ [.int 0])) ny
      have e3 : (L.marks.map (fun j => nV (levAt L.rows j))) ++ [V.int 0] = ((L.marks.map fun j => ((levAt L.rows j : Nat) : Int)) ++ [0]).map V.int := by rw [List.map_append, List.map_map]; rfl
      refine ⟨y, _, rfl, .inl (.inl (by rw [upd_same, e3])), by simp, fun v hv1 hv2 => ?_⟩
      rw [high_eq hv1 hv2]
      exact q _ ((s3.trans sz).trans sy)
theorem ok_law_move {C_law_marks : Cal P w K mg base "_law_marks" 1 ["parts"] spMarksL} {C_law_done : Cal P w K mg base "_law_done" 41 ["parts", "held"] spDoneL} (F : FnP K "_law_move" "_law_move" s_law_move f fd) : FnOk P w K mg base CX0 42 f fd ["parts", "stand"] spMoveL := by
  refine okN F sc_law_move (fun vs H Q E h => ?_) (fun cdv A outer s H vs Q E hr h => ?_)
  · obtain ⟨a, b, L, s, rfl, _⟩ := h
    rfl
  · obtain ⟨a, b, L, s, rfl, hp, ok, hs, hl, q⟩ := h
    obtain ⟨b2, h4, h5⟩ := hs
    refine ⟨_, (pss_one (ps_ret (pe_cal C_law_done hr (pa_cons (pv 0) (pa_cons (pe_callTy (call_dictP rfl) (by rfl) T.dict_ b_dict (pa_cons (pe_listZip (by rfl) T.list_ (by rfl) T.zip_ (pa_cons (pe_cal C_law_marks hr (pa_cons (pv 0) pa_nil)) (pa_cons (pe_ix (ixT K) (pv 1) pe_int (fun _ _ => rfl)) pa_nil))) pa_nil)) pa_nil))))), ?_⟩
    refine ⟨_, rfl, _, rfl, a, L, rfl, hp, ok, fun m H1 s1 nm hm => ?_⟩
    refine ⟨_, rfl, b, _, _, _, rfl, rfl, .inl (.inl (s1 _ _ h4)), atI_nat (j := 1) rfl, ?_⟩
    refine ⟨m, b2, _, _, rfl, .inl (.inl (.inl hm)), .inr (.inl (.inl (s1 _ _ h5))), by simp [hl], fun H2 z ts s2 nz hz pr => ?_⟩
    have s2 := s1.trans s2
    refine ⟨z, ts, trE L (L.tr s), rfl, .inl (.inl hz), ?_, fun r nr => ?_⟩
    · rw [trE_zip hl]
      rw [List.zip_map] at pr
      clear hz
      generalize L.marks.zip s.2 = zs at pr
      induction zs generalizing ts with
      | nil => cases pr; exact .nil
      | cons y r ih =>
        cases pr with
        | cons h t => exact .cons (.inl (.inl h)) (ih _ t)
    · rw [merge_nd _ [] (by rw [List.nil_append]; exact trE_nd L _), List.nil_append]
      have s3 := s2.trans (same_new (o := .dK (trE L (L.tr s))) nr)
      refine ⟨a, r, L, _, L.tr s, rfl, hp.mono s3, ok, .inl upd_same, fun i hi => trE_val hi, fun H3 s4 => q _ (s3.trans s4)⟩
theorem ok_law_step {C_law_marks : Cal P w K mg base "_law_marks" 1 ["parts"] spMarksL} {C_law_high : Cal P w K mg base "_law_high" 2 ["parts"] spHighL} {C_law_done : Cal P w K mg base "_law_done" 41 ["parts", "held"] spDoneL} {C_law_on : Cal P w K mg base "_law_on" 41 ["parts", "held", "level", "ring"] spOnL} (F : FnP K "_law_step" "_law_step" s_law_step f fd) : FnOk P w K mg base CX0 42 f fd ["parts", "stand", "letter"] spStepL := by
  refine okN F sc_law_step (fun vs H Q E h => ?_) (fun cdv A outer s H vs Q E hr h => ?_)
  · obtain ⟨a, b, L, s, y, rfl, _⟩ := h
    rfl
  · obtain ⟨a, b, L, s, y, rfl, hp, ok, hs, hl, q⟩ := h
    obtain ⟨b2, h4, h5⟩ := hs
    refine ⟨_, (pss_cons (ps_set (i := 3) sc_law_step.nd rfl (Or.inl rfl) (pe_callTy (call_dictP rfl) (by rfl) T.dict_ b_dict (pa_cons (pe_listZip (by rfl) T.list_ (by rfl) T.zip_ (pa_cons (pe_cal C_law_marks hr (pa_cons (pv 0) pa_nil)) (pa_cons (pe_ix (ixT K) (pv 1) pe_int (fun _ _ => rfl)) pa_nil))) pa_nil)))
      (pss_cons (ps_set (i := 4) sc_law_step.nd rfl (Or.inr rfl) (pe_cal C_law_on hr (pa_cons (pv 0) (pa_cons (pv 3) (pa_cons (pe_ix (ixT K) (pv 1) pe_int (fun _ _ => rfl)) (pa_cons (pe_tup (pa_cons (pe_cal C_law_done hr (pa_cons (pv 0) (pa_cons (pv 3) pa_nil))) (pa_cons (pv 2) pa_nil))) pa_nil))))))
      (pss_one (ps_ret (pe_tup (pa_cons (pe_callB (call_min2 rfl) (by rfl) T.min_ b_min (pa_cons (pe_op op_add (pe_ix (ixT K) (pv 1) pe_int (fun _ _ => rfl)) pe_int) (pa_cons (pe_cal C_law_high hr (pa_cons (pv 0) pa_nil)) pa_nil))) (pa_cons (pe_callTy tupA (by rfl) T.tuple_ b_tuple (pa_cons (pe_lock (pe_lc (own := [("here", 5)]) rfl sc_law_step.nd (pi_keys (pv 4)) (blkOk_by (own := [("here", 5)]) (N := ["parts", "stand", "letter", "held", "later", "here"]) (sc := defScope s_law_step) (by decide +kernel)) (fun _ _ _ _ _ => pg_name (i := 5) sc_law_step.nd rfl (Or.inl rfl)) (fun _ _ _ _ _ => pts_nil) (fun _ _ _ _ _ => (pe_dget (hu_of hr) (pv 4) (pv 5) (fun _ _ => rfl))))) pa_nil)) pa_nil))))))), ?_⟩
    refine ⟨_, rfl, a, L, rfl, hp, ok, fun m H1 s1 nm hm => ?_⟩
    refine ⟨_, rfl, b, _, _, _, rfl, rfl, .inl (.inl (s1 _ _ h4)), atI_nat (j := 1) rfl, ?_⟩
    refine ⟨m, b2, _, _, rfl, .inl (.inl (.inl hm)), .inr (.inl (.inl (s1 _ _ h5))), by simp [hl], fun H2 z ts s2 nz hz pr => ?_⟩
    have s2 := s1.trans s2
    refine ⟨z, ts, trE L (L.tr s), rfl, .inl (.inl hz), ?_, fun r nr => ?_⟩
    · rw [trE_zip hl]
      rw [List.zip_map] at pr
      clear hz
      generalize L.marks.zip s.2 = zs at pr
      induction zs generalizing ts with
      | nil => cases pr; exact .nil
      | cons y r ih =>
        cases pr with
        | cons h t => exact .cons (.inl (.inl h)) (ih _ t)
    · rw [merge_nd _ [] (by rw [List.nil_append]; exact trE_nd L _), List.nil_append]
      have s3 := s2.trans (same_new (o := .dK (trE L (L.tr s))) nr)
      have hr3 : (upd H2 r (.dK (trE L (L.tr s)))) r = some (.dK (trE L (L.tr s))) := upd_same
      generalize upd H2 r (.dK (trE L (L.tr s))) = H3 at s3 hr3
      refine ⟨_, rfl, _, rfl, _, rfl, b, _, _, _, rfl, rfl, .inl (.inl (s3 _ _ h4)), atI_nat (j := 0) rfl, ?_⟩
      refine ⟨_, rfl, _, rfl, a, r, L, _, L.tr s, rfl, hp.mono s3, ok, .inl hr3, fun i hi => trE_val hi, fun H4 s4 => ?_⟩
      have hr4 := s4 _ _ hr3
      have s4 := s3.trans s4
      refine ⟨_, rfl, (by show 2 ≤ sizeLine; decide), fun g ng => ?_⟩
      have sg := same_new (o := .tup [.str (L.does (L.tr s)), .str y]) ng
      have hr5 := sg _ _ hr4
      have s5 := s4.trans sg
      refine ⟨a, r, g, s.1, L, L.tr s, [L.mvs s, y], rfl, hp.mono s5, ok, hr5, upd_same, fun l H6 s6 nl hl6 => ?_⟩
      have s6 := s5.trans s6
      refine ⟨_, rfl, b, _, _, _, rfl, rfl, .inl (.inl (s6 _ _ h4)), atI_nat (j := 0) rfl, _, _, rfl, rfl, _, rfl, a, L, rfl, hp.mono s6, ok, fun H7 s7 => ?_⟩
      have hl7 := s7 _ _ hl6
      have s7 := s6.trans s7
      refine ⟨_, _, rfl, ?_⟩
      have nl7 : H l = none := none_of s5 nl
      refine ⟨l, _, hl7, trivial, fun od => ?_⟩
      have hF : (upd H7 l (.frz od (.dK (trE L (L.later (L.tr s) s.1 [L.mvs s, y]))))) l = some (.frz od (.dK (trE L (L.later (L.tr s) s.1 [L.mvs s, y])))) := upd_same
      have s8 : Same H (upd H7 l (.frz od (.dK (trE L (L.later (L.tr s) s.1 [L.mvs s, y]))))) := same_mut s7 nl7
      generalize upd H7 l (.frz od (.dK (trE L (L.later (L.tr s) s.1 [L.mvs s, y])))) = H8 at hF s8
      refine ⟨_, rfl, l, od, rfl, .inl ⟨_, hF, fun D hD => ?_⟩⟩
      refine lcW_fm (walk_keys (kvs := trE L (L.later (L.tr s) s.1 [L.mvs s, y]))) (fun i => (L.marks[i]?).map fun j => .bl (L.later (L.tr s) s.1 [L.mvs s, y] j)) hD (by have := marks_len L ok.len; unfold trE; simp; omega) (fun H6 s6 => s6 _ _ hF) (fun i x H9 H6 hi s6 y' K1 K0 z1 z0 => ?_) (fun H9 s9 e => ?_)
      · obtain ⟨rfl, k', v', e1, rfl⟩ := y'
        unfold trE at e1
        rw [List.getElem?_map] at e1
        obtain ⟨j, hj, e2⟩ := Option.map_eq_some_iff.mp e1
        cases e2
        refine ⟨rfl, yesT ?_⟩
        refine ⟨_, rfl, _, rfl, l, _, rfl, dget (.inr ⟨od, s6 _ _ hF⟩) (trE_val (List.mem_of_getElem? hj)), ?_⟩
        exact z1 _ _ (by rw [hj]; rfl) (fun _ _ e => e)
      · rw [show (trE L (L.later (L.tr s) s.1 [L.mvs s, y])).length = L.marks.length by unfold trE; simp, range_mapA] at e
        refine ⟨s9 _ _ hF, ?_⟩
        have hDl : D ≠ l := (ne_of_none hF hD).symm
        have s10 : Same H (upd H9 l (.dK (trE L (L.later (L.tr s) s.1 [L.mvs s, y])))) := same_mut (s8.trans s9) nl7
        have e10 : (upd H9 l (.dK (trE L (L.later (L.tr s) s.1 [L.mvs s, y])))) D = _ := (upd_ne hDl).trans e
        generalize upd H9 l (.dK (trE L (L.later (L.tr s) s.1 [L.mvs s, y]))) = H10 at s10 e10
        refine ⟨D, _, rfl, .inl e10, fun u H7 s7 hu => ?_⟩
        refine ⟨(by show 2 ≤ sizeLine; decide), fun z nz => ?_⟩
        refine q z _ ((s10.trans s7).trans (same_new nz)) ⟨u, ?_, ?_⟩
        · rw [upd_same]
          have em : (if ((L.high : Nat) : Int) < ((s.1 : Nat) : Int) + 1 then ((L.high : Nat) : Int) else ((s.1 : Nat) : Int) + 1) = (((min (s.1 + 1) L.high : Nat)) : Int) := by
            split <;> omega
          rw [em]
          rfl
        · rw [upd_ne (ne_of_none hu nz), hu]
          show some (HO.tup _) = some (HO.tup ((L.marks.map _).map V.bl))
          rw [List.map_map]
          rfl
theorem ok_law_still {C_law_high : Cal P w K mg base "_law_high" 2 ["parts"] spHighL} {C_law_step : Cal P w K mg base "_law_step" 42 ["parts", "stand", "letter"] spStepL} (F : FnP K "_law_still" "_law_still" s_law_still f fd) : FnOk P w K mg base CX0 43 f fd ["parts", "stand", "letter"] spStillL := by
  refine okN F sc_law_still (fun vs H Q E h => ?_) (fun cdv A outer s H vs Q E hr h => ?_)
  · obtain ⟨a, b, L, s, y, rfl, _⟩ := h
    rfl
  · obtain ⟨a, b, L, s, y, rfl, hp, ok, hs, hl, q⟩ := h
    have hs' := hs
    obtain ⟨b2, h4, h5⟩ := hs
    refine ⟨_, (pss_one (ps_ret (pe_and (pe_cmpR op_eq (pe_ix (ixT K) (pv 1) pe_int (fun _ _ => rfl)) (pe_cal C_law_high hr (pa_cons (pv 0) pa_nil)) (nomark _)) (pe_one (pe_cmpR (op_eqD hr.units) (pe_cal C_law_step hr (pa_cons (pv 0) (pa_cons (pv 1) (pa_cons (pv 2) pa_nil)))) (pv 1) (nomark _)))))), ?_⟩
    refine ⟨_, rfl, b, _, _, _, rfl, rfl, .inl (.inl h4), atI_nat (j := 0) rfl, _, rfl, a, L, rfl, hp, ok, fun H1 s1 => ⟨rfl, _, rfl, ?_⟩⟩
    unfold Pl.rest at q
    by_cases e : s.1 = L.high
    · refine ifT (by rw [e]) ?_
      rw [decide_eq_true e] at q
      refine ⟨_, rfl, _, rfl, _, rfl, a, b, L, s, y, rfl, hp.mono s1, ok, hs'.mono s1, hl, fun r H2 s2 hr2 => ?_⟩
      have s2 := s1.trans s2
      refine ⟨_, rfl, _, _, dp_sd hr2, dp_sd (hs'.mono s2), sd_shaped _, sd_shaped _, ?_⟩
      rw [eqv_sd]
      exact q _ s2
    · have hne : ¬ V.int ((s.1 : Nat) : Int) = V.int ((L.high : Nat) : Int) := by
        intro z
        injection z with z
        omega
      refine ifF hne ?_
      rw [decide_eq_false e] at q
      exact q _ s1
end
end Lk

set_option maxHeartbeats 4000000
namespace Lk
open PySem PySem.Spec PyProof.Rows L2
theorem mu_step_le {L : Pl} {s : Sd} (ok : Sd.Ok L s) (y : Str) : L.mu (L.step s y) ≤ L.mu s := by
  have h := step_le ok y
  unfold Pl.mu
  have h1 : (L.step s y).1 = min (s.1 + 1) L.high := rfl
  rw [h1]
  have := ok.1
  omega
def spLedOnL : Sp := fun vs H Q _ => ∃ (d c a l : Addr) (L : Pl) (ls : List Str), vs = [.ref d, .ref a, .ref l] ∧ Dw d c H ∧ PartsAt (cut d c H) a L ∧ L.Ok ∧ L.Small ∧ Lt (cut d c H) l (ls.map V.str) ∧ Mv ls ∧
  ∀ t b (u : List Str) H', Dw d c H' → Same (cut d c H) (cut d c H') → (cut d c H') t = some (.tup [.ref b, .str (L.mvs (L.run L.init u))]) → (cut d c H') b = some (.tup (u.map V.str)) → (∀ z ∈ u, z ∈ ls) → u.length ≤ 1 + L.high + L.marks.length → (∀ y ∈ ls, L.rest (L.run L.init u) y = true) → Q (.ref t) H'
theorem Dw.tup {d c a : Addr} {H : Hp} {xs : List V} (h : Dw d c H) (e : H a = some (.tup xs)) : (cut d c H) a = some (.tup xs) := by
  obtain ⟨_, cells, i, m', g1, g2, _⟩ := h
  refine cut_at e ?_ ?_
  · rintro rfl
    rw [g1] at e
    cases e
  · rintro rfl
    rw [g2] at e
    cases e
theorem Dw.sd {d c a : Addr} {H : Hp} {s : Sd} (h : Dw d c H) (e : SdAt H a s) : SdAt (cut d c H) a s := by
  obtain ⟨b, h1, h2⟩ := e
  exact ⟨b, h.tup h1, h.tup h2⟩
structure Lo (L : Pl) (ls u aw : List Str) (mm : Nat) : Prop where
  w : ∀ z ∈ u, z ∈ ls
  ins : ∀ y ∈ aw, y ∈ ls
  few : aw.length ≤ 4
  len : u.length ≤ 1 + L.high + L.marks.length
  ph : (u = [] ∧ aw = ls ∧ mm = L.high + L.marks.length + 1) ∨ (aw = (ls.filter fun y => !L.rest (L.run L.init u) y) ∧ u.length + L.mu (L.run L.init u) ≤ 1 + L.high + L.marks.length ∧ mm = L.mu (L.run L.init u))
theorem lo_zero {L : Pl} {ls : List Str} (mv : Mv ls) : Lo L ls [] ls (L.high + L.marks.length + 1) := ⟨(fun z h => nomatch h), fun y h => h, mv.few, Nat.zero_le _, .inl ⟨rfl, rfl, rfl⟩⟩
theorem lo_step {L : Pl} {ls u aw : List Str} {mm : Nat} (mv : Mv ls) (h : Lo L ls u aw mm) {y : Str} (hy : y ∈ aw) : ∃ m', m' < mm ∧ Lo L ls (u ++ [y]) (ls.filter fun z => !L.rest (L.step (L.run L.init u) y) z) m' := by
  obtain ⟨h1, h2, h3, h4, h5⟩ := h
  have hok : Sd.Ok L (L.run L.init u) := run_ok (init_ok L)
  have key : ∀ n, L.mu (L.step (L.run L.init u) y) < n → u.length + 1 + L.mu (L.step (L.run L.init u) y) ≤ 1 + L.high + L.marks.length → n ≤ mm → ∃ m', m' < mm ∧ Lo L ls (u ++ [y]) (ls.filter fun z => !L.rest (L.step (L.run L.init u) y) z) m' := fun n k1 k2 k3 => by
    refine ⟨L.mu (L.step (L.run L.init u) y), by omega, fun z hz => ?_, fun z hz => (List.mem_filter.mp hz).1, Nat.le_trans (List.length_filter_le _ _) mv.few, ?_, .inr ⟨?_, ?_, ?_⟩⟩
    · rcases List.mem_append.mp hz with hz | hz
      · exact h1 z hz
      · rw [List.mem_singleton.mp hz]; exact h2 y hy
    · rw [List.length_append]; simp; omega
    · rw [run_snoc]
    · rw [run_snoc, List.length_append]; exact k2
    · rw [run_snoc]
  rcases h5 with ⟨rfl, rfl, rfl⟩ | ⟨rfl, k1, rfl⟩
  · have := mu_step_le hok y
    have := mu_le hok
    refine key (L.high + L.marks.length + 1) (by omega) ?_ (Nat.le_refl _)
    show 0 + 1 + _ ≤ _
    omega
  · have hr := (List.mem_filter.mp hy).2
    have := mu_lt (y := y) hok (by simpa using hr)
    exact key _ this (by omega) (Nat.le_refl _)
theorem lo_end {L : Pl} {ls u : List Str} {mm : Nat} (mv : Mv ls) (h : Lo L ls u [] mm) : ∀ y ∈ ls, L.rest (L.run L.init u) y = true := by
  rcases h.ph with ⟨_, h, _⟩ | ⟨h, _⟩
  · exact absurd h.symm mv.ne
  · intro y hy
    cases e : L.rest (L.run L.init u) y with
    | true => rfl
    | false =>
      have : y ∈ ls.filter fun y => !L.rest (L.run L.init u) y := List.mem_filter.mpr ⟨hy, by rw [e]; rfl⟩
      rw [← h] at this
      cases this
section
variable {P : Program} {w : World} {K : PySem.W.Frag} {mg : Str → Option Value} {base : Heap} {cP cG cT : Addr} {f : Addr} {fd : FuncData} (T : Txt K w mg cP cG cT)
include T
theorem ok_law_led_on {C_law_marks : Cal P w K mg base "_law_marks" 1 ["parts"] spMarksL} {C_law_pick : Cal P w K mg base "_law_pick" 2 ["draw", "some"] spPick} {C_law_step : Cal P w K mg base "_law_step" 42 ["parts", "stand", "letter"] spStepL} {C_law_still : Cal P w K mg base "_law_still" 43 ["parts", "stand", "letter"] spStillL} {C_law_move : Cal P w K mg base "_law_move" 42 ["parts", "stand"] spMoveL}
    (F : FnP K "_law_led_on" "_law_led_on" s_law_led_on f fd) : FnOk P w K mg base CX0 44 f fd ["draw", "parts", "yours"] spLedOnL := by
  refine okN F sc_law_led_on (fun vs H Q E h => ?_) (fun cdv A outer s H vs Q E hr h => ?_)
  · obtain ⟨d, c, a, l, L, ls, rfl, _⟩ := h
    rfl
  · obtain ⟨d, c, a, l, L, ls, rfl, hd, hp, ok, sm, hl, mv, q⟩ := h
    refine ⟨_, (pss_cons (ps_asg (pe_tup (pa_cons (pe_tup (pa_cons pe_int (pa_cons (pe_op op_repA (pe_tup (pa_cons pe_bl pa_nil)) (pe_callB (lenS K) (by rfl) T.len_ b_len (pa_cons (pe_cal C_law_marks hr (pa_cons (pv 1) pa_nil)) pa_nil))) pa_nil))) (pa_cons (pe_tup pa_nil) pa_nil))) (pgT K 2 rfl (pgs_cons (pg_name (i := 3) sc_law_led_on.nd rfl (Or.inr rfl)) (pgs_cons (pg_name (i := 4) sc_law_led_on.nd rfl (Or.inl rfl)) pgs_nil))))
      (pss_cons (ps_set (i := 5) sc_law_led_on.nd rfl (Or.inl rfl) (pe_callTy (lstS K) (by rfl) T.list_ b_list (pa_cons (pv 2) pa_nil)))
      (pss_cons (ps_while PassesOwn.never (pt_cmpR (op_neD hr.units) (pv 5) (pe_lst pa_nil) (nomark _)) (pss_cons (ps_set (i := 6) sc_law_led_on.nd rfl (Or.inl rfl) (pe_cal C_law_pick hr (pa_cons (pv 0) (pa_cons (pv 5) pa_nil))))
      (pss_cons (ps_asg (pe_tup (pa_cons (pe_cal C_law_step hr (pa_cons (pv 1) (pa_cons (pv 3) (pa_cons (pv 6) pa_nil)))) (pa_cons (pe_op catT (pv 4) (pe_tup (pa_cons (pv 6) pa_nil))) pa_nil))) (pgT K 2 rfl (pgs_cons (pg_name (i := 3) sc_law_led_on.nd rfl (Or.inr rfl)) (pgs_cons (pg_name (i := 4) sc_law_led_on.nd rfl (Or.inl rfl)) pgs_nil))))
      (pss_one (ps_setLc (i := 5) (own := [("one", 7)]) rfl sc_law_led_on.nd rfl rfl (sw_true rfl rfl rfl (by decide +kernel)) (pi_sq (pv 2)) (blkOk_by (own := [("one", 7)]) (N := ["draw", "parts", "yours", "stand", "word", "away", "letter", "one"]) (sc := defScope s_law_led_on) (by decide +kernel)) (fun _ _ _ _ _ => pg_name (i := 7) sc_law_led_on.nd rfl (Or.inl rfl)) (fun _ _ _ _ _ => pts_one (pt_not (pt_val (pe_cal C_law_still hr (pa_cons (pv 1) (pa_cons (pv 3) (pa_cons (pv 7) pa_nil))))))) (fun _ _ _ _ _ => (pv 7)))))))
      (pss_one (ps_ret (pe_tup (pa_cons (pv 4) (pa_cons (pe_cal C_law_move hr (pa_cons (pv 1) (pa_cons (pv 3) pa_nil))) pa_nil)))))))), ?_⟩
    refine ⟨(by show 1 ≤ sizeLine; decide), fun t nt => ?_⟩
    obtain ⟨hd1, s1, ht⟩ := hd.newS nt (o := .tup [.bl true])
    generalize upd H t (.tup [.bl true]) = H1 at hd1 s1 ht
    refine ⟨_, rfl, a, L, rfl, (hp.mono s1).mono cut_same, ok, fun m H2 s2 nm hm => ?_⟩
    have hd2 := hd1.mono s2
    have s3 := s1.trans (cut_mono s2)
    have ht2 := s2 _ _ (cut_same _ _ ht)
    have hml := marks_len L ok.len
    refine ⟨m, _, rfl, .inl (.inl (.inl hm)), t, _, _, rfl, rfl, ht2, by omega, by rw [List.length_map]; omega, fun b H3 s4 hb => ?_⟩
    have hd3 := hd2.mono s4
    have s3 := s3.trans (cut_mono s4)
    refine ⟨(by show 2 ≤ sizeLine; decide), fun r nr => ?_⟩
    obtain ⟨hd4, s5, hr4⟩ := hd3.newS nr (o := .tup [.int 0, .ref b])
    have hb4 : (cut d c (upd H3 r (.tup [.int 0, .ref b]))) b = some (.tup (L.init.2.map V.bl)) := by
      have hbn := nm
      have e1 : H3 b = some (.tup (L.init.2.map V.bl)) := by
        rw [hb, List.length_map, Int.toNat_natCast]
        show _ = some (HO.tup ((List.replicate L.marks.length true).map V.bl))
        rw [List.map_replicate]
      exact s5 _ _ (hd3.tup e1)
    have hS4 : SdAt (cut d c (upd H3 r (.tup [.int 0, .ref b]))) r L.init := ⟨b, hr4, hb4⟩
    have s4 := s3.trans s5
    generalize upd H3 r (.tup [.int 0, .ref b]) = H4 at hd4 s4 hS4
    refine ⟨(by show 0 ≤ sizeLine; decide), fun e ne => ?_⟩
    obtain ⟨hd5, s6, he5⟩ := hd4.newS ne (o := .tup [])
    have hS5 := hS4.mono s6
    have s5 := s4.trans s6
    generalize upd H4 e (.tup []) = H5 at hd5 he5 hS5 s5
    refine ⟨(by show 2 ≤ sizeLine; decide), fun t2 nt2 => ⟨t2, _, rfl, .inl (.inl upd_same), rfl, _, _, rfl, _, _, rfl, rfl, ?_⟩⟩
    obtain ⟨hd6, s7, _⟩ := hd5.newS nt2 (o := .tup [.ref r, .ref e])
    have he6 := s7 _ _ he5
    have hS6 := hS5.mono s7
    have s6 := s5.trans s7
    generalize upd H5 t2 (.tup [.ref r, .ref e]) = H6 at hd6 he6 hS6 s6
    refine ⟨_, rfl, l, _, rfl, ((hl.mono s6).mono cut_same).sq, fun A nA => ?_⟩
    obtain ⟨hd7, s8, hA7⟩ := hd6.newS nA (o := .lst (ls.map V.str))
    have he7 := s8 _ _ he6
    have hS7 := hS6.mono s8
    have s7 := s6.trans s8
    generalize upd H6 A (.lst (ls.map V.str)) = H7 at hd7 he7 hS7 s7 hA7
    refine ⟨fun mm σ H' => Dw d c H' ∧ Same (cut d c H) (cut d c H') ∧ ∃ S Wd A x z u aw, σ = [some (.ref d), some (.ref a), some (.ref l), some (.ref S), some (.ref Wd), some (.ref A), x, z] ∧ SdAt (cut d c H') S (L.run L.init u) ∧ (cut d c H') Wd = some (.tup (u.map V.str)) ∧ (cut d c H') A = some (.lst (aw.map V.str)) ∧ Lo L ls u aw mm,
      ⟨_, hd7, s7, r, e, A, _, _, [], ls, rfl, hS7, he7, hA7, lo_zero mv⟩, ?_⟩
    rintro mm σ H8 ⟨hd8, s8, S, Wd, A, x, z, u, aw, rfl, hS8, hW8, hA8, lo⟩
    refine ⟨_, rfl, (by show 0 ≤ sizeLine; decide), fun t3 nt3 => ?_⟩
    obtain ⟨hd9, sN, ht9⟩ := hd8.newS nt3 (o := .lst [])
    have hS9 := hS8.mono sN
    have hW9 := sN _ _ hW8
    have hA9 := sN _ _ hA8
    have s9 := s8.trans sN
    refine ⟨_, _, .lst (.inl (.inl (cut_same _ _ hA9))) (dp_all _ (scal_strs (fun m hm => mv.mv m (lo.ins m hm)))), .lst (.inl (.inl upd_same)) .nil, shp_scal (scal_strs (fun m hm => mv.mv m (lo.ins m hm))), shp_scal (xs := []) rfl, ?_⟩
    generalize upd H8 t3 (.lst []) = H9 at hd9 hS9 hW9 hA9 s9
    have hrok : Sd.Ok L (L.run L.init u) := run_ok (init_ok L)
    cases aw with
    | nil =>
      refine ⟨false, by simp [PyData.eqv, PyData.eqvAll], ?_⟩
      refine iteF ?_
      refine ⟨_, rfl, _, rfl, _, rfl, a, S, L, _, rfl, (hp.mono s9).mono cut_same, ok, hS9.mono cut_same, hrok.2, fun H10 s10 => ⟨(by show 2 ≤ sizeLine; decide), fun t4 nt4 => ?_⟩⟩
      have hd10 := hd9.mono s10
      have sA := s9.trans (cut_mono s10)
      have hW10 := cut_mono s10 _ _ hW9
      obtain ⟨hd11, sB, ht11⟩ := hd10.newS nt4 (o := .tup [.ref Wd, .str (L.mvs (L.run L.init u))])
      exact q t4 Wd u _ hd11 (sA.trans sB) ht11 (sB _ _ hW10) lo.w lo.len (lo_end mv lo)
    | cons y0 ys =>
      refine ⟨true, by simp [PyData.eqv, PyData.eqvAll], ?_⟩
      refine iteT ?_
      refine ⟨fun σ' H'' => ∃ m'', m'' < mm ∧ Dw d c H'' ∧ Same (cut d c H) (cut d c H'') ∧ ∃ S Wd A x z u aw, σ' = [some (.ref d), some (.ref a), some (.ref l), some (.ref S), some (.ref Wd), some (.ref A), x, z] ∧ SdAt (cut d c H'') S (L.run L.init u) ∧ (cut d c H'') Wd = some (.tup (u.map V.str)) ∧ (cut d c H'') A = some (.lst (aw.map V.str)) ∧ Lo L ls u aw m'',
        fun σ' H'' h => h, ?_⟩
      refine ⟨_, rfl, _, rfl, d, c, .ref A, rfl, hd9, .inl ⟨A, _, rfl, .inl hA9, by simp, by have := lo.few; rw [List.length_map]; omega, fun x H10 hx hd10 sA => ?_⟩⟩
      obtain ⟨y, hy, rfl⟩ := List.mem_map.mp hx
      obtain ⟨m', hm', lo'⟩ := lo_step mv lo hy
      have hS10 := hS9.mono sA
      have hW10 := sA _ _ hW9
      have s10 := s9.trans sA
      refine ⟨_, rfl, _, rfl, _, rfl, a, S, L, _, y, rfl, (hp.mono s10).mono cut_same, ok, hS10.mono cut_same, hrok.2, fun r' H11 sB hr11 => ?_⟩
      have hd11 := hd10.mono sB
      have hr12 := hd11.sd hr11
      have hW11 := cut_mono sB _ _ hW10
      have s11 := s10.trans (cut_mono sB)
      refine ⟨_, rfl, _, rfl, (by show 1 ≤ sizeLine; decide), fun t4 nt4 => ?_⟩
      obtain ⟨hd12, sC, ht12⟩ := hd11.newS nt4 (o := .tup [.str y])
      have hS12 := hr12.mono sC
      have hW12 := sC _ _ hW11
      have s12 := s11.trans sC
      generalize upd H11 t4 (.tup [.str y]) = H12 at hd12 hS12 hW12 ht12 s12
      have hul := lo.len
      have hsm := sm.1
      have hsm2 := sm.2
      refine ⟨Wd, t4, _, _, rfl, rfl, cut_same _ _ hW12, cut_same _ _ ht12, by rw [List.length_map]; exact sz_le (by simp; omega), fun p H13 sD hp13 => ⟨(by show 2 ≤ sizeLine; decide), fun t5 nt5 => ?_⟩⟩
      have hd13 := hd12.mono sD
      have hp14 := hd13.tup hp13
      have hS13 := hS12.mono (cut_mono sD)
      have s13 := s12.trans (cut_mono sD)
      obtain ⟨hd14, sE, _⟩ := hd13.newS nt5 (o := .tup [.ref r', .ref p])
      refine ⟨t5, _, rfl, .inl (.inl upd_same), rfl, _, _, rfl, _, _, rfl, rfl, ?_⟩
      have hS14 := hS13.mono sE
      have hp15 := sE _ _ hp14
      have s14 := s13.trans sE
      generalize upd H13 t5 (.tup [.ref r', .ref p]) = H14 at hd14 hS14 hp15 s14
      have hl14 := (hl.mono s14).mono cut_same
      refine ⟨_, rfl, l, _, rfl, hl14, fun J hJ D nD => ?_⟩
      refine lcW_fm hJ (fun i => (ls[i]?).bind fun z => if (!L.rest (L.step (L.run L.init u) y) z) = true then some (.str z) else none) nD (by have := mv.few; rw [List.length_map]; omega) (fun H6 s6 => same_of s6 hl14) (fun i x H15 H6 hi s6 y' K1 K0 k1 k0 => ?_) (fun H6 s6 e6 => ?_)
      · obtain ⟨rfl, hx⟩ := y'
        rw [List.getElem?_map] at hx
        obtain ⟨z, hz, rfl⟩ := Option.map_eq_some_iff.mp hx
        refine ⟨rfl, ?_⟩
        refine ⟨_, rfl, _, rfl, _, rfl, a, r', L, _, z, rfl, ((hp.mono s14).mono cut_same).mono s6, ok, (hS14.mono cut_same).mono s6, by simp [Pl.step], fun H7 s7 => ?_⟩
        refine ⟨_, rfl, ?_⟩
        cases hrz : L.rest (L.step (L.run L.init u) y) z with
        | true =>
          refine iteF ?_
          exact k0 _ (by rw [hz]; show (if _ then _ else _) = _; rw [hrz]; rfl) s7
        | false =>
          refine iteT ?_
          exact ⟨_, rfl, k1 _ _ (by rw [hz]; show (if _ then _ else _) = _; rw [hrz]; rfl) s7⟩
      · rw [List.length_map, range_fmA, fm_if] at e6
        have hd15 := hd14.mono s6
        have hDD := hd14.nd nD
        refine ⟨m', hm', hd15, s14.trans (cut_mono s6), r', p, D, _, _, _, _, rfl, ?_, ?_, cut_at e6 hDD.1 hDD.2, lo'⟩
        · rw [run_snoc]
          exact hS14.mono (cut_mono s6)
        · rw [List.map_append]
          exact cut_mono s6 _ _ hp15
end
end Lk

set_option maxHeartbeats 4000000
namespace Lk
open PySem PySem.Spec PyProof.Rows L2
/-! ### one's own way, whatever is shown -/
theorem plain_hold (ms : List Str) (m : Str) (tr : Nat → Bool) : hold (plainPl ms m).rows tr [] 0 = false ∧ hold (plainPl ms m).rows tr [] 1 = true := ⟨rfl, rfl⟩
theorem pick_plain : ∀ (ms : List Str) (m : Str) (h : Nat → Bool), m ∈ ms → h 0 = false → h 1 = true → pickMv ms (ms.dropLast.map fun x => if x = m then 1 else 0) h = m
  | [], _, _, hm, _, _ => by cases hm
  | [x], m, h, hm, _, _ => by
    rw [List.mem_singleton.mp hm]
    rfl
  | x :: y :: r, m, h, hm, h0, h1 => by
    unfold pickMv
    rw [List.dropLast_cons₂, List.map_cons, List.zip_cons_cons, List.find?_cons]
    by_cases e : x = m
    · rw [if_pos e, h1]
      exact e
    · rw [if_neg e, h0]
      have ih := pick_plain (y :: r) m h ((List.mem_cons.mp hm).resolve_left (fun z => e z.symm)) h0 h1
      unfold pickMv at ih
      rw [List.getLastD_cons] at ih
      rw [List.getLastD_cons, List.getLastD_cons]
      exact ih
theorem plain_does {ms : List Str} {m : Str} (h : m ∈ ms) (tr : Nat → Bool) : (plainPl ms m).does tr = m := pick_plain ms m _ h (plain_hold ms m tr).1 (plain_hold ms m tr).2
theorem plain_marks (ms : List Str) (m : Str) : (plainPl ms m).marks = [] := by
  unfold Pl.marks
  rw [List.filter_eq_nil_iff]
  intro i hi
  have hl := (mem_cone.mp hi).1
  have hl : i < 2 := hl
  match i, hl with
  | 0, _ => exact fun z => Bool.false_ne_true z
  | 1, _ => exact fun z => Bool.false_ne_true z
theorem plain_small (ms : List Str) (m : Str) : (plainPl ms m).Small := by
  unfold Pl.Small Pl.high
  rw [plain_marks]
  exact ⟨Nat.zero_le _, Nat.zero_le _⟩
theorem plain_ends {ms ls : List Str} {m : Str} (h : m ∈ ms) {z : Str × Str} : z ∈ endPrs (plainPl ms m) ls ↔ z.1 = m ∧ z.2 ∈ ls := by
  obtain ⟨a, b⟩ := z
  rw [mem_endPrs]
  constructor
  · rintro ⟨h1, h2, u, _, h3⟩
    refine ⟨?_, h2⟩
    rw [← h3]
    exact plain_does h _
  · rintro ⟨rfl, h2⟩
    exact ⟨h, h2, [], (fun z hz => nomatch hz), plain_does h _⟩
theorem plain_best {ms ls : List Str} {m : Str} {W : Ws} {v : Int} (hm : m ∈ ms) (hl : ls ≠ []) (h1 : ∃ z ∈ endPrs (plainPl ms m) ls, (W z.1 z.2).2 = v) (h2 : ∀ z ∈ endPrs (plainPl ms m) ls, (W z.1 z.2).2 ≤ v) : v = mxW W ls m := by
  unfold mxW
  refine mxL_eq ?_ fun y hy => ?_
  · obtain ⟨z, hz, e⟩ := h1
    obtain ⟨e1, e2⟩ := (plain_ends hm).mp hz
    rw [e1] at e
    exact List.mem_map.mpr ⟨_, e2, e⟩
  · obtain ⟨b, hb, rfl⟩ := List.mem_map.mp hy
    exact h2 (m, b) ((plain_ends hm).mpr ⟨rfl, hb⟩)
def spHoldsL (P : Program) (w : World) (cT : Addr) : Sp := fun vs H Q _ => ∃ (t a : Addr) (mine yours : List Str) (W : Ws), vs = [.ref t, .ref a] ∧ TbAt P w cT H t mine yours W ∧ Lt H a (mine.map V.str) ∧ ∀ H', Same H H' → Q (.bl true) H'
section
variable {P : Program} {w : World} {K : PySem.W.Frag} {mg : Str → Option Value} {base : Heap} {cP cG cT : Addr} {f : Addr} {fd : FuncData} (T : Txt K w mg cP cG cT)
include T
theorem ok_law_holds_there {C_floor : Cal P w K mg base "floor" 3 ["table"] (spFloor P w cT)} {C_best : Cal P w K mg base "best" 9 ["table", "player"] (spBest P w cT cP)} {C_plain : Cal P w K mg base "plain" 6 ["moves", "move"] (spPlain cP)}
    (F : FnP K "_law_holds_there" "_law_holds_there" s_law_holds_there f fd) : FnOk P w K mg base CX0 10 f fd ["sheet", "mine"] (spHoldsL P w cT) := by
  refine okN F sc_law_holds_there (fun vs H Q E h => ?_) (fun cdv A outer s H vs Q E hr h => ?_)
  · obtain ⟨t, a, mine, yours, W, rfl, _⟩ := h
    rfl
  · obtain ⟨t, a, mine, yours, W, rfl, ht, ha, q⟩ := h
    have m1 := ht.m1
    have m2 := ht.m2
    have hf1 := m1.few
    refine ⟨_, (pss_cons (ps_asg (pe_cal C_floor hr (pa_cons (pv 0) pa_nil)) (pgT K 2 rfl (pgs_cons (pg_name (i := 2) sc_law_holds_there.nd rfl (Or.inr rfl)) (pgs_cons (pg_name (i := 3) sc_law_holds_there.nd rfl (Or.inl rfl)) pgs_nil))))
      (pss_cons (ps_if (pt_cmpR op_ne (pe_ix (ixT K) (pe_cal C_best hr (pa_cons (pv 0) (pa_cons (pe_cal C_plain hr (pa_cons (pv 1) (pa_cons (pv 3) pa_nil))) pa_nil))) pe_int (fun _ _ => rfl)) (pv 2) (nomark _)) (pss_one (ps_ret pe_bl)) pss_nil)
      (pss_one (ps_ret (pe_cmpR (op_eqD hr.units) (pe_lc (own := [("one", 4)]) rfl sc_law_holds_there.nd (pi_sq (pv 1)) (blkOk_by (own := [("one", 4)]) (N := ["sheet", "mine", "least", "move", "one"]) (sc := defScope s_law_holds_there) (by decide +kernel)) (fun _ _ _ _ _ => pg_name (i := 4) sc_law_holds_there.nd rfl (Or.inl rfl)) (fun _ _ _ _ _ => pts_one (pt_cmpR op_lt (pe_ix (ixT K) (pe_cal C_best hr (pa_cons (pv 0) (pa_cons (pe_cal C_plain hr (pa_cons (pv 1) (pa_cons (pv 4) pa_nil))) pa_nil))) pe_int (fun _ _ => rfl)) (pv 2) (nomark _))) (fun _ _ _ _ _ => (pv 4))) (pe_lst pa_nil) (nomark _)))))), ?_⟩
    refine ⟨_, rfl, t, mine, yours, W, rfl, ht, fun r H1 m s1 hm hmin hr1 => ?_⟩
    refine ⟨r, _, rfl, .inl (.inl hr1), rfl, _, _, rfl, _, _, rfl, rfl, ?_⟩
    have ht1 := ht.mono s1
    have ha1 := ha.mono s1
    refine ⟨_, rfl, _, rfl, _, rfl, a, mine, m, rfl, ha1, m1, hm, fun p H2 s2 hp2 => ?_⟩
    have s2' := s1.trans s2
    refine ⟨t, p, yours, W, plainPl mine m, rfl, ht.mono s2', hp2, plain_ok m1, plain_small _ _, fun b H3 v x y s3 hv1 hv2 hb3 => ?_⟩
    have s3' := s2'.trans s3
    have ev := plain_best hm m2.ne hv1 hv2
    subst ev
    refine ⟨b, _, _, .int _, rfl, rfl, .inl (.inl hb3), atI_nat (j := 0) rfl, _, rfl, rfl, _, rfl, ?_⟩
    refine ifNF rfl ?_
    refine ⟨_, rfl, a, _, rfl, ha.mono s3', fun J hJ D hD => ?_⟩
    refine lcW_fm hJ (fun _ => none) hD (by rw [List.length_map]; omega) (fun H2 s2 => same_of s2 (ha.mono s3')) (fun i x H9 H4 hi s4 y' K1 K0 k1 k0 => ?_) (fun H4 s4 e => ?_)
    · obtain ⟨rfl, hx⟩ := y'
      rw [List.getElem?_map] at hx
      obtain ⟨z, hz, rfl⟩ := Option.map_eq_some_iff.mp hx
      have hzm := List.mem_of_getElem? hz
      have s4' := s3'.trans s4
      refine ⟨rfl, ?_⟩
      refine ⟨_, rfl, _, rfl, _, rfl, a, mine, z, rfl, ha.mono s4', m1, hzm, fun p5 H5 s5 hp5 => ?_⟩
      have s5' := s4'.trans s5
      refine ⟨t, p5, yours, W, plainPl mine z, rfl, ht.mono s5', hp5, plain_ok m1, plain_small _ _, fun b6 H6 v6 x6 y6 s6 hv1 hv2 hb6 => ?_⟩
      have ev := plain_best hzm m2.ne hv1 hv2
      subst ev
      refine ⟨b6, _, _, .int _, rfl, rfl, .inl (.inl hb6), atI_nat (j := 0) rfl, _, rfl, _, _, rfl, rfl, _, rfl, ?_⟩
      have := hmin z hzm
      refine ifF (by omega) ?_
      exact k0 _ rfl (s5.trans s6)
    · have e0 : (List.range (mine.map V.str).length).filterMap (fun _ => (none : Option V)) = [] := by simp
      rw [e0] at e
      have s5 := s3'.trans s4
      refine ⟨(by show 0 ≤ sizeLine; decide), fun l nl => ?_⟩
      have s6 := same_new (o := .lst []) nl
      refine ⟨.list [], .list [], .lst (.inl (.inl (s6 _ _ e))) .nil, .lst (.inl (.inl upd_same)) .nil, shp_scal (xs := []) rfl, shp_scal (xs := []) rfl, ?_⟩
      exact q _ (s5.trans s6)
end
end Lk

set_option maxHeartbeats 4000000
namespace Lk
open PySem PySem.Spec PyProof.Rows L2
theorem foldl_max_le {b : Nat} : ∀ (ls : List Nat) (a : Nat), a ≤ b → (∀ x ∈ ls, x ≤ b) → ls.foldl max a ≤ b
  | [], _, h, _ => h
  | x :: r, a, h, k => by
    rw [List.foldl_cons]
    exact foldl_max_le r _ (Nat.max_le.mpr ⟨h, k x (by simp)⟩) fun y hy => k y (List.mem_cons_of_mem _ hy)
theorem ok_small {L : Pl} (ok : L.Ok) : L.Small := by
  constructor
  · have h := range_fmA L.rows (fun r => if Rw.isSh r = true then some () else none)
    have h := congrArg List.length h
    rw [List.length_filterMap_eq_countP, List.length_filterMap_eq_countP] at h
    have e1 : List.countP (fun r => (if Rw.isSh r = true then some () else none).isSome) L.rows = (L.rows.filter Rw.isSh).length := by
      rw [List.countP_eq_length_filter]
      congr 2
      funext r
      cases r.isSh <;> rfl
    rw [e1] at h
    have hns := ok.ns
    rw [← h] at hns
    refine Nat.le_trans ?_ hns
    unfold Pl.marks Pl.cone coneOf
    rw [List.filter_filter, ← List.countP_eq_length_filter]
    refine List.countP_mono_left fun x _ hx => ?_
    have hx := (Bool.and_eq_true_iff.mp hx).1
    unfold shAt at hx
    cases e : L.rows[x]? with
    | none => rw [e] at hx; cases hx
    | some r =>
      rw [e] at hx
      have hx : r.isSh = true := hx
      show (if r.isSh = true then some () else none).isSome = true
      rw [hx]
      rfl
  · unfold Pl.high
    refine foldl_max_le _ _ (Nat.zero_le _) fun x hx => ?_
    obtain ⟨i, hi, rfl⟩ := List.mem_map.mp hx
    obtain ⟨k, j, hr, e1, e2⟩ := sh_row hi
    rw [e1]
    exact ok.lv _ (List.mem_of_getElem? hr)
def grimRows (word : Str) (k : Nat) : List Rw := [.ds 1 word, .sh k 0, .ng 1, .fl, .ng 3]
theorem grim_ok {own : List Str} {word : Str} {k : Nat} {ps : List Nat} (mv : Mv own) (hw : isMv word) (hk : k ≤ 2) (hp : ps.length + 1 = own.length) (h : ∀ p ∈ ps, 1 ≤ p ∧ p ≤ 4) : (⟨own, grimRows word k, ps⟩ : Pl).Ok := by
  refine ⟨mv, ?_, show 5 ≤ 40 by decide, hp, fun i hi => ?_, show 1 ≤ 4 by decide, ?_⟩
  · intro i r e
    match i, e with
    | 0, e => cases e; exact ⟨by decide, hw⟩
    | 1, e => cases e; exact ⟨by omega, by decide⟩
    | 2, e => cases e; show 1 < 2; omega
    | 3, e => cases e; trivial
    | 4, e => cases e; show 3 < 4; omega
    | i + 5, e => cases e
  · obtain ⟨h1, h2⟩ := h i hi
    match i, h1, h2 with
    | 1, _, _ => exact ⟨show 1 < 5 by decide, rfl⟩
    | 2, _, _ => exact ⟨show 2 < 5 by decide, rfl⟩
    | 3, _, _ => exact ⟨show 3 < 5 by decide, rfl⟩
    | 4, _, _ => exact ⟨show 4 < 5 by decide, rfl⟩
    | i + 5, _, h => omega
  · intro r hr
    have hr : r ∈ grimRows word k := hr
    simp only [grimRows, List.mem_cons, List.not_mem_nil, or_false] at hr
    rcases hr with rfl | rfl | rfl | rfl | rfl <;> simp [Rw.lev] <;> omega
def By (own : List Str) (kvs : List (Key × V)) : Prop := ∀ m ∈ own, ∃ v : Nat, 1 ≤ v ∧ v ≤ 4 ∧ valV kvs (Sum.inr m) = some (nV v)
theorem By.put {own : List Str} {kvs : List (Key × V)} (h : By own kvs) (x : Str) {v : Nat} (h1 : 1 ≤ v) (h2 : v ≤ 4) : By own (putK kvs (Sum.inr x) (nV v)) := fun m hm => by
  rw [valV_put]
  by_cases e : (Sum.inr m : Key) = Sum.inr x
  · rw [if_pos e]
    exact ⟨v, h1, h2, rfl⟩
  · rw [if_neg e]
    exact h m hm
theorem By.fn {own : List Str} {kvs : List (Key × V)} (h : By own kvs) : ∃ g : Str → Nat, ∀ m ∈ own, 1 ≤ g m ∧ g m ≤ 4 ∧ valV kvs (Sum.inr m) = some (nV (g m)) := by
  classical
  refine ⟨fun m => if hm : m ∈ own then (h m hm).choose else 0, fun m hm => ?_⟩
  simp only [hm, dite_true]
  exact (h m hm).choose_spec
theorem by_zero (own : List Str) : By own (own.map fun m => (Sum.inr m, V.int 3)) := fun m hm => by
  refine ⟨3, by decide, by decide, ?_⟩
  induction own with
  | nil => cases hm
  | cons x r ih =>
    rw [List.map_cons]
    by_cases e : x = m
    · rw [valV_pos (by rw [e])]
      rfl
    · rw [valV_neg (fun z => e (by injection z))]
      exact ih ((List.mem_cons.mp hm).resolve_left fun z => e z.symm)
theorem tC_ite {c : Bool} {x y : V} {σ : L2.St} {H : Hp} {Q : V → Hp → Prop} (h : ∀ v, v = x ∨ v = y → Q v H) : if c = true then tC x σ H Q else tC y σ H Q := by
  cases c with
  | true => exact h x (.inl rfl)
  | false => exact h y (.inr rfl)
theorem cut_last (xs : List V) : cutV xs none (some (-1)) = xs.dropLast := by
  unfold cutV
  show (xs.drop 0).take ((-1 + (xs.length : Int)).toNat - 0) = _
  rw [List.drop_zero, Nat.sub_zero, List.dropLast_eq_take]
  congr 1
  omega
theorem mem_dl {α : Type} {x : α} {xs : List α} (h : x ∈ xs.dropLast) : x ∈ xs := (List.dropLast_sublist xs).subset h
theorem putK_len1 (c : List (Key × V)) (k : Key) (x : V) : (putK c k x).length ≤ c.length + 1 := by
  unfold putK
  split
  · rw [List.length_map]; omega
  · rw [List.length_append]; simp
def TpAt (H : Hp) (ps : List Addr) (ms : List Str) : Prop := Paired (fun p (m : Str) => H p = some (.tup [.str m, .int 3])) ps ms
theorem TpAt.keep {H H' : Hp} (k : ∀ a xs, H a = some (.tup xs) → H' a = some (.tup xs)) {ps : List Addr} {ms : List Str} (h : TpAt H ps ms) : TpAt H' ps ms := by
  induction h with
  | nil => exact .nil
  | cons h _ ih => exact .cons (k _ _ h) ih
theorem TpAt.prs {K : PySem.W.Frag} {H : Hp} {ps : List Addr} {ms : List Str} (h : TpAt H ps ms) : Paired (fun p (kv : Key × V) => SqT K H p [kV kv.1, kv.2]) ps (ms.map fun m => (Sum.inr m, V.int 3)) := by
  induction h with
  | nil => exact .nil
  | cons h _ ih => exact .cons (.inl (.inl h)) ih
theorem RowsAt.keep {H H' : Hp} (k : ∀ a xs, H a = some (.tup xs) → H' a = some (.tup xs)) {zs : List V} {rs : List Rw} (h : RowsAt H zs rs) : RowsAt H' zs rs := by
  induction h with
  | nil => exact .nil
  | cons h _ ih =>
    obtain ⟨a, e, h⟩ := h
    exact .cons ⟨a, e, k _ _ h⟩ ih
def spGrimL : Sp := fun vs H Q _ => ∃ (a : Addr) (own : List Str) (move word other : Str) (k : Nat), vs = [.ref a, .str move, .str word, .str other, nV k] ∧ H a = some (.lst (own.map V.str)) ∧ Mv own ∧ isMv word ∧ k ≤ 2 ∧ ∀ p L H', Same H H' → PartsAt H' p L → L.Ok → L.moves = own → Q (.ref p) H'
section
variable {P : Program} {w : World} {K : PySem.W.Frag} {mg : Str → Option Value} {base : Heap} {cP cG cT : Addr} {f : Addr} {fd : FuncData} (T : Txt K w mg cP cG cT)
include T
theorem ok_law_grim (F : FnP K "_law_grim" "_law_grim" s_law_grim f fd) : FnOk P w K mg base CX0 1 f fd ["own", "move", "word", "other", "k"] spGrimL := by
  refine okN F sc_law_grim (fun vs H Q E h => ?_) (fun cdv A outer s H vs Q E hr h => ?_)
  · obtain ⟨a, own, move, word, other, k, rfl, _⟩ := h
    rfl
  · obtain ⟨a, own, move, word, other, k, rfl, ha, mv, hw, hk, q⟩ := h
    have hf := mv.few
    refine ⟨_, (pss_cons (ps_set (i := 5) sc_law_grim.nd rfl (Or.inl rfl) (pe_tup (pa_cons (pe_tup (pa_cons pe_str (pa_cons pe_int (pa_cons (pv 2) pa_nil)))) (pa_cons (pe_tup (pa_cons pe_str (pa_cons (pv 4) (pa_cons pe_int pa_nil)))) (pa_cons (pe_tup (pa_cons pe_str (pa_cons pe_int pa_nil))) (pa_cons (pe_tup (pa_cons pe_str pa_nil)) (pa_cons (pe_tup (pa_cons pe_str (pa_cons pe_int pa_nil))) pa_nil)))))))
      (pss_cons (ps_set (i := 6) sc_law_grim.nd rfl (Or.inr rfl) (pe_callTy (call_dictP rfl) (by rfl) T.dict_ b_dict (pa_cons (pe_lc (own := [("one", 7)]) rfl sc_law_grim.nd (pi_sq (pv 0)) (blkOk_by (own := [("one", 7)]) (N := ["own", "move", "word", "other", "k", "lines", "by_move", "one"]) (sc := defScope s_law_grim) (by decide +kernel)) (fun _ _ _ _ _ => pg_name (i := 7) sc_law_grim.nd rfl (Or.inl rfl)) (fun _ _ _ _ _ => pts_nil) (fun _ _ _ _ _ => (pe_tup (pa_cons (pv 7) (pa_cons pe_int pa_nil))))) pa_nil)))
      (pss_cons (ps_dput (hu_of hr) (pv 6) (pv 3) pe_int rfl)
      (pss_cons (ps_dput (hu_of hr) (pv 6) (pv 1) (pe_ifExp (pt_cmpR op_eq (pv 1) (pv 3) (nomark _)) pe_int pe_int) rfl)
      (pss_one (ps_ret (pe_tup (pa_cons (pe_callTy tupA (by rfl) T.tuple_ b_tuple (pa_cons (pv 0) pa_nil)) (pa_cons (pv 5) (pa_cons (pe_callTy tupA (by rfl) T.tuple_ b_tuple (pa_cons (pe_lc (own := [("one", 7)]) rfl sc_law_grim.nd (pi_sq (pe_slice (slL K) (pv 0) po_none (po_some (pe_un un_neg pe_int)))) (blkOk_by (own := [("one", 7)]) (N := ["own", "move", "word", "other", "k", "lines", "by_move", "one"]) (sc := defScope s_law_grim) (by decide +kernel)) (fun _ _ _ _ _ => pg_name (i := 7) sc_law_grim.nd rfl (Or.inl rfl)) (fun _ _ _ _ _ => pts_nil) (fun _ _ _ _ _ => (pe_dget (hu_of hr) (pv 6) (pv 7) (fun _ _ => rfl)))) pa_nil)) pa_nil)))))))))), ?_⟩
    refine ⟨_, rfl, (by show 3 ≤ sizeLine; decide), fun t1 n1 => ⟨_, rfl, (by show 3 ≤ sizeLine; decide), fun t2 n2 => ⟨(by show 2 ≤ sizeLine; decide), fun t3 n3 => ⟨(by show 1 ≤ sizeLine; decide), fun t4 n4 => ⟨(by show 2 ≤ sizeLine; decide), fun t5 n5 => ⟨(by show 5 ≤ sizeLine; decide), fun t nt => ?_⟩⟩⟩⟩⟩⟩
    have m1 := same_new (o := .tup [.str "does", .int 1, .str word]) n1
    have g1 : (upd H t1 (.tup [.str "does", .int 1, .str word])) t1 = _ := upd_same
    generalize upd H t1 (.tup [.str "does", .int 1, .str word]) = H1 at m1 g1 n2 n3 n4 n5 nt ⊢
    have m2 := same_new (o := .tup [.str "shown", nV k, .int 0]) n2
    have g1 := m2 _ _ g1
    have g2 : (upd H1 t2 (.tup [.str "shown", nV k, .int 0])) t2 = _ := upd_same
    have m2 := m1.trans m2
    generalize upd H1 t2 (.tup [.str "shown", nV k, .int 0]) = H2 at m2 g1 g2 n3 n4 n5 nt ⊢
    have m3 := same_new (o := .tup [.str "not", .int 1]) n3
    have g1 := m3 _ _ g1
    have g2 := m3 _ _ g2
    have g3 : (upd H2 t3 (.tup [.str "not", .int 1])) t3 = _ := upd_same
    have m3 := m2.trans m3
    generalize upd H2 t3 (.tup [.str "not", .int 1]) = H3 at m3 g1 g2 g3 n4 n5 nt ⊢
    have m4 := same_new (o := .tup [.str "false"]) n4
    have g1 := m4 _ _ g1
    have g2 := m4 _ _ g2
    have g3 := m4 _ _ g3
    have g4 : (upd H3 t4 (.tup [.str "false"])) t4 = _ := upd_same
    have m4 := m3.trans m4
    generalize upd H3 t4 (.tup [.str "false"]) = H4 at m4 g1 g2 g3 g4 n5 nt ⊢
    have m5 := same_new (o := .tup [.str "not", .int 3]) n5
    have g1 := m5 _ _ g1
    have g2 := m5 _ _ g2
    have g3 := m5 _ _ g3
    have g4 := m5 _ _ g4
    have g5 : (upd H4 t5 (.tup [.str "not", .int 3])) t5 = _ := upd_same
    have m5 := m4.trans m5
    generalize upd H4 t5 (.tup [.str "not", .int 3]) = H5 at m5 g1 g2 g3 g4 g5 nt ⊢
    have m6 := same_new (o := .tup [.ref t1, .ref t2, .ref t3, .ref t4, .ref t5]) nt
    have g0 : (upd H5 t (.tup [.ref t1, .ref t2, .ref t3, .ref t4, .ref t5])) t = _ := upd_same
    have hR : RowsAt (upd H5 t (.tup [.ref t1, .ref t2, .ref t3, .ref t4, .ref t5])) [.ref t1, .ref t2, .ref t3, .ref t4, .ref t5] (grimRows word k) :=
      .cons ⟨_, rfl, m6 _ _ g1⟩ (.cons ⟨_, rfl, m6 _ _ g2⟩ (.cons ⟨_, rfl, m6 _ _ g3⟩ (.cons ⟨_, rfl, m6 _ _ g4⟩ (.cons ⟨_, rfl, m6 _ _ g5⟩ .nil))))
    have s1 := m5.trans m6
    clear g1 g2 g3 g4 g5 m1 m2 m3 m4 m5 m6
    generalize upd H5 t (.tup [.ref t1, .ref t2, .ref t3, .ref t4, .ref t5]) = H6 at g0 hR s1 ⊢
    refine ⟨_, rfl, a, _, rfl, .inl (s1 _ _ ha), fun J hJ D hD => ?_⟩
    refine it_by hJ (fun i H' => Same H6 H' ∧ ∃ ps : List Addr, H' D = some (.lst (ps.map V.ref)) ∧ TpAt H' ps (own.take i)) ⟨same_new hD, [], upd_same, .nil⟩ (fun i H' hi h => same_of h.1 (.inl (s1 _ _ ha))) (fun i x H9 H7 hi h y => ?_) (fun H7 h => ?_)
    · obtain ⟨s2, ps, hd, pr⟩ := h
      obtain ⟨rfl, hx⟩ := y
      rw [List.getElem?_map] at hx
      obtain ⟨m, hm, rfl⟩ := Option.map_eq_some_iff.mp hx
      refine ⟨rfl, yesT ?_⟩
      refine ⟨_, rfl, (by show 2 ≤ sizeLine; decide), fun z nz => ?_⟩
      have sz := same_new (o := .tup [.str m, .int 3]) nz
      have hpl := paired_len pr
      have hil := (List.getElem?_eq_some_iff.mp hm).1
      refine ⟨_, sz _ _ hd, by rw [List.length_map, hpl, List.length_take]; exact sz_lt (by omega), same_mut (s2.trans sz) hD, ps ++ [z], by rw [upd_same, List.map_append]; rfl, ?_⟩
      have eT : own.take (i + 1) = own.take i ++ [m] := by rw [List.take_add_one, hm]; rfl
      rw [eT]
      have hzD : z ≠ D := (ne_of_none hd nz).symm
      have ntD : ∀ zs, HO.lst (ps.map V.ref) ≠ .tup zs := fun zs e => by cases e
      exact paired_snoc (TpAt.keep (fun b zs e => keepTup (sz _ _ hd) ntD _ _ (sz _ _ e)) pr) ((upd_ne hzD).trans upd_same)
    · obtain ⟨s2, ps, hd, pr⟩ := h
      rw [List.length_map, List.take_length] at pr
      have s2' := s1.trans s2
      refine ⟨D, ps, _, rfl, .inl (.inl hd), pr.prs, fun r nr => ?_⟩
      have ndk : ((own.map fun m => ((Sum.inr m : Key), V.int 3)).map (·.1)).Nodup := by
        rw [List.map_map]
        exact List.Pairwise.map _ (fun a b h e => h (by injection e)) mv.nd
      rw [merge_nd _ [] (by rw [List.nil_append]; exact ndk), List.nil_append]
      have s3 := s2'.trans (same_new (o := .dK (own.map fun m => ((Sum.inr m : Key), V.int 3))) nr)
      have hr3 : (upd H7 r (.dK (own.map fun m => ((Sum.inr m : Key), V.int 3)))) r = some (.dK (own.map fun m => ((Sum.inr m : Key), V.int 3))) := upd_same
      have nr0 := none_of s2' nr
      have g3 := (s2.trans (same_new (o := .dK (own.map fun m => ((Sum.inr m : Key), V.int 3))) nr)) _ _ g0
      have hR3 := hR.mono (s2.trans (same_new (o := .dK (own.map fun m => ((Sum.inr m : Key), V.int 3))) nr))
      have hby := by_zero own
      have hbl : (own.map fun m => ((Sum.inr m : Key), V.int 3)).length ≤ 4 := by rw [List.length_map]; exact hf
      generalize (own.map fun m => ((Sum.inr m : Key), V.int 3)) = kvs at hr3 hby hbl s3 g3 hR3 ⊢
      generalize upd H7 r (.dK kvs) = H8 at s3 hr3 g3 hR3 ⊢
      refine ⟨_, rfl, _, rfl, r, _, rfl, DPut.k (k := Sum.inr other) hr3 (sz_lt (by omega)), ?_⟩
      have ntr : ∀ kvs zs, HO.dK kvs ≠ .tup zs := fun kvs zs e => by cases e
      have hby4 := hby.put other (v := 2) (by decide) (by decide)
      have hbl4 := putK_len1 kvs (Sum.inr other) (nV 2)
      have s4 : Same H (upd H8 r (.dK (putK kvs (Sum.inr other) (nV 2)))) := same_mut s3 nr0
      have g4 := keepTup (u := .dK (putK kvs (Sum.inr other) (nV 2))) hr3 (ntr _) _ _ g3
      have hR4 := hR3.keep (keepTup (u := .dK (putK kvs (Sum.inr other) (nV 2))) hr3 (ntr _))
      have hr4 : (upd H8 r (.dK (putK kvs (Sum.inr other) (nV 2)))) r = some (.dK (putK kvs (Sum.inr other) (nV 2))) := upd_same
      have e2 : (V.int 2) = nV 2 := rfl
      rw [e2]
      generalize putK kvs (Sum.inr other) (nV 2) = kvs2 at hby4 hbl4 hr4 s4 g4 hR4 ⊢
      generalize upd H8 r (.dK kvs2) = H9 at s4 g4 hR4 hr4 ⊢
      refine ⟨_, rfl, _, rfl, rfl, _, rfl, ?_⟩
      refine tC_ite (fun v hv => ?_)
      obtain ⟨n, hn1, hn4, rfl⟩ : ∃ n : Nat, 1 ≤ n ∧ n ≤ 4 ∧ v = nV n := by
        rcases hv with rfl | rfl
        · exact ⟨4, by decide, by decide, rfl⟩
        · exact ⟨1, by decide, by decide, rfl⟩
      clear hv
      refine ⟨_, rfl, _, rfl, r, _, rfl, DPut.k (k := Sum.inr move) hr4 (sz_lt (by omega)), ?_⟩
      have hby5 := hby4.put move hn1 hn4
      have s5 : Same H (upd H9 r (.dK (putK kvs2 (Sum.inr move) (nV n)))) := same_mut s4 nr0
      have g5 := keepTup (u := .dK (putK kvs2 (Sum.inr move) (nV n))) hr4 (ntr _) _ _ g4
      have hR5 := hR4.keep (keepTup (u := .dK (putK kvs2 (Sum.inr move) (nV n))) hr4 (ntr _))
      have hr5 : (upd H9 r (.dK (putK kvs2 (Sum.inr move) (nV n)))) r = some (.dK (putK kvs2 (Sum.inr move) (nV n))) := upd_same
      generalize putK kvs2 (Sum.inr move) (nV n) = kvs3 at hby5 hr5 s5 g5 hR5 ⊢
      generalize upd H9 r (.dK kvs3) = HA at s5 g5 hR5 hr5 ⊢
      refine ⟨_, rfl, a, _, rfl, .inl (s5 _ _ ha), fun p1 HB s6 hp1 => ?_⟩
      have g6 := s6 _ _ g5
      have hR6 := hR5.mono s6
      have hr6 := s6 _ _ hr5
      have s6 := s5.trans s6
      refine ⟨_, rfl, _, rfl, _, rfl, _, rfl, a, _, rfl, .inl (.inl (s6 _ _ ha)), fun c nc => ?_⟩
      have e1 : cutV (own.map V.str) none (some (-1)) = own.dropLast.map V.str := by rw [cut_last, List.map_dropLast]
      show (fun H' => _) (upd HB c (.lst (cutV (own.map V.str) none (some (-1)))))
      rw [e1]
      have s7 := same_new (o := .lst (own.dropLast.map V.str)) nc
      have g7 := s7 _ _ g6
      have hR7 := hR6.mono s7
      have hr7 := s7 _ _ hr6
      have hp7 := s7 _ _ hp1
      have s7 := s6.trans s7
      have hc7 : (upd HB c (.lst (own.dropLast.map V.str))) c = some (.lst (own.dropLast.map V.str)) := upd_same
      generalize upd HB c (.lst (own.dropLast.map V.str)) = HC at g7 hR7 hr7 hp7 s7 hc7 ⊢
      obtain ⟨g, hg⟩ := hby5.fn
      refine ⟨c, _, rfl, .inl hc7, fun J hJ D hD => ?_⟩
      refine lcW_fm hJ (fun i => (own.dropLast[i]?).map fun m => nV (g m)) hD (by rw [List.length_map, List.length_dropLast]; omega) (fun H2 s2 => same_of s2 (.inl hc7)) (fun i x HD H2 hi s8 y K1 K0 k1 k0 => ?_) (fun HD s8 e => ?_)
      · obtain ⟨rfl, hx⟩ := y
        rw [List.getElem?_map] at hx
        obtain ⟨m, hm, rfl⟩ := Option.map_eq_some_iff.mp hx
        refine ⟨rfl, yesT ?_⟩
        refine ⟨_, rfl, _, rfl, r, _, rfl, .inl ⟨kvs3, Sum.inr m, .inl (s8 _ _ hr7), rfl, (hg m (mem_dl (List.mem_of_getElem? hm))).2.2.symm⟩, ?_⟩
        exact k1 _ _ (by rw [hm]; rfl) (fun _ _ e => e)
      · rw [List.length_map, range_mapA] at e
        refine ⟨D, _, rfl, .inl e, fun p2 HE s9 hp2 => ?_⟩
        have s10 := s8.trans s9
        refine ⟨(by show 3 ≤ sizeLine; decide), fun z nz => ?_⟩
        have sz := same_new (o := .tup [.ref p1, .ref t, .ref p2]) nz
        have e3 : (own.dropLast.map fun m => nV (g m)) = (own.dropLast.map g).map nV := by rw [List.map_map]; rfl
        rw [e3] at hp2
        refine q z ⟨own, grimRows word k, own.dropLast.map g⟩ _ ((s7.trans s10).trans sz) ⟨p1, t, p2, _, upd_same, sz _ _ (s10 _ _ hp7), sz _ _ (s10 _ _ g7), hR7.mono (s10.trans sz), sz _ _ hp2⟩ (grim_ok mv hw hk ?_ fun p hp => ?_) rfl
        · have := mv.pos
          rw [List.length_map, List.length_dropLast]
          omega
        · obtain ⟨m, hm, rfl⟩ := List.mem_map.mp hp
          have := hg m (mem_dl hm)
          exact ⟨this.1, this.2.1⟩
end
end Lk

set_option maxHeartbeats 4000000
namespace Lk
open PySem PySem.Spec PyProof.Rows L2
theorem Dw.rows {d c : Addr} {H : Hp} {xs : List V} {rs : List Rw} (h : Dw d c H) (e : RowsAt H xs rs) : RowsAt (cut d c H) xs rs := e.keep fun _ _ e => h.tup e
structure Dr (rs : List Rw) (dn : List Nat) (n : Nat) : Prop where
  ok : RowsOk rs
  two : 2 ≤ rs.length
  len : rs.length ≤ 6 + 3 * n
  dl : dn.length = 1 + 2 * n
  dn : ∀ i ∈ dn, i < rs.length ∧ (downs rs)[i]? = some true
  ns : (rs.filter Rw.isSh).length ≤ n
  lv : ∀ r ∈ rs, r.lev ≤ 12
theorem rowsOk_snoc {rs : List Rw} {r : Rw} (h : RowsOk rs) (k : r.ok rs.length) : RowsOk (rs ++ [r]) := fun i x e => by
  by_cases hi : i < rs.length
  · rw [List.getElem?_append_left hi] at e
    exact h i x e
  · rw [List.getElem?_append_right (by omega)] at e
    have : i - rs.length = 0 := by
      have := (List.getElem?_eq_some_iff.mp e).1
      simp at this
      omega
    rw [this] at e
    cases e
    have : i = rs.length := by omega
    rw [this]
    exact k
theorem downs_old {rs : List Rw} {r : Rw} {i : Nat} (h : (downs rs)[i]? = some true) : (downs (rs ++ [r]))[i]? = some true := by
  rw [downs_snoc, List.getElem?_append_left (List.getElem?_eq_some_iff.mp h).1]
  exact h
theorem downs_new {rs : List Rw} {r : Rw} (h : r.dn (downs rs) = true) : (downs (rs ++ [r]))[rs.length]? = some true := by
  rw [downs_snoc, List.getElem?_append_right (by rw [downs_len]; omega), downs_len, Nat.sub_self, h]
  rfl
theorem getD_down {rs : List Rw} {i : Nat} (h : (downs rs)[i]? = some true) : (downs rs).getD i false = true := by
  rw [List.getD_eq_getElem?_getD, h]
  rfl
theorem Dr.turn {rs : List Rw} {dn : List Nat} {n : Nat} (h : Dr rs dn n) {r : Rw} (h1 : r.ok rs.length) (h2 : r.isSh = false) (h3 : r.lev = 0) {lv j : Nat} (hl : lv ≤ 12) (hj : j < rs.length + 1) :
    Dr (rs ++ [r] ++ [Rw.sh lv j] ++ [Rw.ng (rs.length + 1)]) (dn ++ [rs.length + 1, rs.length + 2]) (n + 1) := by
  have e1 : (rs ++ [r]).length = rs.length + 1 := by simp
  have e2 : (rs ++ [r] ++ [Rw.sh lv j]).length = rs.length + 2 := by simp
  have e3 : (rs ++ [r] ++ [Rw.sh lv j] ++ [Rw.ng (rs.length + 1)]).length = rs.length + 3 := by simp
  have d1 : (downs (rs ++ [r] ++ [Rw.sh lv j]))[rs.length + 1]? = some true := by
    have := downs_new (rs := rs ++ [r]) (r := .sh lv j) rfl
    rwa [e1] at this
  refine ⟨rowsOk_snoc (rowsOk_snoc (rowsOk_snoc h.ok h1) (show lv ≤ 99 ∧ j < _ from ⟨by omega, by rw [e1]; exact hj⟩)) (show rs.length + 1 < _ by rw [e2]; omega), by rw [e3]; have := h.two; omega, by rw [e3]; have := h.len; omega, ?_, fun i hi => ?_, ?_, fun x hx => ?_⟩
  · rw [List.length_append, h.dl]
    simp
    omega
  · rcases List.mem_append.mp hi with hi | hi
    · have := h.dn i hi
      exact ⟨by rw [e3]; omega, downs_old (downs_old (downs_old this.2))⟩
    · have hi : i = rs.length + 1 ∨ i = rs.length + 2 := by simpa using hi
      rcases hi with rfl | rfl
      · exact ⟨by rw [e3]; omega, downs_old d1⟩
      · refine ⟨by rw [e3]; omega, ?_⟩
        have := downs_new (rs := rs ++ [r] ++ [Rw.sh lv j]) (r := .ng (rs.length + 1)) (getD_down d1)
        rwa [e2] at this
  · rw [List.filter_append, List.filter_append, List.filter_append, List.length_append, List.length_append, List.length_append]
    have := h.ns
    have f1 : ([r].filter Rw.isSh).length = 0 := by rw [List.filter_cons, h2]; rfl
    have f2 : ([Rw.sh lv j].filter Rw.isSh).length = 1 := rfl
    have f3 : ([Rw.ng (rs.length + 1)].filter Rw.isSh).length = 0 := rfl
    omega
  · rcases List.mem_append.mp hx with hx | hx
    · rcases List.mem_append.mp hx with hx | hx
      · rcases List.mem_append.mp hx with hx | hx
        · exact h.lv x hx
        · rw [List.mem_singleton.mp hx, h3]; omega
      · rw [List.mem_singleton.mp hx]; exact hl
    · rw [List.mem_singleton.mp hx]; exact Nat.zero_le _
/-- the last row, of two that are down -/
theorem Dr.fin {rs : List Rw} {dn : List Nat} {n : Nat} (h : Dr rs dn n) (hn : n ≤ 4) {i j : Nat} (hi : i ∈ dn) (hj : j ∈ dn) {r : Rw} (hr : r = .cj i j ∨ r = .dj i j) {own : List Str} {ps : List Nat} (mv : Mv own) (hp : ps.length + 1 = own.length)
    (hps : ∀ p ∈ ps, p ∈ dn ∨ p = rs.length) : (⟨own, rs ++ [r], ps⟩ : Pl).Ok := by
  have d1 := h.dn i hi
  have d2 := h.dn j hj
  have e1 : (rs ++ [r]).length = rs.length + 1 := by simp
  have hok : r.ok rs.length := by rcases hr with rfl | rfl <;> exact ⟨d1.1, d2.1⟩
  have hdn : r.dn (downs rs) = true := by rcases hr with rfl | rfl <;> (show (_ && _) = true; rw [getD_down d1.2, getD_down d2.2]; rfl)
  have hl := h.len
  have hns := h.ns
  refine ⟨mv, rowsOk_snoc h.ok hok, by show (rs ++ [r]).length ≤ 40; rw [e1]; omega, hp, fun p hp => ?_, ?_, fun x hx => ?_⟩
  · show p < (rs ++ [r]).length ∧ _
    rw [e1]
    rcases hps p hp with hp | rfl
    · have := h.dn p hp
      exact ⟨by omega, downs_old this.2⟩
    · exact ⟨by omega, downs_new hdn⟩
  · show ((rs ++ [r]).filter Rw.isSh).length ≤ 4
    rw [List.filter_append, List.length_append]
    have : ([r].filter Rw.isSh).length = 0 := by rcases hr with rfl | rfl <;> rfl
    omega
  · rcases List.mem_append.mp (show x ∈ rs ++ [r] from hx) with hx | hx
    · exact h.lv x hx
    · rw [List.mem_singleton.mp hx]
      rcases hr with rfl | rfl <;> exact Nat.zero_le _
theorem dr_zero {words : List Str} {m : Str} (mv : Mv words) (hm : isMv m) : Dr (.fl :: (words.map fun w => .ds 1 w) ++ [Rw.ds 0 m]) [0] 0 := by
  have hp := mv.pos
  have hf := mv.few
  have e1 : (Rw.fl :: (words.map fun w => Rw.ds 1 w) ++ [Rw.ds 0 m]).length = words.length + 2 := by simp
  refine ⟨?_, by rw [e1]; omega, by rw [e1]; omega, rfl, fun i hi => ?_, ?_, fun r hr => ?_⟩
  · intro i r e
    have hr := List.mem_of_getElem? e
    rcases List.mem_append.mp hr with hr | hr
    · rcases List.mem_cons.mp hr with rfl | hr
      · trivial
      · obtain ⟨w, hw, rfl⟩ := List.mem_map.mp hr
        exact ⟨by decide, mv.mv w hw⟩
    · rw [List.mem_singleton.mp hr]
      exact ⟨by decide, hm⟩
  · rw [List.mem_singleton.mp hi]
    refine ⟨by rw [e1]; omega, ?_⟩
    have key : ∀ rs : List Rw, (downs (.fl :: rs))[0]? = some true := fun rs => by
      have k2 : ∀ (rs : List Rw) (acc : List Bool), acc[0]? = some true → (rs.foldl (fun acc r => acc ++ [r.dn acc]) acc)[0]? = some true := by
        intro rs
        induction rs with
        | nil => intro acc h; exact h
        | cons r q ih =>
          intro acc h
          rw [List.foldl_cons]
          exact ih _ (by rw [List.getElem?_append_left (List.getElem?_eq_some_iff.mp h).1]; exact h)
      exact k2 rs [true] rfl
    exact key _
  · have : (Rw.fl :: (words.map fun w => Rw.ds 1 w) ++ [Rw.ds 0 m]).filter Rw.isSh = [] := by
      rw [List.filter_eq_nil_iff]
      intro r hr
      rcases List.mem_append.mp hr with hr | hr
      · rcases List.mem_cons.mp hr with rfl | hr
        · exact Bool.false_ne_true
        · obtain ⟨w, hw, rfl⟩ := List.mem_map.mp hr
          exact Bool.false_ne_true
      · rw [List.mem_singleton.mp hr]
        exact Bool.false_ne_true
    rw [this]
    exact Nat.le_refl _
  · rcases List.mem_append.mp hr with hr | hr
    · rcases List.mem_cons.mp hr with rfl | hr
      · exact Nat.zero_le _
      · obtain ⟨w, hw, rfl⟩ := List.mem_map.mp hr
        exact Nat.zero_le _
    · rw [List.mem_singleton.mp hr]
      exact Nat.zero_le _
def spDrawnL : Sp := fun vs H Q _ => ∃ (d c a b : Addr) (own words : List Str), vs = [.ref d, .ref a, .ref b] ∧ Dw d c H ∧ (cut d c H) a = some (.lst (own.map V.str)) ∧ (cut d c H) b = some (.lst (words.map V.str)) ∧ Mv own ∧ Mv words ∧
  ∀ p L H', Dw d c H' → Same (cut d c H) (cut d c H') → PartsAt (cut d c H') p L → L.Ok → L.moves = own → Q (.ref p) H'
section
variable {P : Program} {w : World} {K : PySem.W.Frag} {mg : Str → Option Value} {base : Heap} {cP cG cT : Addr} {f : Addr} {fd : FuncData} (T : Txt K w mg cP cG cT)
include T
theorem ok_law_any_player {C_law_take : Cal P w K mg base "_law_take" 1 ["draw", "size"] spTake} {C_law_pick : Cal P w K mg base "_law_pick" 2 ["draw", "some"] spPick} {C_law_drawn : Cal P w K mg base "_law_drawn" 3 ["draw", "own", "words"] spDrawnL} {C_law_grim : Cal P w K mg base "_law_grim" 1 ["own", "move", "word", "other", "k"] spGrimL}
    (F : FnP K "_law_any_player" "_law_any_player" s_law_any_player f fd) : FnOk P w K mg base CX0 4 f fd ["draw", "own", "words"] spDrawnL := by
  refine okN F sc_law_any_player (fun vs H Q E h => ?_) (fun cdv A outer s H vs Q E hr h => ?_)
  · obtain ⟨d, c, a, b, own, words, rfl, _⟩ := h
    rfl
  · obtain ⟨d, c, a, b, own, words, rfl, hd, ha, hb, m1, m2, q⟩ := h
    refine ⟨_, (pss_cons (ps_if (pt_cmpR op_gt (pe_cal C_law_take hr (pa_cons (pv 0) (pa_cons pe_int pa_nil))) pe_int (nomark _)) (pss_one (ps_ret (pe_cal C_law_drawn hr (pa_cons (pv 0) (pa_cons (pv 1) (pa_cons (pv 2) pa_nil)))))) pss_nil)
      (pss_one (ps_ret (pe_cal C_law_grim hr (pa_cons (pv 1) (pa_cons (pe_cal C_law_pick hr (pa_cons (pv 0) (pa_cons (pv 1) pa_nil))) (pa_cons (pe_cal C_law_pick hr (pa_cons (pv 0) (pa_cons (pv 2) pa_nil))) (pa_cons (pe_cal C_law_pick hr (pa_cons (pv 0) (pa_cons (pv 1) pa_nil))) (pa_cons (pe_cal C_law_take hr (pa_cons (pv 0) (pa_cons pe_int pa_nil))) pa_nil))))))))), ?_⟩
    refine ⟨_, rfl, d, c, 3, rfl, hd, by decide, by decide, fun r H1 r0 r1 hd1 s1 => ⟨_, _, rfl, rfl, _, rfl, ?_⟩⟩
    by_cases h0 : 0 < r
    · refine ifT h0 ?_
      exact ⟨_, rfl, _, rfl, _, rfl, d, c, a, b, own, words, rfl, hd1, s1 _ _ ha, s1 _ _ hb, m1, m2, fun p L H2 hd2 s2 hp ok em => q p L H2 hd2 (s1.trans s2) hp ok em⟩
    · refine ifF h0 ?_
      have o1 : 0 < (own.map V.str).length ∧ (own.map V.str).length ≤ 1000 := by rw [List.length_map]; have := m1.pos; have := m1.few; omega
      have o2 : 0 < (words.map V.str).length ∧ (words.map V.str).length ≤ 1000 := by rw [List.length_map]; have := m2.pos; have := m2.few; omega
      refine ⟨_, rfl, _, rfl, _, rfl, d, c, .ref a, rfl, hd1, .inl ⟨a, _, rfl, .inl (s1 _ _ ha), o1.1, o1.2, fun x H2 hx hd2 s2 => ?_⟩⟩
      obtain ⟨move, hm, rfl⟩ := List.mem_map.mp hx
      have s2 := s1.trans s2
      refine ⟨_, rfl, _, rfl, d, c, .ref b, rfl, hd2, .inl ⟨b, _, rfl, .inl (s2 _ _ hb), o2.1, o2.2, fun x H3 hx hd3 s3 => ?_⟩⟩
      obtain ⟨word, hw, rfl⟩ := List.mem_map.mp hx
      have s3 := s2.trans s3
      refine ⟨_, rfl, _, rfl, d, c, .ref a, rfl, hd3, .inl ⟨a, _, rfl, .inl (s3 _ _ ha), o1.1, o1.2, fun x H4 hx hd4 s4 => ?_⟩⟩
      obtain ⟨other, ho, rfl⟩ := List.mem_map.mp hx
      have s4 := s3.trans s4
      refine ⟨_, rfl, d, c, 3, rfl, hd4, by decide, by decide, fun k H5 k0 k1 hd5 s5 => ?_⟩
      have s5 := s4.trans s5
      obtain ⟨j, rfl⟩ : ∃ j : Nat, k = (j : Int) := ⟨_, (Int.toNat_of_nonneg k0).symm⟩
      refine ⟨a, own, move, word, other, j, rfl, cut_same _ _ (s5 _ _ ha), m1, m2.mv _ hw, by omega, fun p L H6 s6 hp ok em => q p L H6 (hd5.mono s6) (s5.trans (cut_mono s6)) ?_ ok em⟩
      obtain ⟨m, b', c', xs, g1, g2, g3, g4, g5⟩ := hp.ex
      have hd6 := hd5.mono s6
      exact ⟨m, b', c', xs, hd6.tup g1, hd6.tup g2, hd6.tup g3, hd6.rows g4, hd6.tup g5⟩
end
end Lk

set_option maxHeartbeats 4000000
namespace Lk
open PySem PySem.Spec PyProof.Rows L2
theorem cut_tail (xs : List V) : cutV xs (some 1) none = xs.tail := by
  cases xs with
  | nil => rfl
  | cons x r =>
    unfold cutV
    show ((x :: r).drop (min (1 : Int).toNat (x :: r).length)).take ((x :: r).length - min (1 : Int).toNat (x :: r).length) = r
    have e : min (1 : Int).toNat (x :: r).length = 1 := by simp
    rw [e]
    simp
theorem RowsAt.snoc {H : Hp} {xs : List V} {rs : List Rw} {t : Addr} {r : Rw} (h : RowsAt H xs rs) (e : H t = some (.tup r.vs)) : RowsAt H (xs ++ [.ref t]) (rs ++ [r]) := paired_snoc h ⟨t, rfl, e⟩
theorem RowsAt.app {H : Hp} {xs ys : List V} {rs qs : List Rw} (h : RowsAt H xs rs) (k : RowsAt H ys qs) : RowsAt H (xs ++ ys) (rs ++ qs) := by
  induction h with
  | nil => exact k
  | cons h _ ih => exact .cons h ih
section
variable {P : Program} {w : World} {K : PySem.W.Frag} {mg : Str → Option Value} {base : Heap} {cP cG cT : Addr} {f : Addr} {fd : FuncData} (T : Txt K w mg cP cG cT)
include T
theorem ok_law_drawn {C_law_take : Cal P w K mg base "_law_take" 1 ["draw", "size"] spTake} {C_law_pick : Cal P w K mg base "_law_pick" 2 ["draw", "some"] spPick}
    (F : FnP K "_law_drawn" "_law_drawn" s_law_drawn f fd) : FnOk P w K mg base CX0 3 f fd ["draw", "own", "words"] spDrawnL := by
  refine okN F sc_law_drawn (fun vs H Q E h => ?_) (fun cdv A outer s H vs Q E hr h => ?_)
  · obtain ⟨d, c, a, b, own, words, rfl, _⟩ := h
    rfl
  · obtain ⟨d, c, a, b, own, words, rfl, hd, ha, hb, m1, m2, q⟩ := h
    have hf1 := m1.few
    have hf2 := m2.few
    have hp1 := m1.pos
    refine ⟨_, (pss_cons (ps_asg (pe_tup (pa_cons (pe_lst (pa_cons (pe_tup (pa_cons pe_str pa_nil)) pa_nil)) (pa_cons (pe_lst (pa_cons pe_int pa_nil)) pa_nil))) (pgT K 2 rfl (pgs_cons (pg_name (i := 3) sc_law_drawn.nd rfl (Or.inr rfl)) (pgs_cons (pg_name (i := 4) sc_law_drawn.nd rfl (Or.inr rfl)) pgs_nil))))
      (pss_cons (ps_set (i := 3) sc_law_drawn.nd rfl (Or.inr rfl) (pe_op op_cat (pe_op op_cat (pv 3) (pe_lc (own := [("word", 11)]) rfl sc_law_drawn.nd (pi_sq (pv 2)) (blkOk_by (own := [("word", 11)]) (N := ["draw", "own", "words", "lines", "down", "k", "one", "other", "level", "picks", "move", "word"]) (sc := defScope s_law_drawn) (by decide +kernel)) (fun _ _ _ _ _ => pg_name (i := 11) sc_law_drawn.nd rfl (Or.inl rfl)) (fun _ _ _ _ _ => pts_nil) (fun _ _ _ _ _ => (pe_tup (pa_cons pe_str (pa_cons pe_int (pa_cons (pv 11) pa_nil))))))) (pe_lst (pa_cons (pe_tup (pa_cons pe_str (pa_cons pe_int (pa_cons (pe_cal C_law_pick hr (pa_cons (pv 0) (pa_cons (pv 1) pa_nil))) pa_nil)))) pa_nil))))
      (pss_cons (ps_for PassesOwn.never rfl (pi_range1 rfl T.range_ (pa_cons (pe_op op_add pe_int (pe_cal C_law_take hr (pa_cons (pv 0) (pa_cons pe_int pa_nil)))) pa_nil)) (pg_name (i := 5) sc_law_drawn.nd rfl (Or.inl rfl)) (pss_cons (ps_par (i := 6) (j := 7) (by rfl) sc_law_drawn.nd rfl rfl (by decide) rfl rfl (pa_cons (pe_cal C_law_take hr (pa_cons (pv 0) (pa_cons (pe_callB (lenS K) (by rfl) T.len_ b_len (pa_cons (pv 3) pa_nil)) pa_nil))) (pa_cons (pe_cal C_law_take hr (pa_cons (pv 0) (pa_cons (pe_callB (lenS K) (by rfl) T.len_ b_len (pa_cons (pv 3) pa_nil)) pa_nil))) pa_nil)) (by rfl))
      (pss_cons (ps_expr (pe_bm PySem.F.plainAttrs_list PySem.F.slot_list_append PySem.F.type_list_append mt_append (pv 3) (pa_cons (pe_cal C_law_pick hr (pa_cons (pv 0) (pa_cons (pe_lst (pa_cons (pe_tup (pa_cons pe_str (pa_cons (pv 6) pa_nil))) (pa_cons (pe_tup (pa_cons pe_str (pa_cons (pv 6) (pa_cons (pv 7) pa_nil)))) (pa_cons (pe_tup (pa_cons pe_str (pa_cons (pv 6) (pa_cons (pv 7) pa_nil)))) (pa_cons (pe_tup (pa_cons pe_str (pa_cons pe_int pa_nil))) pa_nil))))) pa_nil))) pa_nil)))
      (pss_cons (ps_set (i := 8) sc_law_drawn.nd rfl (Or.inl rfl) (pe_cal C_law_pick hr (pa_cons (pv 0) (pa_cons (pe_lst (pa_cons pe_int (pa_cons pe_int (pa_cons pe_int (pa_cons pe_int (pa_cons pe_int (pa_cons (pe_cal C_law_take hr (pa_cons (pv 0) (pa_cons pe_int pa_nil))) pa_nil))))))) pa_nil))))
      (pss_cons (ps_expr (pe_bm PySem.F.plainAttrs_list PySem.F.slot_list_append PySem.F.type_list_append mt_append (pv 3) (pa_cons (pe_tup (pa_cons pe_str (pa_cons (pv 8) (pa_cons (pe_cal C_law_pick hr (pa_cons (pv 0) (pa_cons (pe_lst (pa_cons (pv 6) (pa_cons (pe_op op_sub (pe_callB (lenS K) (by rfl) T.len_ b_len (pa_cons (pv 3) pa_nil)) pe_int) pa_nil))) pa_nil))) pa_nil)))) pa_nil)))
      (pss_cons (ps_expr (pe_bm PySem.F.plainAttrs_list PySem.F.slot_list_append PySem.F.type_list_append mt_append (pv 3) (pa_cons (pe_tup (pa_cons pe_str (pa_cons (pe_op op_sub (pe_callB (lenS K) (by rfl) T.len_ b_len (pa_cons (pv 3) pa_nil)) pe_int) pa_nil))) pa_nil)))
      (pss_one (ps_set (i := 4) sc_law_drawn.nd rfl (Or.inr rfl) (pe_op op_cat (pv 4) (pe_lst (pa_cons (pe_op op_sub (pe_callB (lenS K) (by rfl) T.len_ b_len (pa_cons (pv 3) pa_nil)) pe_int) (pa_cons (pe_op op_sub (pe_callB (lenS K) (by rfl) T.len_ b_len (pa_cons (pv 3) pa_nil)) pe_int) pa_nil))))))))))))
      (pss_cons (ps_par (i := 6) (j := 7) (by rfl) sc_law_drawn.nd rfl rfl (by decide) rfl rfl (pa_cons (pe_cal C_law_pick hr (pa_cons (pv 0) (pa_cons (pv 4) pa_nil))) (pa_cons (pe_cal C_law_pick hr (pa_cons (pv 0) (pa_cons (pv 4) pa_nil))) pa_nil)) (by rfl))
      (pss_cons (ps_expr (pe_bm PySem.F.plainAttrs_list PySem.F.slot_list_append PySem.F.type_list_append mt_append (pv 3) (pa_cons (pe_cal C_law_pick hr (pa_cons (pv 0) (pa_cons (pe_lst (pa_cons (pe_tup (pa_cons pe_str (pa_cons (pv 6) (pa_cons (pv 7) pa_nil)))) (pa_cons (pe_tup (pa_cons pe_str (pa_cons (pv 6) (pa_cons (pv 7) pa_nil)))) pa_nil))) pa_nil))) pa_nil)))
      (pss_cons (ps_setLc (i := 9) (own := [("move", 10)]) rfl sc_law_drawn.nd rfl rfl (sw_true rfl rfl rfl (by decide +kernel)) (pi_sq (pe_slice (slL K) (pv 1) (po_some pe_int) po_none)) (blkOk_by (own := [("move", 10)]) (N := ["draw", "own", "words", "lines", "down", "k", "one", "other", "level", "picks", "move", "word"]) (sc := defScope s_law_drawn) (by decide +kernel)) (fun _ _ _ _ _ => pg_name (i := 10) sc_law_drawn.nd rfl (Or.inl rfl)) (fun _ _ _ _ _ => pts_nil) (fun _ _ _ _ _ => (pe_cal C_law_pick hr (pa_cons (pv 0) (pa_cons (pe_op op_cat (pe_slice (slL K) (pv 4) (po_some pe_int) po_none) (pe_lst (pa_cons (pe_op op_sub (pe_callB (lenS K) (by rfl) T.len_ b_len (pa_cons (pv 3) pa_nil)) pe_int) pa_nil))) pa_nil)))))
      (pss_one (ps_ret (pe_tup (pa_cons (pe_callTy tupA (by rfl) T.tuple_ b_tuple (pa_cons (pv 1) pa_nil)) (pa_cons (pe_callTy tupA (by rfl) T.tuple_ b_tuple (pa_cons (pv 3) pa_nil)) (pa_cons (pe_callTy tupA (by rfl) T.tuple_ b_tuple (pa_cons (pv 9) pa_nil)) pa_nil)))))))))))), ?_⟩
    refine ⟨(by show 1 ≤ sizeLine; decide), fun t1 n1 => ⟨(by show 1 ≤ sizeLine; decide), fun l1 n2 => ⟨(by show 1 ≤ sizeLine; decide), fun D0 n3 => ⟨(by show 2 ≤ sizeLine; decide), fun t n4 => ?_⟩⟩⟩⟩
    obtain ⟨hd1, s1, g1⟩ := hd.newS n1 (o := .tup [.str "false"])
    generalize upd H t1 (.tup [.str "false"]) = H1 at hd1 s1 g1 n2 n3 n4 ⊢
    obtain ⟨hd2, s2, g2⟩ := hd1.newS n2 (o := .lst [.ref t1])
    have g1 := s2 _ _ g1
    have s2 := s1.trans s2
    generalize upd H1 l1 (.lst [.ref t1]) = H2 at hd2 s2 g1 g2 n3 n4 ⊢
    obtain ⟨hd3, s3, g3⟩ := hd2.newS n3 (o := .lst [nV 0])
    have g1 := s3 _ _ g1
    have g2 := s3 _ _ g2
    have s3 := s2.trans s3
    show gTup K 2 _ _ _ (upd (upd H2 D0 (.lst [nV 0])) t _) _
    have n4 : (upd H2 D0 (.lst [nV 0])) t = none := n4
    generalize upd H2 D0 (.lst [nV 0]) = H3 at hd3 s3 g1 g2 g3 n4 ⊢
    obtain ⟨hd4, s4, g4⟩ := hd3.newS n4 (o := .tup [.ref l1, .ref D0])
    have g1 := s4 _ _ g1
    have g2 := s4 _ _ g2
    have g3 := s4 _ _ g3
    have s4 := s3.trans s4
    refine ⟨t, _, rfl, .inl (.inl upd_same), rfl, _, _, rfl, _, _, rfl, rfl, ?_⟩
    generalize upd H3 t (.tup [.ref l1, .ref D0]) = H4 at hd4 s4 g1 g2 g3 ⊢
    clear g4 s1 s2 s3 hd1 hd2 hd3 n1 n2 n3 n4
    refine ⟨_, rfl, _, rfl, b, _, rfl, .inl (cut_same _ _ (s4 _ _ hb)), fun J hJ D nD => ?_⟩
    have hbH := cut_same _ _ (s4 _ _ hb)
    have hDd := hd4.nd nD
    refine it_by hJ (fun i H' => Same H4 H' ∧ ∃ xs, H' D = some (.lst xs) ∧ RowsAt H' xs ((words.take i).map fun w => .ds 1 w)) ⟨same_new nD, [], upd_same, .nil⟩ (fun i H' hi h => same_of h.1 (.inl hbH)) (fun i x H9 H7 hi h y => ?_) (fun H5 h => ?_)
    · obtain ⟨s5, xs, hx, hxr⟩ := h
      obtain ⟨rfl, hy⟩ := y
      rw [List.getElem?_map] at hy
      obtain ⟨m, hm, rfl⟩ := Option.map_eq_some_iff.mp hy
      refine ⟨rfl, yesT ?_⟩
      refine ⟨_, rfl, (by show 3 ≤ sizeLine; decide), fun z nz => ?_⟩
      have sz := same_new (o := .tup [.str "does", .int 1, .str m]) nz
      have hxl := hxr.len
      have hil := (List.getElem?_eq_some_iff.mp hm).1
      refine ⟨_, sz _ _ hx, by rw [hxl, List.length_map, List.length_take]; exact sz_lt (by omega), same_mut (s5.trans sz) nD, _, upd_same, ?_⟩
      have eT : (words.take (i + 1)).map (fun w => Rw.ds 1 w) = (words.take i).map (fun w => Rw.ds 1 w) ++ [.ds 1 m] := by rw [List.take_add_one, hm, List.map_append]; rfl
      rw [eT]
      have hzD : z ≠ D := (ne_of_none hx nz).symm
      have ntD : ∀ zs, HO.lst xs ≠ .tup zs := fun zs e => by cases e
      exact RowsAt.snoc (hxr.keep fun b zs e => keepTup (sz _ _ hx) ntD _ _ (sz _ _ e)) ((upd_ne hzD).trans upd_same)
    · obtain ⟨s5, xs, hx, hxr⟩ := h
      rw [List.length_map, List.take_length] at hxr
      have hd5 := hd4.mono s5
      have g1 := cut_mono s5 _ _ g1
      have g2 := cut_mono s5 _ _ g2
      have g3 := cut_mono s5 _ _ g3
      have hx := cut_at hx hDd.1 hDd.2
      have hxr := hd5.rows hxr
      have s5 := s4.trans (cut_mono s5)
      have hxl := hxr.len
      rw [List.length_map] at hxl
      refine ⟨l1, D, _, _, rfl, rfl, cut_same _ _ g2, cut_same _ _ hx, by rw [hxl]; exact sz_le (by simp; omega), fun l2 n5 => ?_⟩
      obtain ⟨hd6, s6, g5⟩ := hd5.newS n5 (o := .lst ([V.ref t1] ++ xs))
      have g1 := s6 _ _ g1
      have g3 := s6 _ _ g3
      have hxr := hxr.mono s6
      have s6 := s5.trans s6
      generalize upd H5 l2 (.lst ([V.ref t1] ++ xs)) = H6 at hd6 s6 g1 g3 g5 hxr ⊢
      refine ⟨_, rfl, _, rfl, d, c, .ref a, rfl, hd6, .inl ⟨a, _, rfl, .inl (s6 _ _ ha), by rw [List.length_map]; omega, by rw [List.length_map]; omega, fun x H7 hx7 hd7 s7 => ?_⟩⟩
      obtain ⟨m, hm, rfl⟩ := List.mem_map.mp hx7
      have g1 := s7 _ _ g1
      have g3 := s7 _ _ g3
      have g5 := s7 _ _ g5
      have hxr := hxr.mono s7
      have s7 := s6.trans s7
      refine ⟨(by show 3 ≤ sizeLine; decide), fun t2 n6 => ⟨(by show 1 ≤ sizeLine; decide), fun l3 n7 => ?_⟩⟩
      obtain ⟨hd8, s8, g6⟩ := hd7.newS n6 (o := .tup [.str "does", .int 0, .str m])
      have g1 := s8 _ _ g1
      have g3 := s8 _ _ g3
      have g5 := s8 _ _ g5
      have hxr := hxr.mono s8
      have s8 := s7.trans s8
      generalize upd H7 t2 (.tup [.str "does", .int 0, .str m]) = H8 at hd8 s8 g1 g3 g5 g6 hxr n7 ⊢
      obtain ⟨hd9, s9, g7⟩ := hd8.newS n7 (o := .lst [.ref t2])
      have g1 := s9 _ _ g1
      have g3 := s9 _ _ g3
      have g5 := s9 _ _ g5
      have g6 := s9 _ _ g6
      have hxr := hxr.mono s9
      have s9 := s8.trans s9
      generalize upd H8 l3 (.lst [.ref t2]) = H9 at hd9 s9 g1 g3 g5 g6 g7 hxr ⊢
      refine ⟨l2, l3, _, _, rfl, rfl, cut_same _ _ g5, cut_same _ _ g7, by rw [List.length_append, hxl]; exact sz_le (by simp; omega), fun La n8 => ?_⟩
      have hR0 : RowsAt (cut d c H9) ([V.ref t1] ++ xs ++ [.ref t2]) (.fl :: (words.map fun w => .ds 1 w) ++ [Rw.ds 0 m]) := RowsAt.app (RowsAt.app (rs := [.fl]) (.cons ⟨t1, rfl, g1⟩ .nil) hxr) (.cons ⟨t2, rfl, g6⟩ .nil)
      have dr0 := dr_zero m2 (m1.mv m hm)
      generalize (Rw.fl :: (words.map fun w => Rw.ds 1 w) ++ [Rw.ds 0 m]) = rs0 at hR0 dr0
      generalize [V.ref t1] ++ xs ++ [V.ref t2] = xs0 at hR0 ⊢
      obtain ⟨hdA, sA, gA⟩ := hd9.newS n8 (o := .lst xs0)
      have hLd := hd9.nd n8
      have nLa := none_of_cut s9 n8 hLd.1 hLd.2
      have hD0 : D0 ≠ La := ne_of_none (cut_same _ _ g3) n8
      have g3 := sA _ _ g3
      have hR0 := hR0.mono sA
      have sA := s9.trans sA
      generalize upd H9 La (.lst xs0) = HA at hdA sA gA g3 hR0 ⊢
      clear g1 g5 g6 g7 hxr hx hxl s4 s5 s6 s7 s8 s9 hd4 hd5 hd6 hd7 hd8 hd9
      refine ⟨_, rfl, d, c, 4, rfl, hdA, by decide, by decide, fun r HB r0 r1 hdB sB => ⟨_, _, rfl, rfl, ?_⟩⟩
      obtain ⟨j0, rfl⟩ : ∃ j : Nat, r = (j : Int) := ⟨_, (Int.toNat_of_nonneg r0).symm⟩
      have eJ : (1 : Int) + (j0 : Int) = ((1 + j0 : Nat) : Int) := by omega
      have gA := sB _ _ gA
      have g3 := sB _ _ g3
      have hR0 := hR0.mono sB
      have sB := sA.trans sB
      refine ⟨_, rfl, by omega, by omega, ?_⟩
      rw [eJ, Int.toNat_natCast]
      have hj0 : j0 < 4 := by omega
      refine for_range (fun k σ H' => Dw d c H' ∧ Same (cut d c H) (cut d c H') ∧ (∃ Da u5 u6 u7 u8 u9 u10 u11, Da ≠ La ∧ σ = [some (.ref d), some (.ref a), some (.ref b), some (.ref La), some (.ref Da), u5, u6, u7, u8, u9, u10, u11] ∧ ∃ xs rs dn, (cut d c H') La = some (.lst xs) ∧ RowsAt (cut d c H') xs rs ∧ (cut d c H') Da = some (.lst (dn.map nV)) ∧ Dr rs dn k))
        ⟨hdB, sB, D0, _, _, _, _, _, _, _, hD0, rfl, xs0, rs0, [0], gA, hR0, g3, dr0⟩ (fun k σ H1 hk h => ?_) (fun σ H1 h => ?_)
      · clear gA g3 hR0 dr0 hdB sB hdA sA
        obtain ⟨hd1, s1, Da, u5, u6, u7, u8, u9, u10, u11, hDL, rfl, xs, rs, dn, gL, gR, gD, dr⟩ := h
        have hxl := gR.len
        have h2 := dr.two
        have hln := dr.len
        have hdl := dr.dl
        refine ⟨_, rfl, _, rfl, La, xs, rfl, .inl (.inl (.inl (cut_same _ _ gL))), d, c, _, rfl, hd1, by omega, by omega, fun r1 H2 ra rb hd2 s2 => ?_⟩
        obtain ⟨one, rfl⟩ : ∃ j : Nat, r1 = (j : Int) := ⟨_, (Int.toNat_of_nonneg ra).symm⟩
        have gL := s2 _ _ gL
        have gR := gR.mono s2
        have gD := s2 _ _ gD
        have s2 := s1.trans s2
        refine ⟨_, rfl, _, rfl, La, xs, rfl, .inl (.inl (.inl (cut_same _ _ gL))), d, c, _, rfl, hd2, by omega, by omega, fun r2 H3 ra2 rb2 hd3 s3 => ⟨_, _, rfl, ?_⟩⟩
        obtain ⟨other, rfl⟩ : ∃ j : Nat, r2 = (j : Int) := ⟨_, (Int.toNat_of_nonneg ra2).symm⟩
        have gL := s3 _ _ gL
        have gR := gR.mono s3
        have gD := s3 _ _ gD
        have s3 := s2.trans s3
        have hone : one < rs.length := by omega
        have hoth : other < rs.length := by omega
        refine ⟨_, rfl, .inl ⟨rfl, _, .inl (.inl (cut_same _ _ gL))⟩, _, rfl, _, rfl, (by show 2 ≤ sizeLine; decide), fun t1 n1 => ⟨_, rfl, _, rfl, (by show 3 ≤ sizeLine; decide), fun t2 n2 => ⟨_, rfl, _, rfl, (by show 3 ≤ sizeLine; decide), fun t3 n3 => ⟨(by show 2 ≤ sizeLine; decide), fun t4 n4 => ⟨(by show 4 ≤ sizeLine; decide), fun l n5 => ?_⟩⟩⟩⟩⟩
        --BODY
        obtain ⟨hd4, zN, g1⟩ := hd3.newS n1 (o := .tup [.str "not", nV one])
        have gL := zN _ _ gL
        have gD := zN _ _ gD
        have gR := gR.mono zN
        have s4 := s3.trans zN
        clear zN
        generalize upd H3 t1 (.tup [.str "not", nV one]) = H4 at hd4 s4 g1 gL gD gR n2 n3 n4 n5 ⊢
        obtain ⟨hd5, zN, g2⟩ := hd4.newS n2 (o := .tup [.str "and", nV one, nV other])
        have gL := zN _ _ gL
        have gD := zN _ _ gD
        have g1 := zN _ _ g1
        have gR := gR.mono zN
        have s5 := s4.trans zN
        clear zN
        generalize upd H4 t2 (.tup [.str "and", nV one, nV other]) = H5 at hd5 s5 g2 gL gD g1 gR n3 n4 n5 ⊢
        obtain ⟨hd6, zN, g3⟩ := hd5.newS n3 (o := .tup [.str "or", nV one, nV other])
        have gL := zN _ _ gL
        have gD := zN _ _ gD
        have g1 := zN _ _ g1
        have g2 := zN _ _ g2
        have gR := gR.mono zN
        have s6 := s5.trans zN
        clear zN
        generalize upd H5 t3 (.tup [.str "or", nV one, nV other]) = H6 at hd6 s6 g3 gL gD g1 g2 gR n4 n5 ⊢
        have eT : (HO.tup [.str "not", .int 1]) = .tup [.str "not", nV 1] := rfl
        rw [eT] at n5
        rw [eT]
        obtain ⟨hd7, zN, g4⟩ := hd6.newS n4 (o := .tup [.str "not", nV 1])
        have gL := zN _ _ gL
        have gD := zN _ _ gD
        have g1 := zN _ _ g1
        have g2 := zN _ _ g2
        have g3 := zN _ _ g3
        have gR := gR.mono zN
        have s7 := s6.trans zN
        clear zN
        generalize upd H6 t4 (.tup [.str "not", nV 1]) = H7 at hd7 s7 g4 gL gD g1 g2 g3 gR n5 ⊢
        obtain ⟨hd8, zN, g5⟩ := hd7.newS n5 (o := .lst [.ref t1, .ref t2, .ref t3, .ref t4])
        have gL := zN _ _ gL
        have gD := zN _ _ gD
        have g1 := zN _ _ g1
        have g2 := zN _ _ g2
        have g3 := zN _ _ g3
        have g4 := zN _ _ g4
        have gR := gR.mono zN
        have s8 := s7.trans zN
        clear zN
        generalize upd H7 l (.lst [.ref t1, .ref t2, .ref t3, .ref t4]) = H8 at hd8 s8 g5 gL gD g1 g2 g3 g4 gR  ⊢
        refine ⟨d, c, .ref l, rfl, hd8, .inl ⟨l, _, rfl, .inl g5, by simp, by simp, fun x H9 hx hd9 s9 => ?_⟩⟩
        obtain ⟨tr, rr, rfl, hrr, hro, hrs, hrl⟩ : ∃ (tr : Addr) (rr : Rw), x = .ref tr ∧ (cut d c H8) tr = some (.tup rr.vs) ∧ rr.ok rs.length ∧ rr.isSh = false ∧ rr.lev = 0 := by
          simp only [List.mem_cons, List.not_mem_nil, or_false] at hx
          rcases hx with rfl | rfl | rfl | rfl
          · exact ⟨t1, .ng one, rfl, g1, hone, rfl, rfl⟩
          · exact ⟨t2, .cj one other, rfl, g2, ⟨hone, hoth⟩, rfl, rfl⟩
          · exact ⟨t3, .dj one other, rfl, g3, ⟨hone, hoth⟩, rfl, rfl⟩
          · exact ⟨t4, .ng 1, rfl, g4, (show 1 < rs.length by omega), rfl, rfl⟩
        clear g1 g2 g3 g4 g5 hx
        have gL := s9 _ _ gL
        have gD := s9 _ _ gD
        have hrr := s9 _ _ hrr
        have gR := gR.mono s9
        have s9 := s8.trans s9
        have gRr : RowsAt (cut d c H9) (xs ++ [.ref tr]) (rs ++ [rr]) := gR.snoc hrr
        refine ⟨La, xs, _, rfl, rfl, cut_same _ _ gL, sz_lt (by omega), ?_⟩
        have rk : ∀ {H' : Hp} {zs zs' : List V} {qs : List Rw} {o : HO}, (cut d c H') La = some (.lst zs) → RowsAt (cut d c H') zs' qs → RowsAt (cut d c (upd H' La o)) zs' qs := fun {H' zs zs' qs o} e h => by
          refine h.keep fun b ys e' => ?_
          have nt : ∀ ys, HO.lst zs ≠ .tup ys := fun ys z => by cases z
          have := keepTup (u := o) (cut_same _ _ e) nt _ _ (cut_same _ _ e')
          refine cut_at this ?_ ?_
          · rintro rfl; unfold cut at e'; rw [if_pos (.inl rfl)] at e'; cases e'
          · rintro rfl; unfold cut at e'; rw [if_pos (.inr rfl)] at e'; cases e'
        have dk : ∀ {H' : Hp} {zs ys : List V} {o : HO}, (cut d c H') La = some (.lst zs) → Da ≠ La → (cut d c H') Da = some (.lst ys) → (cut d c (upd H' La o)) Da = some (.lst ys) := fun {H' zs ys o} e hne e' => by
          unfold cut at e' ⊢
          split at e'
          · cases e'
          · rename_i hn
            rw [if_neg hn, upd_ne hne]
            exact e'
        have up : ∀ {H' : Hp} {o : HO}, Dw d c H' → Same (cut d c H) (cut d c H') → Dw d c (upd H' La o) ∧ Same (cut d c H) (cut d c (upd H' La o)) ∧ (cut d c (upd H' La o)) La = some o := fun {H' o} h1 h2 => ⟨h1.upd hLd.1 hLd.2, cut_mut h2 nLa, cut_at upd_same hLd.1 hLd.2⟩
        have gRz := rk (o := .lst (xs ++ [.ref tr])) gL gRr
        have gD := dk (o := .lst (xs ++ [.ref tr])) gL hDL gD
        obtain ⟨hdB, sB2, gL⟩ := up (o := .lst (xs ++ [.ref tr])) hd9 s9
        generalize upd H9 La (.lst (xs ++ [.ref tr])) = H10 at hdB sB2 gL gD gRz ⊢
        have gR := gRz
        clear gRz gRr
        have xl1 : (xs ++ [V.ref tr]).length = rs.length + 1 := by rw [List.length_append, hxl]; rfl
        generalize xs ++ [V.ref tr] = xs1 at gL gR xl1 ⊢
        refine ⟨_, rfl, _, rfl, d, c, 13, rfl, hdB, by decide, by decide, fun r3 H11 ra3 rb3 hd11 sC => ⟨(by show 6 ≤ sizeLine; decide), fun l2 n6 => ?_⟩⟩
        obtain ⟨lv0, rfl⟩ : ∃ j : Nat, r3 = (j : Int) := ⟨_, (Int.toNat_of_nonneg ra3).symm⟩
        have hlv0 : lv0 ≤ 12 := by omega
        have gL := sC _ _ gL
        have gD := sC _ _ gD
        have gR := gR.mono sC
        have s11 := sB2.trans sC
        obtain ⟨hd12, zN, g6⟩ := hd11.newS n6 (o := .lst [.int 0, .int 0, .int 0, .int 1, .int 2, .int (lv0 : Int)])
        have gL := zN _ _ gL
        have gD := zN _ _ gD
        have gR := gR.mono zN
        have s12 := s11.trans zN
        clear zN
        generalize upd H11 l2 (.lst [.int 0, .int 0, .int 0, .int 1, .int 2, .int (lv0 : Int)]) = H12 at hd12 s12 g6 gL gD gR  ⊢
        refine ⟨d, c, .ref l2, rfl, hd12, .inl ⟨l2, _, rfl, .inl g6, by simp, by simp, fun x H13 hx hd13 s13 => ?_⟩⟩
        obtain ⟨lv, rfl, hlv⟩ : ∃ lv : Nat, x = nV lv ∧ lv ≤ 12 := by
          simp only [List.mem_cons, List.not_mem_nil, or_false] at hx
          rcases hx with rfl | rfl | rfl | rfl | rfl | rfl
          · exact ⟨0, rfl, by decide⟩
          · exact ⟨0, rfl, by decide⟩
          · exact ⟨0, rfl, by decide⟩
          · exact ⟨1, rfl, by decide⟩
          · exact ⟨2, rfl, by decide⟩
          · exact ⟨lv0, rfl, hlv0⟩
        clear hx g6
        have gL := s13 _ _ gL
        have gD := s13 _ _ gD
        have gR := gR.mono s13
        have s13 := s12.trans s13
        refine ⟨_, rfl, .inl ⟨rfl, _, .inl (.inl (cut_same _ _ gL))⟩, _, rfl, _, rfl, _, rfl, _, rfl, La, xs1, rfl, .inl (.inl (.inl (cut_same _ _ gL))), _, _, rfl, rfl, (by show 2 ≤ sizeLine; decide), fun l3 n7 => ?_⟩
        have e1 : ((xs1.length : Nat) : Int) - 1 = ((rs.length : Nat) : Int) := by omega
        obtain ⟨hd14, zN, g7⟩ := hd13.newS n7 (o := .lst [nV one, .int (((xs1.length : Nat) : Int) - 1)])
        have gL := zN _ _ gL
        have gD := zN _ _ gD
        have gR := gR.mono zN
        have s14 := s13.trans zN
        clear zN
        generalize upd H13 l3 (.lst [nV one, .int (((xs1.length : Nat) : Int) - 1)]) = H14 at hd14 s14 g7 gL gD gR  ⊢
        rw [e1] at g7
        refine ⟨d, c, .ref l3, rfl, hd14, .inl ⟨l3, _, rfl, .inl g7, by simp, by simp, fun x H15 hx hd15 s15 => ⟨(by show 3 ≤ sizeLine; decide), fun t5 n8 => ?_⟩⟩⟩
        obtain ⟨j, rfl, hj⟩ : ∃ j : Nat, x = nV j ∧ j < rs.length + 1 := by
          simp only [List.mem_cons, List.not_mem_nil, or_false] at hx
          rcases hx with rfl | rfl
          · exact ⟨one, rfl, by omega⟩
          · exact ⟨rs.length, rfl, by omega⟩
        clear hx g7
        have gL := s15 _ _ gL
        have gD := s15 _ _ gD
        have gR := gR.mono s15
        have s15 := s14.trans s15
        obtain ⟨hd16, zN, g8⟩ := hd15.newS n8 (o := .tup [.str "shown", nV lv, nV j])
        have gL := zN _ _ gL
        have gD := zN _ _ gD
        have gR := gR.mono zN
        have s16 := s15.trans zN
        clear zN
        generalize upd H15 t5 (.tup [.str "shown", nV lv, nV j]) = H16 at hd16 s16 g8 gL gD gR  ⊢
        have gRr : RowsAt (cut d c H16) (xs1 ++ [.ref t5]) (rs ++ [rr] ++ [Rw.sh lv j]) := gR.snoc g8
        refine ⟨La, xs1, _, rfl, rfl, cut_same _ _ gL, sz_lt (by omega), ?_⟩
        have gRz := rk (o := .lst (xs1 ++ [.ref t5])) gL gRr
        have gD := dk (o := .lst (xs1 ++ [.ref t5])) gL hDL gD
        obtain ⟨hd17, s17, gL⟩ := up (o := .lst (xs1 ++ [.ref t5])) hd16 s16
        generalize upd H16 La (.lst (xs1 ++ [.ref t5])) = H17 at hd17 s17 gL gD gRz ⊢
        have gR := gRz
        clear gRz gRr
        have xl2 : (xs1 ++ [V.ref t5]).length = rs.length + 2 := by rw [List.length_append, xl1]; rfl
        generalize xs1 ++ [V.ref t5] = xs2 at gL gR xl2 ⊢
        refine ⟨_, rfl, .inl ⟨rfl, _, .inl (.inl (cut_same _ _ gL))⟩, _, rfl, La, xs2, rfl, .inl (.inl (.inl (cut_same _ _ gL))), _, _, rfl, rfl, (by show 2 ≤ sizeLine; decide), fun t6 n9 => ?_⟩
        have e2 : ((xs2.length : Nat) : Int) - 1 = ((rs.length + 1 : Nat) : Int) := by omega
        obtain ⟨hd18, zN, g9⟩ := hd17.newS n9 (o := .tup [.str "not", .int (((xs2.length : Nat) : Int) - 1)])
        have gL := zN _ _ gL
        have gD := zN _ _ gD
        have gR := gR.mono zN
        have s18 := s17.trans zN
        clear zN
        generalize upd H17 t6 (.tup [.str "not", .int (((xs2.length : Nat) : Int) - 1)]) = H18 at hd18 s18 g9 gL gD gR  ⊢
        rw [e2] at g9
        have gRr : RowsAt (cut d c H18) (xs2 ++ [.ref t6]) (rs ++ [rr] ++ [Rw.sh lv j] ++ [Rw.ng (rs.length + 1)]) := gR.snoc g9
        refine ⟨La, xs2, _, rfl, rfl, cut_same _ _ gL, sz_lt (by omega), ?_⟩
        have gRz := rk (o := .lst (xs2 ++ [.ref t6])) gL gRr
        have gD := dk (o := .lst (xs2 ++ [.ref t6])) gL hDL gD
        obtain ⟨hd19, s19, gL⟩ := up (o := .lst (xs2 ++ [.ref t6])) hd18 s18
        generalize upd H18 La (.lst (xs2 ++ [.ref t6])) = H19 at hd19 s19 gL gD gRz ⊢
        have gR := gRz
        clear gRz gRr
        have xl3 : (xs2 ++ [V.ref t6]).length = rs.length + 3 := by rw [List.length_append, xl2]; rfl
        generalize xs2 ++ [V.ref t6] = xs3 at gL gR xl3 ⊢
        refine ⟨_, rfl, _, rfl, La, xs3, rfl, .inl (.inl (.inl (cut_same _ _ gL))), _, _, rfl, rfl, _, rfl, La, xs3, rfl, .inl (.inl (.inl (cut_same _ _ gL))), _, _, rfl, rfl, (by show 2 ≤ sizeLine; decide), fun l4 nA => ?_⟩
        have e3 : ((xs3.length : Nat) : Int) - 2 = ((rs.length + 1 : Nat) : Int) := by omega
        have e4 : ((xs3.length : Nat) : Int) - 1 = ((rs.length + 2 : Nat) : Int) := by omega
        obtain ⟨hd20, zN, gB⟩ := hd19.newS nA (o := .lst [.int (((xs3.length : Nat) : Int) - 2), .int (((xs3.length : Nat) : Int) - 1)])
        have gL := zN _ _ gL
        have gD := zN _ _ gD
        have gR := gR.mono zN
        have s20 := s19.trans zN
        clear zN
        generalize upd H19 l4 (.lst [.int (((xs3.length : Nat) : Int) - 2), .int (((xs3.length : Nat) : Int) - 1)]) = H20 at hd20 s20 gB gL gD gR  ⊢
        rw [e3, e4] at gB
        refine ⟨Da, l4, _, _, rfl, rfl, cut_same _ _ gD, cut_same _ _ gB, by rw [List.length_map]; exact sz_le (by simp; omega), fun D2 nC => ?_⟩
        have hne2 : D2 ≠ La := (ne_of_none (cut_same _ _ gL) nC).symm
        have e5 : dn.map nV ++ [nV (rs.length + 1), nV (rs.length + 2)] = (dn ++ [rs.length + 1, rs.length + 2]).map nV := by rw [List.map_append]; rfl
        rw [e5]
        obtain ⟨hd21, zN, gE⟩ := hd20.newS nC (o := .lst ((dn ++ [rs.length + 1, rs.length + 2]).map nV))
        exact ⟨hd21, s20.trans zN, D2, _, _, _, _, _, _, _, hne2, rfl, _, _, _, zN _ _ gL, gR.mono zN, gE, dr.turn hro hrs hrl hlv hj⟩
      --END
      · obtain ⟨hd1, s1, Da, u5, u6, u7, u8, u9, u10, u11, hDL, rfl, xs, rs, dn, gL, gR, gD, dr⟩ := h
        clear gA g3 hR0 dr0 hdB sB hdA sA
        have hxl := gR.len
        have h2 := dr.two
        have hln := dr.len
        have hdl := dr.dl
        have od : 0 < (dn.map nV).length ∧ (dn.map nV).length ≤ 1000 := by rw [List.length_map]; omega
        refine ⟨_, rfl, _, rfl, d, c, .ref Da, rfl, hd1, .inl ⟨Da, _, rfl, .inl gD, od.1, od.2, fun x H2 hx hd2 s2 => ?_⟩⟩
        obtain ⟨one, hone, rfl⟩ := List.mem_map.mp hx
        clear hx
        have gL := s2 _ _ gL
        have gD := s2 _ _ gD
        have gR := gR.mono s2
        have s2 := s1.trans s2
        refine ⟨_, rfl, _, rfl, d, c, .ref Da, rfl, hd2, .inl ⟨Da, _, rfl, .inl gD, od.1, od.2, fun x H3 hx hd3 s3 => ⟨_, _, rfl, ?_⟩⟩⟩
        obtain ⟨other, hoth, rfl⟩ := List.mem_map.mp hx
        clear hx
        have gL := s3 _ _ gL
        have gD := s3 _ _ gD
        have gR := gR.mono s3
        have s3 := s2.trans s3
        refine ⟨_, rfl, .inl ⟨rfl, _, .inl (.inl (cut_same _ _ gL))⟩, _, rfl, _, rfl, _, rfl, (by show 3 ≤ sizeLine; decide), fun t1 n1 => ⟨_, rfl, _, rfl, (by show 3 ≤ sizeLine; decide), fun t2 n2 => ⟨(by show 2 ≤ sizeLine; decide), fun l n3 => ?_⟩⟩⟩
        obtain ⟨hd4, zN, g1⟩ := hd3.newS n1 (o := .tup [.str "and", nV one, nV other])
        have gL := zN _ _ gL
        have gD := zN _ _ gD
        have gR := gR.mono zN
        have s4 := s3.trans zN
        clear zN
        generalize upd H3 t1 (.tup [.str "and", nV one, nV other]) = H4 at hd4 s4 g1 gL gD gR n2 n3 ⊢
        obtain ⟨hd5, zN, g2⟩ := hd4.newS n2 (o := .tup [.str "or", nV one, nV other])
        have gL := zN _ _ gL
        have gD := zN _ _ gD
        have g1 := zN _ _ g1
        have gR := gR.mono zN
        have s5 := s4.trans zN
        clear zN
        generalize upd H4 t2 (.tup [.str "or", nV one, nV other]) = H5 at hd5 s5 g2 gL gD g1 gR n3 ⊢
        obtain ⟨hd6, zN, g3⟩ := hd5.newS n3 (o := .lst [.ref t1, .ref t2])
        have gL := zN _ _ gL
        have gD := zN _ _ gD
        have g1 := zN _ _ g1
        have g2 := zN _ _ g2
        have gR := gR.mono zN
        have s6 := s5.trans zN
        clear zN
        generalize upd H5 l (.lst [.ref t1, .ref t2]) = H6 at hd6 s6 g3 gL gD g1 g2 gR  ⊢
        refine ⟨d, c, .ref l, rfl, hd6, .inl ⟨l, _, rfl, .inl g3, by simp, by simp, fun x H7 hx hd7 s7 => ?_⟩⟩
        obtain ⟨tr, rr, rfl, hrr, hro⟩ : ∃ (tr : Addr) (rr : Rw), x = .ref tr ∧ (cut d c H6) tr = some (.tup rr.vs) ∧ (rr = .cj one other ∨ rr = .dj one other) := by
          simp only [List.mem_cons, List.not_mem_nil, or_false] at hx
          rcases hx with rfl | rfl
          · exact ⟨t1, .cj one other, rfl, g1, .inl rfl⟩
          · exact ⟨t2, .dj one other, rfl, g2, .inr rfl⟩
        clear g1 g2 g3 hx
        have gL := s7 _ _ gL
        have gD := s7 _ _ gD
        have hrr := s7 _ _ hrr
        have gR := gR.mono s7
        have s7 := s6.trans s7
        have gRr : RowsAt (cut d c H7) (xs ++ [.ref tr]) (rs ++ [rr]) := gR.snoc hrr
        refine ⟨La, xs, _, rfl, rfl, cut_same _ _ gL, sz_lt (by omega), ?_⟩
        have gR : RowsAt (cut d c (upd H7 La (.lst (xs ++ [.ref tr])))) (xs ++ [.ref tr]) (rs ++ [rr]) := by
          refine gRr.keep fun b ys e' => ?_
          have nt : ∀ ys, HO.lst xs ≠ .tup ys := fun ys z => by cases z
          have := keepTup (u := .lst (xs ++ [.ref tr])) (cut_same _ _ gL) nt _ _ (cut_same _ _ e')
          refine cut_at this ?_ ?_
          · rintro rfl; unfold cut at e'; rw [if_pos (.inl rfl)] at e'; cases e'
          · rintro rfl; unfold cut at e'; rw [if_pos (.inr rfl)] at e'; cases e'
        have gD : (cut d c (upd H7 La (.lst (xs ++ [.ref tr])))) Da = some (.lst (dn.map nV)) := by
          unfold cut at gD ⊢
          split at gD
          · cases gD
          · rename_i hn
            rw [if_neg hn, upd_ne hDL]
            exact gD
        have gL : (cut d c (upd H7 La (.lst (xs ++ [.ref tr])))) La = some (.lst (xs ++ [.ref tr])) := cut_at upd_same hLd.1 hLd.2
        have hd8 : Dw d c (upd H7 La (.lst (xs ++ [.ref tr]))) := hd7.upd hLd.1 hLd.2
        have s8 : Same (cut d c H) (cut d c (upd H7 La (.lst (xs ++ [.ref tr])))) := cut_mut s7 nLa
        generalize upd H7 La (.lst (xs ++ [.ref tr])) = H8 at gR gD gL hd8 s8 ⊢
        have xl1 : (xs ++ [V.ref tr]).length = rs.length + 1 := by rw [List.length_append, hxl]; rfl
        generalize xs ++ [V.ref tr] = xs1 at gL gR xl1 ⊢
        clear gRr hrr
        refine ⟨_, rfl, 1, rfl, a, _, rfl, .inl (.inl (cut_same _ _ (s8 _ _ ha))), fun l5 n5 => ?_⟩
        rw [cut_tail]
        obtain ⟨hd9, zN, g5⟩ := hd8.newS n5 (o := .lst (own.map V.str).tail)
        have gL := zN _ _ gL
        have gD := zN _ _ gD
        have gR := gR.mono zN
        have s9 := s8.trans zN
        clear zN
        generalize upd H8 l5 (.lst (own.map V.str).tail) = H9 at hd9 s9 g5 gL gD gR  ⊢
        refine ⟨l5, _, rfl, .inl (cut_same _ _ g5), fun J hJ D hD => ?_⟩
        have hDd := hd9.nd hD
        refine it_by hJ (fun i H' => Dw d c H' ∧ Same (cut d c H9) (cut d c H') ∧ ∃ ps : List Nat, (cut d c H') D = some (.lst (ps.map nV)) ∧ ps.length = i ∧ ∀ p ∈ ps, p ∈ dn ∨ p = rs.length) ⟨hd9.upd hDd.1 hDd.2, (hd9.newS hD).2.1, [], cut_at upd_same hDd.1 hDd.2, rfl, fun p hp => nomatch hp⟩ (fun i H' hi h => ?_) (fun i x HA HB hi h y => ?_) (fun HB h => ?_)
        · obtain ⟨_, k1, _⟩ := h
          have e1 := cut_same _ _ g5
          have e2 := cut_same _ _ (k1 _ _ g5)
          exact e2.trans e1.symm
        · obtain ⟨hdB, sB, ps, gP, hpl, hps⟩ := h
          obtain ⟨rfl, hx⟩ := y
          have nD9 := hD
          refine ⟨rfl, yesT ?_⟩
          have gL := sB _ _ gL
          have gD := sB _ _ gD
          refine ⟨_, rfl, _, rfl, 1, rfl, Da, _, rfl, .inl (.inl (cut_same _ _ gD)), fun l6 n6 => ?_⟩
          rw [cut_tail]
          obtain ⟨hd10, z1, g6⟩ := hdB.newS n6 (o := .lst (dn.map nV).tail)
          have gL := z1 _ _ gL
          have gP := z1 _ _ gP
          have s10 := sB.trans z1
          clear z1
          generalize upd HB l6 (.lst (dn.map nV).tail) = H10 at hd10 s10 g6 gL gP ⊢
          refine ⟨_, rfl, La, xs1, rfl, .inl (.inl (.inl (cut_same _ _ gL))), _, _, rfl, rfl, (by show 1 ≤ sizeLine; decide), fun l7 n7 => ?_⟩
          have e1 : ((xs1.length : Nat) : Int) - 1 = ((rs.length : Nat) : Int) := by omega
          obtain ⟨hd11, z1, g7⟩ := hd10.newS n7 (o := .lst [.int (((xs1.length : Nat) : Int) - 1)])
          have g6 := z1 _ _ g6
          have gP := z1 _ _ gP
          have s11 := s10.trans z1
          clear z1
          generalize upd H10 l7 (.lst [.int (((xs1.length : Nat) : Int) - 1)]) = H11 at hd11 s11 g6 g7 gP ⊢
          rw [e1] at g7
          have dtl : ((dn.map nV).tail).length ≤ 100 := by rw [List.length_tail, List.length_map]; omega
          refine ⟨l6, l7, _, _, rfl, rfl, cut_same _ _ g6, cut_same _ _ g7, sz_le (by simp at dtl ⊢; omega), fun l8 n8 => ?_⟩
          obtain ⟨hd12, z1, g8⟩ := hd11.newS n8 (o := .lst ((dn.map nV).tail ++ [nV rs.length]))
          have gP := z1 _ _ gP
          have s12 := s11.trans z1
          clear z1
          generalize upd H11 l8 (.lst ((dn.map nV).tail ++ [nV rs.length])) = H12 at hd12 s12 g8 gP ⊢
          refine ⟨d, c, .ref l8, rfl, hd12, .inl ⟨l8, _, rfl, .inl g8, by simp, by rw [List.length_append]; simp at dtl ⊢; omega, fun x H13 hx hd13 s13 => ?_⟩⟩
          obtain ⟨p, rfl, hp⟩ : ∃ p : Nat, x = nV p ∧ (p ∈ dn ∨ p = rs.length) := by
            rcases List.mem_append.mp hx with hx | hx
            · obtain ⟨p, hp, rfl⟩ := List.mem_map.mp (List.mem_of_mem_tail hx)
              exact ⟨p, rfl, .inl hp⟩
            · exact ⟨rs.length, List.mem_singleton.mp hx, .inr rfl⟩
          have gP := s13 _ _ gP
          have s13 := s12.trans s13
          refine ⟨_, cut_same _ _ gP, by rw [List.length_map, hpl]; exact sz_lt (by rw [List.length_tail, List.length_map] at hi; omega), hd13.upd hDd.1 hDd.2, cut_mut s13 hD, ps ++ [p], by rw [List.map_append]; exact cut_at upd_same hDd.1 hDd.2, by rw [List.length_append, hpl]; rfl, fun z hz => ?_⟩
          rcases List.mem_append.mp hz with hz | hz
          · exact hps z hz
          · rw [List.mem_singleton.mp hz]
            exact hp
        · obtain ⟨hdB, sB, ps, gP, hpl, hps⟩ := h
          have gL := sB _ _ gL
          have gR := gR.mono sB
          have sB := s9.trans sB
          refine ⟨_, rfl, a, _, rfl, .inl (cut_same _ _ (sB _ _ ha)), fun p1 HC sC hp1 => ?_⟩
          have hdC := hdB.mono sC
          have gp1 := hdC.tup hp1
          have gL := cut_mono sC _ _ gL
          have gR := gR.mono (cut_mono sC)
          have gP := cut_mono sC _ _ gP
          have sC := sB.trans (cut_mono sC)
          refine ⟨_, rfl, La, _, rfl, .inl (cut_same _ _ gL), fun p2 HD sD hp2 => ?_⟩
          have hdD := hdC.mono sD
          have gp2 := hdD.tup hp2
          have gp1 := cut_mono sD _ _ gp1
          have gR := gR.mono (cut_mono sD)
          have gP := cut_mono sD _ _ gP
          have sD := sC.trans (cut_mono sD)
          refine ⟨_, rfl, D, _, rfl, .inl (cut_same _ _ gP), fun p3 HE sE hp3 => ⟨(by show 3 ≤ sizeLine; decide), fun z nz => ?_⟩⟩
          have hdE := hdD.mono sE
          have gp3 := hdE.tup hp3
          have gp1 := cut_mono sE _ _ gp1
          have gp2 := cut_mono sE _ _ gp2
          have gR := gR.mono (cut_mono sE)
          have sE := sD.trans (cut_mono sE)
          obtain ⟨hdF, sF, gz⟩ := hdE.newS nz (o := .tup [.ref p1, .ref p2, .ref p3])
          refine q z ⟨own, rs ++ [rr], ps⟩ _ hdF (sE.trans sF) ⟨p1, p2, p3, xs1, gz, sF _ _ gp1, sF _ _ gp2, gR.mono sF, sF _ _ gp3⟩ (dr.fin (by omega) hone hoth hro m1 ?_ hps) rfl
          rw [hpl, List.length_tail, List.length_map]
          omega
end
end Lk

set_option maxHeartbeats 4000000
namespace Lk
open PySem PySem.Spec PyProof.Rows L2
/-! ### the stands, one letter after the other, the tail behind them -/
def padL (ls : List Str) (y : Str) (n : Nat) : Str := (ls[n]?).getD y
noncomputable def Pl.stn (L : Pl) (ls : List Str) (y : Str) : Nat → Sd
  | 0 => L.init
  | n + 1 => L.step (L.stn ls y n) (padL ls y n)
theorem stn_ok (L : Pl) (ls : List Str) (y : Str) : ∀ n, Sd.Ok L (L.stn ls y n)
  | 0 => init_ok L
  | _ + 1 => step_ok _ _
theorem stn_lev (L : Pl) (ls : List Str) (y : Str) : ∀ n, (L.stn ls y n).1 = min n L.high
  | 0 => by show 0 = _; omega
  | n + 1 => by
    show min ((L.stn ls y n).1 + 1) L.high = _
    rw [stn_lev L ls y n]
    omega
theorem stn_run (L : Pl) (ls : List Str) (y : Str) : ∀ n, n ≤ ls.length → L.stn ls y n = L.run L.init (ls.take n)
  | 0, _ => rfl
  | n + 1, h => by
    have hn : n < ls.length := h
    have e : ls.take (n + 1) = ls.take n ++ [ls[n]] := by rw [List.take_add_one, List.getElem?_eq_getElem hn]; rfl
    rw [e, run_snoc, ← stn_run L ls y n (by omega)]
    show L.step _ (padL ls y n) = _
    unfold padL
    rw [List.getElem?_eq_getElem hn]
    rfl
theorem stn_end {L : Pl} {ls : List Str} {y : Str} (h : L.rest (L.run L.init ls) y = true) : ∀ j, L.stn ls y (ls.length + j) = L.run L.init ls
  | 0 => by
    show L.stn ls y ls.length = _
    rw [stn_run L ls y _ (Nat.le_refl _), List.take_length]
  | j + 1 => by
    show L.step (L.stn ls y (ls.length + j)) (padL ls y (ls.length + j)) = _
    rw [stn_end h j]
    have : padL ls y (ls.length + j) = y := by
      unfold padL
      rw [List.getElem?_eq_none (by omega)]
      rfl
    rw [this]
    unfold Pl.rest at h
    rw [Bool.and_eq_true, decide_eq_true_eq, decide_eq_true_eq] at h
    exact h.2
noncomputable def Pl.inv (L : Pl) (ls : List Str) (y : Str) (n : Nat) (i : Nat) : Bool := hold L.rows (L.tr (L.stn ls y n)) [L.mvs (L.stn ls y n), padL ls y n] (innAt L.rows i)
noncomputable def Pl.ins (L : Pl) (ls : List Str) (y : Str) (n : Nat) (i : Nat) : List Bool := (List.range n).map fun t => L.inv ls y t i
theorem ins_succ (L : Pl) (ls : List Str) (y : Str) (n i : Nat) : L.ins ls y (n + 1) i = L.ins ls y n i ++ [L.inv ls y n i] := by
  unfold Pl.ins
  rw [List.range_succ, List.map_append]
  rfl
theorem ins_len (L : Pl) (ls : List Str) (y : Str) (n i : Nat) : (L.ins ls y n i).length = n := by simp [Pl.ins]
theorem tr_at {L : Pl} {g : Nat → Bool} {m : Nat} {s : Nat} {i : Nat} (h : i ∈ L.marks) : L.tr (s, L.marks.map g) i = g i := by
  unfold Pl.tr
  have nd := marks_nd L
  generalize L.marks = ms at h nd
  induction ms with
  | nil => cases h
  | cons x r ih =>
    rw [List.nodup_cons] at nd
    show (List.lookup i ((x :: r).zip (g x :: r.map g))).getD false = _
    rw [List.zip_cons_cons, List.lookup_cons]
    by_cases e : i = x
    · subst e
      simp
    · rw [show (i == x) = false from beq_eq_false_iff_ne.mpr e]
      exact ih ((List.mem_cons.mp h).resolve_left e) nd.2
/-- shown still: no inner one was false at its level or later -/
theorem lev_high {L : Pl} {i : Nat} (h : i ∈ L.marks) : levAt L.rows i ≤ L.high := by
  unfold Pl.high
  have key : ∀ (ls : List Nat) (a x : Nat), (x ∈ ls ∨ x ≤ a) → x ≤ ls.foldl max a := by
    intro ls
    induction ls with
    | nil => intro a x h; exact h.resolve_left fun z => nomatch z
    | cons y r ih =>
      intro a x h
      rw [List.foldl_cons]
      refine ih _ x ?_
      rcases h with h | h
      · rcases List.mem_cons.mp h with rfl | h
        · exact .inr (Nat.le_max_right _ _)
        · exact .inl h
      · exact .inr (Nat.le_trans h (Nat.le_max_left _ _))
  exact key _ _ _ (.inl (List.mem_map_of_mem h))
theorem stn_tr (L : Pl) (ls : List Str) (y : Str) {i : Nat} (hi : i ∈ L.marks) : ∀ n, L.tr (L.stn ls y n) i = !decide (false ∈ (L.ins ls y n i).drop (levAt L.rows i))
  | 0 => by
    have : L.tr L.init i = true := by
      have h := tr_at (L := L) (g := fun _ => true) (m := 0) (s := 0) hi
      have e : L.init = (0, L.marks.map fun _ => true) := by
        unfold Pl.init
        rw [List.map_const']
      rw [e, h]
    show L.tr L.init i = _
    rw [this]
    simp [Pl.ins]
  | n + 1 => by
    have ih := stn_tr L ls y hi n
    have hk := lev_high hi
    show L.tr (_, L.marks.map (L.later (L.tr (L.stn ls y n)) (L.stn ls y n).1 [L.mvs (L.stn ls y n), padL ls y n])) i = _
    rw [tr_at (m := 0) hi, ins_succ]
    unfold Pl.later
    rw [ih, stn_lev]
    have hl := ins_len L ls y n i
    by_cases hn : n < levAt L.rows i
    · have e1 : (L.ins ls y n i).drop (levAt L.rows i) = [] := List.drop_eq_nil_of_le (by omega)
      have e2 : (L.ins ls y n i ++ [L.inv ls y n i]).drop (levAt L.rows i) = [] := List.drop_eq_nil_of_le (by rw [List.length_append, hl]; exact hn)
      rw [e1, e2]
      have : min n L.high < levAt L.rows i := by omega
      simp [this]
    · have e2 : (L.ins ls y n i ++ [L.inv ls y n i]).drop (levAt L.rows i) = (L.ins ls y n i).drop (levAt L.rows i) ++ [L.inv ls y n i] := List.drop_append_of_le_length (by omega)
      rw [e2]
      have : ¬ min n L.high < levAt L.rows i := by omega
      rw [decide_eq_false this, Bool.false_or]
      show (_ && L.inv ls y n i) = _
      cases hv : L.inv ls y n i <;> simp
end Lk

set_option maxHeartbeats 4000000
namespace Lk
open PySem PySem.Spec PyProof.Rows L2
/-- what is kept of each shown one's inner one: f i, or nothing at all -/
def InAt (L : Pl) (H : Hp) (F : Addr) (kvs : List (Key × V)) (f : Nat → List Bool) : Prop := ∀ i ∈ L.marks, (f i = [] ∧ valV kvs (kN i) = none) ∨ ∃ li, valV kvs (kN i) = some (.ref li) ∧ H li = some (.lst ((f i).map V.bl)) ∧ li ≠ F
def spPlainlyL : Sp := fun vs H Q _ => ∃ (a b : Addr) (L : Pl) (ls : List Str) (y : Str) (many : Nat), vs = [.ref a, .ref b, .str y, nV many] ∧ PartsAt H a L ∧ L.Ok ∧ H b = some (.tup (ls.map V.str)) ∧ many ≤ 100 ∧
  ∀ l H', Same H H' → H' l = some (.lst ((List.range many).map fun n => .str (L.mvs (L.stn ls y n)))) → Q (.ref l) H'
def HpAt (H : Hp) (g : Nat → Bool) (ps : List Addr) (is : List Nat) : Prop := Paired (fun p (i : Nat) => H p = some (.tup [nV i, .bl (g i)])) ps is
theorem HpAt.keep {H H' : Hp} {g : Nat → Bool} (k : ∀ a xs, H a = some (.tup xs) → H' a = some (.tup xs)) {ps : List Addr} {is : List Nat} (h : HpAt H g ps is) : HpAt H' g ps is := by
  induction h with
  | nil => exact .nil
  | cons h _ ih => exact .cons (k _ _ h) ih
theorem HpAt.prs {K : PySem.W.Frag} {H : Hp} {g : Nat → Bool} {ps : List Addr} {is : List Nat} (h : HpAt H g ps is) : Paired (fun p (kv : Key × V) => SqT K H p [kV kv.1, kv.2]) ps (is.map fun i => (kN i, V.bl (g i))) := by
  induction h with
  | nil => exact .nil
  | cons h _ ih => exact .cons (.inl (.inl h)) ih
/-- what get(here, []) gives -/
theorem InAt.get {L : Pl} {H : Hp} {F I z : Addr} {kvs : List (Key × V)} {f : Nat → List Bool} (h : InAt L H F kvs f) (hI : H I = some (.dK kvs)) (hz : H z = some (.lst [])) {i : Nat} (hi : i ∈ L.marks) :
    ∃ o li, DGet H I (nV i) o ∧ o.getD (.ref z) = .ref li ∧ H li = some (.lst ((f i).map V.bl)) := by
  rcases h i hi with ⟨e, hv⟩ | ⟨li, hv, hl, _⟩
  · exact ⟨none, z, .inl ⟨kvs, kN i, .inl hI, rfl, hv.symm⟩, rfl, by rw [e]; exact hz⟩
  · exact ⟨some (.ref li), li, .inl ⟨kvs, kN i, .inl hI, rfl, hv.symm⟩, rfl, hl⟩
theorem te_ite {c : Bool} {t1 t2 : TE} {σ : L2.St} {H : Hp} {Q : V → Hp → Prop} (v : V) (h : Q v H) (k1 : c = true → Q v H → t1 σ H Q) (k2 : c = false → Q v H → t2 σ H Q) : if c = true then t1 σ H Q else t2 σ H Q := by
  cases c with
  | true => exact k1 rfl h
  | false => exact k2 rfl h
theorem in_bits (bs : List Bool) : inV (.bl false) (bs.map V.bl) = decide (false ∈ bs) := by
  rw [Bool.eq_iff_iff]
  simp only [inV, List.any_eq_true, List.mem_map, decide_eq_true_eq]
  constructor
  · rintro ⟨x, ⟨z, hz, rfl⟩, e⟩
    cases z
    · exact hz
    · exact absurd e (by decide)
  · intro h
    exact ⟨_, ⟨false, h, rfl⟩, by decide⟩
theorem flat_bits (bs : List Bool) : (bs.map V.bl).all flatV = true := by
  rw [List.all_eq_true]
  intro x hx
  obtain ⟨z, _, rfl⟩ := List.mem_map.mp hx
  rfl
theorem cut_from (xs : List V) (k : Nat) : cutV xs (some (k : Int)) none = xs.drop k := by
  unfold cutV
  rw [HT.sIx_nat, HT.sIx_none]
  rcases Nat.le_total k xs.length with h | h
  · rw [Nat.min_eq_left h, List.take_of_length_le (by rw [List.length_drop]; omega)]
  · rw [Nat.min_eq_right h, List.drop_length, List.drop_eq_nil_of_le h]
    simp
section
variable {P : Program} {w : World} {K : PySem.W.Frag} {mg : Str → Option Value} {base : Heap} {cP cG cT : Addr} {f : Addr} {fd : FuncData} (T : Txt K w mg cP cG cT)
include T
theorem ok_law_plainly {C_law_marks : Cal P w K mg base "_law_marks" 1 ["parts"] spMarksL} {C_law_done : Cal P w K mg base "_law_done" 41 ["parts", "held"] spDoneL} {C_law_so : Cal P w K mg base "_law_so" 40 ["lines", "here", "held", "ring"] (spSo 40)}
    (F : FnP K "_law_plainly" "_law_plainly" s_law_plainly f fd) : FnOk P w K mg base CX0 42 f fd ["parts", "letters", "tail", "many"] spPlainlyL := by
  refine okN F sc_law_plainly (fun vs H Q E h => ?_) (fun cdv A outer s H vs Q E hr h => ?_)
  · obtain ⟨a, b, L, ls, y, many, rfl, _⟩ := h
    rfl
  · obtain ⟨a, b, L, ls, y, many, rfl, hp, ok, hb, hmany, q⟩ := h
    obtain ⟨m0, c, c2, xs, h1, h2, h3, hrs, h5⟩ := hp.ex
    have hml := marks_len L ok.len
    refine ⟨_, (pss_cons (ps_asg (pe_tup (pa_cons (pe_cal C_law_marks hr (pa_cons (pv 0) pa_nil)) (pa_cons pe_dnewK (pa_cons (pe_lst pa_nil) pa_nil)))) (pgT K 3 rfl (pgs_cons (pg_name (i := 4) sc_law_plainly.nd rfl (Or.inl rfl)) (pgs_cons (pg_name (i := 5) sc_law_plainly.nd rfl (Or.inr rfl)) (pgs_cons (pg_name (i := 6) sc_law_plainly.nd rfl (Or.inl rfl)) pgs_nil)))))
      (pss_cons (ps_for PassesOwn.never rfl (pi_range1 rfl T.range_ (pa_cons (pv 3) pa_nil)) (pg_name (i := 7) sc_law_plainly.nd rfl (Or.inl rfl)) (pss_cons (ps_set (i := 9) sc_law_plainly.nd rfl (Or.inl rfl) (pe_callTy (call_dictP rfl) (by rfl) T.dict_ b_dict (pa_cons (pe_lc (own := [("here", 8)]) rfl sc_law_plainly.nd (pi_sq (pv 4)) (blkOk_by (own := [("here", 8)]) (N := ["parts", "letters", "tail", "many", "marks", "inners", "found", "level", "here", "held", "ring"]) (sc := defScope s_law_plainly) (by decide +kernel)) (fun _ _ _ _ _ => pg_name (i := 8) sc_law_plainly.nd rfl (Or.inl rfl)) (fun _ _ _ _ _ => pts_nil) (fun _ _ _ _ _ => (pe_tup (pa_cons (pv 8) (pa_cons (pe_cmpR (notInS K) pe_bl (pe_slice (slL K) (pe_dget2 (hu_of hr) (pv 5) (pv 8) (pe_lst pa_nil) ⟨rfl, rfl, rfl, rfl⟩) (po_some (pe_ix (ixT K) (pe_ix (ixT K) (pe_ix (ixT K) (pv 0) pe_int (fun _ _ => rfl)) (pv 8) (fun _ _ => rfl)) pe_int (fun _ _ => rfl))) po_none) rfl) pa_nil))))) pa_nil)))
      (pss_cons (ps_expr (pe_bm PySem.F.plainAttrs_list PySem.F.slot_list_append PySem.F.type_list_append mt_append (pv 6) (pa_cons (pe_cal C_law_done hr (pa_cons (pv 0) (pa_cons (pv 9) pa_nil))) pa_nil)))
      (pss_cons (ps_set (i := 10) sc_law_plainly.nd rfl (Or.inl rfl) (pe_tup (pa_cons (pe_ix (ixL K) (pv 6) (pe_un un_neg pe_int) (fun _ _ => rfl)) (pa_cons (pe_ifExp (pt_cmpR op_lt (pv 7) (pe_callB (lenS K) (by rfl) T.len_ b_len (pa_cons (pv 1) pa_nil)) (nomark _)) (pe_ix (ixT K) (pv 1) (pv 7) (fun _ _ => rfl)) (pv 2)) pa_nil))))
      (pss_one (ps_for PassesOwn.never rfl (pi_sq (pv 4)) (pg_name (i := 8) sc_law_plainly.nd rfl (Or.inl rfl)) (pss_one (ps_dput (hu_of hr) (pv 5) (pv 8) (pe_op op_cat (pe_dget2 (hu_of hr) (pv 5) (pv 8) (pe_lst pa_nil) ⟨rfl, rfl, rfl, rfl⟩) (pe_lst (pa_cons (pe_cal C_law_so hr (pa_cons (pe_ix (ixT K) (pv 0) pe_int (fun _ _ => rfl)) (pa_cons (pe_ix (ixT K) (pe_ix (ixT K) (pe_ix (ixT K) (pv 0) pe_int (fun _ _ => rfl)) (pv 8) (fun _ _ => rfl)) pe_int (fun _ _ => rfl)) (pa_cons (pv 9) (pa_cons (pv 10) pa_nil))))) pa_nil))) rfl))))))))
      (pss_one (ps_ret (pv 6))))), ?_⟩
    refine ⟨_, rfl, a, L, rfl, hp, ok, fun m H1 s1 nm hm => fun I nI => ⟨(by show 0 ≤ sizeLine; decide), fun F0 nF => ⟨(by show 3 ≤ sizeLine; decide), fun t nt => ?_⟩⟩⟩
    have z1 := same_new (o := .dK []) nI
    have gI : (upd H1 I (.dK [])) I = some (.dK []) := upd_same
    have hm := z1 _ _ hm
    have nI0 := none_of s1 nI
    have s2 := s1.trans z1
    generalize upd H1 I (.dK []) = H2 at s2 gI hm nF nt ⊢
    have z2 := same_new (o := .lst []) nF
    have gF : (upd H2 F0 (.lst [])) F0 = some (.lst []) := upd_same
    have gI := z2 _ _ gI
    have hmF : m ≠ F0 := ne_of_none hm nF
    have hm := z2 _ _ hm
    have nF0 := none_of s2 nF
    have s3 := s2.trans z2
    generalize upd H2 F0 (.lst []) = H3 at s3 gI gF hm nt ⊢
    have z3 := same_new (o := .tup [.ref m, .ref I, .ref F0]) nt
    have gF := z3 _ _ gF
    have gI := z3 _ _ gI
    have hm := z3 _ _ hm
    have s4 := s3.trans z3
    refine ⟨t, _, rfl, .inl (.inl upd_same), rfl, _, _, rfl, _, _, rfl, _, _, rfl, rfl, ?_⟩
    generalize upd H3 t (.tup [.ref m, .ref I, .ref F0]) = H4 at s4 gI gF hm ⊢
    clear z1 z2 z3 s1 s2 s3
    refine ⟨_, rfl, _, rfl, by omega, by omega, ?_⟩
    rw [Int.toNat_natCast]
    refine for_range (fun n σ H' => Same H H' ∧ (∃ u1 u2 u3 u4, σ = [some (.ref a), some (.ref b), some (.str y), some (nV many), some (.ref m), some (.ref I), some (.ref F0), u1, u2, u3, u4]) ∧ H' m = some (.lst (L.marks.map nV)) ∧ H' F0 = some (.lst ((List.range n).map fun t => .str (L.mvs (L.stn ls y t)))) ∧ ∃ kvs, H' I = some (.dK kvs) ∧ kvs.length ≤ 40 * n ∧ InAt L H' F0 kvs (L.ins ls y n))
      ⟨s4, ⟨_, _, _, _, rfl⟩, hm, gF, [], gI, Nat.zero_le _, fun i hi => .inl ⟨rfl, rfl⟩⟩ (fun n σ H5 hn h => ?_) (fun σ H5 h => ?_)
    · obtain ⟨s5, ⟨u1, u2, u3, u4, rfl⟩, hm5, gF5, kvs, gI5, hkl, hin⟩ := h
      refine ⟨_, rfl, m, _, rfl, .inl hm5, fun J hJ D hD => ?_⟩
      refine it_by hJ (fun i H' => Same H5 H' ∧ ∃ ps : List Addr, H' D = some (.lst (ps.map V.ref)) ∧ HpAt H' (L.tr (L.stn ls y n)) ps (L.marks.take i)) ⟨same_new hD, [], upd_same, .nil⟩ (fun i H' hi h => same_of h.1 (.inl hm5)) (fun i x H9 H7 hi h yy => ?_) (fun H7 h => ?_)
      · obtain ⟨s6, ps, gD, hps⟩ := h
        obtain ⟨rfl, hx⟩ := yy
        rw [List.getElem?_map] at hx
        obtain ⟨i', hi', rfl⟩ := Option.map_eq_some_iff.mp hx
        have him := List.mem_of_getElem? hi'
        obtain ⟨lv, j, hr', el, ej⟩ := sh_row him
        obtain ⟨ra, hra, har⟩ := hrs.get' hr'
        refine ⟨rfl, yesT ?_⟩
        refine ⟨_, rfl, _, rfl, I, rfl, .inl ⟨_, .inl (s6 _ _ gI5)⟩, _, rfl, (by show 0 ≤ sizeLine; decide), fun z nz => ?_⟩
        have s7 := s6.trans (same_new (o := .lst []) nz)
        have gD7 := same_new (o := .lst []) nz _ _ gD
        have hps7 : HpAt (upd H7 z (.lst [])) (L.tr (L.stn ls y n)) ps (L.marks.take i) := hps.keep fun _ _ e => same_new nz _ _ e
        have hin7 : InAt L (upd H7 z (.lst [])) F0 kvs (L.ins ls y n) := fun i hi => (hin i hi).imp id fun ⟨li, e1, e2, e3⟩ => ⟨li, e1, s7 _ _ e2, e3⟩
        obtain ⟨o, li, dg, eo, gli⟩ := hin7.get (I := I) (z := z) (s7 _ _ gI5) upd_same him
        refine ⟨o, dg, ?_⟩
        rw [eo]
        generalize upd H7 z (.lst []) = H8 at s7 gD7 hps7 gli ⊢
        have s8 := s5.trans s7
        refine ⟨_, rfl, a, _, _, .ref c, rfl, rfl, .inl (.inl (s8 _ _ h1)), atI_nat (j := 1) rfl, _, rfl, c, xs, _, _, rfl, rfl, .inl (.inl (s8 _ _ h3)), atI_nat hra, ra, _, _, nV lv, rfl, rfl, .inl (.inl (s8 _ _ har)), atI_nat (j := 1) rfl, _, rfl, li, _, rfl, .inl (.inl gli), fun v nv => ?_⟩
        rw [cut_from, ← List.map_drop]
        have s9 := s7.trans (same_new (o := .lst (((L.ins ls y n i').drop lv).map V.bl)) nv)
        have gD9 := same_new (o := .lst (((L.ins ls y n i').drop lv).map V.bl)) nv _ _ gD7
        have hps9 : HpAt (upd H8 v (.lst (((L.ins ls y n i').drop lv).map V.bl))) (L.tr (L.stn ls y n)) ps (L.marks.take i) := hps7.keep fun _ _ e => same_new nv _ _ e
        have gv : (upd H8 v (.lst (((L.ins ls y n i').drop lv).map V.bl))) v = some (.lst (((L.ins ls y n i').drop lv).map V.bl)) := upd_same
        generalize upd H8 v (.lst (((L.ins ls y n i').drop lv).map V.bl)) = H10 at s9 gD9 hps9 gv ⊢
        refine ⟨v, _, rfl, .inl (.inl (.inl gv)), rfl, flat_bits _, ?_⟩
        rw [in_bits, ← el, ← stn_tr L ls y him]
        refine ⟨(by show 2 ≤ sizeLine; decide), fun t5 n5 => ?_⟩
        have s11 := s9.trans (same_new (o := .tup [nV i', .bl (L.tr (L.stn ls y n) i')]) n5)
        have gD11 := same_new (o := .tup [nV i', .bl (L.tr (L.stn ls y n) i')]) n5 _ _ gD9
        have hps11 : HpAt (upd H10 t5 (.tup [nV i', .bl (L.tr (L.stn ls y n) i')])) (L.tr (L.stn ls y n)) ps (L.marks.take i) := hps9.keep fun _ _ e => same_new n5 _ _ e
        have hpl := paired_len hps11
        have ht5D : t5 ≠ D := (ne_of_none gD9 n5).symm
        refine ⟨_, gD11, by rw [List.length_map, hpl, List.length_take]; exact sz_lt (by omega), same_mut s11 hD, ps ++ [t5], by rw [upd_same, List.map_append]; rfl, ?_⟩
        have eT : L.marks.take (i + 1) = L.marks.take i ++ [i'] := by rw [List.take_add_one, hi']; rfl
        rw [eT]
        have ntD : ∀ zs, HO.lst (ps.map V.ref) ≠ .tup zs := fun zs e => by cases e
        exact paired_snoc (HpAt.keep (fun b zs e => keepTup gD11 ntD _ _ e) hps11) ((upd_ne ht5D).trans upd_same)
      · obtain ⟨s6, ps, gD, hps⟩ := h
        rw [List.length_map, List.take_length] at hps
        refine ⟨D, ps, _, rfl, .inl (.inl gD), hps.prs, fun r nr => ?_⟩
        have eE : (L.marks.map fun i => (kN i, V.bl (L.tr (L.stn ls y n) i))) = trE L (L.tr (L.stn ls y n)) := rfl
        rw [eE, merge_nd _ [] (by rw [List.nil_append]; exact trE_nd L _), List.nil_append]
        have z1 := same_new (o := .dK (trE L (L.tr (L.stn ls y n)))) nr
        have s7 := s6.trans z1
        have gr : (upd H7 r (.dK (trE L (L.tr (L.stn ls y n))))) r = some (.dK (trE L (L.tr (L.stn ls y n)))) := upd_same
        generalize upd H7 r (.dK (trE L (L.tr (L.stn ls y n)))) = H8 at s7 gr ⊢
        clear z1
        have hrI1 : r ≠ I := (ne_of_none (s6 _ _ gI5) nr).symm
        have s8 := s5.trans s7
        have gF8 := s7 _ _ gF5
        have gI8 := s7 _ _ gI5
        have hm8 := s7 _ _ hm5
        have hin8 : InAt L H8 F0 kvs (L.ins ls y n) := fun i hi => (hin i hi).imp id fun ⟨li, e1, e2, e3⟩ => ⟨li, e1, s7 _ _ e2, e3⟩
        refine ⟨_, rfl, .inl ⟨rfl, _, .inl (.inl gF8)⟩, _, rfl, _, rfl, a, r, L, _, L.tr (L.stn ls y n), rfl, hp.mono s8, ok, .inl gr, fun i hi => trE_val hi, fun H9 s9 => ?_⟩
        have s10 := s8.trans s9
        have gF9 := s9 _ _ gF8
        have gI9 := s9 _ _ gI8
        have hm9 := s9 _ _ hm8
        have gr9 := s9 _ _ gr
        have hin9 : InAt L H9 F0 kvs (L.ins ls y n) := fun i hi => (hin8 i hi).imp id fun ⟨li, e1, e2, e3⟩ => ⟨li, e1, s9 _ _ e2, e3⟩
        refine ⟨F0, _, _, rfl, rfl, gF9, by rw [List.length_map, List.length_range]; exact sz_lt (by omega), ?_⟩
        have eF : ((List.range n).map fun t => V.str (L.mvs (L.stn ls y t))) ++ [V.str (L.does (L.tr (L.stn ls y n)))] = (List.range (n + 1)).map fun t => V.str (L.mvs (L.stn ls y t)) := by rw [List.range_succ, List.map_append]; rfl
        rw [eF]
        have hrI0 : r ≠ I := hrI1
        have hIF : I ≠ F0 := by rintro rfl; rw [gI9] at gF9; cases gF9
        have hrF : r ≠ F0 := by rintro rfl; rw [gr9] at gF9; cases gF9
        have s11 : Same H (upd H9 F0 (.lst ((List.range (n + 1)).map fun t => V.str (L.mvs (L.stn ls y t))))) := same_mut s10 nF0
        have gI := (upd_ne (H := H9) (o := .lst ((List.range (n + 1)).map fun t => V.str (L.mvs (L.stn ls y t)))) hIF).trans gI9
        have gm := (upd_ne (H := H9) (o := .lst ((List.range (n + 1)).map fun t => V.str (L.mvs (L.stn ls y t)))) hmF).trans hm9
        have gr := (upd_ne (H := H9) (o := .lst ((List.range (n + 1)).map fun t => V.str (L.mvs (L.stn ls y t)))) hrF).trans gr9
        have gF : (upd H9 F0 (.lst ((List.range (n + 1)).map fun t => V.str (L.mvs (L.stn ls y t))))) F0 = _ := upd_same
        have hin : InAt L (upd H9 F0 (.lst ((List.range (n + 1)).map fun t => V.str (L.mvs (L.stn ls y t))))) F0 kvs (L.ins ls y n) := fun i hi => (hin9 i hi).imp id fun ⟨li, e1, e2, e3⟩ => ⟨li, e1, (upd_ne e3).trans e2, e3⟩
        generalize upd H9 F0 (.lst ((List.range (n + 1)).map fun t => V.str (L.mvs (L.stn ls y t)))) = HA at s11 gI gm gr gF hin ⊢
        clear hin9 hin8 gF9 gI9 hm9 gr9 gF8 gI8 hm8 gF5 gI5 hm5 s5 s6 s7 s8 s9 s10
        have hneR : List.range (n + 1) ≠ [] := by rw [List.range_succ]; simp
        refine ⟨_, rfl, _, rfl, F0, _, _, _, rfl, rfl, .inl (.inl gF), atI_neg (fun t => V.str (L.mvs (L.stn ls y t))) 0 hneR, ?_⟩
        have eR : (List.range (n + 1)).getLastD 0 = n := by rw [List.range_succ]; simp
        rw [eR]
        refine ⟨_, rfl, _, rfl, b, _, rfl, .inr (.inl (.inl (s11 _ _ hb))), _, _, rfl, rfl, _, rfl, ?_⟩
        refine te_ite (.str (padL ls y n)) ?_ (fun hc hq => ?_) (fun hc hq => ?_)
        · refine ⟨(by show 2 ≤ sizeLine; decide), fun g ng => ?_⟩
          have z1 := same_new (o := .tup [.str (L.mvs (L.stn ls y n)), .str (padL ls y n)]) ng
          have gg : (upd HA g (.tup [.str (L.mvs (L.stn ls y n)), .str (padL ls y n)])) g = some (.tup [.str (L.mvs (L.stn ls y n)), .str (padL ls y n)]) := upd_same
          have gI := z1 _ _ gI
          have gm := z1 _ _ gm
          have gr := z1 _ _ gr
          have gF := z1 _ _ gF
          have hin : InAt L (upd HA g (.tup [.str (L.mvs (L.stn ls y n)), .str (padL ls y n)])) F0 kvs (L.ins ls y n) := fun i hi => (hin i hi).imp id fun ⟨li, e1, e2, e3⟩ => ⟨li, e1, z1 _ _ e2, e3⟩
          have s12 := s11.trans z1
          generalize upd HA g (.tup [.str (L.mvs (L.stn ls y n)), .str (padL ls y n)]) = HB at s12 gI gm gr gF gg hin ⊢
          clear z1 ng s11
          refine ⟨_, rfl, m, _, rfl, .inl gm, fun J hJ => ?_⟩
          refine for_it hJ (fun j σ H' => Same H H' ∧ (∃ u1 u2, σ = [some (.ref a), some (.ref b), some (.str y), some (nV many), some (.ref m), some (.ref I), some (.ref F0), u1, u2, some (.ref r), some (.ref g)]) ∧ H' m = some (.lst (L.marks.map nV)) ∧ H' F0 = some (.lst ((List.range (n + 1)).map fun t => .str (L.mvs (L.stn ls y t)))) ∧
            H' r = some (.dK (trE L (L.tr (L.stn ls y n)))) ∧ H' g = some (.tup [.str (L.mvs (L.stn ls y n)), .str (padL ls y n)]) ∧ ∃ kvs, H' I = some (.dK kvs) ∧ kvs.length ≤ 40 * n + j ∧ InAt L H' F0 kvs (fun i => if i ∈ L.marks.take j then L.ins ls y (n + 1) i else L.ins ls y n i))
            ⟨s12, ⟨_, _, rfl⟩, gm, gF, gr, gg, kvs, gI, hkl, by simpa using hin⟩ (fun j σ H' hj h => ?_) (fun j x σ HC HD hj h yy => ?_) (fun σ HC h => ?_)
          · exact h.2.2.1.trans gm.symm
          · obtain ⟨s13, ⟨u1, u2, rfl⟩, gm, gF, gr, gg, kvs2, gI, hkl, hin⟩ := h
            obtain ⟨rfl, hx⟩ := yy
            rw [List.getElem?_map] at hx
            obtain ⟨i', hi', rfl⟩ := Option.map_eq_some_iff.mp hx
            have him := List.mem_of_getElem? hi'
            obtain ⟨lv, jj, hr', el, ej⟩ := sh_row him
            obtain ⟨ra, hra, har⟩ := hrs.get' hr'
            have hjc : jj ∈ L.cone := by
              obtain ⟨r2, hr2, hc2⟩ := cone_closed ok.rows i' (mem_marks.mp him).1
              rw [hr'] at hr2
              cases hr2
              exact hc2 jj (by simp [Rw.refs])
            refine ⟨_, rfl, I, rfl, .inl ⟨_, .inl gI⟩, _, rfl, (by show 0 ≤ sizeLine; decide), fun z nz => ?_⟩
            have z1 := same_new (o := .lst []) nz
            have gI1 := z1 _ _ gI
            have gm1 := z1 _ _ gm
            have gr1 := z1 _ _ gr
            have gg1 := z1 _ _ gg
            have gF1 := z1 _ _ gF
            have s14 := s13.trans z1
            obtain ⟨o, li, dg, eo, gli⟩ := InAt.get (z := z) (fun i hi => (hin i hi).imp id fun ⟨li, e1, e2, e3⟩ => ⟨li, e1, z1 _ _ e2, e3⟩) gI1 upd_same him
            refine ⟨o, dg, ?_⟩
            rw [eo]
            have hni : i' ∉ L.marks.take j := fun hm => by
              obtain ⟨k, hk⟩ := List.mem_iff_getElem?.mp hm
              have hkl := (List.getElem?_eq_some_iff.mp hk).1
              rw [List.length_take] at hkl
              have hkj : k < j := by omega
              rw [List.getElem?_take, if_pos hkj] at hk
              obtain ⟨q1, q2⟩ := List.getElem?_eq_some_iff.mp hk
              obtain ⟨p1, p2⟩ := List.getElem?_eq_some_iff.mp hi'
              have := (List.pairwise_iff_getElem.mp (marks_sorted L)) k j q1 p1 hkj
              omega
            simp only [if_neg hni] at gli
            refine ⟨_, rfl, a, _, _, .ref c, rfl, rfl, .inl (.inl (s14 _ _ h1)), atI_nat (j := 1) rfl, _, rfl, a, _, _, .ref c, rfl, rfl, .inl (.inl (s14 _ _ h1)), atI_nat (j := 1) rfl, _, rfl, c, xs, _, _, rfl, rfl, .inl (.inl (s14 _ _ h3)), atI_nat hra, ra, _, _, nV jj, rfl, rfl, .inl (.inl (s14 _ _ har)), atI_nat (j := 2) rfl, _, rfl, _, rfl, ?_⟩
            have hl := ok.len
            have hjl := (mem_cone.mp hjc).1
            refine ⟨c, r, g, jj, xs, L.rows, trE L (L.tr (L.stn ls y n)), [L.mvs (L.stn ls y n), padL ls y n], L.tr (L.stn ls y n), rfl, s14 _ _ h3, hrs.mono s14, ok.rows, by omega, hjl, .inl gr1, fun x hx hs => trE_val (mark_so ok hjc hx hs), gg1, fun HE sE => ?_⟩
            have z2 := z1.trans sE
            have gI2 := sE _ _ gI1
            have gm2 := sE _ _ gm1
            have gr2 := sE _ _ gr1
            have gg2 := sE _ _ gg1
            have gF2 := sE _ _ gF1
            have gli2 := sE _ _ gli
            have s15 := s14.trans sE
            refine ⟨(by show 1 ≤ sizeLine; decide), fun l nl => ?_⟩
            have z3 := same_new (o := .lst [.bl (hold L.rows (L.tr (L.stn ls y n)) [L.mvs (L.stn ls y n), padL ls y n] jj)]) nl
            have hnl := ins_len L ls y n i'
            refine ⟨li, l, _, _, rfl, rfl, z3 _ _ gli2, upd_same, by rw [List.length_map, hnl]; exact sz_le (by simp; omega), fun p np => ?_⟩
            have eB : (L.ins ls y n i').map V.bl ++ [V.bl (hold L.rows (L.tr (L.stn ls y n)) [L.mvs (L.stn ls y n), padL ls y n] jj)] = (L.ins ls y (n + 1) i').map V.bl := by
              rw [ins_succ, List.map_append]
              unfold Pl.inv
              rw [ej]
              rfl
            rw [eB]
            have z4 := same_new (o := .lst ((L.ins ls y (n + 1) i').map V.bl)) np
            have gp : ∀ H0 : Hp, (upd H0 p (.lst ((L.ins ls y (n + 1) i').map V.bl))) p = some (.lst ((L.ins ls y (n + 1) i').map V.bl)) := fun _ => upd_same
            have gI3 := z4 _ _ (z3 _ _ gI2)
            have gF3 := z4 _ _ (z3 _ _ gF2)
            have hpF : p ≠ F0 := (ne_of_none (z3 _ _ gF2) np).symm
            have hpI : p ≠ I := (ne_of_none (z3 _ _ gI2) np).symm
            have z5 := (z2.trans z3).trans z4
            have gpp := gp (upd HE l (.lst [.bl (hold L.rows (L.tr (L.stn ls y n)) [L.mvs (L.stn ls y n), padL ls y n] jj)]))
            have s16 := (s15.trans z3).trans z4
            generalize upd (upd HE l (.lst [.bl (hold L.rows (L.tr (L.stn ls y n)) [L.mvs (L.stn ls y n), padL ls y n] jj)])) p (.lst ((L.ins ls y (n + 1) i').map V.bl)) = HG at z5 gI3 gF3 gpp s16 ⊢
            refine ⟨_, rfl, _, rfl, I, _, rfl, DPut.k (k := kN i') gI3 (sz_lt (by rw [List.length_map] at hj; omega)), ?_⟩
            have ne : ∀ {x : Addr} {o : HO}, HG x = some o → x ≠ I → (upd HG I (.dK (putK kvs2 (kN i') (.ref p)))) x = some o := fun e hn => (upd_ne hn).trans e
            have hrI : r ≠ I := hrI0
            have hmI : m ≠ I := by rintro rfl; rw [gI] at gm; cases gm
            have hFI : F0 ≠ I := by rintro rfl; rw [gI] at gF; cases gF
            have hgI : g ≠ I := by rintro rfl; rw [gI] at gg; cases gg
            have hpl := putK_len1 kvs2 (kN i') (.ref p)
            refine ⟨same_mut s16 nI0, ⟨_, _, rfl⟩, ne (z5 _ _ gm) hmI, ne gF3 hFI, ne (z5 _ _ gr) hrI, ne (z5 _ _ gg) hgI, _, upd_same, by omega, fun i hi => ?_⟩
            have eT : L.marks.take (j + 1) = L.marks.take j ++ [i'] := by rw [List.take_add_one, hi']; rfl
            rw [valV_put]
            by_cases e : i = i'
            · subst e
              rw [if_pos rfl]
              refine .inr ⟨p, rfl, ?_, hpF⟩
              have : i ∈ L.marks.take (j + 1) := by rw [eT]; simp
              simp only [if_pos this]
              exact ne gpp hpI
            · rw [if_neg (fun z => e (by injection z with z; omega))]
              have h0 := hin i hi
              have em : (i ∈ L.marks.take (j + 1)) ↔ i ∈ L.marks.take j := by rw [eT]; simp [e]
              simp only [em]
              refine h0.imp id fun ⟨li, e1, e2, e3⟩ => ⟨li, e1, ne (z5 _ _ e2) ?_, e3⟩
              rintro rfl
              rw [gI] at e2
              cases e2
          · obtain ⟨s13, ⟨u1, u2, rfl⟩, gm, gF, gr, gg, kvs, gI, hkl, hin⟩ := h
            refine ⟨s13, ⟨_, _, _, _, rfl⟩, gm, gF, kvs, gI, by rw [List.length_map] at hkl; omega, fun i hi => ?_⟩
            have := hin i hi
            simp only [List.length_map, List.take_length, if_pos hi] at this
            exact this
        · have hn' : n < ls.length := by
            have := of_decide_eq_true hc
            rw [List.length_map] at this
            omega
          have ep : padL ls y n = ls[n] := by unfold padL; rw [List.getElem?_eq_getElem hn']; rfl
          rw [ep] at hq
          exact ⟨_, rfl, _, rfl, b, _, _, .str ls[n], rfl, rfl, .inl (.inl (s11 _ _ hb)), atI_nat (by rw [Nat.zero_add, List.getElem?_map, List.getElem?_eq_getElem hn']; rfl), hq⟩
        · have hn' : ¬ n < ls.length := by
            have := of_decide_eq_false hc
            rw [List.length_map] at this
            omega
          have ep : padL ls y n = y := by unfold padL; rw [List.getElem?_eq_none (by omega)]; rfl
          rw [ep] at hq
          exact ⟨_, rfl, hq⟩
    · obtain ⟨s5, ⟨u1, u2, u3, u4, rfl⟩, _, gF5, _⟩ := h
      exact ⟨_, rfl, q F0 _ s5 gF5⟩
end
end Lk

set_option maxHeartbeats 4000000
namespace Lk
open PySem PySem.Spec PyProof.Rows L2
theorem hu65 {A : Around} {k : Nat} (hr : Room k A) : A.units + 65 < cLine := by
  have := hr.un
  omega
theorem pe_ngetK {X : Cx} (P : Program) (w : World) {o i : Expr} {pos : Pos} {td ty : TE} (hu : X.A.units + 16 < cLine) (ho : PE X o td) (hi : PE X i ty) (hs : NoSl i) (h1 : X.prog = P := by rfl) (h2 : X.w = w := by rfl) : PE X (.Subscript o i pos) (tNGet P w td ty) := by
  subst h1 h2
  exact pe_nget hu ho hi hs
def spRightL (P : Program) (w : World) (cT : Addr) : Sp := fun vs H Q _ => ∃ (d c t sd D p a b : Addr) (mine yours : List Str) (es : DnE) (S : List (Str × Str)) (W : Ws) (L : Pl), vs = [.ref d, .ref t, .ref sd, .ref D, .ref p] ∧ Dw d c H ∧ TbAt P w cT (cut d c H) t mine yours W ∧
  (cut d c H) sd = some (.tup [.ref a, .ref b]) ∧ (cut d c H) b = some (.lst (yours.map V.str)) ∧ (cut d c H) D = some (DN P w D es) ∧ WoAt (cut d c H) es S W ∧ S.length ≤ 16 ∧ (∀ m ∈ mine, ∀ y ∈ yours, (m, y) ∈ S) ∧ PartsAt (cut d c H) p L ∧ L.Ok ∧ L.moves = mine ∧
  ∀ H', Dw d c H' → Same (cut d c H) (cut d c H') → Q (.bl true) H'
section
variable {P : Program} {w : World} {K : PySem.W.Frag} {mg : Str → Option Value} {base : Heap} {cP cG cT : Addr} {f : Addr} {fd : FuncData} (T : Txt K w mg cP cG cT)
include T
theorem ok_law_player_right {C_law_led_on : Cal P w K mg base "_law_led_on" 44 ["draw", "parts", "yours"] spLedOnL} {K_Player : Mak P w K mg base cP "Player" 4 ["self", "moves", "rows", "chosen"] (spPlayer cP)} {C_floor : Cal P w K mg base "floor" 3 ["table"] (spFloor P w cT)} {C_best : Cal P w K mg base "best" 9 ["table", "player"] (spBest P w cT cP)} {C_endings : Cal P w K mg base "endings" 8 ["player", "others"] (spEndings cP)}
    {C_law_high : Cal P w K mg base "_law_high" 2 ["parts"] spHighL} {C_law_marks : Cal P w K mg base "_law_marks" 1 ["parts"] spMarksL} {C_law_plainly : Cal P w K mg base "_law_plainly" 42 ["parts", "letters", "tail", "many"] spPlainlyL} {C_brought : Cal P w K mg base "brought" 8 ["player", "others", "mine", "yours"] (spBrought cP)}
    (F : FnP K "_law_player_right" "_law_player_right" s_law_player_right f fd) : FnOk P w K mg base CX0 45 f fd ["draw", "sheet", "sides", "worths", "parts"] (spRightL P w cT) := by
  refine okN F sc_law_player_right (fun vs H Q E h => ?_) (fun cdv A outer s H vs Q E hr h => ?_)
  · obtain ⟨d, c, t, sd, D, p, a, b, mine, yours, es, S, W, L, rfl, _⟩ := h
    rfl
  · obtain ⟨d, c, t, sd, D, p, a, b, mine, yours, es, S, W, L, rfl, hd, ht, hsd, hb, hD, hw, hS, hmem, hp, ok, em, q⟩ := h
    subst em
    have sm := ok_small ok
    have m2 := ht.m2
    refine ⟨_, (pss_cons (ps_asg (pv 2) (pgT K 2 rfl (pgs_cons (pg_name (i := 5) sc_law_player_right.nd rfl (Or.inl rfl)) (pgs_cons (pg_name (i := 6) sc_law_player_right.nd rfl (Or.inl rfl)) pgs_nil))))
      (pss_cons (ps_asg (pe_cal C_law_led_on hr (pa_cons (pv 0) (pa_cons (pv 4) (pa_cons (pv 6) pa_nil)))) (pgT K 2 rfl (pgs_cons (pg_name (i := 7) sc_law_player_right.nd rfl (Or.inl rfl)) (pgs_cons (pg_name (i := 8) sc_law_player_right.nd rfl (Or.inr rfl)) pgs_nil))))
      (pss_cons (ps_set (i := 10) sc_law_player_right.nd rfl (Or.inr rfl) (pe_callB (maxS K rfl) (by rfl) T.max_ b_max (pa_cons (pe_lc (own := [("one", 9)]) rfl sc_law_player_right.nd (pi_sq (pv 6)) (blkOk_by (own := [("one", 9)]) (N := ["draw", "sheet", "sides", "worths", "parts", "mine", "yours", "word", "move", "one", "most", "answer", "least", "many", "told"]) (sc := defScope s_law_player_right) (by decide +kernel)) (fun _ _ _ _ _ => pg_name (i := 9) sc_law_player_right.nd rfl (Or.inl rfl)) (fun _ _ _ _ _ => pts_nil) (fun _ _ _ _ _ => (pe_ix (ixT K) (pe_ngetK P w (hu16 hr) (pv 3) (pe_tup (pa_cons (pv 8) (pa_cons (pv 9) pa_nil))) (fun _ _ => rfl)) pe_int (fun _ _ => rfl)))) pa_nil)))
      (pss_cons (ps_set (i := 11) sc_law_player_right.nd rfl (Or.inl rfl) (pe_ix (ixL K) (pe_lc (own := [("one", 9)]) rfl sc_law_player_right.nd (pi_sq (pv 6)) (blkOk_by (own := [("one", 9)]) (N := ["draw", "sheet", "sides", "worths", "parts", "mine", "yours", "word", "move", "one", "most", "answer", "least", "many", "told"]) (sc := defScope s_law_player_right) (by decide +kernel)) (fun _ _ _ _ _ => pg_name (i := 9) sc_law_player_right.nd rfl (Or.inl rfl)) (fun _ _ _ _ _ => pts_one (pt_cmpR op_eq (pe_ix (ixT K) (pe_ngetK P w (hu16 hr) (pv 3) (pe_tup (pa_cons (pv 8) (pa_cons (pv 9) pa_nil))) (fun _ _ => rfl)) pe_int (fun _ _ => rfl)) (pv 10) (nomark _))) (fun _ _ _ _ _ => (pv 9))) pe_int (fun _ _ => rfl)))
      (pss_cons (ps_par (i := 9) (j := 12) (by rfl) sc_law_player_right.nd rfl rfl (by decide) rfl rfl (pa_cons (pe_mak K_Player hr (pa_cons (pe_ix (ixT K) (pv 4) pe_int (fun _ _ => rfl)) (pa_cons (pe_ix (ixT K) (pv 4) pe_int (fun _ _ => rfl)) (pa_cons (pe_ix (ixT K) (pv 4) pe_int (fun _ _ => rfl)) pa_nil)))) (pa_cons (pe_ix (ixT K) (pe_cal C_floor hr (pa_cons (pv 1) pa_nil)) pe_int (fun _ _ => rfl)) pa_nil)) (by rfl))
      (pss_cons (ps_if (PW.pt (pw_or (pt_cmpR op_lt (pv 10) (pv 12) (nomark _)) (pw_or (pt_cmpR op_lt (pe_ix (ixT K) (pe_cal C_best hr (pa_cons (pv 1) (pa_cons (pv 9) pa_nil))) pe_int (fun _ _ => rfl)) (pv 10) (nomark _)) (pw_or1 (pt_cmpR (op_notInD (hu65 hr)) (pe_tup (pa_cons (pv 8) (pa_cons (pv 11) pa_nil))) (pe_cal C_endings hr (pa_cons (pv 9) (pa_cons (pv 6) pa_nil))) rfl))))) (pss_one (ps_ret pe_bl)) pss_nil)
      (pss_cons (ps_set (i := 13) sc_law_player_right.nd rfl (Or.inl rfl) (pe_op op_add (pe_op op_add (pe_op op_add (pe_callB (lenS K) (by rfl) T.len_ b_len (pa_cons (pv 7) pa_nil)) (pe_cal C_law_high hr (pa_cons (pv 4) pa_nil))) (pe_callB (lenS K) (by rfl) T.len_ b_len (pa_cons (pe_cal C_law_marks hr (pa_cons (pv 4) pa_nil)) pa_nil))) pe_int))
      (pss_cons (ps_if (pt_cmpR op_ne (pe_ix (ixL K) (pe_cal C_law_plainly hr (pa_cons (pv 4) (pa_cons (pv 7) (pa_cons (pv 11) (pa_cons (pv 13) pa_nil))))) (pe_un un_neg pe_int) (fun _ _ => rfl)) (pv 8) (nomark _)) (pss_one (ps_ret pe_bl)) pss_nil)
      (pss_cons (ps_set (i := 14) sc_law_player_right.nd rfl (Or.inl rfl) (pe_cal C_brought hr (pa_cons (pv 9) (pa_cons (pv 6) (pa_cons (pv 8) (pa_cons (pv 11) pa_nil))))))
      (pss_one (ps_ret (pe_and (pe_cmpR op_eq (pe_ix (ixT K) (pv 14) pe_int (fun _ _ => rfl)) pe_str (nomark _)) (pe_one (pe_cmpR op_le (pe_callB (lenS K) (by rfl) T.len_ b_len (pa_cons (pe_ix (ixT K) (pv 14) pe_int (fun _ _ => rfl)) pa_nil)) (pe_callB (lenS K) (by rfl) T.len_ b_len (pa_cons (pv 7) pa_nil)) (nomark _))))))))))))))), ?_⟩
    refine ⟨_, rfl, sd, _, rfl, .inl (.inl (cut_same _ _ hsd)), rfl, _, _, rfl, _, _, rfl, rfl, ?_⟩
    refine ⟨_, rfl, _, rfl, _, rfl, d, c, p, b, L, yours, rfl, hd, hp, ok, sm, .inl hb, m2, fun z u ws H1 hd1 s1 hz hu hul hlen hrest => ?_⟩
    refine ⟨z, _, rfl, .inl (.inl (cut_same _ _ hz)), rfl, _, _, rfl, _, _, rfl, rfl, ?_⟩
    -- from here on nothing is drawn: the heap grows alone
    have ht1 := (ht.mono s1).mono cut_same
    have hb1 := cut_same _ _ (s1 _ _ hb)
    have hD1 := cut_same _ _ (s1 _ _ hD)
    have hw1 := (hw.mono s1).mono cut_same
    have hp1 := (hp.mono s1).mono cut_same
    have hu1 := cut_same _ _ hu
    have hmm := mvs_mem ok (L.run L.init ws)
    have hrok : Sd.Ok L (L.run L.init ws) := run_ok (init_ok L)
    have hf2 := m2.few
    have hml := marks_len L ok.len
    have Q1 : ∀ H', Same H1 H' → Q (V.bl true) H' := fun H' s' => q H' (hd1.mono s') (s1.trans (cut_mono s'))
    have hend : ∀ y ∈ yours, L.endM (L.run L.init ws) y = L.mvs (L.run L.init ws) := fun y hy => by
      unfold Pl.endM
      rw [endS_rest hrok (hrest y hy)]
    clear hd hsd hb hD hw hp ht q hd1 s1 hz hu
    generalize hmd : L.mvs (L.run L.init ws) = m at hmm hend ⊢
    have hS1 : ∀ y ∈ yours, (m, y) ∈ S := fun y hy => hmem m hmm y hy
    refine ⟨_, rfl, b, _, rfl, .inl hb1, fun J hJ D1 nD1 => ?_⟩
    refine lcW_fm hJ (fun i => (yours[i]?).map fun y => .int (W m y).2) nD1 (by rw [List.length_map]; omega) (fun H2 s2 => same_of s2 (.inl hb1)) (fun i x H9 H2 hi s2 yy K1 K0 k1 k0 => ?_) (fun H2 s2 e => ?_)
    · obtain ⟨rfl, hx⟩ := yy
      rw [List.getElem?_map] at hx
      obtain ⟨y, hy, rfl⟩ := Option.map_eq_some_iff.mp hx
      refine ⟨rfl, yesT ?_⟩
      refine ⟨_, rfl, _, rfl, _, rfl, (by show 2 ≤ sizeLine; decide), fun k nk => ?_⟩
      have s3 := s2.trans (same_new (o := .tup [.str m, .str y]) nk)
      have hw3 := hw1.mono s3
      obtain ⟨a', q', e1, e2⟩ := hw3.find (hS1 y (List.mem_of_getElem? hy))
      refine ⟨k, D, es, pkey m y, a', .ref q', rfl, rfl, .inl (s3 _ _ hD1), hw3.met.keys, pk_at upd_same, e1, q', _, _, .int (W m y).2, rfl, rfl, .inl (.inl e2), atI_nat (j := 1) rfl, ?_⟩
      exact k1 _ _ (by rw [hy]; rfl) (same_new nk)
    rw [List.length_map, range_mapA] at e
    have e2 : (yours.map fun y => V.int (W m y).2) = (yours.map fun y => (W m y).2).map V.int := by rw [List.map_map]; rfl
    rw [e2] at e
    refine ⟨D1, _, rfl, .inl (.inl e), by rw [List.length_map]; have := m2.pos; omega, fun v hv1 hv2 => ?_⟩
    obtain ⟨y1, hy1, hyv⟩ := List.mem_map.mp hv1
    have hb2 := s2 _ _ hb1
    have hD2 := s2 _ _ hD1
    have hw2 := hw1.mono s2
    refine ⟨_, rfl, b, _, rfl, .inl hb2, fun J2 hJ2 D2 nD2 => ?_⟩
    refine lcW_fm hJ2 (fun i => (yours[i]?).bind fun y => if decide ((W m y).2 = v) = true then some (.str y) else none) nD2 (by rw [List.length_map]; omega) (fun H3 s3 => same_of s3 (.inl hb2)) (fun i x H9 H3 hi s3 yy K1 K0 k1 k0 => ?_) (fun H3 s3 e3 => ?_)
    · obtain ⟨rfl, hx⟩ := yy
      rw [List.getElem?_map] at hx
      obtain ⟨y, hy, rfl⟩ := Option.map_eq_some_iff.mp hx
      refine ⟨rfl, ?_⟩
      refine ⟨_, rfl, _, rfl, _, rfl, (by show 2 ≤ sizeLine; decide), fun k nk => ?_⟩
      have s4 := s3.trans (same_new (o := .tup [.str m, .str y]) nk)
      have hw4 := hw2.mono s4
      obtain ⟨a', q', e1, e2⟩ := hw4.find (hS1 y (List.mem_of_getElem? hy))
      refine ⟨k, D, es, pkey m y, a', .ref q', rfl, rfl, .inl (s4 _ _ hD2), hw4.met.keys, pk_at upd_same, e1, q', _, _, .int (W m y).2, rfl, rfl, .inl (.inl e2), atI_nat (j := 1) rfl, _, rfl, rfl, _, rfl, ?_⟩
      by_cases hq : (W m y).2 = v
      · refine ifT (congrArg V.int hq) ?_
        exact ⟨_, rfl, k1 _ _ (by rw [hy]; show (if _ then _ else _) = _; rw [if_pos (decide_eq_true hq)]) (same_new nk)⟩
      · refine ifF (fun z => hq (by injection z)) ?_
        exact k0 _ (by rw [hy]; show (if _ then _ else _) = _; rw [if_neg (by rw [decide_eq_false hq]; exact Bool.false_ne_true)]) (same_new nk)
    rw [List.length_map, range_fmA, fm_if] at e3
    obtain ⟨y0, hy0⟩ : ∃ y0, (yours.filter fun y => decide ((W m y).2 = v))[0]? = some y0 := ⟨_, List.getElem?_eq_getElem (List.length_pos_of_mem (List.mem_filter.mpr ⟨hy1, decide_eq_true hyv⟩))⟩
    have hy0m := List.mem_filter.mp (List.mem_of_getElem? hy0)
    have hyv0 : (W m y0).2 = v := of_decide_eq_true hy0m.2
    have hy0m := hy0m.1
    refine ⟨D2, _, _, .str y0, rfl, rfl, .inl (.inl e3), atI_nat (j := 0) (by rw [List.getElem?_map, hy0]; rfl), ?_⟩
    have s4 := s2.trans s3
    obtain ⟨m0, c1, c2, xs, g1, g2, g3, hrs, g5⟩ := (hp1.mono s4).ex
    refine ⟨_, rfl, p, _, _, .ref m0, rfl, rfl, .inl (.inl g1), atI_nat (j := 0) rfl, _, rfl, p, _, _, .ref c1, rfl, rfl, .inl (.inl g1), atI_nat (j := 1) rfl, _, rfl, p, _, _, .ref c2, rfl, rfl, .inl (.inl g1), atI_nat (j := 2) rfl, ?_⟩
    intro x dx nx ndx nex
    have s5 : Same H3 (upd (upd H3 dx (.own x)) x (.ins cP dx [])) := (same_new ndx).trans (same_new (by rw [upd_ne nex.symm]; exact nx))
    refine ⟨x, dx, m0, c1, c2, xs, L, rfl, upd_same, .inr (s5 _ _ g2), .inr (s5 _ _ g3), hrs.mono s5, .inr (s5 _ _ g5), ok, fun H4 z4 hx4 => ⟨rfl, ?_⟩⟩
    have s6 : Same H1 H4 := s4.trans fun c u ec => z4 c u (ne_of_none ec nx) (s5 _ _ ec)
    refine ⟨_, rfl, t, L.moves, yours, W, rfl, ht1.mono s6, fun qf H5 mf s7 hmf hmin hqf => ⟨qf, _, _, .int _, rfl, rfl, .inl (.inl hqf), atI_nat (j := 0) rfl, _, _, rfl, ?_⟩⟩
    have s7' := s6.trans s7
    have ev : v = mxW W yours m := mxL_eq hv1 hv2
    have hle := hmin m hmm
    refine ⟨_, rfl, _, rfl, _, _, rfl, rfl, _, rfl, ?_⟩
    refine ifF (by omega) ?_
    have hx5 := hx4.mono s7
    have hin : (m, y0) ∈ endPrs L yours := mem_endPrs.mpr ⟨hmm, hy0m, ws, hul, hend y0 hy0m⟩
    refine ⟨_, rfl, _, rfl, t, x, yours, W, L, rfl, ht1.mono s7', hx5, ok, sm, fun qb H6 vb xb yb s8 hvb1 hvb2 hqb => ⟨qb, _, _, .int vb, rfl, rfl, .inl (.inl hqb), atI_nat (j := 0) rfl, _, rfl, _, _, rfl, rfl, _, rfl, ?_⟩⟩
    have hvb := hvb2 _ hin
    refine ifF (by simp only at hvb; omega) ?_
    have s8' := s7'.trans s8
    have hx6 := hx5.mono s8
    refine ⟨_, rfl, _, rfl, (by show 2 ≤ sizeLine; decide), fun k nk => ?_⟩
    have hk7 : (upd H6 k (.tup [.str m, .str y0])) k = some (.tup [.str m, .str y0]) := upd_same
    have s9 := same_new (o := .tup [.str m, .str y0]) nk
    have s9' := s8'.trans s9
    have hx7 := hx6.mono s9
    generalize upd H6 k (.tup [.str m, .str y0]) = H7 at hk7 s9 s9' hx7 ⊢
    refine ⟨_, rfl, _, rfl, x, b, L, yours, rfl, hx7, ok, sm, .inl (s9' _ _ hb1), m2, fun ql H8 es8 s10 nl hql hps => ?_⟩
    have hemv : ∀ z ∈ endPrs L yours, isMv z.1 ∧ isMv z.2 := fun z hz => by
      have := mem_endPrs.mp (show (z.1, z.2) ∈ endPrs L yours from hz)
      exact ⟨ok.mv.mv _ this.1, m2.mv _ this.2.1⟩
    have k1 := (hemv _ hin).1.strOk
    have k2 := (hemv _ hin).2.strOk
    refine ⟨prD (m, y0), _, .tup (.inl (.inl (s10 _ _ hk7))) (.cons (.str _) (.cons (.str _) .nil)), .lst (.inl (.inl hql)) (dp_prs hps), ?_, sh_prsL hemv, _, rfl, ?_⟩
    · simp only [prD, SeqAt.shaped, PyData.canLay0, PyData.canLayAll0, PyData.depth, PyData.depthAll, k1, k2, Bool.and_true, Bool.true_and]
      decide
    have hany : (((endPrs L yours).map prD).any fun z => PyData.eqv z (prD (m, y0))) = true := by
      rw [List.any_eq_true]
      exact ⟨_, List.mem_map_of_mem hin, by simp [prD, PyData.eqv, PyData.eqvAll]⟩
    rw [hany]
    refine iteF ?_
    have s11 := s9'.trans s10
    have hx8 := hx7.mono s10
    have hb8 := s11 _ _ hb1
    have hp8 := hp1.mono s11
    have hu8 := s11 _ _ hu1
    clear hk7 s9 s9' hx7 hx6 s8' s7' hx5 s6 hx4
    refine ⟨_, rfl, u, _, rfl, .inr (.inl (.inl hu8)), _, rfl, p, L, rfl, hp8, ok, fun H9 s12 => ⟨_, _, rfl, rfl, _, rfl, p, L, rfl, hp8.mono s12, ok, fun l H10 s13 nl hl => ⟨l, _, rfl, .inl (.inl (.inl hl)), _, _, rfl, rfl, _, _, rfl, rfl, ?_⟩⟩⟩
    have s14 := s12.trans s13
    have hx10 := hx8.mono s14
    have hb10 := s14 _ _ hb8
    have hp10 := hp8.mono s14
    have hu10 := s14 _ _ hu8
    have s15 := s11.trans s14
    have en : V.int (((List.map V.str ws).length : Int) + ((L.high : Nat) : Int) + ((List.map nV L.marks).length : Int) + 2) = nV (ws.length + L.high + L.marks.length + 2) := by
      rw [List.length_map, List.length_map]
      rfl
    dsimp only
    rw [en]
    have hsm := sm
    unfold Pl.Small at hsm
    refine ⟨_, rfl, _, rfl, _, rfl, _, rfl, p, u, L, ws, y0, ws.length + L.high + L.marks.length + 2, rfl, hp10, ok, hu10, by omega, fun l2 H11 s16 hl2 => ?_⟩
    have hne : List.range (ws.length + L.high + L.marks.length + 2) ≠ [] := by rw [show ws.length + L.high + L.marks.length + 2 = (ws.length + L.high + L.marks.length + 1) + 1 by omega, List.range_succ]; simp
    refine ⟨_, rfl, l2, _, _, _, rfl, rfl, .inl (.inl hl2), atI_neg (fun n => V.str (L.mvs (L.stn ws y0 n))) 0 hne, _, rfl, rfl, _, rfl, ?_⟩
    have eR : (List.range (ws.length + L.high + L.marks.length + 2)).getLastD 0 = ws.length + (L.high + L.marks.length + 1) := by rw [show ws.length + L.high + L.marks.length + 2 = (ws.length + L.high + L.marks.length + 1) + 1 by omega, List.range_succ]; simp; omega
    rw [eR, stn_end (hrest y0 hy0m), hmd]
    refine ifNF rfl ?_
    have s17 := s15.trans s16
    refine ⟨_, rfl, _, rfl, _, rfl, _, rfl, x, b, L, yours, m, y0, rfl, hx10.mono s16, ok, sm, .inl (s16 _ _ hb10), m2, hmm, hy0m, ⟨ws, hul, hend y0 hy0m⟩, fun qt bt H12 w' s18 hqt hbt hwm hwe hmin2 => ?_⟩
    have hlw := hmin2 ws hul (hend y0 hy0m)
    have hu12 := s18 _ _ (s16 _ _ hu10)
    refine ⟨_, rfl, qt, _, _, .str "row", rfl, rfl, .inl (.inl hqt), atI_nat (j := 0) rfl, rfl, ?_⟩
    have sQ := s17.trans s18
    refine ⟨true, by first | rfl | decide, ?_⟩
    refine iteT ?_
    refine ⟨_, rfl, qt, _, _, .ref bt, rfl, rfl, .inl (.inl hqt), atI_nat (j := 1) rfl, bt, _, rfl, .inr (.inl (.inl hbt)), _, rfl, u, _, rfl, .inr (.inl (.inl hu12)), _, _, rfl, rfl, ?_⟩
    have e9 : (decide (((w'.map V.str).length : Int) ≤ ((ws.map V.str).length : Int))) = true := by
      rw [List.length_map, List.length_map]
      exact decide_eq_true (by omega)
    dsimp only
    rw [e9]
    exact Q1 _ sQ
end
end Lk

set_option maxHeartbeats 4000000
namespace Lk
open PySem PySem.Spec PyProof.Rows L2
def spLaw (K : PySem.W.Frag) : Sp := fun vs H Q _ => ∃ (a : Addr) (ns : List Int), vs = [.ref a] ∧ SqL K H a (ns.map V.int) ∧ ns.length ≤ 63 ∧ ∀ H', Q (.bl true) H'
theorem Dw.obj {d c a : Addr} {H : Hp} {o : HO} (h : Dw d c H) (e : H a = some o) (nl : ∀ xs, o ≠ .lst xs) : (cut d c H) a = some o := by
  obtain ⟨_, cells, i, m', g1, g2, _⟩ := h
  refine cut_at e ?_ ?_
  · rintro rfl
    rw [g1] at e
    cases e
    exact nl _ rfl
  · rintro rfl
    rw [g2] at e
    cases e
    exact nl _ rfl
theorem dn_nl {P : Program} {w : World} {d : Addr} {es : DnE} : ∀ xs, DN P w d es ≠ .lst xs := fun xs e => by
  unfold DN at e
  cases e
theorem Dw.tb {P : Program} {w : World} {cT d c t : Addr} {H : Hp} {mine yours : List Str} {W : Ws} (h : Dw d c H) (k : TbAt P w cT H t mine yours W) : TbAt P w cT (cut d c H) t mine yours W := by
  obtain ⟨⟨dx, a, b, D, es, S, h1, h2, h3, h4, h5, h6⟩, m1, m2, l⟩ := k
  exact ⟨⟨dx, a, b, D, es, S, h.obj h1 (fun xs e => by cases e), h.tup h2, h.tup h3, h.obj h4 dn_nl, h5.keep fun _ _ e => h.tup e, h6⟩, m1, m2, l⟩
section
variable {P : Program} {w : World} {K : PySem.W.Frag} {mg : Str → Option Value} {base : Heap} {cP cG cT : Addr} {f : Addr} {fd : FuncData} (T : Txt K w mg cP cG cT)
include T
theorem ok_law {C_law_begin : Cal P w K mg base "_law_begin" 1 ["script"] (spBegin K)} {C_law_sides : Cal P w K mg base "_law_sides" 4 ["draw", "many"] spSides} {C_law_worths : Cal P w K mg base "_law_worths" 3 ["draw", "mine", "yours"] (spWorthsL P w)} {C_law_turned : Cal P w K mg base "_law_turned" 2 ["draw", "worths"] (spTurnedL P w)}
    {K_Table : Mak P w K mg base cT "Table" 4 ["self", "mine", "yours", "worths"] (spTable P w cT)} {C_law_holds_there : Cal P w K mg base "_law_holds_there" 10 ["sheet", "mine"] (spHoldsL P w cT)} {M_turned : Mth P w K mg base cT "turned" 6 ["self"] (spTurned P w cT)}
    {C_law_any_player : Cal P w K mg base "_law_any_player" 4 ["draw", "own", "words"] spDrawnL} {C_law_player_right : Cal P w K mg base "_law_player_right" 45 ["draw", "sheet", "sides", "worths", "parts"] (spRightL P w cT)}
    (F : FnP K "law" "law" s_law f fd) : FnOk P w K mg base CX0 46 f fd ["script"] (spLaw K) := by
  refine okN F sc_law (fun vs H Q E h => ?_) (fun cdv A outer s H vs Q E hr h => ?_)
  · obtain ⟨a, ns, rfl, _⟩ := h
    rfl
  · obtain ⟨a, ns, rfl, ha, hn, q⟩ := h
    refine ⟨_, (pss_cons (ps_set (i := 1) sc_law.nd rfl (Or.inl rfl) (pe_cal C_law_begin hr (pa_cons (pv 0) pa_nil)))
      (pss_cons (ps_for PassesOwn.never rfl (pi_range1 rfl T.range_ (pa_cons (pe_op op_add pe_int (pe_callB (call_min2 rfl) (by rfl) T.min_ b_min (pa_cons (pe_callB (lenS K) (by rfl) T.len_ b_len (pa_cons (pv 0) pa_nil)) (pa_cons pe_int pa_nil)))) pa_nil)) (pg_name (i := 2) sc_law.nd rfl (Or.inl rfl)) (pss_cons (ps_asg (pe_cal C_law_sides hr (pa_cons (pv 1) (pa_cons pe_int pa_nil))) (pgT K 2 rfl (pgs_cons (pg_name (i := 3) sc_law.nd rfl (Or.inl rfl)) (pgs_cons (pg_name (i := 4) sc_law.nd rfl (Or.inl rfl)) pgs_nil))))
      (pss_cons (ps_set (i := 5) sc_law.nd rfl (Or.inl rfl) (pe_cal C_law_worths hr (pa_cons (pv 1) (pa_cons (pv 3) (pa_cons (pv 4) pa_nil)))))
      (pss_cons (ps_set (i := 6) sc_law.nd rfl (Or.inl rfl) (pe_mak K_Table hr (pa_cons (pv 3) (pa_cons (pv 4) (pa_cons (pe_cal C_law_turned hr (pa_cons (pv 1) (pa_cons (pv 5) pa_nil))) pa_nil)))))
      (pss_cons (ps_if (PW.pt (pw_or (pt_not (pt_val (pe_cal C_law_holds_there hr (pa_cons (pv 6) (pa_cons (pv 3) pa_nil))))) (pw_or1 (pt_not (pt_val (pe_cal C_law_holds_there hr (pa_cons (pe_mth0 T.clT M_turned hr (pv 6)) (pa_cons (pv 4) pa_nil)))))))) (pss_one (ps_ret pe_bl)) pss_nil)
      (pss_one (ps_for PassesOwn.never rfl (pi_range1 rfl T.range_ (pa_cons pe_int pa_nil)) (pg_name (i := 7) sc_law.nd rfl (Or.inl rfl)) (pss_cons (ps_set (i := 8) sc_law.nd rfl (Or.inl rfl) (pe_cal C_law_any_player hr (pa_cons (pv 1) (pa_cons (pv 3) (pa_cons (pv 4) pa_nil)))))
      (pss_one (ps_if (pt_not (pt_val (pe_cal C_law_player_right hr (pa_cons (pv 1) (pa_cons (pv 6) (pa_cons (pe_tup (pa_cons (pv 3) (pa_cons (pv 4) pa_nil))) (pa_cons (pv 5) (pa_cons (pv 8) pa_nil)))))))) (pss_one (ps_ret pe_bl)) pss_nil))))))))))
      (pss_one (ps_ret pe_bl)))), ?_⟩
    refine ⟨_, rfl, a, ns, rfl, ha, by omega, fun d c H1 s1 hd1 nd nc => ?_⟩
    have ha1 := same_l s1 ha
    have hlm : (ns.map V.int).length = ns.length := List.length_map ..
    refine ⟨_, rfl, a, _, rfl, .inl ha1, _, _, rfl, _, _, rfl, rfl, _, rfl, by split <;> omega, by split <;> omega, ?_⟩
    refine for_range (fun n σ H' => Dw d c H' ∧ ∃ u1 u2 u3 u4 u5 u6 u7, σ = [some (.ref a), some (.ref d), u1, u2, u3, u4, u5, u6, u7]) ⟨hd1, _, _, _, _, _, _, _, rfl⟩ (fun n σ H2 hn h => ?_) (fun σ H2 h => ?_)
    · obtain ⟨hd2, u1, u2, u3, u4, u5, u6, u7, rfl⟩ := h
      refine ⟨_, rfl, d, c, rfl, hd2, fun t a1 b1 mine yours H3 m1 m2 hd3 s3 ht ha3 hb3 => ⟨t, _, rfl, .inl (.inl (cut_same _ _ ht)), rfl, _, _, rfl, _, _, rfl, rfl, ?_⟩⟩
      refine ⟨_, rfl, _, rfl, _, rfl, d, c, a1, b1, mine, yours, rfl, hd3, .inl ha3, .inl hb3, m1, m2, fun D es W H4 hd4 s4 hD4 hw4 lim => ?_⟩
      have ha4 := s4 _ _ ha3
      have hb4 := s4 _ _ hb3
      have hpl : (prod mine yours).length ≤ 16 := by
        rw [prod_len]
        exact Nat.mul_le_mul m1.few m2.few
      refine ⟨_, rfl, _, rfl, _, rfl, _, rfl, d, c, D, es, prod mine yours, W, rfl, hd4, hD4, hw4, hpl, prod_nd m1.nd m2.nd, fun x hx => ?_, fun D' es' S' H5 hd5 s5 hD5 hw5 hperm => ?_⟩
      · have := mem_prod.mp (show (x.1, x.2) ∈ prod mine yours from hx)
        exact ⟨m1.mv _ this.1, m2.mv _ this.2⟩
      intro x dx nx ndx nex
      have s6 : Same H5 (upd (upd H5 dx (.own x)) x (.ins cT dx [])) := (same_new ndx).trans (same_new (by rw [upd_ne nex.symm]; exact nx))
      have ha5 := cut_same _ _ (s5 _ _ ha4)
      have hb5 := cut_same _ _ (s5 _ _ hb4)
      refine ⟨x, dx, a1, b1, D', mine, yours, es', S', W, rfl, upd_same, .inl (s6 _ _ ha5), .inl (s6 _ _ hb5), m1, m2, s6 _ _ (cut_same _ _ hD5), (hw5.mono cut_same).mono s6, hperm, lim, fun H6 z6 hT6 => ⟨rfl, ?_⟩⟩
      have s7 : Same H5 H6 := fun e u ec => z6 e u (ne_of_none ec nx) (s6 _ _ ec)
      have hd6 := hd5.mono s7
      have c6 : Same (cut d c H4) (cut d c H6) := s5.trans (cut_mono s7)
      obtain ⟨dxt, xa, xb, xd, xes, xS, hx1, _⟩ := hT6.ex
      refine ⟨_, rfl, _, rfl, x, a1, mine, yours, W, rfl, hT6, .inl (s7 _ _ ha5), fun H7 s8 => ⟨true, rfl, ?_⟩⟩
      refine iteF ?_
      refine ⟨_, rfl, x, _, _, rfl, s8 _ _ hx1, rfl, x, mine, yours, W, rfl, hT6.mono s8, fun q7 H8 s9 hT8 => ?_⟩
      refine ⟨_, rfl, q7, b1, yours, mine, _, rfl, hT8, .inl (s9 _ _ (s8 _ _ (s7 _ _ hb5))), fun H9 s10 => ⟨true, rfl, ?_⟩⟩
      refine iteF ?_
      have s11 := (s8.trans s9).trans s10
      have hd9 := hd6.mono s11
      have c9 : Same (cut d c H4) (cut d c H9) := c6.trans (cut_mono s11)
      have hT9 := hd9.tb (hT6.mono s11)
      have ha9 := c9 _ _ ha4
      have hb9 := c9 _ _ hb4
      have hD9 := c9 _ _ hD4
      have hw9 := hw4.mono c9
      clear hT8 hT6 hd6 c6 s11 s10 s9 s8 hx1 s7 z6
      refine ⟨_, rfl, by decide, by decide, ?_⟩
      refine for_range (fun n σ H' => (Dw d c H' ∧ Same (cut d c H9) (cut d c H')) ∧ ∃ u1 u2 u3, σ = [some (.ref a), some (.ref d), u1, some (.ref a1), some (.ref b1), some (.ref D), some (.ref x), u2, u3]) ⟨⟨hd9, fun _ _ e => e⟩, _, _, _, rfl⟩ (fun n σ H2 hn h => ?_) (fun σ H2 h => ?_)
      · obtain ⟨⟨hdA, sA⟩, u1, u2, u3, rfl⟩ := h
        refine ⟨_, rfl, _, rfl, _, rfl, d, c, a1, b1, mine, yours, rfl, hdA, sA _ _ ha9, sA _ _ hb9, m1, m2, fun p L HB hdB sB hpB ok em => ?_⟩
        refine ⟨_, rfl, _, rfl, _, rfl, _, rfl, (by show 2 ≤ sizeLine; decide), fun k nk => ?_⟩
        obtain ⟨hdC, sC, hkC⟩ := hdB.newS nk (o := .tup [.ref a1, .ref b1])
        have sD := (sA.trans sB).trans sC
        refine ⟨_, rfl, _, rfl, d, c, x, k, D, p, a1, b1, mine, yours, es, prod mine yours, W, L, rfl, hdC, hT9.mono sD, hkC, sD _ _ hb9, sD _ _ hD9, hw9.mono sD, hpl, fun m hm y hy => mem_prod.mpr ⟨hm, hy⟩, hpB.mono sC, ok, em, fun HE hdE sE => ⟨true, rfl, ?_⟩⟩
        refine iteF ?_
        exact ⟨⟨hdE, sD.trans sE⟩, _, _, _, rfl⟩
      · obtain ⟨⟨hdA, sA⟩, u1, u2, u3, rfl⟩ := h
        exact ⟨hdA, _, _, _, _, _, _, _, rfl⟩
    · exact q _
end
end Lk

set_option maxHeartbeats 0
namespace Lk
open PySem PySem.Spec PyProof.Rows L2
/-! ### the head: what is told of the top -/
def tupHd (K : PySem.W.Frag) (a : Addr) (vs : List V) : Bool := match K.lookup a with
  | some ⟨.type c, _, .seq its _, _⟩ => decide (c = "tuple") && (decide (its.size ≤ sizeLine) && He.relAll vs its.toList)
  | _ => false
theorem tupHd_ok {K : PySem.W.Frag} {a : Addr} {vs : List V} (h : tupHd K a vs = true) : KTup K a vs := by
  unfold tupHd at h
  cases q : K.lookup a with
  | none => rw [q] at h; cases h
  | some o =>
    obtain ⟨oc, od, dt, osl⟩ := o
    rw [q] at h
    cases oc with
    | type c =>
      cases dt with
      | seq its n =>
        obtain ⟨h1, h2⟩ := He.ba (show (decide (c = "tuple") && (decide (its.size ≤ sizeLine) && He.relAll vs its.toList)) = true from h)
        obtain ⟨h3, h4⟩ := He.ba h2
        exact ⟨_, its, n, q, congrArg Value.type (of_decide_eq_true h1), rfl, of_decide_eq_true h3, He.relAll_ok h4⟩
      | _ => cases h
    | _ => cases dt <;> cases h
def dvA (K : PySem.W.Frag) (d : Addr) (z : Str) : Addr := match PySem.W.nsIn K d z with
  | some (some (.ref a)) => a
  | _ => 0
def rnB (K : PySem.W.Frag) : Bool := rnTab.all fun q => He.eqO (PySem.W.nsIn K (He.ga K "ROWS_NAMED") q.1) (some (some (.ref (dvA K (He.ga K "ROWS_NAMED") q.1)))) && tupHd K (dvA K (He.ga K "ROWS_NAMED") q.1) (q.2.map V.int)
def szB (K : PySem.W.Frag) : Bool := szTab.all fun q => match PySem.W.nsIn K (He.ga K "SIZES") q.1 with
  | some (some u) => He.relB (.int q.2) u
  | _ => false
def clB (K : PySem.W.Frag) (cP : Addr) : Bool := He.eqO (PySem.W.findIn K (.ref cP) "__class__") (some (some (.builtin "object.__class__"))) && (He.eqO (PySem.W.specialIn K (.builtin "object.__class__") "__get__") (some (some (.builtin "getset_descriptor.__get__"))) &&
  (decide (PySem.W.takesIn K (.builtin "object.__class__") = some true) && (decide (PySem.W.mroIn K cP (.type "object") = some true) && decide (PySem.W.kitOne K (.ref cP) (.ref cP) = some true))))
theorem lookup_in {β : Type} {z : Str} {x : β} : ∀ {l : List (Str × β)}, l.lookup z = some x → (z, x) ∈ l
  | [], h => by cases h
  | (b, u) :: r, h => by
    rw [List.lookup_cons] at h
    by_cases q : z = b
    · subst q
      rw [beq_self_eq_true] at h
      cases h
      exact List.mem_cons_self
    · rw [show (z == b) = false from beq_eq_false_iff_ne.mpr q] at h
      exact List.mem_cons_of_mem _ (lookup_in h)
theorem rn_ok {K : PySem.W.Frag} {w : World} {es : Array DictEntry} {n : Nat} (kd : KDict K w (He.ga K "ROWS_NAMED") es n) (h : rnB K = true) {z : Str} {xs : List Int} (hz : rnTab.lookup z = some xs) : ∃ a, KDct K w (He.ga K "ROWS_NAMED") z (.ref a) ∧ KTup K a (xs.map V.int) := by
  obtain ⟨h1, h2⟩ := He.ba (List.all_eq_true.mp h _ (lookup_in hz))
  exact ⟨_, ⟨es, n, _, kd.at_, kd.lit, He.eqO_ok h1, rfl⟩, tupHd_ok h2⟩
theorem sz_ok {K : PySem.W.Frag} {w : World} {es : Array DictEntry} {n : Nat} (kd : KDict K w (He.ga K "SIZES") es n) (h : szB K = true) {z : Str} {x : Int} (hz : szTab.lookup z = some x) : KDct K w (He.ga K "SIZES") z (.int x) := by
  have h1 := List.all_eq_true.mp h _ (lookup_in hz)
  cases e : PySem.W.nsIn K (He.ga K "SIZES") z with
  | none =>
    rw [e] at h1
    cases h1
  | some r =>
    rw [e] at h1
    cases r with
    | none => cases h1
    | some u => exact ⟨es, n, u, kd.at_, kd.lit, e, He.relB_ok h1⟩
theorem cl_ok {K : PySem.W.Frag} {cP : Addr} (h : clB K cP = true) : PySem.W.findIn K (.ref cP) "__class__" = some (some (.builtin "object.__class__")) ∧ PySem.W.specialIn K (.builtin "object.__class__") "__get__" = some (some (.builtin "getset_descriptor.__get__")) ∧ PySem.W.takesIn K (.builtin "object.__class__") = some true ∧
    PySem.W.mroIn K cP (.type "object") = some true ∧ PySem.W.kitOne K (.ref cP) (.ref cP) = some true := by
  obtain ⟨h1, h⟩ := He.ba h
  obtain ⟨h2, h⟩ := He.ba h
  obtain ⟨h3, h⟩ := He.ba h
  obtain ⟨h4, h5⟩ := He.ba h
  exact ⟨He.eqO_ok h1, He.eqO_ok h2, of_decide_eq_true h3, of_decide_eq_true h4, of_decide_eq_true h5⟩
abbrev d_is_number : He.DefD := ⟨("is_number", none), "is_number", "is_number", defArgs s_is_number, defBody s_is_number, defScope s_is_number, [], []⟩
abbrev d_is_list : He.DefD := ⟨("is_list", none), "is_list", "is_list", defArgs s_is_list, defBody s_is_list, defScope s_is_list, [], []⟩
abbrev d_is_move : He.DefD := ⟨("is_move", none), "is_move", "is_move", defArgs s_is_move, defBody s_is_move, defScope s_is_move, [], []⟩
abbrev d_are_moves : He.DefD := ⟨("are_moves", none), "are_moves", "are_moves", defArgs s_are_moves, defBody s_are_moves, defScope s_are_moves, [], []⟩
abbrev d_is_row : He.DefD := ⟨("is_row", none), "is_row", "is_row", defArgs s_is_row, defBody s_is_row, defScope s_is_row, [], []⟩
abbrev d_need_rows : He.DefD := ⟨("need_rows", none), "need_rows", "need_rows", defArgs s_need_rows, defBody s_need_rows, defScope s_need_rows, [], []⟩
abbrev d_named_by : He.DefD := ⟨("named_by", none), "named_by", "named_by", defArgs s_named_by, defBody s_named_by, defScope s_named_by, [], []⟩
abbrev d_down_ones : He.DefD := ⟨("down_ones", none), "down_ones", "down_ones", defArgs s_down_ones, defBody s_down_ones, defScope s_down_ones, [], []⟩
abbrev d_below : He.DefD := ⟨("below", none), "below", "below", defArgs s_below, defBody s_below, defScope s_below, [], []⟩
abbrev d_need_moves : He.DefD := ⟨("need_moves", none), "need_moves", "need_moves", defArgs s_need_moves, defBody s_need_moves, defScope s_need_moves, [], []⟩
abbrev d_Player___init__ : He.DefD := ⟨("Player", some "__init__"), "__init__", "Player.__init__", defArgs s_Player___init__, defBody s_Player___init__, defScope s_Player___init__, [], []⟩
abbrev d_Player_moves : He.DefD := ⟨("Player", some "moves"), "moves", "Player.moves", defArgs s_Player_moves, defBody s_Player_moves, defScope s_Player_moves, [], []⟩
abbrev d_Player_rows : He.DefD := ⟨("Player", some "rows"), "rows", "Player.rows", defArgs s_Player_rows, defBody s_Player_rows, defScope s_Player_rows, [], []⟩
abbrev d_Player_chosen : He.DefD := ⟨("Player", some "chosen"), "chosen", "Player.chosen", defArgs s_Player_chosen, defBody s_Player_chosen, defScope s_Player_chosen, [], []⟩
abbrev d_Player_showns : He.DefD := ⟨("Player", some "showns"), "showns", "Player.showns", defArgs s_Player_showns, defBody s_Player_showns, defScope s_Player_showns, [], []⟩
abbrev d_Player_top : He.DefD := ⟨("Player", some "top"), "top", "Player.top", defArgs s_Player_top, defBody s_Player_top, defScope s_Player_top, [], []⟩
abbrev d_plain : He.DefD := ⟨("plain", none), "plain", "plain", defArgs s_plain, defBody s_plain, defScope s_plain, [], []⟩
abbrev d_value_of : He.DefD := ⟨("value_of", none), "value_of", "value_of", defArgs s_value_of, defBody s_value_of, defScope s_value_of, [], []⟩
abbrev d_values : He.DefD := ⟨("values", none), "values", "values", defArgs s_values, defBody s_values, defScope s_values, [], []⟩
abbrev d_move_of : He.DefD := ⟨("move_of", none), "move_of", "move_of", defArgs s_move_of, defBody s_move_of, defScope s_move_of, [], []⟩
abbrev d_led_truths : He.DefD := ⟨("led_truths", none), "led_truths", "led_truths", defArgs s_led_truths, defBody s_led_truths, defScope s_led_truths, [], []⟩
abbrev d_need_player : He.DefD := ⟨("need_player", none), "need_player", "need_player", defArgs s_need_player, defBody s_need_player, defScope s_need_player, [], []⟩
abbrev d_Gait___init__ : He.DefD := ⟨("Gait", some "__init__"), "__init__", "Gait.__init__", defArgs s_Gait___init__, defBody s_Gait___init__, defScope s_Gait___init__, [], []⟩
abbrev d_Gait_first : He.DefD := ⟨("Gait", some "first"), "first", "Gait.first", defArgs s_Gait_first, defBody s_Gait_first, defScope s_Gait_first, [], []⟩
abbrev d_Gait_truths : He.DefD := ⟨("Gait", some "truths"), "truths", "Gait.truths", defArgs s_Gait_truths, defBody s_Gait_truths, defScope s_Gait_truths, [], []⟩
abbrev d_Gait_move : He.DefD := ⟨("Gait", some "move"), "move", "Gait.move", defArgs s_Gait_move, defBody s_Gait_move, defScope s_Gait_move, [], []⟩
abbrev d_Gait_behind : He.DefD := ⟨("Gait", some "behind"), "behind", "Gait.behind", defArgs s_Gait_behind, defBody s_Gait_behind, defScope s_Gait_behind, [], []⟩
abbrev d_Gait_rests : He.DefD := ⟨("Gait", some "rests"), "rests", "Gait.rests", defArgs s_Gait_rests, defBody s_Gait_rests, defScope s_Gait_rests, [], []⟩
abbrev d_Gait_end : He.DefD := ⟨("Gait", some "end"), "end", "Gait.end", defArgs s_Gait_end, defBody s_Gait_end, defScope s_Gait_end, [], []⟩
abbrev d_Gait_words : He.DefD := ⟨("Gait", some "words"), "words", "Gait.words", defArgs s_Gait_words, defBody s_Gait_words, defScope s_Gait_words, [], []⟩
abbrev d_need_among : He.DefD := ⟨("need_among", none), "need_among", "need_among", defArgs s_need_among, defBody s_need_among, defScope s_need_among, [], []⟩
abbrev d_endings : He.DefD := ⟨("endings", none), "endings", "endings", defArgs s_endings, defBody s_endings, defScope s_endings, [], []⟩
abbrev d_brought : He.DefD := ⟨("brought", none), "brought", "brought", defArgs s_brought, defBody s_brought, defScope s_brought, [], []⟩
abbrev d_is_worth : He.DefD := ⟨("is_worth", none), "is_worth", "is_worth", defArgs s_is_worth, defBody s_is_worth, defScope s_is_worth, [], []⟩
abbrev d_need_worths : He.DefD := ⟨("need_worths", none), "need_worths", "need_worths", defArgs s_need_worths, defBody s_need_worths, defScope s_need_worths, [], []⟩
abbrev d_Table___init__ : He.DefD := ⟨("Table", some "__init__"), "__init__", "Table.__init__", defArgs s_Table___init__, defBody s_Table___init__, defScope s_Table___init__, [], []⟩
abbrev d_Table_mine : He.DefD := ⟨("Table", some "mine"), "mine", "Table.mine", defArgs s_Table_mine, defBody s_Table_mine, defScope s_Table_mine, [], []⟩
abbrev d_Table_yours : He.DefD := ⟨("Table", some "yours"), "yours", "Table.yours", defArgs s_Table_yours, defBody s_Table_yours, defScope s_Table_yours, [], []⟩
abbrev d_Table_worth : He.DefD := ⟨("Table", some "worth"), "worth", "Table.worth", defArgs s_Table_worth, defBody s_Table_worth, defScope s_Table_worth, [], []⟩
abbrev d_Table_turned : He.DefD := ⟨("Table", some "turned"), "turned", "Table.turned", defArgs s_Table_turned, defBody s_Table_turned, defScope s_Table_turned, [], []⟩
abbrev d_floor : He.DefD := ⟨("floor", none), "floor", "floor", defArgs s_floor, defBody s_floor, defScope s_floor, [], []⟩
abbrev d_best : He.DefD := ⟨("best", none), "best", "best", defArgs s_best, defBody s_best, defScope s_best, [], []⟩
abbrev d_law_begin : He.DefD := ⟨("_law_begin", none), "_law_begin", "_law_begin", defArgs s_law_begin, defBody s_law_begin, defScope s_law_begin, [], []⟩
abbrev d_law_take : He.DefD := ⟨("_law_take", none), "_law_take", "_law_take", defArgs s_law_take, defBody s_law_take, defScope s_law_take, [], []⟩
abbrev d_law_pick : He.DefD := ⟨("_law_pick", none), "_law_pick", "_law_pick", defArgs s_law_pick, defBody s_law_pick, defScope s_law_pick, [], []⟩
abbrev d_law_words : He.DefD := ⟨("_law_words", none), "_law_words", "_law_words", defArgs s_law_words, defBody s_law_words, defScope s_law_words, [], []⟩
abbrev d_law_sides : He.DefD := ⟨("_law_sides", none), "_law_sides", "_law_sides", defArgs s_law_sides, defBody s_law_sides, defScope s_law_sides, [], []⟩
abbrev d_law_worths : He.DefD := ⟨("_law_worths", none), "_law_worths", "_law_worths", defArgs s_law_worths, defBody s_law_worths, defScope s_law_worths, [], []⟩
abbrev d_law_turned : He.DefD := ⟨("_law_turned", none), "_law_turned", "_law_turned", defArgs s_law_turned, defBody s_law_turned, defScope s_law_turned, [], []⟩
abbrev d_law_drawn : He.DefD := ⟨("_law_drawn", none), "_law_drawn", "_law_drawn", defArgs s_law_drawn, defBody s_law_drawn, defScope s_law_drawn, [], []⟩
abbrev d_law_grim : He.DefD := ⟨("_law_grim", none), "_law_grim", "_law_grim", defArgs s_law_grim, defBody s_law_grim, defScope s_law_grim, [], []⟩
abbrev d_law_marks : He.DefD := ⟨("_law_marks", none), "_law_marks", "_law_marks", defArgs s_law_marks, defBody s_law_marks, defScope s_law_marks, [], []⟩
abbrev d_law_high : He.DefD := ⟨("_law_high", none), "_law_high", "_law_high", defArgs s_law_high, defBody s_law_high, defScope s_law_high, [], []⟩
abbrev d_law_so : He.DefD := ⟨("_law_so", none), "_law_so", "_law_so", defArgs s_law_so, defBody s_law_so, defScope s_law_so, [], []⟩
abbrev d_law_done : He.DefD := ⟨("_law_done", none), "_law_done", "_law_done", defArgs s_law_done, defBody s_law_done, defScope s_law_done, [], []⟩
abbrev d_law_on : He.DefD := ⟨("_law_on", none), "_law_on", "_law_on", defArgs s_law_on, defBody s_law_on, defScope s_law_on, [], []⟩
abbrev d_law_step : He.DefD := ⟨("_law_step", none), "_law_step", "_law_step", defArgs s_law_step, defBody s_law_step, defScope s_law_step, [], []⟩
abbrev d_law_move : He.DefD := ⟨("_law_move", none), "_law_move", "_law_move", defArgs s_law_move, defBody s_law_move, defScope s_law_move, [], []⟩
abbrev d_law_still : He.DefD := ⟨("_law_still", none), "_law_still", "_law_still", defArgs s_law_still, defBody s_law_still, defScope s_law_still, [], []⟩
abbrev d_law_plainly : He.DefD := ⟨("_law_plainly", none), "_law_plainly", "_law_plainly", defArgs s_law_plainly, defBody s_law_plainly, defScope s_law_plainly, [], []⟩
abbrev d_law_led_on : He.DefD := ⟨("_law_led_on", none), "_law_led_on", "_law_led_on", defArgs s_law_led_on, defBody s_law_led_on, defScope s_law_led_on, [], []⟩
abbrev d_law_player_right : He.DefD := ⟨("_law_player_right", none), "_law_player_right", "_law_player_right", defArgs s_law_player_right, defBody s_law_player_right, defScope s_law_player_right, [], []⟩
abbrev d_law_holds_there : He.DefD := ⟨("_law_holds_there", none), "_law_holds_there", "_law_holds_there", defArgs s_law_holds_there, defBody s_law_holds_there, defScope s_law_holds_there, [], []⟩
abbrev d_law_any_player : He.DefD := ⟨("_law_any_player", none), "_law_any_player", "_law_any_player", defArgs s_law_any_player, defBody s_law_any_player, defScope s_law_any_player, [], []⟩
abbrev d_law : He.DefD := ⟨("law", none), "law", "law", defArgs s_law, defBody s_law, defScope s_law, [], []⟩
def hfa_0 : List He.Fa := [He.Fa.free "len", He.Fa.free "isinstance", He.Fa.free "all", He.Fa.free "enumerate", He.Fa.free "range", He.Fa.free "max", He.Fa.free "min", He.Fa.free "sorted", He.Fa.free "tuple", He.Fa.free "list", He.Fa.free "dict", He.Fa.free "set", He.Fa.free "zip", He.Fa.free "abs", He.Fa.free "int", He.Fa.free "bool", He.Fa.free "str", He.Fa.int "MOST_ROWS" 2000, He.Fa.int "MOST_FURTHER" 3, He.Fa.int "MOST_K" 99, He.Fa.int "LONGEST" 8, He.Fa.int "MOST_WORTH" 1000, He.Fa.str "LETTERS" az, He.Fa.glo "SEATS", He.Fa.glo "ROWS_NAMED", He.Fa.glo "SIZES", He.Fa.glo "Player", He.Fa.cls "Player", He.Fa.mkr "Player", He.Fa.noat "Player" "ways"]
def hfa_1 : List He.Fa := [He.Fa.noat "Player" "lines", He.Fa.noat "Player" "picks", He.Fa.noat "Player" "cone", He.Fa.glo "Gait", He.Fa.cls "Gait", He.Fa.mkr "Gait", He.Fa.noat "Gait" "walker", He.Fa.noat "Gait" "marks", He.Fa.noat "Gait" "high", He.Fa.glo "Table", He.Fa.cls "Table", He.Fa.mkr "Table", He.Fa.noat "Table" "left_moves", He.Fa.noat "Table" "right_moves", He.Fa.noat "Table" "by_pair", He.Fa.glo "is_number", He.Fa.glo "is_list", He.Fa.glo "is_move", He.Fa.glo "are_moves", He.Fa.glo "is_row", He.Fa.glo "need_rows", He.Fa.glo "named_by", He.Fa.glo "down_ones", He.Fa.glo "below", He.Fa.glo "need_moves", He.Fa.meth "Player" "moves", He.Fa.meth "Player" "rows", He.Fa.meth "Player" "chosen", He.Fa.meth "Player" "showns", He.Fa.meth "Player" "top"]
def hfa_2 : List He.Fa := [He.Fa.glo "plain", He.Fa.glo "value_of", He.Fa.glo "values", He.Fa.glo "move_of", He.Fa.glo "led_truths", He.Fa.glo "need_player", He.Fa.meth "Gait" "first", He.Fa.meth "Gait" "truths", He.Fa.meth "Gait" "move", He.Fa.meth "Gait" "behind", He.Fa.meth "Gait" "rests", He.Fa.meth "Gait" "end", He.Fa.meth "Gait" "words", He.Fa.glo "need_among", He.Fa.glo "endings", He.Fa.glo "brought", He.Fa.glo "is_worth", He.Fa.glo "need_worths", He.Fa.meth "Table" "mine", He.Fa.meth "Table" "yours", He.Fa.meth "Table" "worth", He.Fa.meth "Table" "turned", He.Fa.glo "floor", He.Fa.glo "best", He.Fa.glo "_law_begin", He.Fa.glo "_law_take", He.Fa.glo "_law_pick", He.Fa.glo "_law_words", He.Fa.glo "_law_sides", He.Fa.glo "_law_worths"]
def hfa_3 : List He.Fa := [He.Fa.glo "_law_turned", He.Fa.glo "_law_drawn", He.Fa.glo "_law_grim", He.Fa.glo "_law_marks", He.Fa.glo "_law_high", He.Fa.glo "_law_so", He.Fa.glo "_law_done", He.Fa.glo "_law_on", He.Fa.glo "_law_step", He.Fa.glo "_law_move", He.Fa.glo "_law_still", He.Fa.glo "_law_plainly", He.Fa.glo "_law_led_on", He.Fa.glo "_law_player_right", He.Fa.glo "_law_holds_there", He.Fa.glo "_law_any_player", He.Fa.glo "law"]
def hfa : List He.Fa := hfa_0 ++ hfa_1 ++ hfa_2 ++ hfa_3
def hfn_0 : List He.DefD := [d_is_number, d_is_list, d_is_move, d_are_moves, d_is_row, d_need_rows, d_named_by, d_down_ones, d_below, d_need_moves, d_Player___init__, d_Player_moves, d_Player_rows, d_Player_chosen, d_Player_showns, d_Player_top, d_plain, d_value_of, d_values, d_move_of, d_led_truths, d_need_player, d_Gait___init__, d_Gait_first, d_Gait_truths, d_Gait_move, d_Gait_behind, d_Gait_rests, d_Gait_end, d_Gait_words]
def hfn_1 : List He.DefD := [d_need_among, d_endings, d_brought, d_is_worth, d_need_worths, d_Table___init__, d_Table_mine, d_Table_yours, d_Table_worth, d_Table_turned, d_floor, d_best, d_law_begin, d_law_take, d_law_pick, d_law_words, d_law_sides, d_law_worths, d_law_turned, d_law_drawn, d_law_grim, d_law_marks, d_law_high, d_law_so, d_law_done, d_law_on, d_law_step, d_law_move, d_law_still, d_law_plainly]
def hfn_2 : List He.DefD := [d_law_led_on, d_law_player_right, d_law_holds_there, d_law_any_player, d_law]
def hfn : List He.DefD := hfn_0 ++ hfn_1 ++ hfn_2
def hts : List He.Tab := [(fun K => He.ga K "ROWS_NAMED", ["false", "does", "not", "and", "or", "shown"]), (fun K => He.ga K "SIZES", ["false", "does", "not", "and", "or", "shown"])]
def hex (K : PySem.W.Frag) : Bool := (rnB K && szB K) && (tupHd K (He.ga K "SEATS") [.int 0, .int 1] && (clB K (He.ga K "Player")))
def loo_0 : List Str := ["_wall", "SightError", "NoRow", "NoMoves", "NoChoice", "NoPlayers", "NoWorths", "MOST_ROWS", "MOST_FURTHER", "MOST_K", "LETTERS", "LONGEST", "ROWS_NAMED", "SIZES", "is_number", "is_list", "is_move", "are_moves", "is_row", "need_rows", "named_by", "down_ones", "below", "need_moves", "Player", "plain", "value_of", "values", "move_of", "led_truths"]
def loo_1 : List Str := ["need_player", "Gait", "need_among", "endings", "brought", "MOST_WORTH", "SEATS", "is_worth", "need_worths", "Table", "floor", "best", "_law_begin", "_law_take", "_law_pick", "_law_words", "_law_sides", "_law_worths", "_law_turned", "_law_other_way", "_law_floor", "_law_drawn", "_law_grim", "_law_marks", "_law_high", "_law_so", "_law_done", "_law_on", "_law_step", "_law_move"]
def loo_2 : List Str := ["_law_still", "_law_plainly", "_law_led_on", "_law_player_right", "_law_holds_there", "_law_any_player"]
def loo : List Str := loo_0 ++ loo_1 ++ loo_2
abbrev R : PySem.W.OpenRow := PySem.W.OpenLaw.row PySem.Challenge.rw_lookthrough_k54_whole_nobody_is_held_low
/-- what the walk leans on, by name: the module's objects, the classes' own, their defs and code objects -/
def refAt (g : Addr → Option Obj) (a : Addr) : List Addr := match g a with
  | some o => He.refsD o
  | none => []
def refNs (g : Addr → Option Obj) (a : Addr) : List Addr := match g a with
  | some ⟨c, d, .dict es n, sl⟩ => He.refsD ⟨c, d, .dict es n, sl⟩
  | _ => []
def asM (g : Addr → Option Obj) : List Addr :=
  (fun l1 => (fun l2 => (fun l3 => mainGlobals :: (l1 ++ (l2 ++ (l3 ++ l3.flatMap (refAt g))))) (l2.flatMap (refNs g))) (l1.flatMap (refAt g))) (refAt g mainGlobals)
structure SaysM (w : World) (K : PySem.W.Frag) : Prop where
  t : He.SaysT hfa hfn hts w K
  more : hex K = true
abbrev AlM : Type := He.AlT × Bool
def obsM (g : Addr → Option Obj) : AlM := (He.obsT hfa hfn hts (He.frG g (asM g)), hex (He.frG g (asM g)))
def hk : PySem.W.Hook where
  α := AlM
  obs := fun s => obsM s.heap.get?
  val := fun w => (He.valT hfn hts w, true)
  says := fun w h => ∃ K : PySem.W.Frag, K.In h ∧ SaysM w K
  of := fun _ _ e => ⟨_, He.frG_in, ⟨congrArg (fun z : AlM => z.1) e, congrArg (fun z : AlM => z.2) e⟩⟩
  keeps := fun _ _ _ ⟨K, hK, c⟩ k => ⟨K, PySem.W.Frag.In.keeps hK k, c⟩
def ob (s : PySem.W.SharedT) : AlM := obsM (HandSHeadRun.getT s)
theorem ob_eq (s : PySem.W.SharedT) : ob s = hk.obs s.abs := by
  have e : HandSHeadRun.getT s = s.abs.heap.get? := funext (HandSHeadRun.getT_eq s)
  show obsM (HandSHeadRun.getT s) = obsM s.abs.heap.get?
  rw [e]
theorem run_f (w : World) : HandSHeadRun.RunEq R (PySem.W.view R.prog [73]) hk ob 6000 loo (w.withFollow "special-get-raises" false) := by
  intro os
  kernel_rfl
theorem run_t (w : World) : HandSHeadRun.RunEq R (PySem.W.view R.prog [73]) hk ob 6000 loo (w.withFollow "special-get-raises" true) := by
  intro os
  kernel_rfl
theorem run (w : World) : HandSHeadRun.RunEq R (PySem.W.view R.prog [73]) hk ob 6000 loo w := PySem.W.byRow2 "special-get-raises" (P := HandSHeadRun.RunEq R (PySem.W.view R.prog [73]) hk ob 6000 loo) run_f run_t w
end Lk

set_option maxHeartbeats 0
namespace Lk
open PySem PySem.Spec PyProof.Rows L2
theorem txt_ok {K : PySem.W.Frag} {w : World} {h : Heap} {mg : Str → Option Value} (X : K.In h) (G : h.Ns mainGlobals mg) (c : SaysM w K) : Txt K w mg (He.ga K "Player") (He.ga K "Gait") (He.ga K "Table") := by
  have cd := c.t.d
  have e := He.ba c.more
  have e1 := He.ba e.1
  have e2 := He.ba e.2
  obtain ⟨es1, n1, k1⟩ := c.t.tab 0
  obtain ⟨es2, n2, k2⟩ := c.t.tab 1
  exact {
    len_ := He.free_ok X G (cd.fact 0)
    isinstance_ := He.free_ok X G (cd.fact 1)
    all_ := He.free_ok X G (cd.fact 2)
    enumerate_ := He.free_ok X G (cd.fact 3)
    range_ := He.free_ok X G (cd.fact 4)
    max_ := He.free_ok X G (cd.fact 5)
    min_ := He.free_ok X G (cd.fact 6)
    sorted_ := He.free_ok X G (cd.fact 7)
    tuple_ := He.free_ok X G (cd.fact 8)
    list_ := He.free_ok X G (cd.fact 9)
    dict_ := He.free_ok X G (cd.fact 10)
    set_ := He.free_ok X G (cd.fact 11)
    zip_ := He.free_ok X G (cd.fact 12)
    abs_ := He.free_ok X G (cd.fact 13)
    int_ := He.free_ok X G (cd.fact 14)
    bool_ := He.free_ok X G (cd.fact 15)
    str_ := He.free_ok X G (cd.fact 16)
    MOST_ROWS := He.int_ok X G (cd.fact 17)
    MOST_FURTHER := He.int_ok X G (cd.fact 18)
    MOST_K := He.int_ok X G (cd.fact 19)
    LONGEST := He.int_ok X G (cd.fact 20)
    MOST_WORTH := He.int_ok X G (cd.fact 21)
    LETTERS := He.str_ok X G (cd.fact 22)
    SEATS := ⟨_, He.glo_ok X G (cd.fact 23), tupHd_ok e2.1⟩
    ROWS_NAMED := ⟨_, He.glo_ok X G (cd.fact 24), fun z xs hz => rn_ok k1 e1.1 hz⟩
    SIZES := ⟨_, He.glo_ok X G (cd.fact 25), ⟨_, _, k2⟩, fun z x hz => sz_ok k2 e1.2 hz⟩
    Player := He.glo_ok X G (cd.fact 26)
    Gait := He.glo_ok X G (cd.fact 33)
    Table := He.glo_ok X G (cd.fact 39)
    clP := He.cls_ok (cd.fact 27)
    clG := He.cls_ok (cd.fact 34)
    clT := He.cls_ok (cd.fact 40)
    isP := cl_ok e2.2
    naP := fun f hf => by
      simp only [List.mem_cons, List.not_mem_nil, or_false] at hf
      rcases hf with rfl | rfl | rfl | rfl
      · exact He.noat_ok (cd.fact 29)
      · exact He.noat_ok (cd.fact 30)
      · exact He.noat_ok (cd.fact 31)
      · exact He.noat_ok (cd.fact 32)
    naG := fun f hf => by
      simp only [List.mem_cons, List.not_mem_nil, or_false] at hf
      rcases hf with rfl | rfl | rfl
      · exact He.noat_ok (cd.fact 36)
      · exact He.noat_ok (cd.fact 37)
      · exact He.noat_ok (cd.fact 38)
    naT := fun f hf => by
      simp only [List.mem_cons, List.not_mem_nil, or_false] at hf
      rcases hf with rfl | rfl | rfl
      · exact He.noat_ok (cd.fact 42)
      · exact He.noat_ok (cd.fact 43)
      · exact He.noat_ok (cd.fact 44)
  }
theorem facts {P : Program} {w : World} {K : PySem.W.Frag} {h : Heap} {mg : Str → Option Value} {f : Addr} (X : K.In h) (G : h.Ns mainGlobals mg) (hfl : mg ("law" : Str) = some (.ref f)) (c : SaysM w K) :
    ∃ fd : FuncData, (∀ (s : Shared) (v : Value), BindsTo s fd ⟨[v], []⟩ [("script", v)]) ∧ ∀ base : Heap, K.In base → base.Ns mainGlobals mg → FnOk P w K mg base CX0 46 f fd ["script"] ((spLaw K)) := by
  have T := txt_ok X G c
  have cd := c.t.d
  obtain ⟨fd42, F42⟩ := cd.def_ 42 (d := d_law_begin) rfl
  obtain ⟨fd43, F43⟩ := cd.def_ 43 (d := d_law_take) rfl
  obtain ⟨fd44, F44⟩ := cd.def_ 44 (d := d_law_pick) rfl
  obtain ⟨fd45, F45⟩ := cd.def_ 45 (d := d_law_words) rfl
  obtain ⟨fd46, F46⟩ := cd.def_ 46 (d := d_law_sides) rfl
  obtain ⟨fd47, F47⟩ := cd.def_ 47 (d := d_law_worths) rfl
  obtain ⟨fd48, F48⟩ := cd.def_ 48 (d := d_law_turned) rfl
  obtain ⟨fd1, F1⟩ := cd.def_ 1 (d := d_is_list) rfl
  obtain ⟨fd2, F2⟩ := cd.def_ 2 (d := d_is_move) rfl
  obtain ⟨fd3, F3⟩ := cd.def_ 3 (d := d_are_moves) rfl
  obtain ⟨fd9, F9⟩ := cd.def_ 9 (d := d_need_moves) rfl
  obtain ⟨fd0, F0⟩ := cd.def_ 0 (d := d_is_number) rfl
  obtain ⟨fd33, F33⟩ := cd.def_ 33 (d := d_is_worth) rfl
  obtain ⟨fd34, F34⟩ := cd.def_ 34 (d := d_need_worths) rfl
  obtain ⟨fd35, F35⟩ := cd.def_ 35 (d := d_Table___init__) rfl
  obtain ⟨fd36, F36⟩ := cd.def_ 36 (d := d_Table_mine) rfl
  obtain ⟨fd37, F37⟩ := cd.def_ 37 (d := d_Table_yours) rfl
  obtain ⟨fd30, F30⟩ := cd.def_ 30 (d := d_need_among) rfl
  obtain ⟨fd38, F38⟩ := cd.def_ 38 (d := d_Table_worth) rfl
  obtain ⟨fd40, F40⟩ := cd.def_ 40 (d := d_floor) rfl
  obtain ⟨fd11, F11⟩ := cd.def_ 11 (d := d_Player_moves) rfl
  obtain ⟨fd21, F21⟩ := cd.def_ 21 (d := d_need_player) rfl
  obtain ⟨fd14, F14⟩ := cd.def_ 14 (d := d_Player_showns) rfl
  obtain ⟨fd15, F15⟩ := cd.def_ 15 (d := d_Player_top) rfl
  obtain ⟨fd22, F22⟩ := cd.def_ 22 (d := d_Gait___init__) rfl
  obtain ⟨fd23, F23⟩ := cd.def_ 23 (d := d_Gait_first) rfl
  obtain ⟨fd17, F17⟩ := cd.def_ 17 (d := d_value_of) rfl
  obtain ⟨fd18, F18⟩ := cd.def_ 18 (d := d_values) rfl
  obtain ⟨fd20, F20⟩ := cd.def_ 20 (d := d_led_truths) rfl
  obtain ⟨fd24, F24⟩ := cd.def_ 24 (d := d_Gait_truths) rfl
  obtain ⟨fd12, F12⟩ := cd.def_ 12 (d := d_Player_rows) rfl
  obtain ⟨fd13, F13⟩ := cd.def_ 13 (d := d_Player_chosen) rfl
  obtain ⟨fd19, F19⟩ := cd.def_ 19 (d := d_move_of) rfl
  obtain ⟨fd25, F25⟩ := cd.def_ 25 (d := d_Gait_move) rfl
  obtain ⟨fd26, F26⟩ := cd.def_ 26 (d := d_Gait_behind) rfl
  obtain ⟨fd29, F29⟩ := cd.def_ 29 (d := d_Gait_words) rfl
  obtain ⟨fd27, F27⟩ := cd.def_ 27 (d := d_Gait_rests) rfl
  obtain ⟨fd28, F28⟩ := cd.def_ 28 (d := d_Gait_end) rfl
  obtain ⟨fd31, F31⟩ := cd.def_ 31 (d := d_endings) rfl
  obtain ⟨fd32, F32⟩ := cd.def_ 32 (d := d_brought) rfl
  obtain ⟨fd41, F41⟩ := cd.def_ 41 (d := d_best) rfl
  obtain ⟨fd4, F4⟩ := cd.def_ 4 (d := d_is_row) rfl
  obtain ⟨fd5, F5⟩ := cd.def_ 5 (d := d_need_rows) rfl
  obtain ⟨fd6, F6⟩ := cd.def_ 6 (d := d_named_by) rfl
  obtain ⟨fd7, F7⟩ := cd.def_ 7 (d := d_down_ones) rfl
  obtain ⟨fd8, F8⟩ := cd.def_ 8 (d := d_below) rfl
  obtain ⟨fd10, F10⟩ := cd.def_ 10 (d := d_Player___init__) rfl
  obtain ⟨fd16, F16⟩ := cd.def_ 16 (d := d_plain) rfl
  obtain ⟨fd62, F62⟩ := cd.def_ 62 (d := d_law_holds_there) rfl
  obtain ⟨fd39, F39⟩ := cd.def_ 39 (d := d_Table_turned) rfl
  obtain ⟨fd49, F49⟩ := cd.def_ 49 (d := d_law_drawn) rfl
  obtain ⟨fd50, F50⟩ := cd.def_ 50 (d := d_law_grim) rfl
  obtain ⟨fd63, F63⟩ := cd.def_ 63 (d := d_law_any_player) rfl
  obtain ⟨fd51, F51⟩ := cd.def_ 51 (d := d_law_marks) rfl
  obtain ⟨fd52, F52⟩ := cd.def_ 52 (d := d_law_high) rfl
  obtain ⟨fd53, F53⟩ := cd.def_ 53 (d := d_law_so) rfl
  obtain ⟨fd54, F54⟩ := cd.def_ 54 (d := d_law_done) rfl
  obtain ⟨fd55, F55⟩ := cd.def_ 55 (d := d_law_on) rfl
  obtain ⟨fd56, F56⟩ := cd.def_ 56 (d := d_law_step) rfl
  obtain ⟨fd58, F58⟩ := cd.def_ 58 (d := d_law_still) rfl
  obtain ⟨fd57, F57⟩ := cd.def_ 57 (d := d_law_move) rfl
  obtain ⟨fd60, F60⟩ := cd.def_ 60 (d := d_law_led_on) rfl
  obtain ⟨fd59, F59⟩ := cd.def_ 59 (d := d_law_plainly) rfl
  obtain ⟨fd61, F61⟩ := cd.def_ 61 (d := d_law_player_right) rfl
  obtain ⟨fd64, F64⟩ := cd.def_ 64 (d := d_law) rfl
  have e := hfl.symm.trans (He.glo_ok X G (cd.fact 106))
  cases e
  have b := FunD.bindsA (ps := ["script"]) F64 fun _ _ _ _ _ _ us hl => match us, hl with | [_], _ => rfl
  refine ⟨fd64, fun s v => b s [v] rfl, fun base _ _ => ?_⟩
  have H__law_begin : Cal P w K mg base "_law_begin" 1 ["script"] (spBegin K) := ⟨_, fd42, He.glo_ok X G (cd.fact 84), F42.kp, FunD.bindsN F42 fun _ _ _ _ _ _ us hl => match us, hl with | [_], _ => rfl, ok_law_begin T  F42⟩
  have H__law_take : Cal P w K mg base "_law_take" 1 ["draw", "size"] spTake := ⟨_, fd43, He.glo_ok X G (cd.fact 85), F43.kp, FunD.bindsN F43 fun _ _ _ _ _ _ us hl => match us, hl with | [_, _], _ => rfl, ok_law_take T  F43⟩
  have H__law_pick : Cal P w K mg base "_law_pick" 2 ["draw", "some"] spPick := ⟨_, fd44, He.glo_ok X G (cd.fact 86), F44.kp, FunD.bindsN F44 fun _ _ _ _ _ _ us hl => match us, hl with | [_, _], _ => rfl, ok_law_pick T (C_law_take := H__law_take) F44⟩
  have H__law_words : Cal P w K mg base "_law_words" 3 ["draw", "many"] spWordsL := ⟨_, fd45, He.glo_ok X G (cd.fact 87), F45.kp, FunD.bindsN F45 fun _ _ _ _ _ _ us hl => match us, hl with | [_, _], _ => rfl, ok_law_words T (C_law_take := H__law_take) (C_law_pick := H__law_pick) F45⟩
  have H__law_sides : Cal P w K mg base "_law_sides" 4 ["draw", "many"] spSides := ⟨_, fd46, He.glo_ok X G (cd.fact 88), F46.kp, FunD.bindsN F46 fun _ _ _ _ _ _ us hl => match us, hl with | [_, _], _ => rfl, ok_law_sides T (C_law_take := H__law_take) (C_law_words := H__law_words) F46⟩
  have H__law_worths : Cal P w K mg base "_law_worths" 3 ["draw", "mine", "yours"] (spWorthsL P w) := ⟨_, fd47, He.glo_ok X G (cd.fact 89), F47.kp, FunD.bindsN F47 fun _ _ _ _ _ _ us hl => match us, hl with | [_, _, _], _ => rfl, ok_law_worths T (C_law_take := H__law_take) (C_law_pick := H__law_pick) F47⟩
  have H__law_turned : Cal P w K mg base "_law_turned" 2 ["draw", "worths"] (spTurnedL P w) := ⟨_, fd48, He.glo_ok X G (cd.fact 90), F48.kp, FunD.bindsN F48 fun _ _ _ _ _ _ us hl => match us, hl with | [_, _], _ => rfl, ok_law_turned T (C_law_take := H__law_take) F48⟩
  have H_is_list : Cal P w K mg base "is_list" 1 ["thing"] spIsList := ⟨_, fd1, He.glo_ok X G (cd.fact 46), F1.kp, FunD.bindsN F1 fun _ _ _ _ _ _ us hl => match us, hl with | [_], _ => rfl, ok_is_list T  F1⟩
  have H_is_move : Cal P w K mg base "is_move" 1 ["thing"] spIsMove := ⟨_, fd2, He.glo_ok X G (cd.fact 47), F2.kp, FunD.bindsN F2 fun _ _ _ _ _ _ us hl => match us, hl with | [_], _ => rfl, ok_is_move T  F2⟩
  have H_are_moves : Cal P w K mg base "are_moves" 2 ["thing"] spAreMoves := ⟨_, fd3, He.glo_ok X G (cd.fact 48), F3.kp, FunD.bindsN F3 fun _ _ _ _ _ _ us hl => match us, hl with | [_], _ => rfl, ok_are_moves T (C_is_list := H_is_list) (C_is_move := H_is_move) F3⟩
  have H_need_moves : Cal P w K mg base "need_moves" 3 ["thing"] spNeedMoves := ⟨_, fd9, He.glo_ok X G (cd.fact 54), F9.kp, FunD.bindsN F9 fun _ _ _ _ _ _ us hl => match us, hl with | [_], _ => rfl, ok_need_moves T (C_are_moves := H_are_moves) F9⟩
  have H_is_number : Cal P w K mg base "is_number" 1 ["thing", "low", "high"] spIsNumber := ⟨_, fd0, He.glo_ok X G (cd.fact 45), F0.kp, FunD.bindsN F0 fun _ _ _ _ _ _ us hl => match us, hl with | [_, _, _], _ => rfl, ok_is_number T  F0⟩
  have H_is_worth : Cal P w K mg base "is_worth" 2 ["thing"] spIsWorth := ⟨_, fd33, He.glo_ok X G (cd.fact 76), F33.kp, FunD.bindsN F33 fun _ _ _ _ _ _ us hl => match us, hl with | [_], _ => rfl, ok_is_worth T (C_is_list := H_is_list) (C_is_number := H_is_number) F33⟩
  have H_need_worths : Cal P w K mg base "need_worths" 3 ["mine", "yours", "thing"] (spNeedWorths P w) := ⟨_, fd34, He.glo_ok X G (cd.fact 77), F34.kp, FunD.bindsN F34 fun _ _ _ _ _ _ us hl => match us, hl with | [_, _, _], _ => rfl, ok_need_worths T (C_is_worth := H_is_worth) F34⟩
  have H_Table___init__ : Mak P w K mg base (He.ga K "Table") "Table" 4 ["self", "mine", "yours", "worths"] (spTable P w (He.ga K "Table")) := ⟨He.glo_ok X G (cd.fact 39), _, fd35, He.mkr_ok (cd.fact 41), FunD.bindsN F35 fun _ _ _ _ _ _ us hl => match us, hl with | [_, _, _, _], _ => rfl, ok_Table T (C_need_moves := H_need_moves) (C_need_worths := H_need_worths) F35⟩
  have H_Table_mine : Mth P w K mg base (He.ga K "Table") "mine" 1 ["self"] (spMine P w (He.ga K "Table")) := ⟨_, fd36, He.meth_ok (cd.fact 78), FunD.bindsN F36 fun _ _ _ _ _ _ us hl => match us, hl with | [_], _ => rfl, ok_mine T  F36⟩
  have H_Table_yours : Mth P w K mg base (He.ga K "Table") "yours" 1 ["self"] (spYours P w (He.ga K "Table")) := ⟨_, fd37, He.meth_ok (cd.fact 79), FunD.bindsN F37 fun _ _ _ _ _ _ us hl => match us, hl with | [_], _ => rfl, ok_yours T  F37⟩
  have H_need_among : Cal P w K mg base "need_among" 1 ["thing", "moves"] spNeedAmong := ⟨_, fd30, He.glo_ok X G (cd.fact 73), F30.kp, FunD.bindsN F30 fun _ _ _ _ _ _ us hl => match us, hl with | [_, _], _ => rfl, ok_need_among T  F30⟩
  have H_Table_worth : Mth P w K mg base (He.ga K "Table") "worth" 2 ["self", "a", "b"] (spWorth P w (He.ga K "Table")) := ⟨_, fd38, He.meth_ok (cd.fact 80), FunD.bindsN F38 fun _ _ _ _ _ _ us hl => match us, hl with | [_, _, _], _ => rfl, ok_worth T (C_need_among := H_need_among) F38⟩
  have H_floor : Cal P w K mg base "floor" 3 ["table"] (spFloor P w (He.ga K "Table")) := ⟨_, fd40, He.glo_ok X G (cd.fact 82), F40.kp, FunD.bindsN F40 fun _ _ _ _ _ _ us hl => match us, hl with | [_], _ => rfl, ok_floor T (M_mine := H_Table_mine) (M_yours := H_Table_yours) (M_worth := H_Table_worth) F40⟩
  have H_Player_moves : Mth P w K mg base (He.ga K "Player") "moves" 1 ["self"] (spMoves (He.ga K "Player")) := ⟨_, fd11, He.meth_ok (cd.fact 55), FunD.bindsN F11 fun _ _ _ _ _ _ us hl => match us, hl with | [_], _ => rfl, ok_moves T  F11⟩
  have H_need_player : Cal P w K mg base "need_player" 1 ["thing"] (spNeedPlayer (He.ga K "Player")) := ⟨_, fd21, He.glo_ok X G (cd.fact 65), F21.kp, FunD.bindsN F21 fun _ _ _ _ _ _ us hl => match us, hl with | [_], _ => rfl, ok_need_player T  F21⟩
  have H_Player_showns : Mth P w K mg base (He.ga K "Player") "showns" 1 ["self"] (spShowns (He.ga K "Player")) := ⟨_, fd14, He.meth_ok (cd.fact 58), FunD.bindsN F14 fun _ _ _ _ _ _ us hl => match us, hl with | [_], _ => rfl, ok_showns T  F14⟩
  have H_Player_top : Mth P w K mg base (He.ga K "Player") "top" 2 ["self"] (spTop (He.ga K "Player")) := ⟨_, fd15, He.meth_ok (cd.fact 59), FunD.bindsN F15 fun _ _ _ _ _ _ us hl => match us, hl with | [_], _ => rfl, ok_top T (M_showns := H_Player_showns) F15⟩
  have H_Gait___init__ : Mak P w K mg base (He.ga K "Gait") "Gait" 3 ["self", "player"] (spGait (He.ga K "Player") (He.ga K "Gait")) := ⟨He.glo_ok X G (cd.fact 33), _, fd22, He.mkr_ok (cd.fact 35), FunD.bindsN F22 fun _ _ _ _ _ _ us hl => match us, hl with | [_, _], _ => rfl, ok_Gait T (M_showns := H_Player_showns) (M_top := H_Player_top) F22⟩
  have H_Gait_first : Mth P w K mg base (He.ga K "Gait") "first" 1 ["self"] (spFirst (He.ga K "Player") (He.ga K "Gait")) := ⟨_, fd23, He.meth_ok (cd.fact 66), FunD.bindsN F23 fun _ _ _ _ _ _ us hl => match us, hl with | [_], _ => rfl, ok_first T  F23⟩
  have H_value_of : Cal P w K mg base "value_of" 1 ["row", "at", "known", "truths", "ring"] spValueOf := ⟨_, fd17, He.glo_ok X G (cd.fact 61), F17.kp, FunD.bindsN F17 fun _ _ _ _ _ _ us hl => match us, hl with | [_, _, _, _, _], _ => rfl, ok_value_of T  F17⟩
  have H_values : Cal P w K mg base "values" 2 ["rows", "wanted", "truths", "ring"] spValues := ⟨_, fd18, He.glo_ok X G (cd.fact 62), F18.kp, FunD.bindsN F18 fun _ _ _ _ _ _ us hl => match us, hl with | [_, _, _, _], _ => rfl, ok_values T (C_value_of := H_value_of) F18⟩
  have H_led_truths : Cal P w K mg base "led_truths" 3 ["rows", "wanted", "truths", "level", "ring"] spLed := ⟨_, fd20, He.glo_ok X G (cd.fact 64), F20.kp, FunD.bindsN F20 fun _ _ _ _ _ _ us hl => match us, hl with | [_, _, _, _, _], _ => rfl, ok_led_truths T (C_values := H_values) F20⟩
  have H_Gait_truths : Mth P w K mg base (He.ga K "Gait") "truths" 1 ["self", "stand"] (spTruths (He.ga K "Player") (He.ga K "Gait")) := ⟨_, fd24, He.meth_ok (cd.fact 67), FunD.bindsN F24 fun _ _ _ _ _ _ us hl => match us, hl with | [_, _], _ => rfl, ok_truths T  F24⟩
  have H_Player_rows : Mth P w K mg base (He.ga K "Player") "rows" 1 ["self"] (spRows (He.ga K "Player")) := ⟨_, fd12, He.meth_ok (cd.fact 56), FunD.bindsN F12 fun _ _ _ _ _ _ us hl => match us, hl with | [_], _ => rfl, ok_rows T  F12⟩
  have H_Player_chosen : Mth P w K mg base (He.ga K "Player") "chosen" 1 ["self"] (spChosen (He.ga K "Player")) := ⟨_, fd13, He.meth_ok (cd.fact 57), FunD.bindsN F13 fun _ _ _ _ _ _ us hl => match us, hl with | [_], _ => rfl, ok_chosen T  F13⟩
  have H_move_of : Cal P w K mg base "move_of" 3 ["player", "truths"] (spMoveOf (He.ga K "Player")) := ⟨_, fd19, He.glo_ok X G (cd.fact 63), F19.kp, FunD.bindsN F19 fun _ _ _ _ _ _ us hl => match us, hl with | [_, _], _ => rfl, ok_move_of T (C_values := H_values) (M_rows := H_Player_rows) (M_moves := H_Player_moves) (M_chosen := H_Player_chosen) F19⟩
  have H_Gait_move : Mth P w K mg base (He.ga K "Gait") "move" 4 ["self", "stand"] (spMove (He.ga K "Player") (He.ga K "Gait")) := ⟨_, fd25, He.meth_ok (cd.fact 68), FunD.bindsN F25 fun _ _ _ _ _ _ us hl => match us, hl with | [_, _], _ => rfl, ok_move T (C_move_of := H_move_of) (M_truths := H_Gait_truths) F25⟩
  have H_Gait_behind : Mth P w K mg base (He.ga K "Gait") "behind" 5 ["self", "stand", "letter"] (spBehind (He.ga K "Player") (He.ga K "Gait")) := ⟨_, fd26, He.meth_ok (cd.fact 69), FunD.bindsN F26 fun _ _ _ _ _ _ us hl => match us, hl with | [_, _, _], _ => rfl, ok_behind T (C_led_truths := H_led_truths) (M_truths := H_Gait_truths) (M_move := H_Gait_move) (M_rows := H_Player_rows) F26⟩
  have H_Gait_words : Mth P w K mg base (He.ga K "Gait") "words" 6 ["self", "letters"] (spWords P w (He.ga K "Player") (He.ga K "Gait")) := ⟨_, fd29, He.meth_ok (cd.fact 72), FunD.bindsN F29 fun _ _ _ _ _ _ us hl => match us, hl with | [_, _], _ => rfl, ok_words T (M_first := H_Gait_first) (M_behind := H_Gait_behind) F29⟩
  have H_Gait_rests : Mth P w K mg base (He.ga K "Gait") "rests" 6 ["self", "stand", "letter"] (spRests (He.ga K "Player") (He.ga K "Gait")) := ⟨_, fd27, He.meth_ok (cd.fact 70), FunD.bindsN F27 fun _ _ _ _ _ _ us hl => match us, hl with | [_, _, _], _ => rfl, ok_rests T (M_behind := H_Gait_behind) F27⟩
  have H_Gait_end : Mth P w K mg base (He.ga K "Gait") "end" 7 ["self", "stand", "letter"] (spEnd (He.ga K "Player") (He.ga K "Gait")) := ⟨_, fd28, He.meth_ok (cd.fact 71), FunD.bindsN F28 fun _ _ _ _ _ _ us hl => match us, hl with | [_, _, _], _ => rfl, ok_end T (M_rests := H_Gait_rests) (M_behind := H_Gait_behind) (M_move := H_Gait_move) F28⟩
  have H_endings : Cal P w K mg base "endings" 8 ["player", "others"] (spEndings (He.ga K "Player")) := ⟨_, fd31, He.glo_ok X G (cd.fact 74), F31.kp, FunD.bindsN F31 fun _ _ _ _ _ _ us hl => match us, hl with | [_, _], _ => rfl, ok_endings T (C_need_player := H_need_player) (C_need_moves := H_need_moves) (K_Gait := H_Gait___init__) (M_words := H_Gait_words) (M_end := H_Gait_end) (M_moves := H_Player_moves) F31⟩
  have H_brought : Cal P w K mg base "brought" 8 ["player", "others", "mine", "yours"] (spBrought (He.ga K "Player")) := ⟨_, fd32, He.glo_ok X G (cd.fact 75), F32.kp, FunD.bindsN F32 fun _ _ _ _ _ _ us hl => match us, hl with | [_, _, _, _], _ => rfl, ok_brought T (C_need_player := H_need_player) (C_need_moves := H_need_moves) (C_need_among := H_need_among) (K_Gait := H_Gait___init__) (M_words := H_Gait_words) (M_end := H_Gait_end) (M_moves := H_Player_moves) F32⟩
  have H_best : Cal P w K mg base "best" 9 ["table", "player"] (spBest P w (He.ga K "Table") (He.ga K "Player")) := ⟨_, fd41, He.glo_ok X G (cd.fact 83), F41.kp, FunD.bindsN F41 fun _ _ _ _ _ _ us hl => match us, hl with | [_, _], _ => rfl, ok_best T (M_moves := H_Player_moves) (M_mine := H_Table_mine) (M_yours := H_Table_yours) (M_worth := H_Table_worth) (C_endings := H_endings) (C_brought := H_brought) F41⟩
  have H_is_row : Cal P w K mg base "is_row" 2 ["thing", "at"] spIsRow := ⟨_, fd4, He.glo_ok X G (cd.fact 49), F4.kp, FunD.bindsN F4 fun _ _ _ _ _ _ us hl => match us, hl with | [_, _], _ => rfl, ok_is_row T (C_is_number := H_is_number) (C_is_move := H_is_move) F4⟩
  have H_need_rows : Cal P w K mg base "need_rows" 3 ["rows"] spNeedRows := ⟨_, fd5, He.glo_ok X G (cd.fact 50), F5.kp, FunD.bindsN F5 fun _ _ _ _ _ _ us hl => match us, hl with | [_], _ => rfl, ok_need_rows T (C_is_list := H_is_list) (C_is_row := H_is_row) F5⟩
  have H_named_by : Cal P w K mg base "named_by" 1 ["row"] spNamedBy := ⟨_, fd6, He.glo_ok X G (cd.fact 51), F6.kp, FunD.bindsN F6 fun _ _ _ _ _ _ us hl => match us, hl with | [_], _ => rfl, ok_named_by T  F6⟩
  have H_down_ones : Cal P w K mg base "down_ones" 2 ["rows"] spDownOnes := ⟨_, fd7, He.glo_ok X G (cd.fact 52), F7.kp, FunD.bindsN F7 fun _ _ _ _ _ _ us hl => match us, hl with | [_], _ => rfl, ok_down_ones T (C_named_by := H_named_by) F7⟩
  have H_below : Cal P w K mg base "below" 2 ["rows", "some"] spBelow := ⟨_, fd8, He.glo_ok X G (cd.fact 53), F8.kp, FunD.bindsN F8 fun _ _ _ _ _ _ us hl => match us, hl with | [_, _], _ => rfl, ok_below T (C_named_by := H_named_by) F8⟩
  have H_Player___init__ : Mak P w K mg base (He.ga K "Player") "Player" 4 ["self", "moves", "rows", "chosen"] (spPlayer (He.ga K "Player")) := ⟨He.glo_ok X G (cd.fact 26), _, fd10, He.mkr_ok (cd.fact 28), FunD.bindsN F10 fun _ _ _ _ _ _ us hl => match us, hl with | [_, _, _, _], _ => rfl, ok_Player T (C_need_moves := H_need_moves) (C_need_rows := H_need_rows) (C_is_list := H_is_list) (C_down_ones := H_down_ones) (C_is_number := H_is_number) (C_below := H_below) F10⟩
  have H_plain : Cal P w K mg base "plain" 6 ["moves", "move"] (spPlain (He.ga K "Player")) := ⟨_, fd16, He.glo_ok X G (cd.fact 60), F16.kp, FunD.bindsN F16 fun _ _ _ _ _ _ us hl => match us, hl with | [_, _], _ => rfl, ok_plain T (C_need_moves := H_need_moves) (K_Player := H_Player___init__) F16⟩
  have H__law_holds_there : Cal P w K mg base "_law_holds_there" 10 ["sheet", "mine"] (spHoldsL P w (He.ga K "Table")) := ⟨_, fd62, He.glo_ok X G (cd.fact 104), F62.kp, FunD.bindsN F62 fun _ _ _ _ _ _ us hl => match us, hl with | [_, _], _ => rfl, ok_law_holds_there T (C_floor := H_floor) (C_best := H_best) (C_plain := H_plain) F62⟩
  have H_Table_turned : Mth P w K mg base (He.ga K "Table") "turned" 6 ["self"] (spTurned P w (He.ga K "Table")) := ⟨_, fd39, He.meth_ok (cd.fact 81), FunD.bindsN F39 fun _ _ _ _ _ _ us hl => match us, hl with | [_], _ => rfl, ok_turned T (K_Table := H_Table___init__) F39⟩
  have H__law_drawn : Cal P w K mg base "_law_drawn" 3 ["draw", "own", "words"] spDrawnL := ⟨_, fd49, He.glo_ok X G (cd.fact 91), F49.kp, FunD.bindsN F49 fun _ _ _ _ _ _ us hl => match us, hl with | [_, _, _], _ => rfl, ok_law_drawn T (C_law_take := H__law_take) (C_law_pick := H__law_pick) F49⟩
  have H__law_grim : Cal P w K mg base "_law_grim" 1 ["own", "move", "word", "other", "k"] spGrimL := ⟨_, fd50, He.glo_ok X G (cd.fact 92), F50.kp, FunD.bindsN F50 fun _ _ _ _ _ _ us hl => match us, hl with | [_, _, _, _, _], _ => rfl, ok_law_grim T  F50⟩
  have H__law_any_player : Cal P w K mg base "_law_any_player" 4 ["draw", "own", "words"] spDrawnL := ⟨_, fd63, He.glo_ok X G (cd.fact 105), F63.kp, FunD.bindsN F63 fun _ _ _ _ _ _ us hl => match us, hl with | [_, _, _], _ => rfl, ok_law_any_player T (C_law_take := H__law_take) (C_law_pick := H__law_pick) (C_law_drawn := H__law_drawn) (C_law_grim := H__law_grim) F63⟩
  have H__law_marks : Cal P w K mg base "_law_marks" 1 ["parts"] spMarksL := ⟨_, fd51, He.glo_ok X G (cd.fact 93), F51.kp, FunD.bindsN F51 fun _ _ _ _ _ _ us hl => match us, hl with | [_], _ => rfl, ok_law_marks T  F51⟩
  have H__law_high : Cal P w K mg base "_law_high" 2 ["parts"] spHighL := ⟨_, fd52, He.glo_ok X G (cd.fact 94), F52.kp, FunD.bindsN F52 fun _ _ _ _ _ _ us hl => match us, hl with | [_], _ => rfl, ok_law_high T (C_law_marks := H__law_marks) F52⟩
  have B53 : Binds K fd53 ["lines", "here", "held", "ring"] [] := FunD.bindsN F53 fun _ _ _ _ _ _ us hl => match us, hl with | [_, _, _, _], _ => rfl
  have H__law_so : Cal P w K mg base "_law_so" 40 ["lines", "here", "held", "ring"] (spSo 40) := ⟨_, fd53, He.glo_ok X G (cd.fact 95), F53.kp, B53, ok_law_so T F53 (He.glo_ok X G (cd.fact 95)) F53.kp B53 40⟩
  have H__law_done : Cal P w K mg base "_law_done" 41 ["parts", "held"] spDoneL := ⟨_, fd54, He.glo_ok X G (cd.fact 96), F54.kp, FunD.bindsN F54 fun _ _ _ _ _ _ us hl => match us, hl with | [_, _], _ => rfl, ok_law_done T (C_law_so := H__law_so) F54⟩
  have H__law_on : Cal P w K mg base "_law_on" 41 ["parts", "held", "level", "ring"] spOnL := ⟨_, fd55, He.glo_ok X G (cd.fact 97), F55.kp, FunD.bindsN F55 fun _ _ _ _ _ _ us hl => match us, hl with | [_, _, _, _], _ => rfl, ok_law_on T (C_law_so := H__law_so) F55⟩
  have H__law_step : Cal P w K mg base "_law_step" 42 ["parts", "stand", "letter"] spStepL := ⟨_, fd56, He.glo_ok X G (cd.fact 98), F56.kp, FunD.bindsN F56 fun _ _ _ _ _ _ us hl => match us, hl with | [_, _, _], _ => rfl, ok_law_step T (C_law_marks := H__law_marks) (C_law_high := H__law_high) (C_law_done := H__law_done) (C_law_on := H__law_on) F56⟩
  have H__law_still : Cal P w K mg base "_law_still" 43 ["parts", "stand", "letter"] spStillL := ⟨_, fd58, He.glo_ok X G (cd.fact 100), F58.kp, FunD.bindsN F58 fun _ _ _ _ _ _ us hl => match us, hl with | [_, _, _], _ => rfl, ok_law_still T (C_law_high := H__law_high) (C_law_step := H__law_step) F58⟩
  have H__law_move : Cal P w K mg base "_law_move" 42 ["parts", "stand"] spMoveL := ⟨_, fd57, He.glo_ok X G (cd.fact 99), F57.kp, FunD.bindsN F57 fun _ _ _ _ _ _ us hl => match us, hl with | [_, _], _ => rfl, ok_law_move T (C_law_marks := H__law_marks) (C_law_done := H__law_done) F57⟩
  have H__law_led_on : Cal P w K mg base "_law_led_on" 44 ["draw", "parts", "yours"] spLedOnL := ⟨_, fd60, He.glo_ok X G (cd.fact 102), F60.kp, FunD.bindsN F60 fun _ _ _ _ _ _ us hl => match us, hl with | [_, _, _], _ => rfl, ok_law_led_on T (C_law_marks := H__law_marks) (C_law_pick := H__law_pick) (C_law_step := H__law_step) (C_law_still := H__law_still) (C_law_move := H__law_move) F60⟩
  have H__law_plainly : Cal P w K mg base "_law_plainly" 42 ["parts", "letters", "tail", "many"] spPlainlyL := ⟨_, fd59, He.glo_ok X G (cd.fact 101), F59.kp, FunD.bindsN F59 fun _ _ _ _ _ _ us hl => match us, hl with | [_, _, _, _], _ => rfl, ok_law_plainly T (C_law_marks := H__law_marks) (C_law_done := H__law_done) (C_law_so := H__law_so) F59⟩
  have H__law_player_right : Cal P w K mg base "_law_player_right" 45 ["draw", "sheet", "sides", "worths", "parts"] (spRightL P w (He.ga K "Table")) := ⟨_, fd61, He.glo_ok X G (cd.fact 103), F61.kp, FunD.bindsN F61 fun _ _ _ _ _ _ us hl => match us, hl with | [_, _, _, _, _], _ => rfl, ok_law_player_right T (C_law_led_on := H__law_led_on) (K_Player := H_Player___init__) (C_floor := H_floor) (C_best := H_best) (C_endings := H_endings) (C_law_high := H__law_high) (C_law_marks := H__law_marks) (C_law_plainly := H__law_plainly) (C_brought := H_brought) F61⟩
  exact ok_law T (C_law_begin := H__law_begin) (C_law_sides := H__law_sides) (C_law_worths := H__law_worths) (C_law_turned := H__law_turned) (K_Table := H_Table___init__) (C_law_holds_there := H__law_holds_there) (M_turned := H_Table_turned) (C_law_any_player := H__law_any_player) (C_law_player_right := H__law_player_right) F64
end Lk
open PySem PySem.W PySem.Calls PyProof.Rows
theorem PySem.Challenge.cw_lookthrough_k54_whole_nobody_is_held_low_holds : PySem.Challenge.rw_lookthrough_k54_whole_nobody_is_held_low.Holds := by
  w_on; o_law
  refine HandSHeadRun.head_any (r := OpenLaw.row PySem.Challenge.rw_lookthrough_k54_whole_nobody_is_held_low) (q := view (OpenLaw.row PySem.Challenge.rw_lookthrough_k54_whole_nobody_is_held_low).prog [73]) (H := Lk.hk) (ob := Lk.ob) (M := 6000) (loose := Lk.loo) (d := HandSHeadRun.topDef (OpenLaw.row PySem.Challenge.rw_lookthrough_k54_whole_nobody_is_held_low).prog 73) (kwd := []) Lk.ob_eq
    (by kernel_rfl) (fun s => by kernel_rfl) Lk.run (by kernel_rfl) (by kernel_rfl) (by kernel_rfl) (by rfl) (by first | assumption | decide +kernel) (by decide +kernel) ⟨rfl, rfl, rfl, rfl, rfl, by decide +kernel⟩ ?hw ?hc
  case hw => w_witness2
  case hc =>
    refine L2.walk_ofE (l := PySem.Challenge.rw_lookthrough_k54_whole_nobody_is_held_low) (n := 63) (k := 46) (x := "script") (CX := L2.CX0) rfl (by decide) (by kernel_rfl) ⟨rfl, by decide, by decide⟩ ?F (fun _ _ _ _ z => z)
    intro w mg fa h Y G hmg0
    obtain ⟨K, KX, c⟩ := Y
    have hmg : mg ("law" : PySem.Str) = some (.ref fa) := by
      have e : (HandSHeadRun.topDef (OpenLaw.row PySem.Challenge.rw_lookthrough_k54_whole_nobody_is_held_low).prog 73).name = ("law" : PySem.Str) := by kernel_rfl
      rw [← e]
      exact hmg0
    obtain ⟨fd, hb, hF⟩ := Lk.facts (P := (PySem.Challenge.rw_lookthrough_k54_whole_nobody_is_held_low).prog) (w := w) KX G hmg c
    exact ⟨K, fd, Lk.spLaw K, KX, hb, fun H a ns hl _ hS => ⟨a, ns, rfl, hS, hl, fun _ => rfl⟩, hF⟩

