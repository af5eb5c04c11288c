import PyProof.Rows.All
import Wide.All
import OpenK.AllK
import Wide.FinOn
import HandS.ForMost
import HandS.IsInst
import HandS.DictComp
import HandS.More
import HandS.Conv
import HandS.Zip
import HandS.Style
import HandS.TupAny
import HandS.TupMul
import HandS.TupLen
import HandS.Codes
import HandS.Defaults
import HandS.DictTup
import HandS.Steps
import HandS.Evl
import HandS.Walk
import KE.KDictKeyed
import KE.KDictLaw
import KE.KeyNested
import KE.KStar
import KE.DataMinMax
import KE.KDictMeth
import KE.KTops
import HandS.Strs
import HandS.SetKeys
import HandS.SortInts
import KE.KUnpackStar
import HandS.SortKw
import KE.GoesZip
import KE.GoesMore
import KE.KDictZip
import KE.KItemsList
import HandS.ListItems
import KE.KDictDisplayH
import KE.KDictCopyH
import KE.KDictWalk
import KE.DatumOrd
import KE.GoesNew
import KE.KEqNest
import PyProof.NeKinds
import HandS.CallRecv
import KE.KDictSum
import KE.SortData
import HandS.Deep
import HandS.TupLe
import KE.KStateDown
import HandS.Head0
import HandS.Head1
import HandS.Head2
import HandS.HeadEnd
import HandS.HeadHook1
import HandS.HeadHook2
import HandS.HeadHook3
import HandS.HeadHook4
import PySem.Challenge.RW_lookthrough_k51_whole_whoever_looks_thro
set_option Elab.async false
set_option linter.all false
set_option maxRecDepth 100000
set_option maxHeartbeats 4000000
namespace Lk
open PySem L2
abbrev PR : Program := PySem.Challenge.pw_lookthrough_k51_whole_whoever_looks_thro
def top (i : Nat) : Stmt := PR.main.body.getD i (.Pass ⟨0, 0, 0, 0⟩)
abbrev s_NoLevel___init__ : Stmt := inClass (top 6) 0
theorem sc_NoLevel___init : FnScope ["self", "level"] ["self", "level"] (defScope s_NoLevel___init__) := ⟨rfl, rfl, rfl, by decide +kernel, rfl, by decide +kernel, by decide +kernel⟩
abbrev s_NoSeat___init__ : Stmt := inClass (top 7) 0
theorem sc_NoSeat___init : FnScope ["self", "seat"] ["self", "seat"] (defScope s_NoSeat___init__) := ⟨rfl, rfl, rfl, by decide +kernel, rfl, by decide +kernel, by decide +kernel⟩
abbrev s_NoLetter___init__ : Stmt := inClass (top 8) 0
theorem sc_NoLetter___init : FnScope ["self", "at"] ["self", "at"] (defScope s_NoLetter___init__) := ⟨rfl, rfl, rfl, by decide +kernel, rfl, by decide +kernel, by decide +kernel⟩
abbrev s_TooLong___init__ : Stmt := inClass (top 10) 0
theorem sc_TooLong___init : FnScope ["self", "most"] ["self", "most"] (defScope s_TooLong___init__) := ⟨rfl, rfl, rfl, by decide +kernel, rfl, by decide +kernel, by decide +kernel⟩
abbrev s_is_number : Stmt := top 19
theorem sc_is_number : FnScope ["thing", "low", "high"] ["thing", "low", "high"] (defScope s_is_number) := ⟨rfl, rfl, rfl, by decide +kernel, rfl, by decide +kernel, by decide +kernel⟩
abbrev s_is_list : Stmt := top 20
theorem sc_is_list : FnScope ["thing"] ["thing"] (defScope s_is_list) := ⟨rfl, rfl, rfl, by decide +kernel, rfl, by decide +kernel, by decide +kernel⟩
abbrev s_is_move : Stmt := top 21
theorem sc_is_move : FnScope ["thing", "sign"] ["thing"] (defScope s_is_move) := ⟨rfl, rfl, rfl, by decide +kernel, rfl, by decide +kernel, by decide +kernel⟩
abbrev s_are_moves : Stmt := top 22
theorem sc_are_moves : FnScope ["thing", "move"] ["thing"] (defScope s_are_moves) := ⟨rfl, rfl, rfl, by decide +kernel, rfl, by decide +kernel, by decide +kernel⟩
abbrev s_is_row : Stmt := top 23
theorem sc_is_row : FnScope ["thing", "at", "word", "parts", "place"] ["thing", "at"] (defScope s_is_row) := ⟨rfl, rfl, rfl, by decide +kernel, rfl, by decide +kernel, by decide +kernel⟩
abbrev s_need_rows : Stmt := top 24
theorem sc_need_rows : FnScope ["rows", "at", "row"] ["rows"] (defScope s_need_rows) := ⟨rfl, rfl, rfl, by decide +kernel, rfl, by decide +kernel, by decide +kernel⟩
abbrev s_named_by : Stmt := top 25
theorem sc_named_by : FnScope ["row", "place"] ["row"] (defScope s_named_by) := ⟨rfl, rfl, rfl, by decide +kernel, rfl, by decide +kernel, by decide +kernel⟩
abbrev s_down_ones : Stmt := top 26
theorem sc_down_ones : FnScope ["rows", "found", "row", "at"] ["rows"] (defScope s_down_ones) := ⟨rfl, rfl, rfl, by decide +kernel, rfl, by decide +kernel, by decide +kernel⟩
abbrev s_below : Stmt := top 27
theorem sc_below : FnScope ["rows", "some", "at", "met", "other"] ["rows", "some"] (defScope s_below) := ⟨rfl, rfl, rfl, by decide +kernel, rfl, by decide +kernel, by decide +kernel⟩
abbrev s_need_moves : Stmt := top 29
theorem sc_need_moves : FnScope ["thing"] ["thing"] (defScope s_need_moves) := ⟨rfl, rfl, rfl, by decide +kernel, rfl, by decide +kernel, by decide +kernel⟩
abbrev s_Player___init__ : Stmt := inClass (top 30) 0
theorem sc_Player___init : FnScope ["self", "moves", "rows", "chosen", "down", "at"] ["self", "moves", "rows", "chosen"] (defScope s_Player___init__) := ⟨rfl, rfl, rfl, by decide +kernel, rfl, by decide +kernel, by decide +kernel⟩
abbrev s_Player_moves : Stmt := inClass (top 30) 1
theorem sc_Player_moves : FnScope ["self"] ["self"] (defScope s_Player_moves) := ⟨rfl, rfl, rfl, by decide +kernel, rfl, by decide +kernel, by decide +kernel⟩
abbrev s_Player_rows : Stmt := inClass (top 30) 2
theorem sc_Player_rows : FnScope ["self"] ["self"] (defScope s_Player_rows) := ⟨rfl, rfl, rfl, by decide +kernel, rfl, by decide +kernel, by decide +kernel⟩
abbrev s_Player_chosen : Stmt := inClass (top 30) 3
theorem sc_Player_chosen : FnScope ["self"] ["self"] (defScope s_Player_chosen) := ⟨rfl, rfl, rfl, by decide +kernel, rfl, by decide +kernel, by decide +kernel⟩
abbrev s_Player_showns : Stmt := inClass (top 30) 4
theorem sc_Player_showns : FnScope ["self", "at"] ["self"] (defScope s_Player_showns) := ⟨rfl, rfl, rfl, by decide +kernel, rfl, by decide +kernel, by decide +kernel⟩
abbrev s_Player_top : Stmt := inClass (top 30) 5
theorem sc_Player_top : FnScope ["self", "at"] ["self"] (defScope s_Player_top) := ⟨rfl, rfl, rfl, by decide +kernel, rfl, by decide +kernel, by decide +kernel⟩
abbrev s_Player___eq__ : Stmt := inClass (top 30) 6
theorem sc_Player___eq : FnScope ["self", "other"] ["self", "other"] (defScope s_Player___eq__) := ⟨rfl, rfl, rfl, by decide +kernel, rfl, by decide +kernel, by decide +kernel⟩
abbrev s_value_of : Stmt := top 31
theorem sc_value_of : FnScope ["row", "at", "known", "truths", "ring", "word", "parts"] ["row", "at", "known", "truths", "ring"] (defScope s_value_of) := ⟨rfl, rfl, rfl, by decide +kernel, rfl, by decide +kernel, by decide +kernel⟩
abbrev s_values : Stmt := top 32
theorem sc_values : FnScope ["rows", "wanted", "truths", "ring", "known", "at"] ["rows", "wanted", "truths", "ring"] (defScope s_values) := ⟨rfl, rfl, rfl, by decide +kernel, rfl, by decide +kernel, by decide +kernel⟩
abbrev s_move_of : Stmt := top 33
theorem sc_move_of : FnScope ["player", "truths", "known", "move", "at"] ["player", "truths"] (defScope s_move_of) := ⟨rfl, rfl, rfl, by decide +kernel, rfl, by decide +kernel, by decide +kernel⟩
abbrev s_led_truths : Stmt := top 34
theorem sc_led_truths : FnScope ["rows", "wanted", "truths", "level", "ring", "known", "found", "at", "word", "k", "inner"] ["rows", "wanted", "truths", "level", "ring"] (defScope s_led_truths) := ⟨rfl, rfl, rfl, by decide +kernel, rfl, by decide +kernel, by decide +kernel⟩
abbrev s_need_players : Stmt := top 38
theorem sc_need_players : FnScope ["thing", "one"] ["thing"] (defScope s_need_players) := ⟨rfl, rfl, rfl, by decide +kernel, rfl, by decide +kernel, by decide +kernel⟩
abbrev s_ring_of : Stmt := top 39
theorem sc_ring_of : FnScope ["moves", "seat"] ["moves", "seat"] (defScope s_ring_of) := ⟨rfl, rfl, rfl, by decide +kernel, rfl, by decide +kernel, by decide +kernel⟩
abbrev s_first_truths : Stmt := top 40
theorem sc_first_truths : FnScope ["player", "at"] ["player"] (defScope s_first_truths) := ⟨rfl, rfl, rfl, by decide +kernel, rfl, by decide +kernel, by decide +kernel⟩
abbrev s_done_by : Stmt := top 41
theorem sc_done_by : FnScope ["players", "truths", "player", "some"] ["players", "truths"] (defScope s_done_by) := ⟨rfl, rfl, rfl, by decide +kernel, rfl, by decide +kernel, by decide +kernel⟩
abbrev s_led_all : Stmt := top 42
theorem sc_led_all : FnScope ["players", "truths", "level", "done", "found", "seat", "player"] ["players", "truths", "level"] (defScope s_led_all) := ⟨rfl, rfl, rfl, by decide +kernel, rfl, by decide +kernel, by decide +kernel⟩
abbrev s_line_of : Stmt := top 43
theorem sc_line_of : FnScope ["truths", "some"] ["truths"] (defScope s_line_of) := ⟨rfl, rfl, rfl, by decide +kernel, rfl, by decide +kernel, by decide +kernel⟩
abbrev s_Meeting___init__ : Stmt := inClass (top 44) 0
theorem sc_Meeting___init : FnScope ["self", "players", "level", "truths", "later", "player"] ["self", "players"] (defScope s_Meeting___init__) := ⟨rfl, rfl, rfl, by decide +kernel, rfl, by decide +kernel, by decide +kernel⟩
abbrev s_Meeting_at_level : Stmt := inClass (top 44) 1
theorem sc_Meeting_at_level : FnScope ["self", "level"] ["self", "level"] (defScope s_Meeting_at_level) := ⟨rfl, rfl, rfl, by decide +kernel, rfl, by decide +kernel, by decide +kernel⟩
abbrev s_Meeting_moves_at : Stmt := inClass (top 44) 2
theorem sc_Meeting_moves_at : FnScope ["self", "level"] ["self", "level"] (defScope s_Meeting_moves_at) := ⟨rfl, rfl, rfl, by decide +kernel, rfl, by decide +kernel, by decide +kernel⟩
abbrev s_Meeting_holds : Stmt := inClass (top 44) 3
theorem sc_Meeting_holds : FnScope ["self", "seat", "row", "level", "rows", "wanted", "truths", "high", "here", "going", "later", "at"] ["self", "seat", "row", "level"] (defScope s_Meeting_holds) := ⟨rfl, rfl, rfl, by decide +kernel, rfl, by decide +kernel, by decide +kernel⟩
abbrev s_Meeting_stays : Stmt := inClass (top 44) 4
theorem sc_Meeting_stays : FnScope ["self", "level"] ["self"] (defScope s_Meeting_stays) := ⟨rfl, rfl, rfl, by decide +kernel, rfl, by decide +kernel, by decide +kernel⟩
abbrev s_Meeting_last : Stmt := inClass (top 44) 5
theorem sc_Meeting_last : FnScope ["self"] ["self"] (defScope s_Meeting_last) := ⟨rfl, rfl, rfl, by decide +kernel, rfl, by decide +kernel, by decide +kernel⟩
abbrev s_Meeting_paper : Stmt := inClass (top 44) 6
theorem sc_Meeting_paper : FnScope ["self"] ["self"] (defScope s_Meeting_paper) := ⟨rfl, rfl, rfl, by decide +kernel, rfl, by decide +kernel, by decide +kernel⟩
abbrev s_need_player : Stmt := top 47
theorem sc_need_player : FnScope ["thing"] ["thing"] (defScope s_need_player) := ⟨rfl, rfl, rfl, by decide +kernel, rfl, by decide +kernel, by decide +kernel⟩
abbrev s_need_letters : Stmt := top 48
theorem sc_need_letters : FnScope ["letters", "tail", "known", "at", "letter"] ["letters", "tail", "known"] (defScope s_need_letters) := ⟨rfl, rfl, rfl, by decide +kernel, rfl, by decide +kernel, by decide +kernel⟩
abbrev s_Sheet___init__ : Stmt := inClass (top 49) 0
theorem sc_Sheet___init : FnScope ["self"] ["self"] (defScope s_Sheet___init__) := ⟨rfl, rfl, rfl, by decide +kernel, rfl, by decide +kernel, by decide +kernel⟩
abbrev s_Sheet_put : Stmt := inClass (top 49) 1
theorem sc_Sheet_put : FnScope ["self", "row"] ["self", "row"] (defScope s_Sheet_put) := ⟨rfl, rfl, rfl, by decide +kernel, rfl, by decide +kernel, by decide +kernel⟩
abbrev s_Sheet_any_of : Stmt := inClass (top 49) 2
theorem sc_Sheet_any_of : FnScope ["self", "some", "first", "others", "at"] ["self", "some"] (defScope s_Sheet_any_of) := ⟨rfl, rfl, rfl, by decide +kernel, rfl, by decide +kernel, by decide +kernel⟩
abbrev s_Sheet_levels : Stmt := inClass (top 49) 3
theorem sc_Sheet_levels : FnScope ["self", "many", "found", "ahead", "level", "here"] ["self", "many"] (defScope s_Sheet_levels) := ⟨rfl, rfl, rfl, by decide +kernel, rfl, by decide +kernel, by decide +kernel⟩
abbrev s_opponent : Stmt := top 50
theorem sc_opponent : FnScope ["moves", "letters", "tail", "sheet", "chosen", "at_levels", "behind_all", "move", "some", "at", "letter"] ["moves", "letters", "tail"] (defScope s_opponent) := ⟨rfl, rfl, rfl, by decide +kernel, rfl, by decide +kernel, by decide +kernel⟩
abbrev s_Gait___init__ : Stmt := inClass (top 52) 0
theorem sc_Gait___init : FnScope ["self", "player"] ["self", "player"] (defScope s_Gait___init__) := ⟨rfl, rfl, rfl, by decide +kernel, rfl, by decide +kernel, by decide +kernel⟩
abbrev s_Gait_first : Stmt := inClass (top 52) 1
theorem sc_Gait_first : FnScope ["self"] ["self"] (defScope s_Gait_first) := ⟨rfl, rfl, rfl, by decide +kernel, rfl, by decide +kernel, by decide +kernel⟩
abbrev s_Gait_is_stand : Stmt := inClass (top 52) 2
theorem sc_Gait_is_stand : FnScope ["self", "thing", "one"] ["self", "thing"] (defScope s_Gait_is_stand) := ⟨rfl, rfl, rfl, by decide +kernel, rfl, by decide +kernel, by decide +kernel⟩
abbrev s_Gait_truths : Stmt := inClass (top 52) 3
theorem sc_Gait_truths : FnScope ["self", "stand"] ["self", "stand"] (defScope s_Gait_truths) := ⟨rfl, rfl, rfl, by decide +kernel, rfl, by decide +kernel, by decide +kernel⟩
abbrev s_Gait_move : Stmt := inClass (top 52) 4
theorem sc_Gait_move : FnScope ["self", "stand"] ["self", "stand"] (defScope s_Gait_move) := ⟨rfl, rfl, rfl, by decide +kernel, rfl, by decide +kernel, by decide +kernel⟩
abbrev s_Gait_behind : Stmt := inClass (top 52) 5
theorem sc_Gait_behind : FnScope ["self", "stand", "letter", "truths", "ring", "later", "at"] ["self", "stand", "letter"] (defScope s_Gait_behind) := ⟨rfl, rfl, rfl, by decide +kernel, rfl, by decide +kernel, by decide +kernel⟩
abbrev s_Gait_rests : Stmt := inClass (top 52) 6
theorem sc_Gait_rests : FnScope ["self", "stand", "letter"] ["self", "stand", "letter"] (defScope s_Gait_rests) := ⟨rfl, rfl, rfl, by decide +kernel, rfl, by decide +kernel, by decide +kernel⟩
abbrev s_Gait_end : Stmt := inClass (top 52) 7
theorem sc_Gait_end : FnScope ["self", "stand", "letter"] ["self", "stand", "letter"] (defScope s_Gait_end) := ⟨rfl, rfl, rfl, by decide +kernel, rfl, by decide +kernel, by decide +kernel⟩
abbrev s_Gait_words : Stmt := inClass (top 52) 8
theorem sc_Gait_words : FnScope ["self", "letters", "found", "line", "at", "stand", "letter", "later"] ["self", "letters"] (defScope s_Gait_words) := ⟨rfl, rfl, rfl, by decide +kernel, rfl, by decide +kernel, by decide +kernel⟩
abbrev s_need_among : Stmt := top 53
theorem sc_need_among : FnScope ["thing", "moves"] ["thing", "moves"] (defScope s_need_among) := ⟨rfl, rfl, rfl, by decide +kernel, rfl, by decide +kernel, by decide +kernel⟩
abbrev s_need_stand : Stmt := top 54
theorem sc_need_stand : FnScope ["gait", "thing"] ["gait", "thing"] (defScope s_need_stand) := ⟨rfl, rfl, rfl, by decide +kernel, rfl, by decide +kernel, by decide +kernel⟩
abbrev s_begin : Stmt := top 55
theorem sc_begin : FnScope ["player"] ["player"] (defScope s_begin) := ⟨rfl, rfl, rfl, by decide +kernel, rfl, by decide +kernel, by decide +kernel⟩
abbrev s_led : Stmt := top 56
theorem sc_led : FnScope ["player", "stand", "letter", "gait"] ["player", "stand", "letter"] (defScope s_led) := ⟨rfl, rfl, rfl, by decide +kernel, rfl, by decide +kernel, by decide +kernel⟩
abbrev s_endings : Stmt := top 57
theorem sc_endings : FnScope ["player", "others", "gait", "stands", "met", "stand", "yours", "mine"] ["player", "others"] (defScope s_endings) := ⟨rfl, rfl, rfl, by decide +kernel, rfl, by decide +kernel, by decide +kernel⟩
abbrev s_brought : Stmt := top 58
theorem sc_brought : FnScope ["player", "others", "mine", "yours", "gait", "words", "stand", "word"] ["player", "others", "mine", "yours"] (defScope s_brought) := ⟨rfl, rfl, rfl, by decide +kernel, rfl, by decide +kernel, by decide +kernel⟩
abbrev s_shows_never : Stmt := top 59
theorem sc_shows_never : FnScope ["player", "others", "mine", "yours", "stands", "gait", "stand", "known", "letter"] ["player", "others", "mine", "yours", "stands"] (defScope s_shows_never) := ⟨rfl, rfl, rfl, by decide +kernel, rfl, by decide +kernel, by decide +kernel⟩
abbrev s_law_state : Stmt := top 61
theorem sc_law_state : FnScope ["script", "cells", "cell"] ["script"] (defScope s_law_state) := ⟨rfl, rfl, rfl, by decide +kernel, rfl, by decide +kernel, by decide +kernel⟩
abbrev s_law_draw : Stmt := top 62
theorem sc_law_draw : FnScope ["state", "many", "at", "cell"] ["state", "many"] (defScope s_law_draw) := ⟨rfl, rfl, rfl, by decide +kernel, rfl, by decide +kernel, by decide +kernel⟩
abbrev s_law_names : Stmt := top 63
theorem sc_law_names : FnScope ["state", "many", "own", "alphabet", "lead", "base", "k"] ["state", "many"] (defScope s_law_names) := ⟨rfl, rfl, rfl, by decide +kernel, rfl, by decide +kernel, by decide +kernel⟩
abbrev s_law_own : Stmt := top 64
theorem sc_law_own : FnScope ["state", "pool"] ["state", "pool"] (defScope s_law_own) := ⟨rfl, rfl, rfl, by decide +kernel, rfl, by decide +kernel, by decide +kernel⟩
abbrev s_law_atoms : Stmt := top 65
theorem sc_law_atoms : FnScope ["state", "some", "rows", "k", "further"] ["state", "some"] (defScope s_law_atoms) := ⟨rfl, rfl, rfl, by decide +kernel, rfl, by decide +kernel, by decide +kernel⟩
abbrev s_law_ahead : Stmt := top 66
theorem sc_law_ahead : FnScope ["state", "rows"] ["state", "rows"] (defScope s_law_ahead) := ⟨rfl, rfl, rfl, by decide +kernel, rfl, by decide +kernel, by decide +kernel⟩
abbrev s_law_more : Stmt := top 67
theorem sc_law_more : FnScope ["state", "rows", "way", "i", "j"] ["state", "rows"] (defScope s_law_more) := ⟨rfl, rfl, rfl, by decide +kernel, rfl, by decide +kernel, by decide +kernel⟩
abbrev s_law_rows : Stmt := top 68
theorem sc_law_rows : FnScope ["state", "some", "blocks", "rows", "k", "j", "far"] ["state", "some", "blocks"] (defScope s_law_rows) := ⟨rfl, rfl, rfl, by decide +kernel, rfl, by decide +kernel, by decide +kernel⟩
abbrev s_law_downs : Stmt := top 69
theorem sc_law_downs : FnScope ["rows", "found", "row", "at"] ["rows"] (defScope s_law_downs) := ⟨rfl, rfl, rfl, by decide +kernel, rfl, by decide +kernel, by decide +kernel⟩
abbrev s_law_chosen : Stmt := top 70
theorem sc_law_chosen : FnScope ["state", "rows", "many", "chosen", "k", "downs", "i", "j", "way", "at", "down"] ["state", "rows", "many"] (defScope s_law_chosen) := ⟨rfl, rfl, rfl, by decide +kernel, rfl, by decide +kernel, by decide +kernel⟩
abbrev s_law_marks : Stmt := top 71
theorem sc_law_marks : FnScope ["rows", "chosen", "met", "line", "at"] ["rows", "chosen"] (defScope s_law_marks) := ⟨rfl, rfl, rfl, by decide +kernel, rfl, by decide +kernel, by decide +kernel⟩
abbrev s_law_told : Stmt := top 72
theorem sc_law_told : FnScope ["own", "rows", "chosen", "marks", "at"] ["own", "rows", "chosen"] (defScope s_law_told) := ⟨rfl, rfl, rfl, by decide +kernel, rfl, by decide +kernel, by decide +kernel⟩
abbrev s_law_sight : Stmt := top 73
theorem sc_law_sight : FnScope ["state", "own", "seen", "blocks", "rows", "chosen"] ["state", "own", "seen", "blocks"] (defScope s_law_sight) := ⟨rfl, rfl, rfl, by decide +kernel, rfl, by decide +kernel, by decide +kernel⟩
abbrev s_law_made : Stmt := top 74
theorem sc_law_made : FnScope ["sight"] ["sight"] (defScope s_law_made) := ⟨rfl, rfl, rfl, by decide +kernel, rfl, by decide +kernel, by decide +kernel⟩
abbrev s_law_signs : Stmt := top 75
theorem sc_law_signs : FnScope ["state", "pool", "many", "left", "found", "k"] ["state", "pool", "many"] (defScope s_law_signs) := ⟨rfl, rfl, rfl, by decide +kernel, rfl, by decide +kernel, by decide +kernel⟩
abbrev s_law_known : Stmt := top 76
theorem sc_law_known : FnScope ["sight", "signs", "way", "own", "mark", "rows"] ["sight", "signs", "way"] (defScope s_law_known) := ⟨rfl, rfl, rfl, by decide +kernel, rfl, by decide +kernel, by decide +kernel⟩
abbrev s_law_rivals : Stmt := top 77
theorem sc_law_rivals : FnScope ["state", "sight", "signs", "found", "turn", "some", "eyes", "many"] ["state", "sight", "signs"] (defScope s_law_rivals) := ⟨rfl, rfl, rfl, by decide +kernel, rfl, by decide +kernel, by decide +kernel⟩
abbrev s_law_led_within : Stmt := top 78
theorem sc_law_led_within : FnScope ["made", "its", "told", "stand", "move"] ["made", "its", "told"] (defScope s_law_led_within) := ⟨rfl, rfl, rfl, by decide +kernel, rfl, by decide +kernel, by decide +kernel⟩
abbrev s_law_meets_right : Stmt := top 79
theorem sc_law_meets_right : FnScope ["made", "signs", "ends", "papers", "rival", "both", "its", "blind", "n", "pair"] ["made", "signs", "ends", "papers", "rival"] (defScope s_law_meets_right) := ⟨rfl, rfl, rfl, by decide +kernel, rfl, by decide +kernel, by decide +kernel⟩
abbrev s_law : Stmt := top 80
theorem sc_law : FnScope ["script", "state", "pool", "sight", "signs", "made", "papers", "ends", "mine", "yours", "word", "told", "is_paper", "rival"] ["script"] (defScope s_law) := ⟨rfl, rfl, rfl, by decide +kernel, rfl, by decide +kernel, by decide +kernel⟩
end Lk

set_option maxHeartbeats 4000000
namespace Lk
open PySem L2
/-! ### what stands in the written part, whatever the heap is -/
def KTup (K : PySem.W.Frag) (a : Addr) (xs : List V) : Prop :=
  ∃ (o : Obj) (its : Array Value) (n : Nat), K.lookup a = some o ∧ o.cls = .type "tuple" ∧ o.data = .seq its n ∧ its.size ≤ sizeLine ∧ Vals xs its.toList
theorem KTup.sq {K : PySem.W.Frag} {a : Addr} {xs : List V} (h : KTup K a xs) (H : Hp) : SqT K H a xs := .inr h
def rnTab : List (Str × List Int) := [("false", []), ("does", []), ("not", [1]), ("and", [1, 2]), ("or", [1, 2]), ("shown", [2])]
def szTab : List (Str × Int) := [("false", 1), ("does", 3), ("not", 2), ("and", 3), ("or", 3), ("shown", 3)]
abbrev az : Str := "abcdefghijklmnopqrstuvwxyz"
/-- the module's names: built-in ones that it does not bind, its constants, its classes (the classes' addresses cP, cG, cT) -/
structure Txt (K : PySem.W.Frag) (w : World) (mg : Str → Option Value) (cP cG cT : Addr) : Prop where
  len_ : mg "len" = none
  isinstance_ : mg "isinstance" = none
  all_ : mg "all" = none
  enumerate_ : mg "enumerate" = none
  range_ : mg "range" = none
  max_ : mg "max" = none
  min_ : mg "min" = none
  sorted_ : mg "sorted" = none
  tuple_ : mg "tuple" = none
  list_ : mg "list" = none
  dict_ : mg "dict" = none
  set_ : mg "set" = none
  zip_ : mg "zip" = none
  abs_ : mg "abs" = none
  int_ : mg "int" = none
  bool_ : mg "bool" = none
  str_ : mg "str" = none
  MOST_ROWS : ∃ t, mg "MOST_ROWS" = some (.int 2000 t)
  MOST_FURTHER : ∃ t, mg "MOST_FURTHER" = some (.int 3 t)
  MOST_K : ∃ t, mg "MOST_K" = some (.int 99 t)
  LONGEST : ∃ t, mg "LONGEST" = some (.int 8 t)
  LETTERS : ∃ t, mg "LETTERS" = some (.str az t)
  ROWS_NAMED : ∃ d, mg "ROWS_NAMED" = some (.ref d) ∧ ∀ z xs, rnTab.lookup z = some xs → ∃ a, KDct K w d z (.ref a) ∧ KTup K a (xs.map V.int)
  SIZES : ∃ d, mg "SIZES" = some (.ref d) ∧ (∃ es n, KDict K w d es n) ∧ ∀ z x, szTab.lookup z = some x → KDct K w d z (.int x)
  Player : mg "Player" = some (.ref cP)
  Gait : mg "Gait" = some (.ref cG)
  clP : Cls K cP
  clG : Cls K cG
  isP : PySem.W.findIn K (.ref cP) "__class__" = some (some (.builtin "object.__class__")) ∧ PySem.W.specialIn K (.builtin "object.__class__") "__get__" = some (some (.builtin "getset_descriptor.__get__")) ∧ PySem.W.takesIn K (.builtin "object.__class__") = some true ∧
    PySem.W.mroIn K cP (.type "object") = some true ∧ PySem.W.kitOne K (.ref cP) (.ref cP) = some true
  naP : ∀ f ∈ (["ways", "lines", "picks", "cone"] : List Str), NoAttr K cP f
  naG : ∀ f ∈ (["walker", "marks", "high"] : List Str), NoAttr K cG f

/-! ### a def of the text, as it is called -/
section
variable {P : Program} {w : World} {K : PySem.W.Frag} {mg : Str → Option Value} {base : Heap}
structure Cal (P : Program) (w : World) (K : PySem.W.Frag) (mg : Str → Option Value) (base : Heap) (x : Str) (k : Nat) (ps : List Str) (sp : Sp) : Prop where
  ex : ∃ (f : Addr) (fd : FuncData), mg x = some (.ref f) ∧ PySem.W.keepIn K (.ref f) = true ∧ Binds K fd ps [] ∧ FnOk P w K mg base CX0 k f fd ps sp
structure Mth (P : Program) (w : World) (K : PySem.W.Frag) (mg : Str → Option Value) (base : Heap) (C : Addr) (x : Str) (k : Nat) (ps : List Str) (sp : Sp) : Prop where
  ex : ∃ (f : Addr) (fd : FuncData), Meth K C x f ∧ Binds K fd ps [] ∧ FnOk P w K mg base CX0 k f fd ps sp
structure Mak (P : Program) (w : World) (K : PySem.W.Frag) (mg : Str → Option Value) (base : Heap) (C : Addr) (x : Str) (k : Nat) (ps : List Str) (sp : Sp) : Prop where
  gl : mg x = some (.ref C)
  ex : ∃ (f : Addr) (fd : FuncData), Mk K C f ∧ Binds K fd ps [] ∧ FnOk P w K mg base CX0 k f fd ps sp
end
section
variable {X : Cx} {x : Str} {j k : Nat} {ps : List Str} {sp : Sp} {e o : Expr} {es : List Expr} {p pos apos : Pos} {t : TA} {ta : TE} {C : Addr} {m : Str}
theorem pe_cal (F : Cal X.prog X.w X.K X.mg X.base x j ps sp) (hr : Room k X.A) (ha : PA X (e :: es) t) (hjk : j ≤ k := by decide) (hg : Gl X x := by rfl) (hdb : (x == ("__debug__" : Str)) = false := by decide)
    (he : starEach (e :: es) X.env = (false, eval e X.env) :: starEach es X.env := by rfl) (hpl : (backTo pos (starEach es X.env)).any (·.1) = false := by rfl) :
    PE X (.Call (.Name x p) (e :: es) [] pos) (tCall sp [] E0 t) := by
  obtain ⟨f, fd, h1, h2, h3, h4⟩ := F.ex
  exact pe_call h4 (hr.mono hjk) hg h1 h2 h3 .nil pass0 ha hdb he hpl
theorem pe_mth {pl : Sem Bool} (c : Cls X.K C) (F : Mth X.prog X.w X.K X.mg X.base C m j ps sp) (hr : Room k X.A) (ho : PE X o ta) (ha : PA X (e :: es) t) (hjk : j ≤ k := by decide)
    (hst : starEach (e :: es) X.env = (false, eval e X.env) :: starEach es X.env := by rfl) (hpl : (backTo pos (starEach es X.env)).any (·.1) = false := by rfl)
    (ht : eval (.Call (.Attribute o m apos) (e :: es) [] pos) X.env = (do
      let ov ← eval o X.env
      standAt apos.atName
      let (f, first) ← holding [ov] (getMethod ov m pl)
      callWith pos f first (backTo pos (starEach (e :: es) X.env)) (backToKw pos (keywordEach [] X.env))) := by rfl) :
    PE X (.Call (.Attribute o m apos) (e :: es) [] pos) (tMeth C m sp [] E0 ta t) := by
  obtain ⟨f, fd, h1, h2, h3⟩ := F.ex
  exact pe_meth ho c h1 h3 (hr.mono hjk) h2 .nil pass0 ha hst hpl ht
theorem pe_mth0 {pl : Sem Bool} (c : Cls X.K C) (F : Mth X.prog X.w X.K X.mg X.base C m j ps sp) (hr : Room k X.A) (ho : PE X o ta) (hjk : j ≤ k := by decide)
    (ht : eval (.Call (.Attribute o m apos) [] [] pos) X.env = (do
      let ov ← eval o X.env
      standAt apos.atName
      let (f, first) ← holding [ov] (getMethod ov m pl)
      callWith pos f first (backTo pos (starEach [] X.env)) (backToKw pos (keywordEach [] X.env))) := by rfl) :
    PE X (.Call (.Attribute o m apos) [] [] pos) (tMeth C m sp [] E0 ta tNil) := by
  obtain ⟨f, fd, h1, h2, h3⟩ := F.ex
  exact pe_meth0 ho c h1 h3 (hr.mono hjk) h2 .nil pass0 ht
theorem pe_mak (F : Mak X.prog X.w X.K X.mg X.base C x j ps sp) (hr : Room k X.A) (ha : PA X (e :: es) t) (hjk : j + 1 ≤ k := by decide) (hg : Gl X x := by rfl) (hdb : (x == ("__debug__" : Str)) = false := by decide)
    (he : starEach (e :: es) X.env = (false, eval e X.env) :: starEach es X.env := by rfl) (hpl : (backTo pos (starEach es X.env)).any (·.1) = false := by rfl) :
    PE X (.Call (.Name x p) (e :: es) [] pos) (tMake C sp [] E0 t) := by
  obtain ⟨f, fd, h1, h2, h3⟩ := F.ex
  exact pe_make h1 h3 (hr.mono hjk) hg F.gl h2 .nil pass0 ha hdb he hpl
end
/-! ### built-in names -/
theorem b_len : bootBuiltins "len" = some (.builtin "len") := by decide +kernel
theorem b_isinstance : bootBuiltins "isinstance" = some (.builtin "isinstance") := by decide +kernel
theorem b_all : bootBuiltins "all" = some (.builtin "all") := by decide +kernel
theorem b_max : bootBuiltins "max" = some (.builtin "max") := by decide +kernel
theorem b_min : bootBuiltins "min" = some (.builtin "min") := by decide +kernel
theorem b_sorted : bootBuiltins "sorted" = some (.builtin "sorted") := by decide +kernel
theorem b_abs : bootBuiltins "abs" = some (.builtin "abs") := by decide +kernel
theorem b_tuple : bootBuiltins "tuple" = some (.type "tuple") := by decide +kernel
theorem b_list : bootBuiltins "list" = some (.type "list") := by decide +kernel
theorem b_dict : bootBuiltins "dict" = some (.type "dict") := by decide +kernel
theorem b_set : bootBuiltins "set" = some (.type "set") := by decide +kernel
theorem b_zip : bootBuiltins "zip" = some (.type "zip") := by decide +kernel
theorem b_int : bootBuiltins "int" = some (.type "int") := by decide +kernel
theorem b_bool : bootBuiltins "bool" = some (.type "bool") := by decide +kernel
theorem b_str : bootBuiltins "str" = some (.type "str") := by decide +kernel
theorem b_range : bootBuiltins "range" = some (.type "range") := by decide +kernel
theorem b_enumerate : bootBuiltins "enumerate" = some (.type "enumerate") := by decide +kernel
section
variable {X : Cx} {cP cG cT : Addr} {pos : Pos} (T : Txt X.K X.w X.mg cP cG cT)
include T
theorem ty_int (hg : Gl X "int" := by rfl) : PE X (.Name "int" pos) (tC (.ty "int")) := pe_bltn hg T.int_ b_int rfl
theorem ty_bool (hg : Gl X "bool" := by rfl) : PE X (.Name "bool" pos) (tC (.ty "bool")) := pe_bltn hg T.bool_ b_bool rfl
theorem ty_str (hg : Gl X "str" := by rfl) : PE X (.Name "str" pos) (tC (.ty "str")) := pe_bltn hg T.str_ b_str rfl
theorem ty_list (hg : Gl X "list" := by rfl) : PE X (.Name "list" pos) (tC (.ty "list")) := pe_bltn hg T.list_ b_list rfl
theorem ty_tuple (hg : Gl X "tuple" := by rfl) : PE X (.Name "tuple" pos) (tC (.ty "tuple")) := pe_bltn hg T.tuple_ b_tuple rfl
theorem ty_dict (hg : Gl X "dict" := by rfl) : PE X (.Name "dict" pos) (tC (.ty "dict")) := pe_bltn hg T.dict_ b_dict rfl
end
/-! ### the module's constants, as they are named -/
section
variable {X : Cx} {cP cG cT : Addr} {pos : Pos} {n : Int} {x : Str}
theorem gl_int (h : ∃ t, X.mg x = some (.int n t)) (hg : Gl X x) (hd : (x == ("__debug__" : Str)) = false) : PE X (.Name x pos) (tC (.int n)) := by
  obtain ⟨t, h⟩ := h
  exact pe_glob hg h ⟨t, rfl⟩ hd
variable (T : Txt X.K X.w X.mg cP cG cT)
include T
theorem gl_MOST_ROWS (hg : Gl X "MOST_ROWS" := by rfl) : PE X (.Name "MOST_ROWS" pos) (tC (.int 2000)) := gl_int T.MOST_ROWS hg (by decide)
theorem gl_MOST_FURTHER (hg : Gl X "MOST_FURTHER" := by rfl) : PE X (.Name "MOST_FURTHER" pos) (tC (.int 3)) := gl_int T.MOST_FURTHER hg (by decide)
theorem gl_MOST_K (hg : Gl X "MOST_K" := by rfl) : PE X (.Name "MOST_K" pos) (tC (.int 99)) := gl_int T.MOST_K hg (by decide)
theorem gl_LONGEST (hg : Gl X "LONGEST" := by rfl) : PE X (.Name "LONGEST" pos) (tC (.int 8)) := gl_int T.LONGEST hg (by decide)
theorem gl_LETTERS (hg : Gl X "LETTERS" := by rfl) : PE X (.Name "LETTERS" pos) (tC (.str az)) := by
  obtain ⟨t, h⟩ := T.LETTERS
  exact pe_glob hg h ⟨t, rfl⟩ (by decide)
theorem gl_ROWS_NAMED (hg : Gl X "ROWS_NAMED" := by rfl) : PE X (.Name "ROWS_NAMED" pos) (tC (.ref (T.ROWS_NAMED.choose))) := pe_glob hg T.ROWS_NAMED.choose_spec.1 rfl (by decide)
theorem gl_SIZES (hg : Gl X "SIZES" := by rfl) : PE X (.Name "SIZES" pos) (tC (.ref (T.SIZES.choose))) := pe_glob hg T.SIZES.choose_spec.1 rfl (by decide)
theorem gl_Player (hg : Gl X "Player" := by rfl) : PE X (.Name "Player" pos) (tC (.ref cP)) := pe_glob hg T.Player rfl (by decide)
end
/-! ### heaps -/
theorem same_new {H : Hp} {p : Addr} {o : HO} (h : H p = none) : Same H (upd H p o) := fun a u e => by
  rw [upd_ne (ne_of_none e h)]
  exact e
/-- an object that H does not know may change -/
theorem same_mut {H H' : Hp} {p : Addr} {o : HO} (e : Same H H') (h : H p = none) : Same H (upd H' p o) := fun a u ha => by
  rw [upd_ne (ne_of_none ha h)]
  exact e a u ha
theorem same_rd {H H' : Hp} {a : Addr} {u : HO} (e : Same H H') (h : Rd H a u) : Rd H' a u := by
  rcases h with h | ⟨o, h⟩
  · exact Or.inl (e a _ h)
  · exact Or.inr ⟨o, e a _ h⟩
theorem same_t {K : PySem.W.Frag} {H H' : Hp} {a : Addr} {xs : List V} (e : Same H H') (h : SqT K H a xs) : SqT K H' a xs := by
  rcases h with h | h
  · exact Or.inl (same_rd e h)
  · exact Or.inr h
theorem same_l {K : PySem.W.Frag} {H H' : Hp} {a : Addr} {xs : List V} (e : Same H H') (h : SqL K H a xs) : SqL K H' a xs := by
  rcases h with h | h
  · exact Or.inl (same_rd e h)
  · exact Or.inr h
/-- a list or a tuple -/
def Sq (K : PySem.W.Frag) (H : Hp) (a : Addr) (xs : List V) : Prop := SqL K H a xs ∨ SqT K H a xs
theorem same_s {K : PySem.W.Frag} {H H' : Hp} {a : Addr} {xs : List V} (e : Same H H') (h : Sq K H a xs) : Sq K H' a xs := h.imp (same_l e) (same_t e)
theorem sz_le {n : Nat} (h : n ≤ 100000) : n ≤ sizeLine := Nat.le_trans h (by decide)
theorem sz_lt {n : Nat} (h : n < 100000) : n < sizeLine := Nat.lt_of_lt_of_le h (by decide)
theorem tyx_sq {K : PySem.W.Frag} {H : Hp} {a : Addr} {xs : List V} (h : Sq K H a xs) : TyX K H (.ref a) (.type "list") ∨ TyX K H (.ref a) (.type "tuple") := by
  rcases h with ((h | ⟨o, h⟩) | ⟨o, its, n, h, hc, _⟩) | ((h | ⟨o, h⟩) | ⟨o, its, n, h, hc, _⟩)
  · exact .inl (.base (.lst h))
  · exact .inl (.base (.frz h))
  · exact .inl (.kList h hc)
  · exact .inr (.base (.tup h))
  · exact .inr (.fTuple h)
  · exact .inr (.kTuple h hc)
theorem tyx_t {K : PySem.W.Frag} {H : Hp} {a : Addr} {xs : List V} (h : SqT K H a xs) : TyX K H (.ref a) (.type "tuple") := by
  rcases h with (h | ⟨o, h⟩) | ⟨o, its, n, h, hc, _⟩
  · exact (.base (.tup h))
  · exact (.fTuple h)
  · exact (.kTuple h hc)
/-! ### a comprehension whose items and tests change nothing but new objects -/
theorem range_fm (xs : List V) (f : V → Option V) : (List.range xs.length).filterMap (fun i => (xs[i]?).bind f) = xs.filterMap f := by
  induction xs with
  | nil => rfl
  | cons x r ih =>
    rw [List.length_cons, List.range_succ_eq_map, List.filterMap_cons, List.filterMap_map]
    have e : ((fun i => ((x :: r)[i]?).bind f) ∘ Nat.succ) = fun i => (r[i]?).bind f := by funext i; simp
    rw [e, ih]
    cases h : f x <;> simp [h]
section
variable {J : It} {n : Nat} {G : Hp → Prop} {Y : Nat → Hp → V → Hp → Prop}
variable {K : PySem.W.Frag} {a : Addr} {xs : List V} {g : TG} {tt : TT} {te : TE} {vs : List Nat} {σ : St} {H1 : Hp} {D : Addr} {Qd : Hp → Prop}
theorem lcW_fm (w : Walk J n G Y) (f : Nat → Option V) (hD : H1 D = none) (hn : n ≤ 100000) (hG : ∀ H, Same H1 H → G H)
    (hs : ∀ i x H H', i < n → Same H1 H → Y i H x H' → ∀ (K1 : V → Hp → Prop) (K0 : Hp → Prop), (∀ y H'', f i = some y → Same H H'' → K1 y H'') → (∀ H'', f i = none → Same H H'' → K0 H'') →
      g x (wipe σ vs) H' fun σ2 H2 => wipe σ2 vs = wipe σ vs ∧ tt σ2 H2 fun b H3 => if b = true then te σ2 H3 K1 else K0 H3)
    (hd : ∀ H, Same H1 H → H D = some (.lst ((List.range n).filterMap f)) → Qd H) :
    ∃ W : Nat → Nat → Hp → Prop, (∃ m, W 0 m (upd H1 D (.lst []))) ∧ ∀ i m H, W i m H →
      (J.stop i H ∧ Qd H) ∨ (J.go i H ∧ ∃ Nx : Hp → Prop, (∀ H', Nx H' → ∃ m', m' < m ∧ W (i + 1) m' H') ∧ ∀ x H', J.yld i H x H' → g x (wipe σ vs) H' fun σ2 H2 => wipe σ2 vs = wipe σ vs ∧ tt σ2 H2 fun b H3 =>
        if b = true then te σ2 H3 fun y H4 => ∃ acc, H4 D = some (.lst acc) ∧ acc.length < sizeLine ∧ Nx (upd H4 D (.lst (acc ++ [y]))) else Nx H3) := by
  refine lc_it w (fun i H => Same H1 H ∧ H D = some (.lst ((List.range i).filterMap f))) ⟨same_new hD, by rw [upd_same]; rfl⟩ (fun i H _ h => hG H h.1) (fun i x H H' hi h y => ?_) (fun H h => hd H h.1 h.2)
  obtain ⟨s, hl⟩ := h
  have et : (List.range (i + 1)).filterMap f = (List.range i).filterMap f ++ (f i).toList := by
    rw [List.range_succ, List.filterMap_append]
    cases e : f i <;> simp [e]
  refine hs i x H H' hi s y _ _ (fun y H' e s' => ?_) (fun H' e s' => ?_)
  · refine ⟨_, s' _ _ hl, ?_, same_mut (s.trans s') hD, ?_⟩
    · refine sz_lt (Nat.lt_of_le_of_lt (List.length_filterMap_le _ _) ?_)
      rw [List.length_range]
      omega
    · rw [upd_same, et, e]; rfl
  · refine ⟨s.trans s', ?_⟩
    rw [s' _ _ hl, et, e]; simp
theorem lcT_fm (f : V → Option V) (hD : H1 D = none) (hsrc : SqT K H1 a xs) (hlen : xs.length ≤ 100000)
    (hs : ∀ (i : Nat) x H, xs[i]? = some x → Same H1 H → ∀ (K1 : V → Hp → Prop) (K0 : Hp → Prop), (∀ y H', f x = some y → Same H H' → K1 y H') → (∀ H', f x = none → Same H H' → K0 H') →
      g x (wipe σ vs) H fun σ2 H2 => wipe σ2 vs = wipe σ vs ∧ tt σ2 H2 fun b H3 => if b = true then te σ2 H3 K1 else K0 H3)
    (hd : ∀ H, Same H1 H → H D = some (.lst (xs.filterMap f)) → Qd H) :
    ∃ W : Nat → Nat → Hp → Prop, (∃ m, W 0 m (upd H1 D (.lst []))) ∧ ∀ i m H, W i m H → ((Itt K a).stop i H ∧ Qd H) ∨ ((Itt K a).go i H ∧ ∃ Nx : Hp → Prop, (∀ H', Nx H' → ∃ m', m' < m ∧ W (i + 1) m' H') ∧
      ∀ x H', (Itt K a).yld i H x H' → g x (wipe σ vs) H' fun σ2 H2 => wipe σ2 vs = wipe σ vs ∧ tt σ2 H2 fun b H3 => if b = true then te σ2 H3 fun y H4 => ∃ acc, H4 D = some (.lst acc) ∧ acc.length < sizeLine ∧ Nx (upd H4 D (.lst (acc ++ [y]))) else Nx H3) := by
  refine lcW_fm (w := walk_tup (K := K) (a := a) (xs := xs)) (fun i => (xs[i]?).bind f) hD hlen (fun H s => same_t s hsrc) (fun i x H H' hi s y K1 K0 h1 h0 => ?_) (fun H s e => hd H s (by rw [e, range_fm]))
  obtain ⟨rfl, hx⟩ := y
  exact hs i x H' hx s K1 K0 (fun y H'' e => h1 y H'' (by rw [hx]; exact e)) (fun H'' e => h0 H'' (by rw [hx]; exact e))
theorem lcL_fm (f : V → Option V) (hD : H1 D = none) (hsrc : SqL K H1 a xs) (hlen : xs.length ≤ 100000)
    (hs : ∀ (i : Nat) x H, xs[i]? = some x → Same H1 H → ∀ (K1 : V → Hp → Prop) (K0 : Hp → Prop), (∀ y H', f x = some y → Same H H' → K1 y H') → (∀ H', f x = none → Same H H' → K0 H') →
      g x (wipe σ vs) H fun σ2 H2 => wipe σ2 vs = wipe σ vs ∧ tt σ2 H2 fun b H3 => if b = true then te σ2 H3 K1 else K0 H3)
    (hd : ∀ H, Same H1 H → H D = some (.lst (xs.filterMap f)) → Qd H) :
    ∃ W : Nat → Nat → Hp → Prop, (∃ m, W 0 m (upd H1 D (.lst []))) ∧ ∀ i m H, W i m H → ((Itl K a).stop i H ∧ Qd H) ∨ ((Itl K a).go i H ∧ ∃ Nx : Hp → Prop, (∀ H', Nx H' → ∃ m', m' < m ∧ W (i + 1) m' H') ∧
      ∀ x H', (Itl K a).yld i H x H' → g x (wipe σ vs) H' fun σ2 H2 => wipe σ2 vs = wipe σ vs ∧ tt σ2 H2 fun b H3 => if b = true then te σ2 H3 fun y H4 => ∃ acc, H4 D = some (.lst acc) ∧ acc.length < sizeLine ∧ Nx (upd H4 D (.lst (acc ++ [y]))) else Nx H3) := by
  refine lcW_fm (w := walk_list (K := K) (a := a) (xs := xs)) (fun i => (xs[i]?).bind f) hD hlen (fun H s => same_l s hsrc) (fun i x H H' hi s y K1 K0 h1 h0 => ?_) (fun H s e => hd H s (by rw [e, range_fm]))
  obtain ⟨rfl, hx⟩ := y
  exact hs i x H' hx s K1 K0 (fun y H'' e => h1 y H'' (by rw [hx]; exact e)) (fun H'' e => h0 H'' (by rw [hx]; exact e))
end
end Lk

set_option maxHeartbeats 4000000
namespace Lk
open PySem PySem.Spec PyProof.Rows PySem.W L2
/-! ### a, *b = a tuple | a list -/
section
variable {prog : Program} {w : World} {A : Around} {E : Value → Shared → Prop} {s : Shared}
theorem star_T {l : Addr} {items : Array Value} {n i : Nat} {Q : List Value → Shared → Prop} (hl : IsTup s.heap l items) (hh : A.handled = none) (hi : i < n) (hn : n ≤ items.size + 1) (hz : items.size ≤ 16384)
    (h : ∀ (h₂ : Heap) (tk : Nat), (∀ b o, s.heap.get? b = some o → h₂.get? b = some o) →
      Q (items.toList.take i ++ [.ref h₂.objs.size] ++ (items.toList.drop i).drop (items.size + 1 - n)) { s with heap := h₂.push { cls := .type "list", data := .seq ((items.toList.drop i).take (items.size + 1 - n)).toArray }, toks := tk }) :
    wpAny (model prog w) A (unpackItems (.ref l) n (some i)) Q E s := by
  have hlt : l ≠ s.heap.objs.size := by obtain ⟨o, ho, _⟩ := hl; exact Nat.ne_of_lt (Heap.lt_size ho)
  unfold unpackItems
  refine wpAny_bind ?_
  unfold notIterableAtAll
  refine wpAny_bind (wpAny_specialOf hl.typeIs slot_tuple_iter.lookup ?_)
  refine wpAny_pure ?_
  simp only [Bool.false_eq_true, if_false]
  refine wpAny_bind (wpAny_holding (iter_tuple hl ?_))
  refine wpAny_bind (wpAny_holding (draw_tuple hlt i 0 _ _ ⟨_, Heap.get?_push_size _ rfl, rfl, rfl⟩ (hl.push _) (by omega) fun h₁ hit₁ hs₁ => ?_))
  have hl₁ : IsTup h₁ l items := (hl.push _).extBut hs₁.extBut hlt
  rw [Nat.zero_add] at hit₁
  have hit₁' := hit₁
  obtain ⟨oi, hoi, _⟩ := hit₁'
  have hl₁' := hl₁
  obtain ⟨ol, hol, _⟩ := hl₁'
  rw [List.drop_zero]
  have hfl : (items.toList.take i).length = i := by rw [List.length_take, Array.length_toList]; omega
  rw [if_neg (show ¬ ((items.toList.take i).length < i) by rw [hfl]; omega)]
  refine wpAny_bind (wpAny_holding (kun_collect (s := { s with heap := h₁ }) (T := "tuple_iterator") (.inr (.inr (.inr rfl))) (Walks.tuple (A := A.in1) hh s.heap.objs.size l hlt items) (fun j u st => st.1.typeIs) (k := i) (by omega) ⟨hit₁, hl₁⟩ (Heap.lt_size hoi) (Heap.lt_size hol) (fun h₂ tk hk => ?_) (by rw [sizeLine_eq]; omega)))
  have hrl : (items.toList.drop i).length = items.size - i := by rw [List.length_drop, Array.length_toList]
  have hmid : (items.toList.drop i).length - (n - 1 - i) = items.size + 1 - n := by rw [hrl]; omega
  show wpAny _ _ (if (items.toList.drop i).length < n - 1 - i then _ else _) _ _ _
  rw [if_neg (by rw [hrl]; omega)]
  show wpAny _ _ (newList ((items.toList.drop i).take ((items.toList.drop i).length - (n - 1 - i))) >>= fun d => pure (items.toList.take i ++ [d] ++ (items.toList.drop i).drop ((items.toList.drop i).length - (n - 1 - i)))) _ _ _
  rw [hmid]
  have he : Heap.ExtBut s.heap.objs.size s.heap h₂ := fun b o hb e => hk b o hb (hs₁.extBut b o hb (Heap.get?_push_of_some _ e))
  refine wpAny_bind (wpAny_newList (wpAny_pure (h h₂ tk (fun b o e => he b o (Nat.ne_of_lt (Heap.lt_size e)) e))) (by rw [List.length_take, hrl, sizeLine_eq]; omega))
theorem star_L {l : Addr} {items : Array Value} {n i : Nat} {Q : List Value → Shared → Prop} (hl : s.heap.IsList l items) (hh : A.handled = none) (hi : i < n) (hn : n ≤ items.size + 1) (hz : items.size ≤ 16384)
    (h : ∀ (h₂ : Heap) (tk : Nat), (∀ b o, s.heap.get? b = some o → h₂.get? b = some o) →
      Q (items.toList.take i ++ [.ref h₂.objs.size] ++ (items.toList.drop i).drop (items.size + 1 - n)) { s with heap := h₂.push { cls := .type "list", data := .seq ((items.toList.drop i).take (items.size + 1 - n)).toArray }, toks := tk }) :
    wpAny (model prog w) A (unpackItems (.ref l) n (some i)) Q E s := by
  have hlt : l ≠ s.heap.objs.size := by obtain ⟨o, ho, _⟩ := hl; exact Nat.ne_of_lt (Heap.lt_size ho)
  unfold unpackItems
  refine wpAny_bind ?_
  unfold notIterableAtAll
  refine wpAny_bind (wpAny_specialOf hl.typeIs slot_list_iter.lookup ?_)
  refine wpAny_pure ?_
  simp only [Bool.false_eq_true, if_false]
  refine wpAny_bind (wpAny_holding (wpAny_pyIter_list hl ?_))
  refine wpAny_bind (wpAny_holding (kun_draw hlt i 0 _ _ ⟨_, Heap.get?_push_size _ rfl, rfl, rfl⟩ (hl.push _) (by omega) fun h₁ hit₁ hs₁ => ?_))
  have hl₁ : h₁.IsList l items := (hl.push _).extBut hs₁.extBut hlt
  rw [Nat.zero_add] at hit₁
  have hit₁' := hit₁
  obtain ⟨oi, hoi, _⟩ := hit₁'
  have hl₁' := hl₁
  obtain ⟨ol, hol, _⟩ := hl₁'
  rw [List.drop_zero]
  have hfl : (items.toList.take i).length = i := by rw [List.length_take, Array.length_toList]; omega
  rw [if_neg (show ¬ ((items.toList.take i).length < i) by rw [hfl]; omega)]
  refine wpAny_bind (wpAny_holding (kun_collect (s := { s with heap := h₁ }) (T := "list_iterator") (.inr (.inr (.inl rfl))) (Walks.list (A := A.in1) hh s.heap.objs.size l hlt items) (fun j u st => st.1.typeIs) (k := i) (by omega) ⟨hit₁, hl₁⟩ (Heap.lt_size hoi) (Heap.lt_size hol) (fun h₂ tk hk => ?_) (by rw [sizeLine_eq]; omega)))
  have hrl : (items.toList.drop i).length = items.size - i := by rw [List.length_drop, Array.length_toList]
  have hmid : (items.toList.drop i).length - (n - 1 - i) = items.size + 1 - n := by rw [hrl]; omega
  show wpAny _ _ (if (items.toList.drop i).length < n - 1 - i then _ else _) _ _ _
  rw [if_neg (by rw [hrl]; omega)]
  show wpAny _ _ (newList ((items.toList.drop i).take ((items.toList.drop i).length - (n - 1 - i))) >>= fun d => pure (items.toList.take i ++ [d] ++ (items.toList.drop i).drop ((items.toList.drop i).length - (n - 1 - i)))) _ _ _
  rw [hmid]
  have he : Heap.ExtBut s.heap.objs.size s.heap h₂ := fun b o hb e => hk b o hb (hs₁.extBut b o hb (Heap.get?_push_of_some _ e))
  refine wpAny_bind (wpAny_newList (wpAny_pure (h h₂ tk (fun b o e => he b o (Nat.ne_of_lt (Heap.lt_size e)) e))) (by rw [List.length_take, hrl, sizeLine_eq]; omega))
end
section
variable {X : Cx}
/-- a, *b, .. = a tuple or a list: n targets, the i-th with the star -/
def gStar (K : PySem.W.Frag) (n i : Nat) (t : TGs) : TG := fun v σ H Q => ∃ a xs, v = .ref a ∧ Sq K H a xs ∧ n ≤ xs.length + 1 ∧ xs.length ≤ 16384 ∧
  ∀ D, H D = none → t (xs.take i ++ [.ref D] ++ (xs.drop i).drop (xs.length + 1 - n)) σ (upd H D (.lst ((xs.drop i).take (xs.length + 1 - n)))) Q
theorem pg_star {es : List Expr} {k : Nat} {t : TGs} {n i : Nat} {pos : Pos} (hc : X.calm = true) (h : PGs X es t)
    (hn : (assignEach es X.env).length = n := by rfl) (hst : (assignEach es X.env).findIdx? (·.1) = some i := by rfl) (hi : i < n := by decide) : PG X (.Tuple es k pos) (gStar X.K n i t) := by
  refine ⟨fun pins s σ H v u Q I r hw => ?_⟩
  obtain ⟨a, xs, e1, hq, hl, hz, hw⟩ := hw
  subst e1
  cases r
  rw [PyProof.Rows.assign_Tuple]
  refine wpAny_bind (wpAny_standAt ?_)
  unfold unpack
  rw [hn, hst]
  have go : ∀ (its : List Value), Vals xs its → ∀ (h₂ : Heap) (tk : Nat), (∀ b o, s.heap.get? b = some o → h₂.get? b = some o) →
      wpAny (model X.prog X.w) X.A (assignInOrder ((assignEach es X.env).map (·.2)) (its.toArray.toList.take i ++ [.ref h₂.objs.size] ++ (its.toArray.toList.drop i).drop (its.toArray.size + 1 - n)))
        (fun _ s' => ∃ σ' H', Inv X pins σ' H' s' ∧ Q σ' H') X.xe { s with heap := h₂.push { cls := .type "list", data := .seq ((its.toArray.toList.drop i).take (its.toArray.size + 1 - n)).toArray }, toks := tk } := by
    intro its rv h₂ tk kp
    have I2 : Inv X pins σ H { s with heap := h₂, toks := tk } := I.kept kp
    have hf : H h₂.objs.size = none := I2.hok.fresh (Nat.le_refl _)
    have len := rv.length
    have e1 : its.toArray.toList = its := by simp
    have e2 : its.toArray.size = xs.length := by simp [len]
    rw [e1, e2]
    have rd : Vals ((xs.drop i).take (xs.length + 1 - n)) ((its.drop i).take (xs.length + 1 - n)) := (rv.drop i).take _
    refine h.run pins _ σ (upd H h₂.objs.size (.lst ((xs.drop i).take (xs.length + 1 - n)))) (xs.take i ++ [.ref h₂.objs.size] ++ (xs.drop i).drop (xs.length + 1 - n)) _ Q (I2.laid (t' := tk) (fun b u e => Heap.get?_push_of_some _ e) (Nat.le_refl _) ?_) ?_ (hw _ hf)
    · refine ⟨?_, _, 0, rd, Heap.get?_push_size _ rfl⟩
      rw [List.length_take, List.length_drop, sizeLine_eq]
      omega
    · exact (Vals.append (Vals.append (rv.take i) (.cons rfl .nil)) ((rv.drop i).drop _))
  rcases hq with hq | hq
  · obtain ⟨its, rv, ht, _⟩ := I.list hq
    have len := rv.length
    exact wpAny_bind (wpAny_holding (star_L ht.isList (I.ok.hd hc) hi (by simp; omega) (by simp; omega) (go its rv)))
  · obtain ⟨its, rv, ht, _⟩ := I.tuple hq
    have len := rv.length
    exact wpAny_bind (wpAny_holding (star_T ht (I.ok.hd hc) hi (by simp; omega) (by simp; omega) (go its rv)))
/-- the starred one of the targets -/
theorem pgs_star {e : Expr} {es : List Expr} {t : TG} {u : TGs} {p : Pos} (h1 : PG X e t) (h2 : PGs X es u)
    (hs : (assignEach (.Starred e p :: es) X.env).map (·.2) = assign e X.env :: (assignEach es X.env).map (·.2) := by rfl) : PGs X (.Starred e p :: es) (gCons t u) := by
  refine ⟨fun pins s σ H vs us Q I r h => ?_⟩
  obtain ⟨v, vr, e1, h⟩ := h
  subst e1
  cases r with
  | cons r rr =>
    rw [hs]
    refine assignInOrder_cons (thn (h1.run pins s σ H _ _ _ I r h) fun _ s1 ⟨σ1, H1, I1, q1⟩ => ?_)
    exact h2.run pins s1 σ1 H1 _ _ Q I1 rr q1
end
/-! ### (x, ..) * k, any k to a thousand -/
theorem tuple_mul0 (l : Addr) (items : Array Value) (n : Nat) (dd : Option Addr) (sl : Array (Option Value)) (x : Int) (u : Tok) (c0 : (decide (x < -(2 ^ 63)) || decide (x ≥ 2 ^ 63)) = false) (c1 : (items.isEmpty || x == 1) = false) (c2 : (decide (x ≤ 0) || items.isEmpty) = true) :
    Meets (Builtin.«tuple.__mul__» ⟨[.ref l, .int x u], []⟩) (fun _ R s => s.heap.get? l = some { cls := .type "tuple", dict := dd, data := .seq items n, slots := sl } ∧
      R (.ok (.ret (Value.ref s.heap.objs.size))) { s with heap := s.heap.push { cls := Value.type "tuple", data := Data.seq #[] }, toks := s.toks }) :=
  .of_wp fun prog w A R s h => by
    obtain ⟨hp, g, d, tk, os⟩ := s
    obtain ⟨hl, h⟩ := h
    have f1 := AutoSeq1.idx_int
    wp_walk using wpAny_loadPart' hl
    repeat (first
      | (refine wpAny_ite_false (decide_eq_false (by rw [c0]; exact Bool.false_ne_true)) ?_; wp_walk using wpAny_loadPart' hl)
      | (refine wpAny_ite_false (decide_eq_false (by rw [c1]; exact Bool.false_ne_true)) ?_; wp_walk using wpAny_loadPart' hl)
      | (refine wpAny_ite_true (decide_eq_true (by rw [c2])) ?_; wp_walk using wpAny_loadPart' hl))
    exact ⟨_, rfl, h⟩
theorem tuple_mul1 (l : Addr) (items : Array Value) (n : Nat) (dd : Option Addr) (sl : Array (Option Value)) (x : Int) (u : Tok) (c0 : (decide (x < -(2 ^ 63)) || decide (x ≥ 2 ^ 63)) = false) (c1 : (items.isEmpty || x == 1) = true) :
    Meets (Builtin.«tuple.__mul__» ⟨[.ref l, .int x u], []⟩) (fun _ R s => s.heap.get? l = some { cls := .type "tuple", dict := dd, data := .seq items n, slots := sl } ∧
      R (.ok (.ret (Value.ref l))) s) :=
  .of_wp fun prog w A R s h => by
    obtain ⟨hp, g, d, tk, os⟩ := s
    obtain ⟨hl, h⟩ := h
    have f1 := AutoSeq1.idx_int
    wp_walk using wpAny_loadPart' hl
    repeat (first
      | (refine wpAny_ite_false (decide_eq_false (by rw [c0]; exact Bool.false_ne_true)) ?_; wp_walk using wpAny_loadPart' hl)
      | (refine wpAny_ite_true (decide_eq_true (by rw [c1])) ?_; wp_walk using wpAny_loadPart' hl))
    exact ⟨_, rfl, h⟩
end Lk

set_option maxHeartbeats 8000000
namespace Lk
open PySem PySem.Spec PyProof.Rows PySem.W L2
/-! ### len(set(xs)), xs a list or a tuple of unlike texts -/
section
variable {prog : Program} {w : World} {A : Around} {R : Result → Shared → Prop} {I : Addr} {fp wr : List Addr} {G : Array GenState → Array GenState → Prop} {n : Nat} {P : Nat → Value → Prop} {St : Nat → Shared → Prop}
theorem any_take (xs : List Str) (i : Nat) (hi : i < xs.length) (k : Str) : ((xs.take i).any (· == k) || decide (k = xs.getD i Str.empty)) = (xs.take (i + 1)).any (· == k) := by
  have e : xs.getD i Str.empty = xs[i] := by rw [List.getD_eq_getElem?_getD, List.getElem?_eq_getElem hi]; rfl
  rw [e, List.take_add_one, List.getElem?_eq_getElem hi, List.any_append]
  congr 1
  show decide (k = xs[i]) = ([xs[i]].any (· == k))
  by_cases q : k = xs[i]
  · subst q; simp
  · have hb : (xs[i] == k) = false := by simpa [beq_iff_eq] using (fun z : xs[i] = k => q z.symm)
    simp [hb, q]
theorem not_taken (xs : List Str) (hn : xs.Nodup) (i : Nat) (hi : i < xs.length) : (xs.take i).any (· == xs.getD i Str.empty) = false := by
  have e : xs.getD i Str.empty = xs[i] := by rw [List.getD_eq_getElem?_getD, List.getElem?_eq_getElem hi]; rfl
  rw [e]
  cases q : (xs.take i).any (· == xs[i]) with
  | false => rfl
  | true =>
    obtain ⟨y, hy, ey⟩ := List.any_eq_true.mp q
    have ey := eq_of_beq ey
    subst ey
    obtain ⟨j, hj, ej⟩ := List.mem_iff_getElem.mp hy
    rw [List.length_take] at hj
    rw [List.getElem_take] at ej
    have := (List.getElem_inj hn).mp ej
    omega
theorem loop_strs (W : WalksS prog w A.in1 I fp wr G n P St) (S : Addr) (hSf : S ∉ fp) (xs : List Str) (hsz : xs.length = n) (hnd : xs.Nodup) (hb : n + 1 < scanBound) (hval : ∀ i v, P i v → ∃ t, v = .str (xs.getD i Str.empty) t) :
    ∀ (k i : Nat) (s : Shared), n - i = k → i ≤ n → St i s → s.heap.SetOf (PySem.strKind prog w) S (fun k' => (xs.take i).any (· == k')) i →
      (∀ s', Moved (S :: wr) G s s' → s'.heap.SetOf (PySem.strKind prog w) S (fun k' => (xs.take n).any (· == k')) n → R (.ok (.ret .none)) s') →
      codeAny (model prog w) A (.builtin "set.update.loop" ⟨[.ref S, .ref I], []⟩) R s
  | 0, i, s, hk, hi, hst, hS, hR => by
    have hin : i = n := by omega
    subst hin
    refine codeAny_builtin PyProof.Rows.F.entry_set_update_loop ?_
    rw [Around.under_plainId PyProof.Rows.F.plain_set_update_loop _]
    refine wpAny_bind (m := pyNext (.ref I)) (W.done s _ _ hst fun s' hm => wpAny_pure (hR s' (hm.mono fun b hb => List.mem_cons_of_mem _ hb) ?_))
    obtain ⟨o, es, ep, t, ho, rest⟩ := hS
    exact ⟨o, es, ep, t, hm.heap S _ (fun h => hSf (W.sub _ h)) ho, rest⟩
  | k + 1, i, s, hk, hi, hst, hS, hR => by
    have hlt : i < n := by omega
    refine codeAny_builtin PyProof.Rows.F.entry_set_update_loop ?_
    rw [Around.under_plainId PyProof.Rows.F.plain_set_update_loop _]
    refine wpAny_bind (m := pyNext (.ref I)) (W.item i s _ _ hlt hst fun v s' hP hst' hm => ?_)
    obtain ⟨t, rfl⟩ := hval i v hP
    have hS' : s'.heap.SetOf (PySem.strKind prog w) S (fun k' => (xs.take i).any (· == k')) i := by
      obtain ⟨o, es, ep, tb, ho, rest⟩ := hS
      exact ⟨o, es, ep, tb, hm.heap S _ (fun h => hSf (W.sub _ h)) ho, rest⟩
    show wpAny _ A.in1 (holding [Value.str (xs.getD i Str.empty) t] (setAdd S (.str (xs.getD i Str.empty) t)) >>= _) _ _ s'
    refine wpAny_bind (wpAny_holding ?_)
    unfold setAdd
    refine wpAny_holding (wpAny_bind ((PySem.strKind prog w).pyHash (k := xs.getD i Str.empty) (strKind_is _ _ _ _) ?_))
    refine wpAny_setAddHashed_of (knd := PySem.strKind prog w) (s := { s' with toks := s'.toks + 1 }) (strKind_is _ _ _ _) rfl hS' (by omega) fun h' hsb hS2 => ?_
    have hSi : h'.SetOf (PySem.strKind prog w) S (fun k' => (xs.take (i + 1)).any (· == k')) (i + 1) :=
      SetOf_congr hS2 (any_take xs i (by omega)) (by rw [not_taken xs hnd i (by omega)] <;> rfl)
    have mine : ∀ b, b ∈ fp → b ≠ S := fun b hb e => hSf (e ▸ hb)
    refine wpAny_pure ⟨plainId_quiet PyProof.Rows.F.plain_set_update_loop _, loop_strs W S hSf xs hsz hnd hb hval k (i + 1) _ (by omega) hlt (W.frame _ s' _ _ hst' (Nat.le_succ _) fun b hb o e => (hsb.2 b (mine b hb)).trans e) hSi fun s'' hm'' hS'' => ?_⟩
    exact hR s'' (Moved.trans W.gtrans ((hm.mono fun b hb => List.mem_cons_of_mem _ hb).then_heap (Nat.le_succ _) fun b o hb e => (hsb.2 b fun h => hb (h ▸ List.mem_cons_self)).trans e) hm'') hS''
end
section
variable {prog : Program} {w : World} {A : Around} {E : Value → Shared → Prop} {s : Shared}
theorem set_list {l : Addr} {items : Array Value} {xs : List Str} {Q : Value → Shared → Prop} (hh : A.handled = none) (hl : s.heap.IsList l items) (hi : PyProof.Rows.StrsAre items.toList xs) (hnd : xs.Nodup) (hb : items.size + 1 < scanBound)
    (h : ∀ (h' : Heap) (tk : Nat), h'.SetOf (PySem.strKind prog w) s.heap.objs.size (fun k' => (xs.take items.size).any (· == k')) items.size → (∀ b o, b < s.heap.objs.size → s.heap.get? b = some o → h'.get? b = some o) → Q (.ref s.heap.objs.size) { s with heap := h', toks := tk }) :
    wpAny (model prog w) A (call (.type "set") [.ref l]) Q E s := by
  obtain ⟨c, tl, hmro⟩ := PySem.F.called_set.mro
  have hmade := PySem.F.called_set.made
  have hsub := PySem.F.called_set.sub
  refine wpAny_call (codeAny_of_tree (show wpAny _ _ (callAny (.type "set") _) _ _ _ from wpAny_pure ⟨Code.quiet_builtin _ (by decide +kernel), codeAny_builtin PySem.F.entry_type_call ?_⟩))
  rw [Around.under_plain (weight_type_call_type "set" [.ref l] []) rfl]
  have hnt := PySem.F.called_set.notType
  have hcc := PySem.F.called_set.canCreate
  have hct := PySem.F.typeCall_set_1 (.ref l)
  repeat (any_goals (first | assumption | wp_step))
  refine codeAny_mono (code_set_new_1 (.ref l) (E := E) (Q₁ := fun obj s₁ => ∃ led : Bool, obj = .ref s.heap.objs.size ∧ s₁ = { s with heap := s.heap.push { cls := .type "set", dict := none, data := .set #[] 0 (.fresh 0 0 led) } }) fun led => ⟨led, rfl, rfl⟩) fun r s₁ hr => ?_
  cases r with
  | error e => exact hr
  | ok fl =>
    cases fl with
    | ret obj =>
      obtain ⟨led, rfl, rfl⟩ := hr
      have hS : (s.heap.push { cls := .type "set", dict := none, data := .set #[] 0 (.fresh 0 0 led) }).get? s.heap.objs.size = some { cls := .type "set", dict := none, data := .set #[] 0 (.fresh 0 0 led) } := Heap.get?_push_size _ rfl
      have hT : Shared.TypeIs { s with heap := s.heap.push { cls := .type "set", dict := none, data := .set #[] 0 (.fresh 0 0 led) } } (.ref s.heap.objs.size) "set" := ⟨_, hS, rfl⟩
      have hli := PySem.F.called_set.init.lookup
      have hbi := PySem.F.called_set.init.bind (.ref s.heap.objs.size)
      repeat (any_goals (first | assumption | wp_step))
      refine codeAny_mono (codeAny_call_builtin (R := wants (fun r s₂ => r = .none ∧ ∃ h' tk, s₂ = { s with heap := h', toks := tk } ∧ h'.SetOf (PySem.strKind prog w) s.heap.objs.size (fun k' => (xs.take items.size).any (· == k')) items.size ∧
        (∀ b o, b < s.heap.objs.size → s.heap.get? b = some o → h'.get? b = some o)) E) PySem.F.called_set.init.plain PySem.F.entry_set_init (check_set_init_1 hT ?_)) fun r₂ s₂ hr₂ => ?_
      · obtain ⟨ol, hol, hcl, nl, hdl⟩ := hl
        obtain ⟨ocls, odict, odata, oslots⟩ := ol
        simp only at hcl hdl
        subst hcl hdl
        have hol' : (s.heap.push { cls := .type "set", dict := none, data := .set #[] 0 (.fresh 0 0 led) }).get? l = some { cls := .type "list", dict := odict, data := .seq items nl, slots := oslots } := Heap.get?_push_of_some _ hol
        have hsls := PySem.F.sub_list_set
        have hslf := PySem.F.sub_list_frozenset
        have hne : (Value.type "list" == Value.type "dict") = false := by decide
        have hl1 : (s.heap.push { cls := .type "set", dict := none, data := .set #[] 0 (.fresh 0 0 led) }).IsList l items := ⟨_, hol', rfl, nl, rfl⟩
        unfold Builtin.«set.__init__» noKeywords Builtin.Frozenset.updateFrom
        generalize hPI : pyIter = PI
        wp_walk
        subst hPI
        refine wpAny_pyIter_list hl1 (wpAny_bind (wpAny_runValue ?_))
        have hlS : l < s.heap.objs.size := Heap.lt_size hol
        have hneI : l ≠ (s.heap.push { cls := .type "set", dict := none, data := .set #[] 0 (.fresh 0 0 led) }).objs.size := by
          rw [Heap.size_push]
          exact Nat.ne_of_lt (Nat.lt_succ_of_lt hlS)
        have hSf : s.heap.objs.size ∉ [(s.heap.push { cls := .type "set", dict := none, data := .set #[] 0 (.fresh 0 0 led) }).objs.size, l] := by
          rw [Heap.size_push]
          simp only [List.mem_cons, List.mem_singleton, List.not_mem_nil, or_false, not_or]
          exact ⟨Nat.ne_of_lt (Nat.lt_succ_self _), Nat.ne_of_gt hlS⟩
        have hsz : xs.length = items.size := by rw [← StrsAre.len_eq hi, Array.length_toList]
        refine loop_strs ((Walks.list (by simp [hh]) _ l hneI items).toS) s.heap.objs.size hSf xs hsz hnd hb (fun i v hv => SS.strs_at hi i v (by rw [Array.getElem?_toList]; exact hv)) (items.size - 0) 0 _ (by omega) (Nat.zero_le _)
          ⟨⟨_, Heap.get?_push_size _ rfl, rfl, rfl⟩, (hl1.push _)⟩ ?_ ?_
        · exact PyProof.Rows.SetOf_congr ((PyProof.Rows.setObjOf_fresh (knd := PySem.strKind prog w) led).setOf (Heap.get?_push_of_some _ hS) (by unfold scanBound; omega)) (fun _ => rfl) rfl
        · intro s' hm hS'
          obtain ⟨h', g', d', tk', os'⟩ := s'
          obtain rfl : g' = s.gens := hm.gens
          obtain rfl : d' = s.drawn := hm.drawn
          obtain rfl : os' = s.os := hm.os
          show wpAny _ _ _ _ _ _
          refine wpAny_pure (show wpAny _ _ (ret Value.none) _ _ _ from wpAny_pure ⟨rfl, h', tk', rfl, hS', fun b o hb e => ?_⟩)
          refine hm.heap b o ?_ (Heap.get?_push_of_some _ (Heap.get?_push_of_some _ e))
          simp only [List.mem_cons, List.mem_singleton, List.not_mem_nil, or_false, not_or]
          refine ⟨Nat.ne_of_lt hb, ?_⟩
          rw [Heap.size_push]
          exact Nat.ne_of_lt (Nat.lt_succ_of_lt hb)
      · cases r₂ with
        | error e => exact hr₂
        | ok fl₂ =>
          cases fl₂ with
          | ret r =>
            obtain ⟨rfl, h', tk, rfl, hS', hk'⟩ := hr₂
            repeat (any_goals (first | assumption | wp_step))
            exact h _ _ hS' hk'
          | _ => exact hr₂.elim
    | _ => exact hr.elim
theorem set_tuple {l : Addr} {items : Array Value} {xs : List Str} {Q : Value → Shared → Prop} (hh : A.handled = none) (hl : s.heap.IsTuple l items) (hi : PyProof.Rows.StrsAre items.toList xs) (hnd : xs.Nodup) (hb : items.size + 1 < scanBound)
    (h : ∀ (h' : Heap) (tk : Nat), h'.SetOf (PySem.strKind prog w) s.heap.objs.size (fun k' => (xs.take items.size).any (· == k')) items.size → (∀ b o, b < s.heap.objs.size → s.heap.get? b = some o → h'.get? b = some o) → Q (.ref s.heap.objs.size) { s with heap := h', toks := tk }) :
    wpAny (model prog w) A (call (.type "set") [.ref l]) Q E s := by
  obtain ⟨c, tl, hmro⟩ := PySem.F.called_set.mro
  have hmade := PySem.F.called_set.made
  have hsub := PySem.F.called_set.sub
  refine wpAny_call (codeAny_of_tree (show wpAny _ _ (callAny (.type "set") _) _ _ _ from wpAny_pure ⟨Code.quiet_builtin _ (by decide +kernel), codeAny_builtin PySem.F.entry_type_call ?_⟩))
  rw [Around.under_plain (weight_type_call_type "set" [.ref l] []) rfl]
  have hnt := PySem.F.called_set.notType
  have hcc := PySem.F.called_set.canCreate
  have hct := PySem.F.typeCall_set_1 (.ref l)
  repeat (any_goals (first | assumption | wp_step))
  refine codeAny_mono (code_set_new_1 (.ref l) (E := E) (Q₁ := fun obj s₁ => ∃ led : Bool, obj = .ref s.heap.objs.size ∧ s₁ = { s with heap := s.heap.push { cls := .type "set", dict := none, data := .set #[] 0 (.fresh 0 0 led) } }) fun led => ⟨led, rfl, rfl⟩) fun r s₁ hr => ?_
  cases r with
  | error e => exact hr
  | ok fl =>
    cases fl with
    | ret obj =>
      obtain ⟨led, rfl, rfl⟩ := hr
      have hS : (s.heap.push { cls := .type "set", dict := none, data := .set #[] 0 (.fresh 0 0 led) }).get? s.heap.objs.size = some { cls := .type "set", dict := none, data := .set #[] 0 (.fresh 0 0 led) } := Heap.get?_push_size _ rfl
      have hT : Shared.TypeIs { s with heap := s.heap.push { cls := .type "set", dict := none, data := .set #[] 0 (.fresh 0 0 led) } } (.ref s.heap.objs.size) "set" := ⟨_, hS, rfl⟩
      have hli := PySem.F.called_set.init.lookup
      have hbi := PySem.F.called_set.init.bind (.ref s.heap.objs.size)
      repeat (any_goals (first | assumption | wp_step))
      refine codeAny_mono (codeAny_call_builtin (R := wants (fun r s₂ => r = .none ∧ ∃ h' tk, s₂ = { s with heap := h', toks := tk } ∧ h'.SetOf (PySem.strKind prog w) s.heap.objs.size (fun k' => (xs.take items.size).any (· == k')) items.size ∧
        (∀ b o, b < s.heap.objs.size → s.heap.get? b = some o → h'.get? b = some o)) E) PySem.F.called_set.init.plain PySem.F.entry_set_init (check_set_init_1 hT ?_)) fun r₂ s₂ hr₂ => ?_
      · obtain ⟨ol, hol, hcl, nl, hdl⟩ := hl
        obtain ⟨ocls, odict, odata, oslots⟩ := ol
        simp only at hcl hdl
        subst hcl hdl
        have hol' : (s.heap.push { cls := .type "set", dict := none, data := .set #[] 0 (.fresh 0 0 led) }).get? l = some { cls := .type "tuple", dict := odict, data := .seq items nl, slots := oslots } := Heap.get?_push_of_some _ hol
        have hsls := PySem.F.sub_tuple_set
        have hslf := PySem.F.sub_tuple_frozenset
        have hne : (Value.type "tuple" == Value.type "dict") = false := by decide
        have hl1 : (s.heap.push { cls := .type "set", dict := none, data := .set #[] 0 (.fresh 0 0 led) }).IsTuple l items := ⟨_, hol', rfl, nl, rfl⟩
        unfold Builtin.«set.__init__» noKeywords Builtin.Frozenset.updateFrom
        generalize hPI : pyIter = PI
        wp_walk
        subst hPI
        refine wpAny_pyIter_tuple hl1 (wpAny_bind (wpAny_runValue ?_))
        have hlS : l < s.heap.objs.size := Heap.lt_size hol
        have hneI : l ≠ (s.heap.push { cls := .type "set", dict := none, data := .set #[] 0 (.fresh 0 0 led) }).objs.size := by
          rw [Heap.size_push]
          exact Nat.ne_of_lt (Nat.lt_succ_of_lt hlS)
        have hSf : s.heap.objs.size ∉ [(s.heap.push { cls := .type "set", dict := none, data := .set #[] 0 (.fresh 0 0 led) }).objs.size, l] := by
          rw [Heap.size_push]
          simp only [List.mem_cons, List.mem_singleton, List.not_mem_nil, or_false, not_or]
          exact ⟨Nat.ne_of_lt (Nat.lt_succ_self _), Nat.ne_of_gt hlS⟩
        have hsz : xs.length = items.size := by rw [← StrsAre.len_eq hi, Array.length_toList]
        refine loop_strs ((Walks.tuple (by simp [hh]) _ l hneI items).toS) s.heap.objs.size hSf xs hsz hnd hb (fun i v hv => SS.strs_at hi i v (by rw [Array.getElem?_toList]; exact hv)) (items.size - 0) 0 _ (by omega) (Nat.zero_le _)
          ⟨⟨_, Heap.get?_push_size _ rfl, rfl, rfl⟩, (hl1.push _)⟩ ?_ ?_
        · exact PyProof.Rows.SetOf_congr ((PyProof.Rows.setObjOf_fresh (knd := PySem.strKind prog w) led).setOf (Heap.get?_push_of_some _ hS) (by unfold scanBound; omega)) (fun _ => rfl) rfl
        · intro s' hm hS'
          obtain ⟨h', g', d', tk', os'⟩ := s'
          obtain rfl : g' = s.gens := hm.gens
          obtain rfl : d' = s.drawn := hm.drawn
          obtain rfl : os' = s.os := hm.os
          show wpAny _ _ _ _ _ _
          refine wpAny_pure (show wpAny _ _ (ret Value.none) _ _ _ from wpAny_pure ⟨rfl, h', tk', rfl, hS', fun b o hb e => ?_⟩)
          refine hm.heap b o ?_ (Heap.get?_push_of_some _ (Heap.get?_push_of_some _ e))
          simp only [List.mem_cons, List.mem_singleton, List.not_mem_nil, or_false, not_or]
          refine ⟨Nat.ne_of_lt hb, ?_⟩
          rw [Heap.size_push]
          exact Nat.ne_of_lt (Nat.lt_succ_of_lt hb)
      · cases r₂ with
        | error e => exact hr₂
        | ok fl₂ =>
          cases fl₂ with
          | ret r =>
            obtain ⟨rfl, h', tk, rfl, hS', hk'⟩ := hr₂
            repeat (any_goals (first | assumption | wp_step))
            exact h _ _ hS' hk'
          | _ => exact hr₂.elim
    | _ => exact hr.elim
end
def tLenSetS (K : PySem.W.Frag) (ta : TE) : TE := fun σ H Q => ta σ H fun x H1 => ∃ l, ∃ xs : List Str, x = .ref l ∧ Sq K H1 l (xs.map V.str) ∧ xs.Nodup ∧ xs.length ≤ 1000 ∧ Q (.int xs.length) H1
theorem pe_lenSetS {X : Cx} {a : Expr} {ta : TE} {p p2 q pos : Pos} (hg : Gl X "len") (hm : X.mg "len" = none) (hg2 : Gl X "set") (hm2 : X.mg "set" = none) (ha : PE X a ta) (hc : X.calm = true := by rfl)
    (na : starEach [a] X.env = (false, eval a X.env) :: starEach [] X.env := by rfl) : PE X (.Call (.Name "len" p) [.Call (.Name "set" p2) [a] [] q] [] pos) (tLenSetS X.K ta) := by
  refine ⟨fun pins s σ H Q I h => ?_⟩
  refine Call_ (ld_blt I hg hm b_len ?_)
  refine PyProof.Rows.callWith_builtin1 (PyProof.Rows.args_cons ?_ rfl) rfl rfl
  refine Call_ (ld_blt I hg2 hm2 b_set ?_)
  refine PyProof.Rows.callWith_type1 (PyProof.Rows.args_cons (thn (ha.run pins s σ H _ I h) fun v s1 ⟨x, H1, I1, r1, q1⟩ => PyProof.Rows.args_nil ?_) na) na rfl
  obtain ⟨l, xs, rfl, hq, hnd, hl, q1⟩ := q1
  cases r1
  have fin : ∀ (its : List Value), Vals (xs.map V.str) its → ∀ (h' : Heap) (tk : Nat), h'.SetOf (PySem.strKind X.prog X.w) s1.heap.objs.size (fun k' => (xs.take its.toArray.size).any (· == k')) its.toArray.size →
      (∀ b o, b < s1.heap.objs.size → s1.heap.get? b = some o → h'.get? b = some o) →
      wpAny (model X.prog X.w) X.A (spliced (backTo pos (starEach [] X.env))) (fun vs s₂ => wpAny (model X.prog X.w) X.A (call (.builtin "len") (Value.ref s1.heap.objs.size :: vs)) (EP X pins σ Q) X.xe s₂) X.xe { s1 with heap := h', toks := tk } := by
    intro its r h' tk hS hk
    refine PyProof.Rows.args_nil ?_
    have hle : its.toArray.size = xs.length := by rw [List.size_toArray, ← r.length, List.length_map]
    rw [hle] at hS
    obtain ⟨o, es, ep, t, ho, hex, hd, _, _, _, hf, hn⟩ := hS
    have I2 : Inv X pins σ H1 { s1 with heap := h', toks := tk } := I1.kept fun b o e => hk b o (Heap.lt_size e) e
    exact call_len_set ho hex hd hf (by rw [hn] <;> omega) ⟨.int xs.length, H1, I2.tok _, ⟨_, by rw [hn]⟩, q1⟩
  rcases hq with hq | hq
  · obtain ⟨its, r, pl, hz⟩ := I1.list hq
    have hle : its.length = xs.length := by rw [← r.length, List.length_map]
    exact set_list (I1.ok.hd hc) pl.isList (by simpa using strsAre_of r) hnd (by unfold scanBound; simp; omega) fun h' tk hS hk => fin its r h' tk hS hk
  · obtain ⟨its, r, pl, hz⟩ := I1.tuple hq
    have hle : its.length = xs.length := by rw [← r.length, List.length_map]
    exact set_tuple (I1.ok.hd hc) pl (by simpa using strsAre_of r) hnd (by unfold scanBound; simp; omega) fun h' tk hS hk => fin its r h' tk hS hk
end Lk


set_option maxHeartbeats 8000000
namespace Lk
open PySem PySem.Spec PyProof.Rows PySem.W L2
/-! ### list(zip(a, b)) over two iterators of any kind: the tuples given out are held -/
section
variable {prog : Program} {w : World} {A : Around} {E : Value → Shared → Prop} {s : Shared} {z TI TO T i1 i2 : Addr} {fp1 fp2 : List Addr} {n1 n2 i : Nat} {P1 P2 : Nat → Value → Prop} {St1 St2 : Nat → Heap → Prop} {f : Bool} {oT : Obj}
theorem zh_item {Q : Value → Shared → Prop} (S : ZipSep2 z TI TO i1 i2 fp1 fp2) (D1 : Draws prog w A i1 fp1 n1 P1 St1) (D2 : Draws prog w A i2 fp2 n2 P2 St2)
    (hz : IsZipHeld s.heap z TI TO T f) (hT : s.heap.get? T = some oT) (hTI : IsTupOf2 s.heap TI (.ref i1) (.ref i2)) (st1 : St1 i s.heap) (st2 : St2 i s.heap) (hlt1 : i < n1) (hlt2 : i < n2)
    (hQ : ∀ x1 x2 h' tk, P1 i x1 → P2 i x2 → IsZipHeld h' z TI TO T true → St1 (i + 1) h' → St2 (i + 1) h' → IsTupOf2 h' s.heap.objs.size x1 x2 → h'.objs.size = s.heap.objs.size + 1 →
      (∀ c o, c ≠ z → c ≠ i1 → c ≠ i2 → s.heap.get? c = some o → h'.get? c = some o) → Q (.ref s.heap.objs.size) { s with heap := h', toks := tk }) :
    wpAny (model prog w) A (Builtin.«zip.__next__» ⟨[.ref z], []⟩) (fun fin s' => ∃ v, fin = .done (.ret v) ∧ Q v s') E s := by
  obtain ⟨hp, g, d, tk0, os⟩ := s
  show wpAny _ _ (field (.ref z) 2 >>= _) _ _ _
  refine wpAny_bind (wpAny_field hz rfl (x := .bool false) rfl (show wpAny _ _ (field (.ref z) 3 >>= _) _ _ _ from wpAny_bind (wpAny_field hz rfl (x := .ref TI) rfl (wpAny_bind (wpAny_seqItems hTI rfl ?_)))))
  show wpAny _ _ (Builtin.SmallTypes.ownedTupleIsFree (.ref z) >>= _) _ _ _
  refine wpAny_bind (wpAny_tupleHeld_zip hz hT fun g0 hz0 hs0 => ?_)
  replace hs0 : Heap.SameBut z hp g0 := hs0
  simp only [Bool.false_eq_true, if_false]
  refine wpAny_bind ?_
  rw [← Array.forIn_toList]
  simp only [List.forIn_cons, List.forIn_nil]
  refine wpAny_bind (wpAny_bind (wpAny_holding (show wpAny _ _ (Builtin.SmallTypes.nextOf (.ref i1) >>= _) _ _ ⟨g0, g, d, tk0, os⟩ from ?_)))
  refine wpAny_bind (D1.item i _ _ _ hlt1 (D1.over st1 hs0 S.zf1) fun x1 p1 tk1 hx1 sn1 hp1 => wpAny_pure (wpAny_pure ?_))
  replace hp1 : Heap.SameBut i1 g0 p1 := hp1
  refine wpAny_bind (wpAny_bind (wpAny_holding (show wpAny _ _ (Builtin.SmallTypes.nextOf (.ref i2) >>= _) _ _ ⟨p1, g, d, tk1, os⟩ from ?_)))
  refine wpAny_bind (D2.item i _ _ _ hlt2 (D2.over (D2.over st2 hs0 S.zf2) hp1 S.sep1_2) fun x2 p2 tk2 hx2 sn2 hp2 => wpAny_pure (wpAny_pure (wpAny_pure ?_)))
  replace hp2 : Heap.SameBut i2 p1 p2 := hp2
  show wpAny _ _ (newTuple [x1, x2] >>= _) _ _ _
  refine wpAny_bind (wpAny_newTuple (wpAny_pure ⟨_, rfl, ?_⟩))
  have hsz : p2.objs.size = hp.objs.size := by rw [hp2.1, hp1.1, hs0.1]
  have hz3 : IsZipHeld p2 z TI TO T true := hp2.extBut _ _ S.zi2 (hp1.extBut _ _ S.zi1 hz0)
  have hk : ∀ c o, c ≠ z → c ≠ i1 → c ≠ i2 → hp.get? c = some o → p2.get? c = some o := fun c o c1 c2 c3 e => hp2.extBut _ _ c3 (hp1.extBut _ _ c2 (hs0.extBut _ _ c1 e))
  show Q (.ref p2.objs.size) ⟨p2.push { cls := .type "tuple", data := .seq #[x1, x2] }, g, d, tk2, os⟩
  have hT4 : IsTupOf2 (p2.push { cls := .type "tuple", data := .seq #[x1, x2] }) p2.objs.size x1 x2 := Heap.get?_push_size _ rfl
  have hz4 : (p2.push { cls := .type "tuple", data := .seq #[x1, x2] }).objs.size = p2.objs.size + 1 := Heap.size_push ..
  rw [hsz] at hT4 hz4 ⊢
  exact hQ x1 x2 _ tk2 hx1 hx2 (Heap.get?_push_of_some _ hz3) (D1.frame _ _ _ (D1.over sn1 hp2 S.sep2_1) fun b hb o e => Heap.get?_push_of_some _ e) (D2.frame _ _ _ sn2 fun b hb o e => Heap.get?_push_of_some _ e) hT4 hz4
    fun c o c1 c2 c3 e => Heap.get?_push_of_some _ (hk c o c1 c2 c3 e)
theorem zh_end {Q : Fin → Shared → Prop} (S : ZipSep2 z TI TO i1 i2 fp1 fp2) (D1 : Draws prog w A i1 fp1 n1 P1 St1)
    (hz : IsZipHeld s.heap z TI TO T f) (hT : s.heap.get? T = some oT) (hTI : IsTupOf2 s.heap TI (.ref i1) (.ref i2)) (st1 : St1 n1 s.heap)
    (hE : ∀ h' e, (∀ c o, c ≠ z → c ≠ i1 → c ≠ i2 → s.heap.get? c = some o → h'.get? c = some o) → (∃ o, h'.get? e = some o ∧ o.cls = .type "StopIteration") → E (.ref e) { s with heap := h' }) :
    wpAny (model prog w) A (Builtin.«zip.__next__» ⟨[.ref z], []⟩) Q E s := by
  show wpAny _ _ (field (.ref z) 2 >>= _) _ _ _
  refine wpAny_bind (wpAny_field hz rfl (x := .bool false) rfl (show wpAny _ _ (field (.ref z) 3 >>= _) _ _ _ from wpAny_bind (wpAny_field hz rfl (x := .ref TI) rfl (wpAny_bind (wpAny_seqItems hTI rfl ?_)))))
  show wpAny _ _ (Builtin.SmallTypes.ownedTupleIsFree (.ref z) >>= _) _ _ _
  refine wpAny_bind (wpAny_tupleHeld_zip hz hT fun g0 hz0 hs0 => ?_)
  simp only [Bool.false_eq_true, if_false]
  refine wpAny_bind ?_
  rw [← Array.forIn_toList]
  simp only [List.forIn_cons, List.forIn_nil]
  refine wpAny_bind (wpAny_bind (wpAny_holding (show wpAny _ _ (Builtin.SmallTypes.nextOf (.ref i1) >>= _) _ _ { s with heap := g0 } from ?_)))
  exact wpAny_bind (D1.done _ _ _ (D1.over st1 hs0 S.zf1) fun h2 e hs2 he => hE h2 e (fun c o c1 c2 _ x => hs2 _ _ c2 (hs0.extBut _ _ c1 x)) he)
theorem zh_next {Q : Option Value → Shared → Prop} (S : ZipSep2 z TI TO i1 i2 fp1 fp2) (D1 : Draws prog w A.in1 i1 fp1 n1 P1 St1) (D2 : Draws prog w A.in1 i2 fp2 n2 P2 St2)
    (hz : IsZipHeld s.heap z TI TO T f) (hT : s.heap.get? T = some oT) (hTI : IsTupOf2 s.heap TI (.ref i1) (.ref i2)) (st1 : St1 i s.heap) (st2 : St2 i s.heap) (hlt1 : i < n1) (hlt2 : i < n2)
    (hQ : ∀ x1 x2 h' tk, P1 i x1 → P2 i x2 → IsZipHeld h' z TI TO T true → St1 (i + 1) h' → St2 (i + 1) h' → IsTupOf2 h' s.heap.objs.size x1 x2 → h'.objs.size = s.heap.objs.size + 1 →
      (∀ c o, c ≠ z → c ≠ i1 → c ≠ i2 → s.heap.get? c = some o → h'.get? c = some o) → Q (some (.ref s.heap.objs.size)) { s with heap := h', toks := tk }) :
    wpAny (model prog w) A (pyNext (.ref z)) Q E s := by
  have hty : s.TypeIs (.ref z) "zip" := ⟨_, hz, rfl⟩
  unfold pyNext
  exact wpAny_bind (wpAny_attempt (wpAny_callSpecial?_slot (name := Str.ofString "__next__") hty F.slot_zip_next (wpAny_call_entry F.slot_zip_next hty F.entry_zip_next
    (zh_item S D1 D2 hz hT hTI st1 st2 hlt1 hlt2 fun x1 x2 h' tk y1 y2 b1 d1 d2 b5 b6 b7 => wpAny_pure (hQ x1 x2 h' tk y1 y2 b1 d1 d2 b5 b6 b7)) (F.args_zip_next_1 _))))
theorem zh_last {Q : Option Value → Shared → Prop} (S : ZipSep2 z TI TO i1 i2 fp1 fp2) (D1 : Draws prog w A.in1 i1 fp1 n1 P1 St1)
    (hz : IsZipHeld s.heap z TI TO T f) (hT : s.heap.get? T = some oT) (hTI : IsTupOf2 s.heap TI (.ref i1) (.ref i2)) (st1 : St1 n1 s.heap)
    (hQ : ∀ h', (∀ c o, c ≠ z → c ≠ i1 → c ≠ i2 → s.heap.get? c = some o → h'.get? c = some o) → Q none { s with heap := h' }) : wpAny (model prog w) A (pyNext (.ref z)) Q E s := by
  have hty : s.TypeIs (.ref z) "zip" := ⟨_, hz, rfl⟩
  unfold pyNext
  refine wpAny_bind (wpAny_attempt (wpAny_callSpecial?_slot (name := Str.ofString "__next__") hty F.slot_zip_next (wpAny_call_entry F.slot_zip_next hty F.entry_zip_next (zh_end S D1 hz hT hTI st1 fun h' e hk he => ?_) (F.args_zip_next_1 _))))
  obtain ⟨o, ho, hc⟩ := he
  exact wpAny_bind (wpAny_isInstance (T := "StopIteration") (b := true) ⟨o, ho, hc⟩ isSubtype_stop (wpAny_pure (hQ _ hk)))
end
/-- where a zip that is being listed stands -/
structure ZlSt (z TI TO i1 i2 S : Addr) (St1 St2 : Nat → Heap → Prop) (i : Nat) (h : Heap) : Prop where
  ti : IsTupOf2 h TI (.ref i1) (.ref i2)
  s1 : St1 i h
  s2 : St2 i h
  zz : (i = 0 ∧ IsZip h z TI TO .none ∧ IsTupOf2 h TO .none .none) ∨ ∃ T f oT, IsZipHeld h z TI TO T f ∧ h.get? T = some oT ∧ T ≠ z ∧ T ≠ i1 ∧ T ≠ i2 ∧ T ≠ S
/-- the tuples given out -/
structure ZlG (xs ys : Array Value) (lo : Addr) (h : Heap) (as : List Addr) : Prop where
  rise : as.Pairwise (· < ·)
  above : ∀ a ∈ as, lo < a
  pairs : ∀ (j : Nat) (a : Addr), as[j]? = some a → ∃ x y, xs[j]? = some x ∧ ys[j]? = some y ∧ IsTupOf2 h a x y
theorem ZlG.there {xs ys : Array Value} {lo : Addr} {h : Heap} {as : List Addr} (g : ZlG xs ys lo h as) {a : Addr} (ha : a ∈ as) : a < h.objs.size := by
  obtain ⟨j, hj⟩ := List.mem_iff_getElem?.mp ha
  obtain ⟨_, _, _, _, e⟩ := g.pairs j a hj
  exact Heap.lt_size e
section
variable {prog : Program} {w : World} {A : Around} {s : Shared} {R : Result → Shared → Prop} {z TI TO i1 i2 : Addr} {fp1 fp2 : List Addr} {xs ys : Array Value} {St1 St2 : Nat → Heap → Prop}
theorem zl_loop {S : Addr} (hh : A.handled = none) (Z : ZipSep2 z TI TO i1 i2 fp1 fp2) (hn : xs.size = ys.size) (hlen : xs.size ≤ sizeLine) (D1 : ∀ A : Around, A.handled = none → Draws prog w A i1 fp1 xs.size (fun i v => xs[i]? = some v) St1)
    (D2 : ∀ A : Around, A.handled = none → Draws prog w A i2 fp2 ys.size (fun i v => ys[i]? = some v) St2) (hS1 : S ∉ fp1) (hS2 : S ∉ fp2) (hSz : z < S) (hST : TO < S) (hSI : TI < S) (h1S : i1 < S) (h2S : i2 < S) (res : Value) {h₁ : Heap}
    (hR : ∀ h' tk acc c as, (∀ b o, b ≠ S → b ≠ z → b ≠ TO → b ≠ i1 → b ≠ i2 → h₁.get? b = some o → h'.get? b = some o) → h'.get? S = some { cls := .type "list", dict := none, data := .seq acc c, slots := #[] } → as.length = xs.size → ZlG xs ys S h' as →
      acc.toList = as.map Value.ref → R (.ok (.ret res)) { s with heap := h', toks := tk }) :
    ∀ (k i : Nat) (h : Heap) (tk c : Nat) (acc : Array Value) (as : List Addr), xs.size - i = k → i ≤ xs.size → ZlSt z TI TO i1 i2 S St1 St2 i h → (∀ b o, b ≠ S → b ≠ z → b ≠ TO → b ≠ i1 → b ≠ i2 → h₁.get? b = some o → h.get? b = some o) →
      h.get? S = some { cls := .type "list", dict := none, data := .seq acc c, slots := #[] } → acc.toList = as.map Value.ref → as.length = i → ZlG xs ys S h as →
      codeAny (model prog w) A (.builtin "list.extend.loop" ⟨[.ref S, .ref z, res], []⟩) R { s with heap := h, toks := tk }
  | 0, i, h, tk, c, acc, as, hk, hi, st, hkeep, hS, hacc, hal, hG => by
    have hin : i = xs.size := by omega
    subst hin
    refine codeAny_builtin PySem.F.entry_extend_loop ?_
    rw [Around.under_plainId PySem.F.plain_extend_loop _]
    have fin : ∀ (h' : Heap) (tk' : Nat), (∀ c o, c ≠ z → c ≠ TO → c ≠ i1 → c ≠ i2 → h.get? c = some o → h'.get? c = some o) → R (.ok (.ret res)) { s with heap := h', toks := tk' } := fun h' tk' he =>
      hR h' tk' acc c as (fun b o b1 b2 b3 b4 b5 e => he b o b2 b3 b4 b5 (hkeep b o b1 b2 b3 b4 b5 e)) (he S _ (Nat.ne_of_gt hSz) (Nat.ne_of_gt hST) (Nat.ne_of_gt h1S) (Nat.ne_of_gt h2S) hS) hal
        ⟨hG.rise, hG.above, fun j a hj => by
          obtain ⟨x, y, e1, e2, e3⟩ := hG.pairs j a hj
          have hb := hG.above a (List.mem_of_getElem? hj)
          exact ⟨x, y, e1, e2, he a _ (Nat.ne_of_gt (Nat.lt_trans hSz hb)) (Nat.ne_of_gt (Nat.lt_trans hST hb)) (Nat.ne_of_gt (Nat.lt_trans h1S hb)) (Nat.ne_of_gt (Nat.lt_trans h2S hb)) e3⟩⟩ hacc
    refine wpAny_bind (m := pyNext (.ref z)) ?_
    rcases st.zz with ⟨e0, hz, hT⟩ | ⟨T, f, oT, hz, hT, _, _, _, _⟩
    · exact wpAny_pyNext_zipD2_end (s := { s with heap := h, toks := tk }) Z (D1 _ hh) (D2 _ hh) hz st.ti hT st.s1 st.s2 (Nat.le_refl _) (by omega) (.inl rfl) fun h' tk' he => wpAny_pure (fin h' tk' he)
    · exact zh_last (s := { s with heap := h, toks := tk }) Z (D1 _ hh) hz hT st.ti st.s1 fun h' he => wpAny_pure (fin h' tk fun c o c1 _ c3 c4 e => he c o c1 c3 c4 e)
  | k + 1, i, h, tk, c, acc, as, hk, hi, st, hkeep, hS, hacc, hal, hG => by
    have hlt : i < xs.size := by omega
    have hsz : acc.size = i := by rw [← Array.length_toList, hacc, List.length_map, hal]
    have hSl : S < h.objs.size := Heap.lt_size hS
    refine codeAny_builtin PySem.F.entry_extend_loop ?_
    rw [Around.under_plainId PySem.F.plain_extend_loop _]
    have go : ∀ (h' : Heap) (tk' : Nat) (x y : Value), xs[i]? = some x → ys[i]? = some y → IsTupOf2 h' TI (.ref i1) (.ref i2) → St1 (i + 1) h' → St2 (i + 1) h' → IsTupOf2 h' h.objs.size x y →
        (∃ T f oT, IsZipHeld h' z TI TO T f ∧ h'.get? T = some oT ∧ T ≠ z ∧ T ≠ i1 ∧ T ≠ i2 ∧ T ≠ S) → (∀ c o, c ≠ z → c ≠ TO → c ≠ i1 → c ≠ i2 → h.get? c = some o → h'.get? c = some o) →
        wpAny (model prog w) A.in1 (updateSeq S (·.push (Value.ref h.objs.size)) >>= fun _ => again (.builtin "list.extend.loop" ⟨[.ref S, .ref z, res], []⟩)) (fun fin s' => match fin with | .done f => R (.ok f) s' | .again c' => c'.quiet = true ∧ codeAny (model prog w) A c' R s') (fun e s' => R (.error e) s') { s with heap := h', toks := tk' } := by
      intro h' tk' x y ex ey hti hs1 hs2 ht hzz hkp
      have hS' := hkp S _ (Nat.ne_of_gt hSz) (Nat.ne_of_gt hST) (Nat.ne_of_gt h1S) (Nat.ne_of_gt h2S) hS
      have up : ∀ b o, b ≠ S → h'.get? b = some o → (h'.update S (Obj.mapSeq (·.push (Value.ref h.objs.size)))).get? b = some o := fun b o hb e => (Heap.get?_update_other _ _ (Ne.symm hb)).trans e
      refine wpAny_bind (wpAny_updateSeq hS' rfl (wpAny_pure ⟨plainId_quiet PySem.F.plain_extend_loop _, zl_loop hh Z hn hlen D1 D2 hS1 hS2 hSz hST hSI h1S h2S res hR k (i + 1) _ tk' _ (acc.push (Value.ref h.objs.size)) (as ++ [h.objs.size]) (by omega) hlt ⟨up _ _ (Nat.ne_of_lt hSI) hti, ?_, ?_, ?_⟩
        (fun b o b1 b2 b3 b4 b5 e => up b o b1 (hkp b o b2 b3 b4 b5 (hkeep b o b1 b2 b3 b4 b5 e))) (Heap.get?_update_self _ hS' rfl) (by rw [Array.toList_push, hacc, List.map_append]; rfl) (by rw [List.length_append, hal]; rfl) ⟨?_, ?_, ?_⟩⟩) (by rw [hsz]; omega) (by show (acc.push (Value.ref h.objs.size)).size ≤ sizeLine + 1; rw [Array.size_push, hsz]; omega))
      · exact (D1 A hh).frame _ _ _ hs1 fun b hb o e => up b o (fun q => hS1 (q ▸ hb)) e
      · exact (D2 A hh).frame _ _ _ hs2 fun b hb o e => up b o (fun q => hS2 (q ▸ hb)) e
      · obtain ⟨T, f, oT, q1, q2, q3, q4, q5, q6⟩ := hzz
        exact .inr ⟨T, f, oT, up _ _ (Nat.ne_of_lt hSz) q1, up _ _ q6 q2, q3, q4, q5, q6⟩
      · refine List.pairwise_append.mpr ⟨hG.rise, List.pairwise_singleton _ _, fun a ha b hb => ?_⟩
        rw [List.mem_singleton.mp hb]
        exact hG.there ha
      · intro a ha
        rcases List.mem_append.mp ha with ha | ha
        · exact hG.above a ha
        · rw [List.mem_singleton.mp ha]; exact hSl
      · intro j b hj
        rcases Nat.lt_trichotomy j as.length with q | q | q
        · rw [List.getElem?_append_left q] at hj
          obtain ⟨x', y', e1, e2, e3⟩ := hG.pairs j b hj
          have hb := hG.above b (List.mem_of_getElem? hj)
          exact ⟨x', y', e1, e2, up b _ (Nat.ne_of_gt hb) (hkp b _ (Nat.ne_of_gt (Nat.lt_trans hSz hb)) (Nat.ne_of_gt (Nat.lt_trans hST hb)) (Nat.ne_of_gt (Nat.lt_trans h1S hb)) (Nat.ne_of_gt (Nat.lt_trans h2S hb)) e3)⟩
        · subst q
          have hb : h.objs.size = b := by simpa using hj
          subst hb
          exact ⟨x, y, by rw [hal]; exact ex, by rw [hal]; exact ey, up _ _ (Nat.ne_of_gt hSl) ht⟩
        · have hnone : (as ++ [h.objs.size])[j]? = none := List.getElem?_eq_none (by rw [List.length_append, List.length_singleton]; omega)
          rw [hnone] at hj; cases hj
    have nz : h.objs.size ≠ z := Nat.ne_of_gt (Nat.lt_trans hSz hSl)
    have n1 : h.objs.size ≠ i1 := Nat.ne_of_gt (Nat.lt_trans h1S hSl)
    have n2 : h.objs.size ≠ i2 := Nat.ne_of_gt (Nat.lt_trans h2S hSl)
    have nS : h.objs.size ≠ S := Nat.ne_of_gt hSl
    refine wpAny_bind (m := pyNext (.ref z)) ?_
    rcases st.zz with ⟨e0, hz, hT⟩ | ⟨T, f, oT, hz, hT, r1, r2, r3, r4⟩
    · exact wpAny_pyNext_zipD2_item (s := { s with heap := h, toks := tk }) Z (D1 _ hh) (D2 _ hh) hz st.ti hT st.s1 st.s2 hlt (by omega) fun x y h' tk' ex ey b1 b2 d1 d2 b5 b6 hkp =>
        go h' tk' x y ex ey (hkp _ _ Z.TIz Z.TITO Z.TIi1 Z.TIi2 st.ti) d1 d2 b5 ⟨h.objs.size, false, _, b1, b5, nz, n1, n2, nS⟩ hkp
    · exact zh_next (s := { s with heap := h, toks := tk }) Z (D1 _ hh) (D2 _ hh) hz hT st.ti st.s1 st.s2 hlt (by omega) fun x y h' tk' ex ey b1 d1 d2 b5 b6 hkp =>
        go h' tk' x y ex ey (hkp _ _ Z.TIz Z.TIi1 Z.TIi2 st.ti) d1 d2 b5 ⟨T, true, oT, b1, hkp _ _ r1 r2 r3 hT, r1, r2, r3, r4⟩ fun c o c1 _ c3 c4 e => hkp c o c1 c3 c4 e
end
end Lk

set_option maxHeartbeats 8000000
namespace Lk
open PySem PySem.Spec PyProof.Rows PySem.W L2
theorem zip_no_len : typeLookup (.type "zip") "__len__" = pure none := am_miss_of_fast (by decide +kernel)
theorem zip_no_hint : typeLookup (.type "zip") "__length_hint__" = pure none := am_miss_of_fast (by decide +kernel)
section
variable {prog : Program} {w : World} {A : Around} {E : Value → Shared → Prop} {s : Shared} {z : Addr}
theorem zl_hint {Q : Bool → Shared → Prop} (hT : s.TypeIs (.ref z) "zip") (h : Q true s) : wpAny (model prog w) A (Builtin.List.listLengthHint (.ref z)) Q E s := by
  unfold Builtin.List.listLengthHint
  refine wpAny_bind (wpAny_specialOf hT zip_no_len ?_)
  refine wpAny_ite_split (fun hab => absurd hab (by decide)) (fun _ => ?_)
  refine wpAny_ite_split (fun hab => absurd hab (by decide)) (fun _ => ?_)
  refine wpAny_bind (wpAny_specialOf hT zip_no_hint ?_)
  exact wpAny_pure h
end
section
variable {prog : Program} {w : World} {A : Around} {s : Shared} {z TI TO i1 i2 : Addr} {fp1 fp2 : List Addr} {xs ys : Array Value} {St1 St2 : Nat → Heap → Prop}
/-- what the rest asks of a new zip -/
structure ZlOk (prog : Program) (w : World) (z TI TO i1 i2 : Addr) (fp1 fp2 : List Addr) (xs ys : Array Value) (St1 St2 : Nat → Heap → Prop) (h : Heap) : Prop where
  sep : ZipSep2 z TI TO i1 i2 fp1 fp2
  len : xs.size = ys.size
  fits : xs.size ≤ sizeLine
  d1 : ∀ A : Around, A.handled = none → Draws prog w A i1 fp1 xs.size (fun i v => xs[i]? = some v) St1
  d2 : ∀ A : Around, A.handled = none → Draws prog w A i2 fp2 ys.size (fun i v => ys[i]? = some v) St2
  hz : IsZip h z TI TO .none
  hTI : IsTupOf2 h TI (.ref i1) (.ref i2)
  hTO : IsTupOf2 h TO .none .none
  s1 : St1 0 h
  s2 : St2 0 h
  low1 : ∀ b ∈ fp1, b < h.objs.size
  low2 : ∀ b ∈ fp2, b < h.objs.size
theorem ZlOk.keep {h h' : Heap} {prog : Program} {w : World} (Z : ZlOk prog w z TI TO i1 i2 fp1 fp2 xs ys St1 St2 h) (k : ∀ b o, b < h.objs.size → h.get? b = some o → h'.get? b = some o) (hs : h.objs.size ≤ h'.objs.size) : ZlOk prog w z TI TO i1 i2 fp1 fp2 xs ys St1 St2 h' :=
  { sep := Z.sep, len := Z.len, fits := Z.fits, d1 := Z.d1, d2 := Z.d2, hz := k _ _ (Heap.lt_size Z.hz) Z.hz, hTI := k _ _ (Heap.lt_size Z.hTI) Z.hTI, hTO := k _ _ (Heap.lt_size Z.hTO) Z.hTO,
    s1 := (Z.d1 callerA rfl).frame _ _ _ Z.s1 fun b hb o e => k b o (Z.low1 b hb) e, s2 := (Z.d2 callerA rfl).frame _ _ _ Z.s2 fun b hb o e => k b o (Z.low2 b hb) e,
    low1 := fun b hb => Nat.lt_of_lt_of_le (Z.low1 b hb) hs, low2 := fun b hb => Nat.lt_of_lt_of_le (Z.low2 b hb) hs }
theorem zl_extend {R : Result → Shared → Prop} {S : Addr} (hh : A.handled = none) {hb : Heap} (Z : ZlOk prog w z TI TO i1 i2 fp1 fp2 xs ys St1 St2 hb) (hbS : hb.objs.size = S) (kb : ∀ b o, b < S → hb.get? b = some o → s.heap.get? b = some o) (res : Value) (c₀ : Nat) (hS : s.heap.get? S = some { cls := .type "list", data := .seq #[] c₀ })
    (hR : ∀ h' tk acc c as, (∀ b o, b ≠ z → b ≠ TO → b ≠ i1 → b ≠ i2 → hb.get? b = some o → h'.get? b = some o) → h'.get? S = some { cls := .type "list", dict := none, data := .seq acc c, slots := #[] } → as.length = xs.size → ZlG xs ys S h' as →
      acc.toList = as.map Value.ref → R (.ok (.ret res)) { s with heap := h', toks := tk }) :
    wpAny (model prog w) A.in1 (Builtin.List.listExtendWith (.ref S) (.ref z) res)
      (fun fin s' => match fin with | .done f => R (.ok f) s' | .again c' => c'.quiet = true ∧ codeAny (model prog w) A c' R s') (fun e s' => R (.error e) s') s := by
  have lt : ∀ {b : Addr} {o : Obj}, hb.get? b = some o → b < S := fun e => by rw [← hbS]; exact Heap.lt_size e
  have f1 : S ∉ fp1 := fun q => Nat.lt_irrefl _ (by have := Z.low1 _ q; rw [hbS] at this; exact this)
  have f2 : S ∉ fp2 := fun q => Nat.lt_irrefl _ (by have := Z.low2 _ q; rw [hbS] at this; exact this)
  have l1 : i1 < S := by rw [← hbS]; exact Z.low1 _ Z.sep.mem1
  have l2 : i2 < S := by rw [← hbS]; exact Z.low2 _ Z.sep.mem2
  have hzS : S ≠ z := Nat.ne_of_gt (lt Z.hz)
  have hT : s.TypeIs (.ref z) "zip" := ⟨_, kb _ _ (lt Z.hz) Z.hz, rfl⟩
  have key : ∀ (h : Heap) (c₁ tk : Nat), (∀ b o, b < S → hb.get? b = some o → h.get? b = some o) → h.get? S = some { cls := .type "list", data := .seq #[] c₁ } → codeAny (model prog w) A (.builtin "list.extend.loop" ⟨[.ref S, .ref z, res], []⟩) R { s with heap := h, toks := tk } := by
    intro h c₁ tk hk hS₁
    refine zl_loop (h₁ := hb) hh Z.sep Z.len Z.fits Z.d1 Z.d2 f1 f2 (lt Z.hz) (lt Z.hTO) (lt Z.hTI) l1 l2 res (fun h' tk' acc c as k' a1 a2 a3 a4 => hR h' tk' acc c as (fun b o b1 b2 b3 b4 e => k' b o (Nat.ne_of_lt (lt e)) b1 b2 b3 b4 e) a1 a2 a3 a4) xs.size 0 h tk c₁ #[] [] (Nat.sub_zero _) (Nat.zero_le _)
      ⟨hk _ _ (lt Z.hTI) Z.hTI, ?_, ?_, .inl ⟨rfl, hk _ _ (lt Z.hz) Z.hz, hk _ _ (lt Z.hTO) Z.hTO⟩⟩ (fun b o _ _ _ _ _ e => hk b o (lt e) e) hS₁ rfl rfl ⟨List.Pairwise.nil, (fun _ ha => nomatch ha), (fun j a hj => by simp at hj)⟩
    · exact (Z.d1 callerA rfl).frame _ _ _ Z.s1 fun b hb' o e => hk b o (lt e) e
    · exact (Z.d2 callerA rfl).frame _ _ _ Z.s2 fun b hb' o e => hk b o (lt e) e
  unfold Builtin.List.listExtendWith
  refine wpAny_bind (wpAny_typeOf (T := "zip") hT ?_)
  have h1 : Builtin.List.listSameRef (.ref S) (.ref z) = false := by simp [Builtin.List.listSameRef, hzS]
  have h2 : (Value.type "zip" == Value.type "list") = false := by decide
  have h3 : (Value.type "zip" == Value.type "tuple") = false := by decide
  simp only [h1, h2, h3, Bool.or_false, Bool.false_eq_true, if_false]
  refine wpAny_bind (wpAny_pyIter_zip (kb _ _ (lt Z.hz) Z.hz) ?_)
  refine wpAny_bind (wpAny_holding (zl_hint hT ?_))
  refine wpAny_ite_split (fun _ => ?_) (fun _ => wpAny_pure ⟨plainId_quiet PySem.F.plain_extend_loop _, key _ c₀ _ kb hS⟩)
  refine wpAny_bind (wpAny_rule (wpAny_bind (show wpAny _ _ (updateSeq S (·.push .none) >>= fun _ => updateSeq S (·.pop)) _ _ _ from ?_)))
  refine wpAny_bind (wpAny_updateSeq hS rfl ?_)
  have hS₂ := Heap.get?_update_self (Obj.mapSeq (·.push Value.none)) hS rfl
  refine wpAny_updateSeq (hz := by seq_fits) hS₂ rfl ?_
  have hS₃ := Heap.get?_update_self (Obj.mapSeq (·.pop)) hS₂ rfl
  refine wpAny_pure ⟨plainId_quiet PySem.F.plain_extend_loop _, key _ _ _ (fun b o hb e => ?_) hS₃⟩
  exact (Heap.get?_update_other _ _ (Nat.ne_of_gt hb)).trans ((Heap.get?_update_other _ _ (Nat.ne_of_gt hb)).trans (kb b o hb e))
theorem call_list_zip {E : Value → Shared → Prop} {Q : Value → Shared → Prop} (hh : A.handled = none) (Z : ZlOk prog w z TI TO i1 i2 fp1 fp2 xs ys St1 St2 s.heap)
    (hQ : ∀ h' tk acc c as, (∀ b o, b ≠ z → b ≠ TO → b ≠ i1 → b ≠ i2 → s.heap.get? b = some o → h'.get? b = some o) → h'.get? s.heap.objs.size = some { cls := .type "list", dict := none, data := .seq acc c, slots := #[] } → as.length = xs.size →
      ZlG xs ys s.heap.objs.size h' as → acc.toList = as.map Value.ref → Q (.ref s.heap.objs.size) { s with heap := h', toks := tk }) : wpAny (model prog w) A (call (.type "list") [.ref z]) Q E s := by
  refine callType_codes (Q₁ := fun obj s₁ => obj = .ref s.heap.objs.size ∧ s₁ = { s with heap := s.heap.push { cls := .type "list", data := .seq #[] } }) PySem.F.called_list (PySem.F.typeCall_list_1 _) PySem.F.entry_list_init (code_list_new _ ⟨rfl, rfl⟩) fun obj s₁ h₁ => ?_
  obtain ⟨rfl, rfl⟩ := h₁
  have hS : (s.heap.push { cls := .type "list", data := .seq #[] }).get? s.heap.objs.size = some { cls := .type "list", data := .seq #[] } := Heap.get?_push_size _ rfl
  refine ⟨⟨_, hS, rfl⟩, PySem.F.args_list_init_2 _ _, ?_⟩
  show wpAny _ _ (do let old ← Builtin.List.listItems (.ref s.heap.objs.size); Builtin.List.listUpdate (.ref s.heap.objs.size) (fun _ => #[]); letGo old.toList.reverse; Builtin.List.listExtendWith (.ref s.heap.objs.size) (.ref z) .none) _ _ _
  refine wpAny_bind ?_
  unfold Builtin.List.listItems
  refine wpAny_bind (wpAny_seqItems hS rfl (wpAny_pure ?_))
  show wpAny _ _ (updateSeq s.heap.objs.size (fun _ => #[]) >>= fun _ => letGo (#[] : Array Value).toList.reverse >>= fun _ => Builtin.List.listExtendWith (.ref s.heap.objs.size) (.ref z) .none) _ _ _
  refine wpAny_bind (wpAny_updateSeq hS rfl ?_)
  have hS₂ := Heap.get?_update_self (Obj.mapSeq (fun _ => (#[] : Array Value))) hS rfl
  refine wpAny_bind (wpAny_letGo ?_)
  exact zl_extend (A := A.in1) hh Z rfl (fun b o hb e => (Heap.get?_update_other _ _ (Nat.ne_of_gt hb)).trans (Heap.get?_push_of_some _ e)) .none _ hS₂ fun h' tk acc c as k' a1 a2 a3 a4 => ⟨rfl, hQ h' tk acc c as k' a1 a2 a3 a4⟩
end
end Lk

set_option maxHeartbeats 8000000
namespace Lk
open PySem PySem.Spec PyProof.Rows PySem.W L2
/-! ### list(zip(a, b)) in the layer -/
def putV : Hp → List Addr → List (V × V) → Hp
  | H, a :: as, p :: ps => putV (upd H a (.tup [p.1, p.2])) as ps
  | H, _, _ => H
theorem putV_off {b : Addr} : ∀ (as : List Addr) (ps : List (V × V)) (H : Hp), b ∉ as → putV H as ps b = H b
  | [], _, _, _ => rfl
  | _ :: _, [], _, _ => rfl
  | a :: as, p :: ps, H, h => by
    show putV (upd H a (.tup [p.1, p.2])) as ps b = H b
    rw [putV_off as ps _ (fun z => h (List.mem_cons_of_mem _ z)), upd_ne (fun z => h (by rw [z]; exact List.mem_cons_self))]
theorem putV_at : ∀ (as : List Addr) (ps : List (V × V)) (H : Hp), as.length = ps.length → as.Nodup → Paired (fun (t : Addr) (p : V × V) => putV H as ps t = some (.tup [p.1, p.2])) as ps
  | [], [], _, _, _ => .nil
  | [], _ :: _, _, h, _ => by cases h
  | _ :: _, [], _, h, _ => by cases h
  | a :: as, p :: ps, H, h, hn => by
    have hn' := List.nodup_cons.mp hn
    refine .cons ?_ (putV_at as ps (upd H a (.tup [p.1, p.2])) (Nat.succ.inj h) hn'.2)
    show putV (upd H a (.tup [p.1, p.2])) as ps a = some (.tup [p.1, p.2])
    rw [putV_off as ps _ hn'.1, upd_same]
section
variable {X : Cx} {pins : List (Addr × Obj)} {σ : L2.St} {H : Hp} {s : Shared} {h' : Heap} {tk : Nat} {xs ys : List V} {its its2 : List Value} {acc : Array Value} {c : Nat} {as : List Addr} {S : Addr}
theorem zl_laid (I : Inv X pins σ H s) (hz : xs.length ≤ sizeLine) (hxy : xs.length = ys.length) (rx : Vals xs its) (ry : Vals ys its2) (hk : ∀ b o, s.heap.get? b = some o → h'.get? b = some o) (hlo : s.heap.objs.size ≤ S)
    (hS : h'.get? S = some { cls := .type "list", dict := none, data := .seq acc c, slots := #[] }) (hl : as.length = xs.length) (hG : ZlG its.toArray its2.toArray S h' as) (hacc : acc.toList = as.map Value.ref) :
    ∃ H' : Hp, Same H H' ∧ H S = none ∧ H' S = some (.lst (as.map V.ref)) ∧ Paired (fun (t : Addr) (q : V × V) => H' t = some (.tup [q.1, q.2])) as (xs.zip ys) ∧ Inv X pins σ H' { s with heap := h', toks := tk } := by
  have hSn : S ∉ as := fun z => Nat.lt_irrefl _ (hG.above _ z)
  have nd : as.Nodup := List.Pairwise.imp (fun {a b} (h : a < b) => Nat.ne_of_lt h) hG.rise
  have hi : ∀ t ∈ as, s.heap.objs.size ≤ t := fun t ht => Nat.le_trans hlo (Nat.le_of_lt (hG.above t ht))
  have new : ∀ t ∈ as, H t = none := fun t ht => I.hok.fresh (hi t ht)
  have newS : H S = none := I.hok.fresh hlo
  have lz : as.length = (xs.zip ys).length := by rw [List.length_zip, hl]; omega
  have atP := putV_at as (xs.zip ys) (upd H S (.lst (as.map V.ref))) lz nd
  have off : ∀ b, b ∉ as → b ≠ S → putV (upd H S (.lst (as.map V.ref))) as (xs.zip ys) b = H b := fun b h1 h2 => by rw [putV_off as _ _ h1, upd_ne h2]
  have low : ∀ b o, s.heap.get? b = some o → b ∉ as ∧ b ≠ S := fun b o e => ⟨fun z => absurd (Heap.lt_size e) (Nat.not_lt.mpr (hi b z)), Nat.ne_of_lt (Nat.lt_of_lt_of_le (Heap.lt_size e) hlo)⟩
  have kp : Same H (putV (upd H S (.lst (as.map V.ref))) as (xs.zip ys)) := fun b u e => by
    rw [off b (fun z => by rw [new b z] at e; cases e) (fun z => by rw [z, newS] at e; cases e)]
    exact e
  have eS : putV (upd H S (.lst (as.map V.ref))) as (xs.zip ys) S = some (.lst (as.map V.ref)) := by rw [putV_off as _ _ hSn, upd_same]
  refine ⟨_, kp, newS, eS, atP, ?_⟩
  refine I.call' (ch := []) rfl ⟨fun b o q _ _ _ => hk b o q, fun b o q _ _ _ => ⟨o.slots, hk b o q⟩, fun b o q n _ => ?_, fun b o q _ => ⟨o, hk b o q⟩, fun b xs q => kp b _ q, fun b o u q => kp b _ q, fun b ps q => ⟨#[], by rw [kp b _ q]; simp⟩⟩ (fun b u q => ?_) I.bare fun b z => by simp at z
  · obtain ⟨z1, z2⟩ := low b o q
    rw [off b z1 z2]
    exact n
  · by_cases hb : b ∈ as
    · obtain ⟨j, pk, e1, e2, e3⟩ := LiI.paired_ix atP hb
      rw [e3] at q
      cases q
      obtain ⟨x, y, f1, f2, f3⟩ := hG.pairs j b e1
      have hp := (List.getElem?_eq_some_iff.mp e2)
      obtain ⟨hj, ej⟩ := hp
      rw [List.getElem_zip] at ej
      have hjx : j < xs.length := by rw [List.length_zip] at hj; omega
      have hjy : j < ys.length := by omega
      obtain ⟨u, g1, g2⟩ := rx.get (List.getElem?_eq_getElem hjx)
      obtain ⟨v, g3, g4⟩ := ry.get (List.getElem?_eq_getElem hjy)
      rw [List.getElem?_toArray] at f1 f2
      rw [g1] at f1
      rw [g3] at f2
      rw [← ej]
      exact ⟨by show 2 ≤ sizeLine; decide, [x, y], .cons (by rw [← Option.some.inj f1]; exact g2) (.cons (by rw [← Option.some.inj f2]; exact g4) .nil), ⟨_, f3, rfl, _, rfl⟩⟩
    · by_cases hb2 : b = S
      · rw [hb2] at q ⊢
        rw [eS] at q
        cases q
        refine ⟨by rw [List.length_map]; omega, acc.toList, c, by rw [hacc]; exact LiI.vals_refs as, ?_⟩
        rw [Array.toArray_toList]
        exact hS
      · rw [off b hb hb2] at q
        exact (I.hok b u q).stay (fun d v _ y => hk d v y) (fun d y => kp d _ y) fun d xs y => kp d _ y
end
def tListZip (K : PySem.W.Frag) (ta : TA) : TE := fun σ H Q => ta σ H fun vs H1 => ∃ l1 l2 xs ys, vs = [.ref l1, .ref l2] ∧ Sq K H1 l1 xs ∧ Sq K H1 l2 ys ∧ xs.length = ys.length ∧
  ∀ (H' : Hp) (p : Addr) (ts : List Addr), Same H1 H' → H1 p = none → H' p = some (.lst (ts.map V.ref)) → Paired (fun (t : Addr) (q : V × V) => H' t = some (.tup [q.1, q.2])) ts (xs.zip ys) → Q (.ref p) H'
/-- an iterator over a list or a tuple -/
theorem sq_src {X : Cx} {pins : List (Addr × Obj)} {σ : L2.St} {H : Hp} {s : Shared} {l : Addr} {xs : List V} (I : Inv X pins σ H s) (h : Sq X.K H l xs) :
    ∃ (its : List Value) (o : Obj) (Hh : Heap → Prop) (St : Addr → Nat → Heap → Prop), Vals xs its ∧ xs.length ≤ sizeLine ∧ l < s.heap.objs.size ∧ Begins (.ref l) o Hh ∧ Hh s.heap ∧
      (∀ (it : Addr) (h' : Heap), l ≠ it → h'.get? it = some o → (∀ b o, s.heap.get? b = some o → h'.get? b = some o) → St it 0 h') ∧
      ∀ (it : Addr), l ≠ it → ∀ A : Around, A.handled = none → Draws X.prog X.w A it [it, l] its.toArray.size (fun i v => its.toArray[i]? = some v) (St it) := by
  rcases h with h | h
  · obtain ⟨its, rv, pl, hz⟩ := I.list h
    refine ⟨its, _, _, fun it i h => h.IsListIter it l i ∧ h.IsList l its.toArray, rv, hz, pl.lt, begins_list l its.toArray, pl.isList, fun it h' _ e k => ⟨⟨_, e, rfl, rfl⟩, pl.isList.at fun o e => k l o e⟩, fun it hne A hA => Draws.list hA it l hne _⟩
  · obtain ⟨its, rv, pl, hz⟩ := I.tuple h
    refine ⟨its, _, _, fun it i h => h.IsTupleIter it l i ∧ h.IsTuple l its.toArray, rv, hz, pl.lt, begins_tuple l its.toArray, pl, fun it h' _ e k => ⟨⟨_, e, rfl, rfl⟩, Heap.IsTuple.at pl fun o e => k l o e⟩, fun it hne A hA => Draws.tuple hA it l hne _⟩
theorem pe_listZip {X : Cx} {a b : Expr} {ta : TA} {p p2 pos pos2 : Pos} (hg : Gl X "list") (hm : X.mg "list" = none) (hg2 : Gl X "zip") (hm2 : X.mg "zip" = none) (ha : PA X [a, b] ta) (hc : X.calm = true := by rfl)
    (hs : starEach [.Call (.Name "zip" p2) [a, b] [] pos2] X.env = (false, eval (.Call (.Name "zip" p2) [a, b] [] pos2) X.env) :: starEach [] X.env := by rfl)
    (hs2 : starEach [a, b] X.env = (false, eval a X.env) :: starEach [b] X.env := by rfl) (hpl : (backTo pos2 (starEach [b] X.env)).any (·.1) = false := by rfl) :
    PE X (.Call (.Name "list" p) [.Call (.Name "zip" p2) [a, b] [] pos2] [] pos) (tListZip X.K ta) := by
  refine ⟨fun pins s σ H Q I hq => ?_⟩
  refine wpAny_Call_Name_kw (ld_blt I hg hm b_list ?_)
  refine PyProof.Rows.callWith_type1 ?_ hs rfl
  rw [hs]
  show wpAny _ _ (spliced ((false, eval (.Call (.Name "zip" p2) [a, b] [] pos2) X.env) :: backTo pos (starEach [] X.env))) _ _ s
  refine Calls.spliced_cons ?_
  refine wpAny_Call_Name_kw (ld_blt I hg2 hm2 b_zip ?_)
  refine PyProof.Rows.callWith_type1 (thn (ha.run pos2 pins s σ H _ I hq) fun us s1 ⟨vs, H1, I1, r1, q1⟩ => ?_) hs2 hpl
  obtain ⟨l1, l2, xs, ys, ex, hqx, hqy, hxy, q⟩ := q1
  subst ex
  cases r1 with
  | cons r rr =>
    cases rr with
    | cons r' rr =>
      cases rr
      cases r
      cases r'
      obtain ⟨its, o1, Hh1, St1, rv1, z1, lt1, B1, hB1, st1, D1⟩ := sq_src I1 hqx
      obtain ⟨its2, o2, Hh2, St2, rv2, z2, lt2, B2, hB2, st2, D2⟩ := sq_src I1 hqy
      refine zip_begins2 B1 B2 hB1 hB2 fun h' hz hTI hTO g1 g2 hsz hk => ?_
      refine Calls.spliced_nil ?_
      have n1 : l1 ≠ s1.heap.objs.size := Nat.ne_of_lt lt1
      have n2 : l2 ≠ s1.heap.objs.size + 1 := Nat.ne_of_lt (Nat.lt_succ_of_lt lt2)
      have a1 : ∀ k, s1.heap.objs.size + k ≠ l1 := fun k e => Nat.lt_irrefl l1 (Nat.lt_of_lt_of_le lt1 (e ▸ Nat.le_add_right _ _))
      have a2 : ∀ k, s1.heap.objs.size + k ≠ l2 := fun k e => Nat.lt_irrefl l2 (Nat.lt_of_lt_of_le lt2 (e ▸ Nat.le_add_right _ _))
      have nn : ∀ j k : Nat, j ≠ k → s1.heap.objs.size + j ≠ s1.heap.objs.size + k := fun j k h e => h (Nat.add_left_cancel e)
      have n0 : ∀ k : Nat, 0 ≠ k → s1.heap.objs.size ≠ s1.heap.objs.size + k := fun k h e => nn 0 k h (by rw [Nat.add_zero]; exact e)
      have m0 : ∀ k : Nat, k ≠ 0 → s1.heap.objs.size + k ≠ s1.heap.objs.size := fun k h e => nn k 0 h (by rw [Nat.add_zero]; exact e)
      have Z : ZlOk X.prog X.w (s1.heap.objs.size + 4) (s1.heap.objs.size + 2) (s1.heap.objs.size + 3) s1.heap.objs.size (s1.heap.objs.size + 1) [s1.heap.objs.size, l1] [s1.heap.objs.size + 1, l2] its.toArray its2.toArray (St1 s1.heap.objs.size) (St2 (s1.heap.objs.size + 1)) h' := by
        refine ⟨⟨nn 2 4 (by decide), nn 3 4 (by decide), nn 2 3 (by decide), m0 2 (by decide), List.mem_cons_self, ?_, ?_, nn 2 1 (by decide), List.mem_cons_self, ?_, ?_, ?_, ?_⟩, ?_, ?_, D1 _ n1, D2 _ n2, hz, hTI, hTO, st1 _ h' n1 g1 hk, st2 _ h' n2 g2 hk, ?_, ?_⟩
        · simp only [List.mem_cons, List.not_mem_nil, or_false, not_or]; exact ⟨m0 4 (by decide), a1 4⟩
        · simp only [List.mem_cons, List.not_mem_nil, or_false, not_or]; exact ⟨m0 3 (by decide), a1 3⟩
        · simp only [List.mem_cons, List.not_mem_nil, or_false, not_or]; exact ⟨nn 4 1 (by decide), a2 4⟩
        · simp only [List.mem_cons, List.not_mem_nil, or_false, not_or]; exact ⟨nn 3 1 (by decide), a2 3⟩
        · simp only [List.mem_cons, List.not_mem_nil, or_false, not_or]; exact ⟨n0 1 (by decide), fun e => a2 0 (by rw [Nat.add_zero]; exact e)⟩
        · simp only [List.mem_cons, List.not_mem_nil, or_false, not_or]; exact ⟨m0 1 (by decide), a1 1⟩
        · rw [List.size_toArray, List.size_toArray, ← rv1.length, ← rv2.length, hxy]
        · rw [List.size_toArray, ← rv1.length]; exact z1
        · intro b hb
          rw [hsz]
          simp only [List.mem_cons, List.not_mem_nil, or_false] at hb
          rcases hb with e | e <;> rw [e]
          · exact Nat.lt_add_of_pos_right (by decide)
          · exact Nat.lt_of_lt_of_le lt1 (Nat.le_add_right _ _)
        · intro b hb
          rw [hsz]
          simp only [List.mem_cons, List.not_mem_nil, or_false] at hb
          rcases hb with e | e <;> rw [e]
          · exact Nat.add_lt_add_left (by decide) _
          · exact Nat.lt_of_lt_of_le lt2 (Nat.le_add_right _ _)
      refine call_list_zip (s := { s1 with heap := h' }) (I1.ok.hd hc) Z fun h2 tk acc c as k2 hS hl hG hacc => ?_
      have kk : ∀ b o, s1.heap.get? b = some o → h2.get? b = some o := fun b o e => by
        have lb := Heap.lt_size e
        have nb : ∀ k, b ≠ s1.heap.objs.size + k := fun k z => Nat.lt_irrefl b (Nat.lt_of_lt_of_le lb (z ▸ Nat.le_add_right _ _))
        exact k2 b o (nb 4) (nb 3) (Nat.ne_of_lt lb) (nb 1) (hk b o e)
      have hlo : s1.heap.objs.size ≤ h'.objs.size := by rw [hsz]; exact Nat.le_add_right _ _
      obtain ⟨H', kp, nS, eS, atP, J⟩ := zl_laid (tk := tk) I1 z1 hxy rv1 rv2 kk hlo hS (by rw [hl, List.size_toArray, ← rv1.length]) hG hacc
      exact ⟨.ref _, H', J, rfl, q H' _ as kp nS eS atP⟩
end Lk

set_option maxHeartbeats 8000000
namespace Lk
open PySem PySem.Spec PyProof.Rows PySem.W L2
/-! ### keys that are tuples of tuples, bools, numbers, texts -/
mutual
inductive Nk (H : Hp) : V → NestedKey → Prop
  | non : Nk H .non .none
  | bl (b : Bool) : Nk H (.bl b) (.num (if b = true then 1 else 0))
  | int (i : Int) : Nk H (.int i) (.num i)
  | str (x : Str) : Nk H (.str x) (.text x)
  | tup {a : Addr} {xs : List V} {ks : List NestedKey} : H a = some (.tup xs) → NkAll H xs ks → Nk H (.ref a) (.tup ks)
inductive NkAll (H : Hp) : List V → List NestedKey → Prop
  | nil : NkAll H [] []
  | cons {v : V} {vs : List V} {k : NestedKey} {ks : List NestedKey} : Nk H v k → NkAll H vs ks → NkAll H (v :: vs) (k :: ks)
end
mutual
theorem Nk.mono {H H' : Hp} (s : Same H H') : ∀ {v : V} {k : NestedKey}, Nk H v k → Nk H' v k
  | _, _, .non => .non
  | _, _, .bl b => .bl b
  | _, _, .int i => .int i
  | _, _, .str x => .str x
  | _, _, .tup e h => .tup (s _ _ e) (NkAll.mono s h)
theorem NkAll.mono {H H' : Hp} (s : Same H H') : ∀ {vs : List V} {ks : List NestedKey}, NkAll H vs ks → NkAll H' vs ks
  | _, _, .nil => .nil
  | _, _, .cons h t => .cons (Nk.mono s h) (NkAll.mono s t)
end
section
variable {X : Cx} {pins : List (Addr × Obj)} {σ : L2.St} {H : Hp} {s : Shared}
mutual
theorem Nk.is (I : Inv X pins σ H s) : ∀ (k : NestedKey) (v : V) (u : Value), Nk H v k → RelV v u → NestedIs s.heap k u
  | .none, v, u, h, r => by
    cases h
    cases r
    exact .none
  | .num i, v, u, h, r => by
    cases h with
    | bl b => cases r; exact .bool rfl
    | int i => obtain ⟨t, rfl⟩ := r; exact .int i t
  | .text x, v, u, h, r => by
    cases h
    obtain ⟨t, rfl⟩ := r
    exact .text x t
  | .tup ks, v, u, h, r => by
    cases h with
    | tup e h =>
      cases r
      obtain ⟨_, its, rv, o, ho, hc, n, hd⟩ := I.hok _ _ e
      exact .tup ho hc hd (NkAll.is I ks _ _ h (by simpa using rv))
theorem NkAll.is (I : Inv X pins σ H s) : ∀ (ks : List NestedKey) (vs : List V) (us : List Value), NkAll H vs ks → Vals vs us → NestedAll s.heap ks us
  | [], _, _, h, r => by
    cases h
    cases r
    exact .nil
  | k :: ks, _, _, h, r => by
    cases h with
    | cons h1 h2 =>
      cases r with
      | cons r1 r2 => exact .cons (Nk.is I k _ _ h1 r1) (NkAll.is I ks _ _ h2 r2)
end
end
/-- the key at a -/
structure NkAt (H : Hp) (a : Addr) (k : NestedKey) : Prop where
  nk : Nk H (.ref a) k
  dp : k.depth ≤ 8
theorem NkAt.mono {H H' : Hp} {a : Addr} {k : NestedKey} (s : Same H H') (h : NkAt H a k) : NkAt H' a k := ⟨h.nk.mono s, h.dp⟩
theorem NkAt.is {X : Cx} {pins : List (Addr × Obj)} {σ : L2.St} {H : Hp} {s : Shared} {a : Addr} {k : NestedKey} (I : Inv X pins σ H s) (h : NkAt H a k) : (nestedKind X.prog X.w).is s.heap k a := ⟨Nk.is I k _ _ h.nk rfl, h.dp⟩
/-- a dict's entries: key, where it stands, value -/
abbrev DnE := List (NestedKey × Addr × V)
abbrev DnR (es : DnE) (xs : List (NestedKey × Addr × Value)) : Prop := Paired (fun (p : NestedKey × Addr × V) (q : NestedKey × Addr × Value) => p.1 = q.1 ∧ p.2.1 = q.2.1 ∧ RelV p.2.2 q.2.2) es xs
/-- a dict with nested keys stands at d -/
def DN (P : Program) (w : World) (d : Addr) (es : DnE) : HO := .ext fun h => es.length ≤ sizeLine ∧ (d == sysModules) = false ∧ ∃ xs, DnR es xs ∧ (xs.map (·.1)).Nodup ∧
  ∃ o ar ep, h.get? d = some o ∧ o.ExactDict ∧ o.data = .dict ar ep ∧ ar.toList = xs.map (entryOfKey (nestedKind P w))
def dnAt (es : DnE) (k : NestedKey) : Option (Addr × V) := (es.find? fun x => decide (x.1 = k)).map (·.2)
theorem dn_at : ∀ {es : DnE} {xs : List (NestedKey × Addr × Value)} (k : NestedKey), DnR es xs → (dnAt es k = none ∧ atKey xs k = none) ∨ ∃ a v u, dnAt es k = some (a, v) ∧ atKey xs k = some (a, u) ∧ RelV v u
  | _, _, k, .nil => .inl ⟨rfl, rfl⟩
  | _, _, k, .cons (a := p) (b := q) h t => by
    obtain ⟨h1, h2, h3⟩ := h
    unfold dnAt atKey
    rw [List.find?_cons, List.find?_cons, ← h1]
    cases e : decide (p.1 = k) with
    | true => exact .inr ⟨p.2.1, p.2.2, q.2.2, rfl, by rw [h2] <;> rfl, h3⟩
    | false => exact dn_at k t
def dnKeys (H : Hp) (es : DnE) : Prop := ∀ p ∈ es, NkAt H p.2.1 p.1
theorem dnKeys.mono {H H' : Hp} {es : DnE} (s : Same H H') (h : dnKeys H es) : dnKeys H' es := fun p hp => (h p hp).mono s
theorem dn_ok {P : Program} {w : World} {H : Hp} {h : Heap} {d : Addr} {es : DnE} (e : ObjOk P w H h d (DN P w d es)) : es.length ≤ sizeLine ∧ (d == sysModules) = false ∧ ∃ xs, DnR es xs ∧ (xs.map (·.1)).Nodup ∧
    ∃ o ar ep, h.get? d = some o ∧ o.ExactDict ∧ o.data = .dict ar ep ∧ ar.toList = xs.map (entryOfKey (nestedKind P w)) := e.1
theorem dn_rd {X : Cx} {pins : List (Addr × Obj)} {σ : L2.St} {H : Hp} {s : Shared} {d : Addr} {es : DnE} (I : Inv X pins σ H s) (h : Rd H d (DN X.prog X.w d es)) (hk : dnKeys H es) :
    es.length ≤ sizeLine ∧ (d == sysModules) = false ∧ ∃ xs, DnR es xs ∧ s.heap.DictOfH (nestedKind X.prog X.w) d xs := by
  obtain ⟨h1, h2, xs, r, nd, o, ar, ep, g1, g2, g3, g4⟩ := dn_ok (h.ok I.hok)
  refine ⟨h1, h2, xs, r, o, ar, ep, g1, g2, g3, g4, fun x hx => ?_, nd⟩
  obtain ⟨j, hj⟩ := List.mem_iff_getElem?.mp hx
  have hl : es.length = xs.length := Paired.length r
  obtain ⟨hj1, _⟩ := List.getElem?_eq_some_iff.mp hj
  obtain ⟨q, f1, f2, f3, f4⟩ := LiI.paired_get r (List.getElem?_eq_getElem (show j < es.length by omega))
  rw [hj] at f1
  cases f1
  have := (hk es[j] (List.getElem_mem _)).is I
  rw [f2, f3] at this
  exact this
theorem dn_new {P : Program} {w : World} {H : Hp} {h : Heap} {d : Addr} {es : DnE} {xs : List (NestedKey × Addr × Value)} (z : es.length ≤ sizeLine) (hd : (d == sysModules) = false) (r : DnR es xs) (D : h.DictOfH (nestedKind P w) d xs) : ObjOk P w H h d (DN P w d es) := by
  obtain ⟨o, ar, ep, g1, g2, g3, g4, g5, g6⟩ := D
  refine ⟨⟨z, hd, xs, r, g6, o, ar, ep, g1, g2, g3, g4⟩, ⟨o, g1⟩, fun h1 h2 q k => ?_⟩
  obtain ⟨z, hd, xs, r, g6, o, ar, ep, g1, g2, g3, g4⟩ := q
  exact ⟨z, hd, xs, r, g6, o, ar, ep, k o g1, g2, g3, g4⟩
def dnPut (es : DnE) (k : NestedKey) (a : Addr) (v : V) : DnE := if (dnAt es k).isSome then es.map (fun x => if x.1 = k then (x.1, x.2.1, v) else x) else es ++ [(k, a, v)]
theorem DnR.app {k : NestedKey} {a : Addr} {v : V} {u : Value} (rv : RelV v u) : ∀ {es : DnE} {xs : List (NestedKey × Addr × Value)}, DnR es xs → DnR (es ++ [(k, a, v)]) (xs ++ [(k, a, u)])
  | _, _, .nil => .cons ⟨rfl, rfl, rv⟩ .nil
  | _, _, .cons h t => .cons h (DnR.app rv t)
theorem DnR.mapPut {k : NestedKey} {v : V} {u : Value} (rv : RelV v u) : ∀ {es : DnE} {xs : List (NestedKey × Addr × Value)}, DnR es xs → DnR (es.map (fun x => if x.1 = k then (x.1, x.2.1, v) else x)) (xs.map (putAt k u))
  | _, _, .nil => .nil
  | _, _, .cons (a := p) (b := q) h t => by
    refine .cons ?_ (DnR.mapPut rv t)
    obtain ⟨h1, h2, h3⟩ := h
    unfold putAt
    dsimp only
    by_cases e : p.1 = k
    · rw [if_pos e, if_pos (h1 ▸ e)]
      exact ⟨h1, h2, rv⟩
    · rw [if_neg e, if_neg (h1 ▸ e)]
      exact ⟨h1, h2, h3⟩
theorem DnR.put {es : DnE} {xs : List (NestedKey × Addr × Value)} {k : NestedKey} {a : Addr} {v : V} {u : Value} (r : DnR es xs) (rv : RelV v u) : DnR (dnPut es k a v) (storedH xs k a u) := by
  unfold dnPut storedH
  rcases dn_at k r with ⟨e1, e2⟩ | ⟨b, x, y, e1, e2, _⟩
  · rw [e1, e2]
    exact DnR.app rv r
  · rw [e1, e2]
    exact DnR.mapPut rv r
theorem dnPut_len (es : DnE) (k : NestedKey) (a : Addr) (v : V) : (dnPut es k a v).length ≤ es.length + 1 := by
  unfold dnPut
  split <;> simp
theorem dnPut_keys {H : Hp} {es : DnE} {k : NestedKey} {a : Addr} {v : V} (h : dnKeys H es) (hk : NkAt H a k) : dnKeys H (dnPut es k a v) := by
  intro p hp
  unfold dnPut at hp
  split at hp
  · obtain ⟨x, hx, e⟩ := List.mem_map.mp hp
    rw [← e]
    split
    · exact h x hx
    · exact h x hx
  · rcases List.mem_append.mp hp with q | q
    · exact h p q
    · rw [List.mem_singleton.mp q]
      exact hk
/-! ### the rules -/
section
variable {X : Cx} {i o k v : Expr} {ty td tk tv : TE} {pos pos' : Pos}
theorem room_n {A : Around} (hu : A.units + 16 < cLine) : (nestedKind X.prog X.w).room A.in1 := by
  show A.units + 1 + 8 < cLine
  omega
/-- k in d, k not in d -/
def tNIn (P : Program) (w : World) (neg : Bool) (ty td : TE) : TE := fun σ H Q => ty σ H fun y H1 => td σ H1 fun x H2 => ∃ a d es k, y = .ref a ∧ x = .ref d ∧ Rd H2 d (DN P w d es) ∧ dnKeys H2 es ∧ NkAt H2 a k ∧ Q (.bl (if neg then !(dnAt es k).isSome else (dnAt es k).isSome)) H2
theorem pc_nin (hu : X.A.units + 16 < cLine) (hi : PE X i ty) (ho : PE X o td) : PC X .In i o (tNIn X.prog X.w false ty td) := by
  refine ⟨fun pins s σ H Q I h => ?_⟩
  refine thn (hi.run pins s σ H _ I h) fun iv s1 ⟨y, H1, I1, ry, q1⟩ => thn (ho.run pins s1 σ H1 _ I1 q1) fun u s2 ⟨x, H2, I2, rx, a, d, es, k, ey, ex, g, hk, ka, q2⟩ => ?_
  subst ex ey
  cases rx
  cases ry
  obtain ⟨_, hd, xs, r, D⟩ := dn_rd I2 g hk
  refine wpAny_in_heap (room_n (X := X) hu) (ka.is I2) hd D ⟨_, H2, I2.tok _, ?_, q2⟩
  rcases dn_at k r with ⟨e1, e2⟩ | ⟨b, p, q, e1, e2, _⟩ <;> rw [e1, e2] <;> rfl
theorem pc_nnotin (hu : X.A.units + 16 < cLine) (hi : PE X i ty) (ho : PE X o td) : PC X .NotIn i o (tNIn X.prog X.w true ty td) := by
  refine ⟨fun pins s σ H Q I h => ?_⟩
  refine thn (hi.run pins s σ H _ I h) fun iv s1 ⟨y, H1, I1, ry, q1⟩ => thn (ho.run pins s1 σ H1 _ I1 q1) fun u s2 ⟨x, H2, I2, rx, a, d, es, k, ey, ex, g, hk, ka, q2⟩ => ?_
  subst ex ey
  cases rx
  cases ry
  obtain ⟨_, hd, xs, r, D⟩ := dn_rd I2 g hk
  refine wpAny_notIn_heap (room_n (X := X) hu) (ka.is I2) hd D ⟨_, H2, I2.tok _, ?_, q2⟩
  rcases dn_at k r with ⟨e1, e2⟩ | ⟨b, p, q, e1, e2, _⟩ <;> rw [e1, e2] <;> rfl
/-- d[k], there -/
def tNGet (P : Program) (w : World) (td ty : TE) : TE := fun σ H Q => td σ H fun x H1 => ty σ H1 fun y H2 => ∃ a d es k b v, x = .ref d ∧ y = .ref a ∧ Rd H2 d (DN P w d es) ∧ dnKeys H2 es ∧ NkAt H2 a k ∧ dnAt es k = some (b, v) ∧ Q v H2
theorem pe_nget (hu : X.A.units + 16 < cLine) (ho : PE X o td) (hi : PE X i ty) (hs : NoSl i) : PE X (.Subscript o i pos) (tNGet X.prog X.w td ty) := by
  refine ⟨fun pins s σ H Q I h => ?_⟩
  refine subD_of PySem.F.slot_dict_getitem.lookup hs (thn (ho.run pins s σ H _ I h) fun u s1 ⟨x, H1, I1, rx, q1⟩ => thn (hi.run pins s1 σ H1 _ I1 q1) fun iv s2 ⟨y, H2, I2, ry, a, d, es, k, b, v, ex, ey, g, hk, ka, l, q2⟩ => ?_)
  subst ex ey
  cases rx
  cases ry
  obtain ⟨_, hd, xs, r, D⟩ := dn_rd I2 g hk
  refine ⟨D.typeIs, ?_⟩
  rcases dn_at k r with ⟨e1, e2⟩ | ⟨b', p, q, e1, e2, e3⟩
  · rw [e1] at l; cases l
  · rw [e1] at l
    cases l
    exact wpAny_getItem_heap (room_n (X := X) hu) (ka.is I2) D e2 ⟨v, H2, I2.tok _, e3, q2⟩
/-- d[k] = v -/
def sNPut (P : Program) (w : World) (td ty tv : TE) : TS := fun D σ H => tv σ H fun v H1 => td σ H1 fun x H2 => ty σ H2 fun y H3 => ∃ a d es k, x = .ref d ∧ y = .ref a ∧ H3 d = some (DN P w d es) ∧ dnKeys H3 es ∧ NkAt H3 a k ∧ es.length < 100000 ∧ D.nx σ (upd H3 d (DN P w d (dnPut es k a v)))
theorem ps_nput (hu : X.A.units + 16 < cLine) (ho : PE X o td) (hi : PE X i ty) (hv : PE X v tv) (hs : swapsWith v (some (.Subscript o i pos')) pos.line X.env = pure false) : PS X (.Assign [.Subscript o i pos'] v pos) (sNPut X.prog X.w td ty tv) := by
  refine ⟨fun pins s σ H D I h => ?_⟩
  refine wpAny_Assign_Subscript (thn (hv.run pins s σ H _ I h) fun r s1 ⟨v, H1, I1, rv, q1⟩ => thn (ho.run pins s1 σ H1 _ I1 q1) fun u s2 ⟨x, H2, I2, rx, q2⟩ => thn (hi.run pins s2 σ H2 _ I2 q2) fun iv s3 ⟨y, H3, I3, ry, a, d, es, k, ex, ey, g, hk, ka, z, q3⟩ => ?_) hs
  subst ex ey
  cases rx
  cases ry
  obtain ⟨z0, hd, xs, rr, D0⟩ := dn_rd I3 (.inl g) hk
  have hl : es.length = xs.length := Paired.length rr
  refine wpAny_setItem_heap (room_n (X := X) hu) (ka.is I3) D0 (fun h' D' hs' => ⟨σ, _, ?_, q3⟩) (by rw [← hl]; exact z0)
  have he : ∃ q, h'.get? d = some q := let ⟨q, _, _, hq, _⟩ := D'; ⟨q, hq⟩
  exact d_write I3 (by rw [g]; exact True.intro) hs' he (dn_new (Nat.le_trans (dnPut_len es k a v) (sz_le (by omega))) hd (rr.put rv) D')
/-- {k: v} -/
def tNDisp (P : Program) (w : World) (tk tv : TE) : TE := fun σ H Q => ∀ p, H p = none → tPairs [(tk, tv)] σ (upd H p (.dK [])) fun ps H2 => H2 p = some (.dK []) ∧ ∃ a k v, ps = [(.ref a, v)] ∧ NkAt H2 a k ∧ Q (.ref p) (upd H2 p (DN P w p [(k, a, v)]))
theorem pe_ndisp (hu : X.A.units + 16 < cLine) (hk : PE X k tk) (hv : PE X v tv) : PE X (.Dict [some k] [v] pos) (tNDisp X.prog X.w tk tv) := by
  refine ⟨fun pins s σ H Q I q => ?_⟩
  have hn := I.hok.fresh (Nat.le_refl s.heap.objs.size)
  have I1 := I.laid (a := s.heap.objs.size) (o := .dK []) (h' := s.heap.push { cls := .type "dict", data := .dict #[] }) (t' := s.toks) (fun _ _ q => Heap.get?_push_of_some _ q) (Nat.le_refl _) (dk_empty s.heap I.big)
  have P := pps_cons (pos := pos) hk hv pps_nil
  have len : (pairTrees [some k] [v] X.env pos).length = 1 := pairTrees_length _ _ _ _ rfl rfl
  rw [arm_eval_Dict, zip_pairTrees [some k] [v] X.env pos rfl rfl, dictDisplay_pairs _ (by intro e; rw [e] at len; cases len) (by rw [len]; decide)]
  refine wpAny_bind (wpAny_standAt (wpAny_bind (wpAny_subDictH (knd := nestedKind X.prog X.w) (by show X.A.units + 8 < cLine; omega) (by rw [len]; decide) (thn (P.run pins _ σ _ _ I1 (q _ hn)) fun ws s2 ⟨ps, H2, I2, rel, e, a, k', v', eps, ka, q2⟩ => ?_))))
  subst eps
  cases rel with
  | cons r rr =>
    cases rr
    obtain ⟨r1, r2⟩ := r
    obtain ⟨z, hd, vs0, r0, dd⟩ := dk_of I2.hok e
    cases r0
    refine ⟨[(k', a, _)], ⟨r1, rfl, ka.is I2, trivial⟩, ?_, fun h' tk D' hs => wpAny_pure ⟨.ref s.heap.objs.size, _, ?_, rfl, q2⟩⟩
    · obtain ⟨o, es, ep, g1, g2, g3, g4, g5⟩ := dd
      refine ⟨o, es, ep, g1, g2, g3, ?_, (fun x hx => nomatch hx), List.nodup_nil⟩
      cases h : es.toList with
      | nil => rfl
      | cons c d => rw [h] at g5; cases g5.1
    · have he : ∃ q, h'.get? s.heap.objs.size = some q := let ⟨q, _, _, hq, _⟩ := D'; ⟨q, hq⟩
      exact d_write I2 (by rw [e]; exact True.intro) hs he (dn_new (by show 1 ≤ sizeLine; decide) hd (.cons ⟨rfl, rfl, r2⟩ .nil) D')
end
end Lk

set_option maxHeartbeats 8000000
namespace Lk
open PySem PySem.Spec PyProof.Rows PySem.W L2
/-! ### dict comprehensions: keys ints, texts; or tuples at any depth -/
/-- the new dict, of either kind -/
def Emp (P : Program) (w : World) (D : Addr) (o : HO) : Prop := o = .dK [] ∨ o = DN P w D []
theorem dn_of_dk {P : Program} {w : World} {H : Hp} {h : Heap} {d : Addr} (e : ObjOk P w H h d (.dK [])) : ObjOk P w H h d (DN P w d []) := by
  obtain ⟨z, hd, vs0, r0, dd⟩ := e
  cases r0
  refine dn_new (by decide) hd .nil ?_
  obtain ⟨o, es, ep, g1, g2, g3, g4, g5⟩ := dd
  refine ⟨o, es, ep, g1, g2, g3, ?_, (fun x hx => nomatch hx), List.nodup_nil⟩
  cases h : es.toList with
  | nil => rfl
  | cons c d => rw [h] at g5; cases g5.1
theorem emp_ok {P : Program} {w : World} {H : Hp} {D : Addr} {o : HO} (h : Heap) (hb : sysModules < h.objs.size) (e : h.objs.size = D) (E : Emp P w D o) : ObjOk P w H (h.push { cls := .type "dict", data := .dict #[] }) D o := by
  subst e
  rcases E with rfl | rfl
  · exact dk_empty h hb
  · exact dn_of_dk (dk_empty h hb)
/-- D[y] = z -/
def rPutC (P : Program) (w : World) (D : Addr) (y z : V) (H : Hp) (Nx : Hp → Prop) : Prop :=
  (∃ kvs k, y = kV k ∧ H D = some (.dK kvs) ∧ kvs.length < sizeLine ∧ Nx (upd H D (.dK (putK kvs k z)))) ∨
  (∃ a es k, y = .ref a ∧ H D = some (DN P w D es) ∧ dnKeys H es ∧ NkAt H a k ∧ es.length < 100000 ∧ Nx (upd H D (DN P w D (dnPut es k a z))))
theorem dn_dictSet {X : Cx} {pins : List (Addr × Obj)} {σ : L2.St} {H : Hp} {s : Shared} {E : Value → Shared → Prop} {D : Addr} {y z : V} {u r : Value} {Nx : Hp → Prop} {Q : Unit → Shared → Prop} (hu : X.A.units + 16 < cLine) (I : L2.Inv X pins σ H s) (hp : rPutC X.prog X.w D y z H Nx)
    (ry : RelV y u) (rv : RelV z r) (h : ∀ s' H', Inv X pins σ H' s' → Nx H' → Q () s') : wpAny (model X.prog X.w) X.A (dictSet D u r) Q E s := by
  rcases hp with ⟨kvs, k, e, hD, hz, n⟩ | ⟨a, es, k, e, hD, hk, ka, hz, n⟩
  · subst e
    exact d_dictSet I hD hz ry rv fun s' I' => h s' _ I' n
  · subst e
    cases ry
    obtain ⟨z0, hd, xs, rr, D0⟩ := dn_rd I (.inl hD) hk
    have hl : es.length = xs.length := Paired.length rr
    refine wpAny_dictSet_heap (by show X.A.units + 8 < cLine; omega) (ka.is I) D0 (fun h' D' hs' => h _ _ ?_ n) (by rw [← hl]; exact z0)
    have he : ∃ q, h'.get? D = some q := let ⟨q, _, _, hq, _⟩ := D'; ⟨q, hq⟩
    exact d_write I (by rw [hD]; exact True.intro) hs' he (dn_new (Nat.le_trans (dnPut_len es k a z) (sz_le (by omega))) hd (rr.put rv) D')
section
variable {X : Cx}
/-- {k: v for target in iter if ..}, keys ints or texts: D the new dict -/
def tDcN (P : Program) (w : World) (wi : TI) (g : TG) (tt : TT) (tk tv : TE) (vs : List Nat) : TE := fun σ H Q => wi σ H fun J H1 => ∀ D, H1 D = none → ∃ W : Nat → Nat → Hp → Prop, (∃ m o, Emp P w D o ∧ W 0 m (upd H1 D o)) ∧ ∀ i m H, W i m H →
  (J.stop i H ∧ Q (.ref D) H) ∨ (J.go i H ∧ ∃ Nx : Hp → Prop, (∀ H', Nx H' → ∃ m', m' < m ∧ W (i + 1) m' H') ∧ ∀ x H', J.yld i H x H' → g x (wipe σ vs) H' fun σ2 H2 => wipe σ2 vs = wipe σ vs ∧ tt σ2 H2 fun b H3 =>
    if b = true then tk σ2 H3 fun y H4 => tv σ2 H4 fun z H5 => rPutC P w D y z H5 Nx else Nx H3)
theorem dcN_core {pins : List (Addr × Obj)} {s : Shared} {σ : L2.St} {H : Hp} {Q : VK} {kx vx tg iter : Expr} {ifs : List Expr} {scope : Scope} {own : List (Str × Nat)} {pos pos' : Pos} {wi : TI} {g : TG} {tt : TT} {tk tv : TE} {use : Option (Value → Sem Unit)} {Qf : Value → Shared → Prop}
    (hu : X.A.units + 16 < cLine) (hc : X.calm = true) (hN : X.N.Nodup) (I : L2.Inv X pins σ H s) (hi : PI X tg iter wi) (ok : BlkOk X.N X.env.scope scope own)
    (hg : ∀ (s : Shared) (H : Hp) (C : Addr) (cl : List (Str × Addr)) (fp : List Addr), PG (X.blk s H scope (compEnvC scope cl C X.env) fp) tg g) (ht : ∀ (s : Shared) (H : Hp) (C : Addr) (cl : List (Str × Addr)) (fp : List Addr), PTs (X.blk s H scope (compEnvC scope cl C X.env) fp) ifs tt)
    (hk : ∀ (s : Shared) (H : Hp) (C : Addr) (cl : List (Str × Addr)) (fp : List Addr), PE (X.blk s H scope (compEnvC scope cl C X.env) fp) kx tk)
    (he : ∀ (s : Shared) (H : Hp) (C : Addr) (cl : List (Str × Addr)) (fp : List Addr), PE (X.blk s H scope (compEnvC scope cl C X.env) fp) vx tv) (hs : ∀ x, foldedSetIterable iter X.env x = pure x)
    (h : tDcN X.prog X.w wi g tt tk tv (own.map (·.2)) σ H Q)
    (hRR : ∀ D C s' m H', Inv X pins σ H' s' → Q (.ref D) H' → s'.heap.Ns C m → FpOk X pins H' C → compPost (model X.prog X.w) X.A X.xe use Qf (.ref D) C (.ok .next) s') :
    wpAny (model X.prog X.w) X.A (comprehension (.DictComp kx vx [⟨tg, iter, ifs, 0⟩] scope pos) scope X.env pos' newDict false (eval iter X.env) use) Qf X.xe s := by
  have hfree : ∀ y ∈ scope.names, y.2 = .free → ∃ c, X.env.cells.lookup y.1 = some c := fun y hy e => by
    rcases ok.free y hy e with k | k
    · exact I.ok.has _ (.inl k)
    · exact I.ok.has _ (.inr k)
  refine wpAny_comprehension_free (use := use) rfl hs (closure_ok hfree) ok.kind (fun y hy e => by rw [ok.uniq y hy, e])
    (thn (hi.run pins s σ H _ I h) fun xv s1 hx => thn hx fun itv s2 h2 => ?_)
  obtain ⟨it, fp, tn, J, H2, e, I2, T, st2, f2, q⟩ := h2
  subst e
  refine wpAny_newObj_type (newEnv_comp ?_)
  generalize hD : s2.heap.objs.size = D
  have hDn : H2 D = none := I2.hok.fresh (Nat.le_of_eq hD)
  obtain ⟨W, ⟨m0, o0, emp, w0⟩, turn⟩ := q D hDn
  -- the new list
  generalize hs3 : ({ s2 with heap := s2.heap.push { cls := .type "dict", data := .dict #[] } } : Shared) = s3
  have I3 : L2.Inv X pins σ (upd H2 D o0) s3 := by
    rw [← hs3]
    refine I2.laid (t' := s2.toks) (fun b o e => Heap.get?_push_of_some _ e) (Nat.le_of_eq hD) ?_
    exact emp_ok s2.heap I2.big hD emp
  have h3 : s3.heap = s2.heap.push { cls := .type "dict", data := .dict #[] } := by rw [← hs3]
  have sz : ∀ b ∈ fp, b < s2.heap.objs.size := fun b hb => by
    obtain ⟨o, e, _⟩ := T.obj _ _ st2 b hb
    exact Heap.lt_size e
  have f3 : ∀ b ∈ fp, FpOk X pins (upd H2 D o0) b ∧ b < s3.heap.objs.size := fun b hb => by
    have hlt := sz b hb
    refine ⟨⟨?_, (f2 b hb).2⟩, by rw [h3, Heap.size_push]; exact Nat.lt_succ_of_lt hlt⟩
    rw [upd_ne (by rw [← hD]; exact Nat.ne_of_lt hlt)]
    exact (f2 b hb).1
  have st3 : tn 0 s3.heap := T.keep _ _ _ st2 fun b _ o e => by rw [h3]; exact Heap.get?_push_of_some _ e
  have I4 := block_start I3 ok hN f3
  have pg := hg s3 (upd H2 D o0) s3.heap.objs.size (cellsFrom (s3.heap.objs.size + 1) scope.names (cloFrom X.env.cells scope.names [])) fp
  have pt := ht s3 (upd H2 D o0) s3.heap.objs.size (cellsFrom (s3.heap.objs.size + 1) scope.names (cloFrom X.env.cells scope.names [])) fp
  have pk := hk s3 (upd H2 D o0) s3.heap.objs.size (cellsFrom (s3.heap.objs.size + 1) scope.names (cloFrom X.env.cells scope.names [])) fp
  have pe := he s3 (upd H2 D o0) s3.heap.objs.size (cellsFrom (s3.heap.objs.size + 1) scope.names (cloFrom X.env.cells scope.names [])) fp
  show codeAny _ _ (.compStart (.DictComp kx vx [⟨tg, iter, ifs, 0⟩] scope pos) 0 (.ref it) (.ref D) (compEnvC scope (cellsFrom (s3.heap.objs.size + 1) scope.names (cloFrom X.env.cells scope.names [])) s3.heap.objs.size X.env)) (compPost (model X.prog X.w) X.A X.xe use Qf (.ref D) s3.heap.objs.size) { s3 with heap := pushCells (s3.heap.push { cls := .type "dict", data := .dict #[] }) scope.names }
  have nfp : ∀ b ∈ fp, (upd H2 D o0) b = none := fun b hb => (f3 b hb).1.1
  generalize hce : compEnvC scope (cellsFrom (s3.heap.objs.size + 1) scope.names (cloFrom X.env.cells scope.names [])) s3.heap.objs.size X.env = ce at I4 pg pt pk pe ⊢
  have cL : ce.locals = s3.heap.objs.size := by subst hce; rfl
  generalize hH3 : upd H2 D o0 = H3 at I3 I4 pg pt pk pe w0 nfp f3
  generalize hs4 : ({ s3 with heap := pushCells (s3.heap.push { cls := .type "dict", data := .dict #[] }) scope.names } : Shared) = s4 at I4 ⊢
  have st4 : tn 0 s4.heap := T.keep _ _ _ st3 fun b _ o e => by rw [← hs4]; exact pushCells_keeps _ _ _ _ (Heap.get?_push_of_some _ e)
  have stat : ∀ {σ' : L2.St} {H' : Hp} {s' : Shared}, Inv (X.blk s3 H3 scope ce fp) [] σ' H' s' → (∀ b ∈ fp, H' b = none) → ∀ b ∈ fp, FpOk (X.blk s3 H3 scope ce fp) [] H' b := fun {σ' H' s'} I' hn b hb =>
    ⟨hn b hb, (I'.ok.exf b hb).1, I'.ok.exfs b hb, .inl hb, fun x c e => (I'.ok.exf b hb).2 x c e, fun p hp => absurd (show p ∈ ([] : List (Addr × Obj)) ++ [] from hp) (by simp)⟩
  have loop : codeAny (model X.prog X.w) X.A (.compLoop (.DictComp kx vx [⟨tg, iter, ifs, 0⟩] scope pos) 0 (.ref it) (.ref D) ce) (compPost (model X.prog X.w) X.A X.xe use Qf (.ref D) s3.heap.objs.size) s4 := by
    refine compLoop_anyD (fun n s' => ∃ i H', Inv (X.blk s3 H3 scope ce fp) [] (wipe σ (own.map (·.2))) H' s' ∧ tn i s'.heap ∧ (∀ b ∈ fp, H' b = none) ∧ W i n H') ?_ m0 ⟨0, H3, I4, st4, nfp, w0⟩
    rintro n s5 ⟨i, H5, I5, st5, n5, w5⟩
    rcases turn i n H5 w5 with ⟨stop, qq⟩ | ⟨go, Nx, hNx, step⟩
    · have td := T.done (X.blk s3 H3 scope ce fp) rfl rfl rfl hc i [] s5 _ H5 (fun _ _ => False) I5 (stat I5 n5) st5 stop
      refine thnF td fun r s6 ⟨hr, I6⟩ => ?_
      subst hr
      -- back in the def's context
      have I7 : L2.Inv X pins σ H5 s6 := I3.call' (ch := fp) I6.os I6.base I6.hok I6.bare fun b hb => ⟨(f3 b hb).1.2.2.2.1, (f3 b hb).1.2.1, (f3 b hb).1.2.2.2.2.1, (f3 b hb).1.2.2.2.2.2⟩
      have nC : H5 s3.heap.objs.size = none := by
        have z : H5 ce.locals = none := I6.free
        rw [cL] at z
        exact z
      obtain ⟨m, hn, _⟩ := I6.loc
      have hn : s6.heap.Ns ce.locals m := hn
      rw [cL] at hn
      exact hRR D s3.heap.objs.size s6 m H5 I7 qq hn (I3.fpOk (Nat.le_refl _) nC)
    · have ti := T.item (X.blk s3 H3 scope ce fp) rfl rfl rfl hc i [] s5 _ H5 (fun _ _ => False) I5 (stat I5 n5) st5 go
      refine thnF ti fun r s6 ⟨u, hr, h6⟩ => ?_
      subst hr
      refine thnF h6 fun _ s7 ⟨x, H7, I7, r7, y7, st7, n7⟩ => ?_
      have I7' := I7.pinned (stat I7 n7) (T.obj _ _ st7)
      refine thnF (pg.run _ s7 _ H7 x u _ I7' r7 (step x H7 y7)) fun _ s8 ⟨σ8, H8, I8, hw8, q8⟩ => ?_
      refine thnF (pt.run _ s8 σ8 H8 _ I8 q8) fun b s9 ⟨H9, I9, q9⟩ => ?_
      -- the turn's end
      have fin : ∀ {s' : Shared} {H' : Hp}, Inv (X.blk s3 H3 scope ce fp) ([] ++ pinsAt fp s7.heap) σ8 H' s' → Nx H' → ∃ m, m < n ∧ ∃ i H', Inv (X.blk s3 H3 scope ce fp) [] (wipe σ (own.map (·.2))) H' s' ∧ tn i s'.heap ∧ (∀ b ∈ fp, H' b = none) ∧ W i m H' := fun {s' H'} I' nx => by
        obtain ⟨m', hm, w'⟩ := hNx H' nx
        have pin' : ∀ b ∈ fp, ∀ o, s7.heap.get? b = some o → s'.heap.get? b = some o ∧ H' b = none := fun b hb o e =>
          let z := I'.pin (b, o) (List.mem_append_right _ (List.mem_append_right _ (mem_pinsAt hb e)))
          ⟨z.1, z.2.1⟩
        have hl : (wipe σ (own.map (·.2))).length = σ8.length := by rw [← hw8, wipe_length]
        refine ⟨m', hm, i + 1, H', (I'.unpinned (pins := [])).weak hl (fun j v e => ?_), T.keep _ _ _ st7 fun b hb o e => (pin' b hb o e).1, fun b hb => ?_, w'⟩
        · rw [← hw8] at e
          exact (wipe_some e).1
        · obtain ⟨o, e, _⟩ := T.obj _ _ st7 b hb
          exact (pin' b hb o e).2
      cases b with
      | false =>
        simp only [Bool.false_eq_true, if_false] at q9 ⊢
        exact fin I9 q9
      | true =>
        simp only [if_true] at q9 ⊢
        refine thnF (pk.run _ s9 σ8 H9 _ I9 q9) fun z s10 ⟨yk, H10, I10, r10, q10⟩ => ?_
        refine thnF (pe.run _ s10 σ8 H10 _ I10 q10) fun z2 s11 ⟨yv, H11, I11, r11, pu⟩ => ?_
        exact dn_dictSet (X := X.blk s3 H3 scope ce fp) hu I11 pu r10 r11 fun s12 H12 I12 nx => fin I12 nx
  exact codeAny_compStart_dict loop (T.self X.A 0 _ _ _ st4 loop)
/-- as a value -/
theorem pe_dcN {kx vx tg iter : Expr} {ifs : List Expr} {scope : Scope} {own : List (Str × Nat)} {pos : Pos} {wi : TI} {g : TG} {tt : TT} {tk tv : TE} (hu : X.A.units + 16 < cLine) (hc : X.calm = true) (hN : X.N.Nodup) (hi : PI X tg iter wi) (ok : BlkOk X.N X.env.scope scope own)
    (hg : ∀ (s : Shared) (H : Hp) (C : Addr) (cl : List (Str × Addr)) (fp : List Addr), PG (X.blk s H scope (compEnvC scope cl C X.env) fp) tg g) (ht : ∀ (s : Shared) (H : Hp) (C : Addr) (cl : List (Str × Addr)) (fp : List Addr), PTs (X.blk s H scope (compEnvC scope cl C X.env) fp) ifs tt)
    (hk : ∀ (s : Shared) (H : Hp) (C : Addr) (cl : List (Str × Addr)) (fp : List Addr), PE (X.blk s H scope (compEnvC scope cl C X.env) fp) kx tk)
    (he : ∀ (s : Shared) (H : Hp) (C : Addr) (cl : List (Str × Addr)) (fp : List Addr), PE (X.blk s H scope (compEnvC scope cl C X.env) fp) vx tv) (hs : ∀ x, foldedSetIterable iter X.env x = pure x := by intro _; rfl) :
    PE X (.DictComp kx vx [⟨tg, iter, ifs, 0⟩] scope pos) (tDcN X.prog X.w wi g tt tk tv (own.map (·.2))) := by
  refine ⟨fun pins s σ H Q I h => ?_⟩
  rw [arm_eval_DictComp]
  refine dcN_core hu hc hN I hi ok hg ht hk he hs h fun D C s' m H' I' q hn f => ⟨m, hn, fun h'' sb => ?_⟩
  obtain ⟨f0, f1, f2, f3, f4, f5⟩ := f
  exact ⟨.ref D, H', I'.turned (t' := s'.toks) (fun b o hb e => (sb.2 b hb).trans e) f0 f1 f3 f4 f5, rfl, q⟩

/-- name = {..} on one line, the name a local -/
theorem ps_setDcN {i : Nat} {y : Str} {py : Pos} {kx vx tg iter : Expr} {ifs : List Expr} {scope : Scope} {own : List (Str × Nat)} {pos spos : Pos} {wi : TI} {g : TG} {tt : TT} {tk tv : TE} (hu : X.A.units + 16 < cLine) (hc : X.calm = true) (hN : X.N.Nodup) (hy : X.N[i]? = some y) (hyl : X.env.scope.names.lookup y = some .local)
    (hsw : swapsWith (.DictComp kx vx [⟨tg, iter, ifs, 0⟩] scope pos) (some (.Name y py)) spos.line X.env = pure true) (hi : PI X tg iter wi) (ok : BlkOk X.N X.env.scope scope own)
    (hg : ∀ (s : Shared) (H : Hp) (C : Addr) (cl : List (Str × Addr)) (fp : List Addr), PG (X.blk s H scope (compEnvC scope cl C X.env) fp) tg g) (ht : ∀ (s : Shared) (H : Hp) (C : Addr) (cl : List (Str × Addr)) (fp : List Addr), PTs (X.blk s H scope (compEnvC scope cl C X.env) fp) ifs tt)
    (hk : ∀ (s : Shared) (H : Hp) (C : Addr) (cl : List (Str × Addr)) (fp : List Addr), PE (X.blk s H scope (compEnvC scope cl C X.env) fp) kx tk)
    (he : ∀ (s : Shared) (H : Hp) (C : Addr) (cl : List (Str × Addr)) (fp : List Addr), PE (X.blk s H scope (compEnvC scope cl C X.env) fp) vx tv) (hs : ∀ x, foldedSetIterable iter X.env x = pure x := by intro _; rfl) :
    PS X (.Assign [.Name y py] (.DictComp kx vx [⟨tg, iter, ifs, 0⟩] scope pos) spos) (tAsg (tDcN X.prog X.w wi g tt tk tv (own.map (·.2))) (gName i)) := by
  refine ⟨fun pins s σ H D I h => ?_⟩
  rw [exec_Assign_Name_used _ _ _ _ hsw]
  refine wpAny_bind (wpAny_standAt (wpAny_bind ?_))
  show wpAny _ X.A (do let _ ← comprehension (.DictComp kx vx [⟨tg, iter, ifs, 0⟩] scope pos) scope X.env (firstIterPos [⟨tg, iter, ifs, 0⟩] pos) newDict false (eval iter X.env) (some (assign (.Name y py) X.env))) _ _ s
  have h : tDcN X.prog X.w wi g tt tk tv (own.map (·.2)) σ H (fun x H1 => gName i x σ H1 D.nx) := h
  refine wpAny_bind (thn (dcN_core (Qf := fun _ s' => SP X pins D .next s') hu hc hN I hi ok hg ht hk he hs h fun L C s' m H' I' q hn f => ?_) fun _ s' hq => wpAny_pure (wpAny_pure hq))
  show wpAny _ _ (assign (.Name y py) X.env (.ref L)) _ _ _
  refine wpAny_assign_Name (store_ok2 (v := V.ref L) I' hN hy (.inl hyl) rfl (fun s2 I2 ⟨a, sb, ha⟩ => ?_) (.inr hyl))
  obtain ⟨f0, f1, f2, f3, f4, f5⟩ := f
  have haC : C ≠ a := by
    rcases ha with z | z
    · rw [z]; exact f1
    · exact fun e => f4 y a z e.symm
  refine ⟨m, hn.sameBut sb haC, fun h3 sb3 => ?_⟩
  exact ⟨_, H', I2.turned (t' := s2.toks) (fun b o hb e => (sb3.2 b hb).trans e) f0 f1 f3 f4 f5, q⟩
theorem swD_true {kx vx : Expr} {gs : List Comprehension} {scope : Scope} {pos py : Pos} {y : Str} {l : Nat} {env : Env} (hk : env.scope.kind = .function) (hy : env.scope.names.lookup y = some .local) (hl : (py.line == pos.line) = true)
    (ha : (scope.names.any fun (n, k) => n == y && (k == .local || k == .cell)) = false) : swapsWith (.DictComp kx vx gs scope pos) (some (.Name y py)) l env = pure true := by
  have ky : env.kindOf y = some .local := hy
  have hb : env.blockKind = .function := by unfold Env.blockKind; rw [hk]; rfl
  unfold swapsWith
  simp only [hb, ky, ha, Expr.pos, hl]
  rfl
end
end Lk

set_option maxHeartbeats 8000000
namespace Lk
open PySem PySem.Spec PyProof.Rows PySem.W L2
/-! ### dict comprehensions of two clauses -/
theorem compTurnD2_out (kx vx t0 i0 t1 i1 : Expr) (ifs0 ifs1 : List Expr) (scope : Scope) (pos : Pos) (it : Value) (D : Addr) (env : Env) :
    compTurn (.DictComp kx vx [⟨t0, i0, ifs0, 0⟩, ⟨t1, i1, ifs1, 0⟩] scope pos) 0 it (.ref D) env = (do
      standAt i0.pos
      match ← pyNext it with
      | none => pure (.done .next)
      | some v =>
        letOwnedTupleGo t0 it v
        assign t0 env v
        let mut ok := true
        for c in ifs0 do
          if ok then ok ← isTrue c env (eval c env)
        if ok then
          let x ← eval i1 env
          standAt i1.pos
          let x ← foldedSetIterable i1 env x
          let _ ← runOwn (.compStart (.DictComp kx vx [⟨t0, i0, ifs0, 0⟩, ⟨t1, i1, ifs1, 0⟩] scope pos) 1 (← holding [x] (pyIter x)) (.ref D) env) env
        again (.compLoop (.DictComp kx vx [⟨t0, i0, ifs0, 0⟩, ⟨t1, i1, ifs1, 0⟩] scope pos) 0 it (.ref D) env)) := by rfl
theorem compTurnD2_in (kx vx t0 i0 t1 i1 : Expr) (ifs0 ifs1 : List Expr) (scope : Scope) (pos : Pos) (it : Value) (D : Addr) (env : Env) :
    compTurn (.DictComp kx vx [⟨t0, i0, ifs0, 0⟩, ⟨t1, i1, ifs1, 0⟩] scope pos) 1 it (.ref D) env = (do
      standAt i1.pos
      match ← pyNext it with
      | none => pure (.done .next)
      | some v =>
        letOwnedTupleGo t1 it v
        assign t1 env v
        let mut ok := true
        for c in ifs1 do
          if ok then ok ← isTrue c env (eval c env)
        if ok then
          (do
            let kv ← eval kx env
            let vv ← holding [kv] (eval vx env)
            standAt { kx.pos with endLine := vx.pos.endLine, endCol := vx.pos.endCol }
            holding [kv, vv] (dictSet D kv vv))
        again (.compLoop (.DictComp kx vx [⟨t0, i0, ifs0, 0⟩, ⟨t1, i1, ifs1, 0⟩] scope pos) 1 it (.ref D) env)) := by rfl

section
variable {prog : Program} {w : World} {A : Around} {R : Result → Shared → Prop} {s : Shared} {kx vx t0 i0 t1 i1 : Expr} {ifs0 ifs1 : List Expr} {scope : Scope} {pos : Pos} {it : Value} {D : Addr} {env : Env}
/-- the loop of the first clause -/
theorem compLoopD2_out (hs : ∀ x, foldedSetIterable i1 env x = pure x) (I : Nat → Shared → Prop)
    (turn : ∀ n s, I n s → wpAny (model prog w) A (pyNext it) (fun r s₁ => match r with
      | none => R (.ok .next) s₁
      | some v => wpAny (model prog w) A (letOwnedTupleGo t0 it v) (fun _ s₁' => wpAny (model prog w) A (assign t0 env v) (fun _ s₂ =>
          wpAny (model prog w) A (forIn ifs0 true fun c r => if r = true then do let ok ← isTrue c env (eval c env); pure (ForInStep.yield ok) else pure (ForInStep.yield r)) (fun ok s₃ =>
            if ok = true then wpAny (model prog w) A (eval i1 env) (fun x s₄ => wpAny (model prog w) A (pyIter x) (fun it1 s₅ =>
              codeAny (model prog w) A (.compStart (.DictComp kx vx [⟨t0, i0, ifs0, 0⟩, ⟨t1, i1, ifs1, 0⟩] scope pos) 1 it1 (.ref D) env) (fun r s' => match r with
                | .ok _ => ∃ m, m < n ∧ I m s'
                | .error _ => False) s₅) (notedBy (model prog w) A env fun e s' => R (.error e) s') s₄) (notedBy (model prog w) A env fun e s' => R (.error e) s') s₃
            else ∃ m, m < n ∧ I m s₃) (notedBy (model prog w) A env fun e s' => R (.error e) s') s₂) (notedBy (model prog w) A env fun e s' => R (.error e) s') s₁') (notedBy (model prog w) A env fun e s' => R (.error e) s') s₁) (notedBy (model prog w) A env fun e s' => R (.error e) s') s)
    (n : Nat) (h : I n s) :
    codeAny (model prog w) A (.compLoop (.DictComp kx vx [⟨t0, i0, ifs0, 0⟩, ⟨t1, i1, ifs1, 0⟩] scope pos) 0 it (.ref D) env) R s := by
  refine codeAny_loop rfl I (fun n s hI => ?_) n h
  show wpAny _ A ((compTurn (.DictComp kx vx [⟨t0, i0, ifs0, 0⟩, ⟨t1, i1, ifs1, 0⟩] scope pos) 0 it (.ref D) env).onRaise (fun x => do noteFrame x env; theTreesLotGoes x)) _ _ s
  refine wpAny_noted ?_
  rw [compTurnD2_out]
  refine wpAny_bind (wpAny_standAt (wpAny_bind (wpAny_mono (turn n s hI) (fun r s₁ h₁ => ?_) fun _ _ h' => h')))
  cases r with
  | none => exact wpAny_pure h₁
  | some v =>
    refine wpAny_bind (wpAny_mono h₁ (fun _ s₁' h₁' => ?_) fun _ _ h' => h')
    refine wpAny_bind (wpAny_mono h₁' (fun _ s₂ h₂ => wpAny_bind (wpAny_mono h₂ (fun ok s₃ h₃ => ?_) fun _ _ h' => h')) fun _ _ h' => h')
    cases ok with
    | false => exact wpAny_pure ⟨rfl, h₃⟩
    | true =>
      refine wpAny_bind (wpAny_mono h₃ (fun x s₄ h₄ => ?_) fun _ _ h' => h')
      refine wpAny_bind (wpAny_standAt (wpAny_bind (wpAny_of_eq (hs x) (wpAny_bind (wpAny_holding (wpAny_mono h₄ (fun it1 s₅ h₅ => ?_) fun _ _ h' => h'))))))
      refine wpAny_bind (wpAny_runOwn ?_)
      rw [Around.mark_none]
      refine codeAny_mono h₅ fun r s' hr => ?_
      cases r with
      | ok f =>
        first
          | exact wpAny_pure ⟨rfl, hr⟩
          | exact wpAny_bind (wpAny_pure (wpAny_pure ⟨rfl, hr⟩))
      | error e => exact hr.elim
/-- the loop of the second -/
theorem compLoopD2_in (I : Nat → Shared → Prop)
    (turn : ∀ n s, I n s → wpAny (model prog w) A (pyNext it) (fun r s₁ => match r with
      | none => R (.ok .next) s₁
      | some v => wpAny (model prog w) A (letOwnedTupleGo t1 it v) (fun _ s₁' => wpAny (model prog w) A (assign t1 env v) (fun _ s₂ =>
          wpAny (model prog w) A (forIn ifs1 true fun c r => if r = true then do let ok ← isTrue c env (eval c env); pure (ForInStep.yield ok) else pure (ForInStep.yield r)) (fun ok s₃ =>
            if ok = true then wpAny (model prog w) A (eval kx env) (fun kv s₄ => wpAny (model prog w) A (eval vx env) (fun vv s₅ =>
              wpAny (model prog w) A (dictSet D kv vv) (fun _ s₆ => ∃ m, m < n ∧ I m s₆) (notedBy (model prog w) A env fun e s' => R (.error e) s') s₅) (notedBy (model prog w) A env fun e s' => R (.error e) s') s₄) (notedBy (model prog w) A env fun e s' => R (.error e) s') s₃
            else ∃ m, m < n ∧ I m s₃) (notedBy (model prog w) A env fun e s' => R (.error e) s') s₂) (notedBy (model prog w) A env fun e s' => R (.error e) s') s₁') (notedBy (model prog w) A env fun e s' => R (.error e) s') s₁) (notedBy (model prog w) A env fun e s' => R (.error e) s') s)
    (n : Nat) (h : I n s) :
    codeAny (model prog w) A (.compLoop (.DictComp kx vx [⟨t0, i0, ifs0, 0⟩, ⟨t1, i1, ifs1, 0⟩] scope pos) 1 it (.ref D) env) R s := by
  refine codeAny_loop rfl I (fun n s hI => ?_) n h
  show wpAny _ A ((compTurn (.DictComp kx vx [⟨t0, i0, ifs0, 0⟩, ⟨t1, i1, ifs1, 0⟩] scope pos) 1 it (.ref D) env).onRaise (fun x => do noteFrame x env; theTreesLotGoes x)) _ _ s
  refine wpAny_noted ?_
  rw [compTurnD2_in]
  refine wpAny_bind (wpAny_standAt (wpAny_bind (wpAny_mono (turn n s hI) (fun r s₁ h₁ => ?_) fun _ _ h' => h')))
  cases r with
  | none => exact wpAny_pure h₁
  | some v =>
    refine wpAny_bind (wpAny_mono h₁ (fun _ s₁' h₁' => ?_) fun _ _ h' => h')
    refine wpAny_bind (wpAny_mono h₁' (fun _ s₂ h₂ => wpAny_bind (wpAny_mono h₂ (fun ok s₃ h₃ => ?_) fun _ _ h' => h')) fun _ _ h' => h')
    cases ok with
    | false => exact wpAny_pure ⟨rfl, h₃⟩
    | true =>
      exact wpAny_bind (wpAny_bind (wpAny_mono h₃ (fun kv s₄ h₄ => wpAny_bind (wpAny_holding (wpAny_mono h₄ (fun vv s₅ h₅ => wpAny_bind (wpAny_standAt (wpAny_holding (wpAny_mono h₅ (fun _ s₆ h₆ => wpAny_pure ⟨rfl, h₆⟩) fun _ _ h' => h')))) fun _ _ h' => h'))) fun _ _ h' => h'))
/-- the second clause's start -/
theorem compStartD1_ok (h0 : codeAny (model prog w) A (.compLoop (.DictComp kx vx [⟨t0, i0, ifs0, 0⟩, ⟨t1, i1, ifs1, 0⟩] scope pos) 1 it (.ref D) env) R s)
    (h : wpAny (model prog w) A (pyIter it) (fun it' s' => codeAny (model prog w) A (.compLoop (.DictComp kx vx [⟨t0, i0, ifs0, 0⟩, ⟨t1, i1, ifs1, 0⟩] scope pos) 1 it' (.ref D) env) R s')
      (notedBy (model prog w) A env fun x s' => R (.error x) s') s) :
    codeAny (model prog w) A (.compStart (.DictComp kx vx [⟨t0, i0, ifs0, 0⟩, ⟨t1, i1, ifs1, 0⟩] scope pos) 1 it (.ref D) env) R s := by
  refine codeAny_of_tree ?_
  show wpAny _ _ ((compStart (.DictComp kx vx [⟨t0, i0, ifs0, 0⟩, ⟨t1, i1, ifs1, 0⟩] scope pos) 1 it (.ref D) env).onRaise (fun x => do noteFrame x env; standAt theWindowsPlace)) _ _ s
  refine wpAny_notedAt ?_
  unfold compStart
  show wpAny _ _ (ask >>= _) _ _ s
  refine wpAny_bind (wpAny_askSetting (wpAny_ite ?_))
  split
  · first
      | exact wpAny_bind (wpAny_pure (wpAny_pure (And.intro rfl h0)))
      | exact wpAny_pure (And.intro rfl h0)
  · first
      | exact wpAny_bind (wpAny_rule (wpAny_bind (wpAny_standAt (wpAny_bind (wpAny_mono h (fun it' s' h' => wpAny_pure (And.intro rfl h')) fun _ _ x => x)))))
      | (refine wpAny_bind (wpAny_rule ?_); show wpAny _ _ (standAt i1.pos >>= _) _ _ s; exact wpAny_bind (wpAny_standAt (wpAny_bind (wpAny_mono h (fun it' s' h' => wpAny_pure (And.intro rfl h')) fun _ _ x => x))))
end

section
variable {X : Cx}
/-- [elt for tg in iter if .. for tg1 in iter1 if ..]: behind the first clause's store and tests the second source's own loop, from which Nx is reached. vs: the block's names; vs1: those of the second target -/
def tDcN2 (P : Program) (w : World) (wi : TI) (g : TG) (tt : TT) (wi1 : TI) (g1 : TG) (tt1 : TT) (tk tv : TE) (vs vs1 : List Nat) : TE := fun σ H Q => wi σ H fun J H1 => ∀ D, H1 D = none → ∃ W : Nat → Nat → Hp → Prop, (∃ m o, Emp P w D o ∧ W 0 m (upd H1 D o)) ∧ ∀ i m H, W i m H →
  (J.stop i H ∧ Q (.ref D) H) ∨ (J.go i H ∧ ∃ Nx : Hp → Prop, (∀ H', Nx H' → ∃ m', m' < m ∧ W (i + 1) m' H') ∧ ∀ x H', J.yld i H x H' → g x (wipe σ vs) H' fun σ2 H2 => wipe σ2 vs = wipe σ vs ∧ tt σ2 H2 fun b H3 =>
    if b = true then wi1 σ2 H3 fun J1 H4 => ∃ W1 : Nat → Nat → Hp → Prop, (∃ m, W1 0 m H4) ∧ ∀ j k H, W1 j k H →
      (J1.stop j H ∧ Nx H) ∨ (J1.go j H ∧ ∃ Nx1 : Hp → Prop, (∀ H', Nx1 H' → ∃ k', k' < k ∧ W1 (j + 1) k' H') ∧ ∀ x H', J1.yld j H x H' → g1 x (wipe σ2 vs1) H' fun σ3 H5 => wipe σ3 vs1 = wipe σ2 vs1 ∧ tt1 σ3 H5 fun b H6 =>
        if b = true then tk σ3 H6 fun y H7 => tv σ3 H7 fun z H8 => rPutC P w D y z H8 Nx1 else Nx1 H6)
    else Nx H3)
theorem dcN2_core {pins : List (Addr × Obj)} {s : Shared} {σ : L2.St} {H : Hp} {Q : VK} {kx vx tg iter tg1 iter1 : Expr} {ifs ifs1 : List Expr} {scope : Scope} {own : List (Str × Nat)} {vs1 : List Nat} {pos pos' : Pos} {wi wi1 : TI} {g g1 : TG} {tt tt1 : TT} {tk tv : TE} {use : Option (Value → Sem Unit)} {Qf : Value → Shared → Prop}
    (hu : X.A.units + 16 < cLine) (hc : X.calm = true) (hN : X.N.Nodup) (I : L2.Inv X pins σ H s) (hi : PI X tg iter wi) (ok : BlkOk X.N X.env.scope scope own) (hv : ∀ i ∈ vs1, i ∈ own.map (·.2))
    (hg : ∀ (s : Shared) (H : Hp) (C : Addr) (cl : List (Str × Addr)) (fp : List Addr), PG (X.blk s H scope (compEnvC scope cl C X.env) fp) tg g) (ht : ∀ (s : Shared) (H : Hp) (C : Addr) (cl : List (Str × Addr)) (fp : List Addr), PTs (X.blk s H scope (compEnvC scope cl C X.env) fp) ifs tt)
    (hk : ∀ (s : Shared) (H : Hp) (C : Addr) (cl : List (Str × Addr)) (fp : List Addr), PE (X.blk s H scope (compEnvC scope cl C X.env) fp) kx tk) (he : ∀ (s : Shared) (H : Hp) (C : Addr) (cl : List (Str × Addr)) (fp : List Addr), PE (X.blk s H scope (compEnvC scope cl C X.env) fp) vx tv) (hs : ∀ x, foldedSetIterable iter X.env x = pure x)
    (hi1 : ∀ (s : Shared) (H : Hp) (C : Addr) (cl : List (Str × Addr)) (fp : List Addr), PI (X.blk s H scope (compEnvC scope cl C X.env) fp) tg1 iter1 wi1)
    (hg1 : ∀ (s : Shared) (H : Hp) (C : Addr) (cl : List (Str × Addr)) (fp : List Addr), PG (X.blk s H scope (compEnvC scope cl C X.env) fp) tg1 g1)
    (ht1 : ∀ (s : Shared) (H : Hp) (C : Addr) (cl : List (Str × Addr)) (fp : List Addr), PTs (X.blk s H scope (compEnvC scope cl C X.env) fp) ifs1 tt1)
    (hs1 : ∀ env x, foldedSetIterable iter1 env x = pure x)
    (h : tDcN2 X.prog X.w wi g tt wi1 g1 tt1 tk tv (own.map (·.2)) vs1 σ H Q)
    (hRR : ∀ D C s' m H', Inv X pins σ H' s' → Q (.ref D) H' → s'.heap.Ns C m → FpOk X pins H' C → compPost (model X.prog X.w) X.A X.xe use Qf (.ref D) C (.ok .next) s') :
    wpAny (model X.prog X.w) X.A (comprehension (.DictComp kx vx [⟨tg, iter, ifs, 0⟩, ⟨tg1, iter1, ifs1, 0⟩] scope pos) scope X.env pos' (newDict) false (eval iter X.env) use) Qf X.xe s := by
  have hfree : ∀ y ∈ scope.names, y.2 = .free → ∃ c, X.env.cells.lookup y.1 = some c := fun y hy e => by
    rcases ok.free y hy e with k | k
    · exact I.ok.has _ (.inl k)
    · exact I.ok.has _ (.inr k)
  refine wpAny_comprehension_free (use := use) rfl hs (closure_ok hfree) ok.kind (fun y hy e => by rw [ok.uniq y hy, e])
    (thn (hi.run pins s σ H _ I h) fun xv s1 hx => thn hx fun itv s2 h2 => ?_)
  obtain ⟨it, fp, tn, J, H2, e, I2, T, st2, f2, q⟩ := h2
  subst e
  refine wpAny_newObj_type (newEnv_comp ?_)
  generalize hD : s2.heap.objs.size = D
  have hDn : H2 D = none := I2.hok.fresh (Nat.le_of_eq hD)
  obtain ⟨W, ⟨m0, o0, emp, w0⟩, turn⟩ := q D hDn
  -- the new list
  generalize hs3 : ({ s2 with heap := s2.heap.push { cls := .type "dict", data := .dict #[] } } : Shared) = s3
  have I3 : L2.Inv X pins σ (upd H2 D o0) s3 := by
    rw [← hs3]
    refine I2.laid (t' := s2.toks) (fun b o e => Heap.get?_push_of_some _ e) (Nat.le_of_eq hD) ?_
    exact emp_ok s2.heap I2.big hD emp
  have h3 : s3.heap = s2.heap.push { cls := .type "dict", data := .dict #[] } := by rw [← hs3]
  have sz : ∀ b ∈ fp, b < s2.heap.objs.size := fun b hb => by
    obtain ⟨o, e, _⟩ := T.obj _ _ st2 b hb
    exact Heap.lt_size e
  have f3 : ∀ b ∈ fp, FpOk X pins (upd H2 D o0) b ∧ b < s3.heap.objs.size := fun b hb => by
    have hlt := sz b hb
    refine ⟨⟨?_, (f2 b hb).2⟩, by rw [h3, Heap.size_push]; exact Nat.lt_succ_of_lt hlt⟩
    rw [upd_ne (by rw [← hD]; exact Nat.ne_of_lt hlt)]
    exact (f2 b hb).1
  have st3 : tn 0 s3.heap := T.keep _ _ _ st2 fun b _ o e => by rw [h3]; exact Heap.get?_push_of_some _ e
  have I4 := block_start I3 ok hN f3
  have pg := hg s3 (upd H2 D o0) s3.heap.objs.size (cellsFrom (s3.heap.objs.size + 1) scope.names (cloFrom X.env.cells scope.names [])) fp
  have pt := ht s3 (upd H2 D o0) s3.heap.objs.size (cellsFrom (s3.heap.objs.size + 1) scope.names (cloFrom X.env.cells scope.names [])) fp
  have pk := hk s3 (upd H2 D o0) s3.heap.objs.size (cellsFrom (s3.heap.objs.size + 1) scope.names (cloFrom X.env.cells scope.names [])) fp
  have pe := he s3 (upd H2 D o0) s3.heap.objs.size (cellsFrom (s3.heap.objs.size + 1) scope.names (cloFrom X.env.cells scope.names [])) fp
  have pi1 := hi1 s3 (upd H2 D o0) s3.heap.objs.size (cellsFrom (s3.heap.objs.size + 1) scope.names (cloFrom X.env.cells scope.names [])) fp
  have pg1 := hg1 s3 (upd H2 D o0) s3.heap.objs.size (cellsFrom (s3.heap.objs.size + 1) scope.names (cloFrom X.env.cells scope.names [])) fp
  have pt1 := ht1 s3 (upd H2 D o0) s3.heap.objs.size (cellsFrom (s3.heap.objs.size + 1) scope.names (cloFrom X.env.cells scope.names [])) fp
  show codeAny _ _ (.compStart (.DictComp kx vx [⟨tg, iter, ifs, 0⟩, ⟨tg1, iter1, ifs1, 0⟩] scope pos) 0 (.ref it) (.ref D) (compEnvC scope (cellsFrom (s3.heap.objs.size + 1) scope.names (cloFrom X.env.cells scope.names [])) s3.heap.objs.size X.env)) (compPost (model X.prog X.w) X.A X.xe use Qf (.ref D) s3.heap.objs.size) { s3 with heap := pushCells (s3.heap.push { cls := .type "dict", data := .dict #[] }) scope.names }
  have nfp : ∀ b ∈ fp, (upd H2 D o0) b = none := fun b hb => (f3 b hb).1.1
  generalize hce : compEnvC scope (cellsFrom (s3.heap.objs.size + 1) scope.names (cloFrom X.env.cells scope.names [])) s3.heap.objs.size X.env = ce at I4 pg pt pk pe pi1 pg1 pt1 ⊢
  have cL : ce.locals = s3.heap.objs.size := by subst hce; rfl
  generalize hH3 : upd H2 D o0 = H3 at I3 I4 pg pt pk pe pi1 pg1 pt1 w0 nfp f3
  generalize hs4 : ({ s3 with heap := pushCells (s3.heap.push { cls := .type "dict", data := .dict #[] }) scope.names } : Shared) = s4 at I4 ⊢
  have st4 : tn 0 s4.heap := T.keep _ _ _ st3 fun b _ o e => by rw [← hs4]; exact pushCells_keeps _ _ _ _ (Heap.get?_push_of_some _ e)
  have stat : ∀ {σ' : L2.St} {H' : Hp} {s' : Shared}, Inv (X.blk s3 H3 scope ce fp) [] σ' H' s' → (∀ b ∈ fp, H' b = none) → ∀ b ∈ fp, FpOk (X.blk s3 H3 scope ce fp) [] H' b := fun {σ' H' s'} I' hn b hb =>
    ⟨hn b hb, (I'.ok.exf b hb).1, I'.ok.exfs b hb, .inl hb, fun x c e => (I'.ok.exf b hb).2 x c e, fun p hp => absurd (show p ∈ ([] : List (Addr × Obj)) ++ [] from hp) (by simp)⟩
  have loop : codeAny (model X.prog X.w) X.A (.compLoop (.DictComp kx vx [⟨tg, iter, ifs, 0⟩, ⟨tg1, iter1, ifs1, 0⟩] scope pos) 0 (.ref it) (.ref D) ce) (compPost (model X.prog X.w) X.A X.xe use Qf (.ref D) s3.heap.objs.size) s4 := by
    refine compLoopD2_out (hs1 ce) (fun n s' => ∃ i H', Inv (X.blk s3 H3 scope ce fp) [] (wipe σ (own.map (·.2))) H' s' ∧ tn i s'.heap ∧ (∀ b ∈ fp, H' b = none) ∧ W i n H') ?_ m0 ⟨0, H3, I4, st4, nfp, w0⟩
    rintro n s5 ⟨i, H5, I5, st5, n5, w5⟩
    rcases turn i n H5 w5 with ⟨stop, qq⟩ | ⟨go, Nx, hNx, step⟩
    · have td := T.done (X.blk s3 H3 scope ce fp) rfl rfl rfl hc i [] s5 _ H5 (fun _ _ => False) I5 (stat I5 n5) st5 stop
      refine thnF td fun r s6 ⟨hr, I6⟩ => ?_
      subst hr
      -- back in the def's context
      have I7 : L2.Inv X pins σ H5 s6 := I3.call' (ch := fp) I6.os I6.base I6.hok I6.bare fun b hb => ⟨(f3 b hb).1.2.2.2.1, (f3 b hb).1.2.1, (f3 b hb).1.2.2.2.2.1, (f3 b hb).1.2.2.2.2.2⟩
      have nC : H5 s3.heap.objs.size = none := by
        have z : H5 ce.locals = none := I6.free
        rw [cL] at z
        exact z
      obtain ⟨m, hn, _⟩ := I6.loc
      have hn : s6.heap.Ns ce.locals m := hn
      rw [cL] at hn
      exact hRR D s3.heap.objs.size s6 m H5 I7 qq hn (I3.fpOk (Nat.le_refl _) nC)
    · have ti := T.item (X.blk s3 H3 scope ce fp) rfl rfl rfl hc i [] s5 _ H5 (fun _ _ => False) I5 (stat I5 n5) st5 go
      refine thnF ti fun r s6 ⟨u, hr, h6⟩ => ?_
      subst hr
      refine thnF h6 fun _ s7 ⟨x, H7, I7, r7, y7, st7, n7⟩ => ?_
      have I7' := I7.pinned (stat I7 n7) (T.obj _ _ st7)
      refine thnF (pg.run _ s7 _ H7 x u _ I7' r7 (step x H7 y7)) fun _ s8 ⟨σ8, H8, I8, hw8, q8⟩ => ?_
      refine thnF (pt.run _ s8 σ8 H8 _ I8 q8) fun b s9 ⟨H9, I9, q9⟩ => ?_
      -- the turn's end, from any slots that know what the block knew at its start
      have fin : ∀ {σ9 : L2.St} {s' : Shared} {H' : Hp}, Inv (X.blk s3 H3 scope ce fp) ([] ++ pinsAt fp s7.heap) σ9 H' s' → (wipe σ (own.map (·.2))).length = σ9.length → (∀ (j : Nat) v, (wipe σ (own.map (·.2)))[j]? = some (some v) → σ9[j]? = some (some v)) → Nx H' →
          ∃ m, m < n ∧ ∃ i H', Inv (X.blk s3 H3 scope ce fp) [] (wipe σ (own.map (·.2))) H' s' ∧ tn i s'.heap ∧ (∀ b ∈ fp, H' b = none) ∧ W i m H' := fun {σ9 s' H'} I' hl hk nx => by
        obtain ⟨m', hm, w'⟩ := hNx H' nx
        have pin' : ∀ b ∈ fp, ∀ o, s7.heap.get? b = some o → s'.heap.get? b = some o ∧ H' b = none := fun b hb o e =>
          let z := I'.pin (b, o) (List.mem_append_right _ (List.mem_append_right _ (mem_pinsAt hb e)))
          ⟨z.1, z.2.1⟩
        refine ⟨m', hm, i + 1, H', (I'.unpinned (pins := [])).weak hl hk, T.keep _ _ _ st7 fun b hb o e => (pin' b hb o e).1, fun b hb => ?_, w'⟩
        obtain ⟨o, e, _⟩ := T.obj _ _ st7 b hb
        exact (pin' b hb o e).2
      have hl8 : (wipe σ (own.map (·.2))).length = σ8.length := by rw [← hw8, wipe_length]
      have hk8 : ∀ (j : Nat) v, (wipe σ (own.map (·.2)))[j]? = some (some v) → σ8[j]? = some (some v) := fun j v e => by
        rw [← hw8] at e
        exact (wipe_some e).1
      have hk9 : ∀ (j : Nat) v, (wipe σ (own.map (·.2)))[j]? = some (some v) → (wipe σ8 vs1)[j]? = some (some v) := fun j v e => by
        rw [← hw8] at e
        obtain ⟨e1, e2⟩ := wipe_some e
        rw [wipe_out fun z => e2 (hv j z)]
        exact e1
      cases b with
      | false =>
        simp only [Bool.false_eq_true, if_false] at q9 ⊢
        exact fin I9 hl8 hk8 q9
      | true =>
        simp only [if_true] at q9 ⊢
        refine thnF (pi1.run _ s9 σ8 H9 _ I9 q9) fun xv s10 hx => thnF hx fun itv s11 h11 => ?_
        obtain ⟨it1, fp1, tn1, J1, H11, e1, I11, T1, st11, f11, W1, ⟨m1, w1⟩, turn1⟩ := h11
        subst e1
        -- the inner loop
        have stat1 : ∀ {H' : Hp}, (∀ b ∈ fp1, H' b = none) → ∀ b ∈ fp1, FpOk (X.blk s3 H3 scope ce fp) ([] ++ pinsAt fp s7.heap) H' b := fun hn b hb => ⟨hn b hb, (f11 b hb).2⟩
        have loop1 : codeAny (model X.prog X.w) X.A (.compLoop (.DictComp kx vx [⟨tg, iter, ifs, 0⟩, ⟨tg1, iter1, ifs1, 0⟩] scope pos) 1 (.ref it1) (.ref D) ce)
            (fun r s' => match r with
              | .ok _ => ∃ m, m < n ∧ ∃ i H', Inv (X.blk s3 H3 scope ce fp) [] (wipe σ (own.map (·.2))) H' s' ∧ tn i s'.heap ∧ (∀ b ∈ fp, H' b = none) ∧ W i m H'
              | .error _ => False) s11 := by
          refine compLoopD2_in (fun k s' => ∃ j H', Inv (X.blk s3 H3 scope ce fp) ([] ++ pinsAt fp s7.heap) (wipe σ8 vs1) H' s' ∧ tn1 j s'.heap ∧ (∀ b ∈ fp1, H' b = none) ∧ W1 j k H') ?_ m1 ⟨0, H11, I11.weak (wipe_length _ _) (fun j v e => (wipe_some e).1), st11, fun b hb => (f11 b hb).1, w1⟩
          rintro k s12 ⟨j, H12, I12, st12, n12, w12⟩
          rcases turn1 j k H12 w12 with ⟨stop1, nx1⟩ | ⟨go1, Nx1, hNx1, step1⟩
          · refine thnF (T1.done (X.blk s3 H3 scope ce fp) rfl rfl rfl hc j _ s12 (wipe σ8 vs1) H12 (fun _ _ => False) I12 (stat1 n12) st12 stop1) fun r s13 ⟨hr, I13⟩ => ?_
            subst hr
            exact fin I13 (hl8.trans (wipe_length σ8 vs1).symm) hk9 nx1
          · refine thnF (T1.item (X.blk s3 H3 scope ce fp) rfl rfl rfl hc j _ s12 (wipe σ8 vs1) H12 (fun _ _ => False) I12 (stat1 n12) st12 go1) fun r s13 ⟨u1, hr, h13⟩ => ?_
            subst hr
            refine thnF h13 fun _ s14 ⟨x1, H14, I14, r14, y14, st14, n14⟩ => ?_
            have I14' := I14.pinned (stat1 n14) (T1.obj _ _ st14)
            refine thnF (pg1.run _ s14 (wipe σ8 vs1) H14 x1 u1 _ I14' r14 (step1 x1 H14 y14)) fun _ s15 ⟨σ15, H15, I15, hw15, q15⟩ => ?_
            refine thnF (pt1.run _ s15 σ15 H15 _ I15 q15) fun b1 s16 ⟨H16, I16, q16⟩ => ?_
            have fin1 : ∀ {s' : Shared} {H' : Hp}, Inv (X.blk s3 H3 scope ce fp) (([] ++ pinsAt fp s7.heap) ++ pinsAt fp1 s14.heap) σ15 H' s' → Nx1 H' → ∃ m, m < k ∧ ∃ j H', Inv (X.blk s3 H3 scope ce fp) ([] ++ pinsAt fp s7.heap) (wipe σ8 vs1) H' s' ∧ tn1 j s'.heap ∧ (∀ b ∈ fp1, H' b = none) ∧ W1 j m H' := fun {s' H'} I' nx => by
              obtain ⟨m', hm, w'⟩ := hNx1 H' nx
              have pin' : ∀ b ∈ fp1, ∀ o, s14.heap.get? b = some o → s'.heap.get? b = some o ∧ H' b = none := fun b hb o e =>
                let z := I'.pin (b, o) (List.mem_append_right _ (List.mem_append_right _ (mem_pinsAt hb e)))
                ⟨z.1, z.2.1⟩
              refine ⟨m', hm, j + 1, H', I'.unpinned.weak (by rw [← hw15, wipe_length]) (fun j v e => by rw [← hw15] at e; exact (wipe_some e).1), T1.keep _ _ _ st14 fun b hb o e => (pin' b hb o e).1, fun b hb => ?_, w'⟩
              obtain ⟨o, e, _⟩ := T1.obj _ _ st14 b hb
              exact (pin' b hb o e).2
            cases b1 with
            | false =>
              simp only [Bool.false_eq_true, if_false] at q16 ⊢
              exact fin1 I16 q16
            | true =>
              simp only [if_true] at q16 ⊢
              refine thnF (pk.run _ s16 σ15 H16 _ I16 q16) fun z s17 ⟨yk, H17, I17, r17, q17⟩ => ?_
              refine thnF (pe.run _ s17 σ15 H17 _ I17 q17) fun z2 s18 ⟨yv, H18, I18, r18, pu⟩ => ?_
              exact dn_dictSet (X := X.blk s3 H3 scope ce fp) hu I18 pu r17 r18 fun s19 H19 I19 nx => fin1 I19 nx
        exact compStartD1_ok loop1 (T1.self X.A 0 _ _ _ st11 loop1)
  exact codeAny_compStart_dict loop (T.self X.A 0 _ _ _ st4 loop)
/-- as a value -/
theorem pe_dcN2 {kx vx tg iter tg1 iter1 : Expr} {ifs ifs1 : List Expr} {scope : Scope} {own : List (Str × Nat)} {vs1 : List Nat} {pos : Pos} {wi wi1 : TI} {g g1 : TG} {tt tt1 : TT} {tk tv : TE} (hu : X.A.units + 16 < cLine) (hc : X.calm = true) (hN : X.N.Nodup) (hi : PI X tg iter wi) (ok : BlkOk X.N X.env.scope scope own) (hv : ∀ i ∈ vs1, i ∈ own.map (·.2))
    (hg : ∀ (s : Shared) (H : Hp) (C : Addr) (cl : List (Str × Addr)) (fp : List Addr), PG (X.blk s H scope (compEnvC scope cl C X.env) fp) tg g) (ht : ∀ (s : Shared) (H : Hp) (C : Addr) (cl : List (Str × Addr)) (fp : List Addr), PTs (X.blk s H scope (compEnvC scope cl C X.env) fp) ifs tt)
    (hi1 : ∀ (s : Shared) (H : Hp) (C : Addr) (cl : List (Str × Addr)) (fp : List Addr), PI (X.blk s H scope (compEnvC scope cl C X.env) fp) tg1 iter1 wi1)
    (hg1 : ∀ (s : Shared) (H : Hp) (C : Addr) (cl : List (Str × Addr)) (fp : List Addr), PG (X.blk s H scope (compEnvC scope cl C X.env) fp) tg1 g1) (ht1 : ∀ (s : Shared) (H : Hp) (C : Addr) (cl : List (Str × Addr)) (fp : List Addr), PTs (X.blk s H scope (compEnvC scope cl C X.env) fp) ifs1 tt1)
    (hk : ∀ (s : Shared) (H : Hp) (C : Addr) (cl : List (Str × Addr)) (fp : List Addr), PE (X.blk s H scope (compEnvC scope cl C X.env) fp) kx tk) (he : ∀ (s : Shared) (H : Hp) (C : Addr) (cl : List (Str × Addr)) (fp : List Addr), PE (X.blk s H scope (compEnvC scope cl C X.env) fp) vx tv) (hs : ∀ x, foldedSetIterable iter X.env x = pure x := by intro _; rfl) (hs1 : ∀ env x, foldedSetIterable iter1 env x = pure x := by intro _ _; rfl) :
    PE X (.DictComp kx vx [⟨tg, iter, ifs, 0⟩, ⟨tg1, iter1, ifs1, 0⟩] scope pos) (tDcN2 X.prog X.w wi g tt wi1 g1 tt1 tk tv (own.map (·.2)) vs1) := by
  refine ⟨fun pins s σ H Q I h => ?_⟩
  rw [arm_eval_DictComp]
  refine dcN2_core hu hc hN I hi ok hv hg ht hk he hs hi1 hg1 ht1 hs1 h fun D C s' m H' I' q hn f => ⟨m, hn, fun h'' sb => ?_⟩
  obtain ⟨f0, f1, f2, f3, f4, f5⟩ := f
  exact ⟨.ref D, H', I'.turned (t' := s'.toks) (fun b o hb e => (sb.2 b hb).trans e) f0 f1 f3 f4 f5, rfl, q⟩
end
end Lk

set_option maxHeartbeats 8000000
namespace Lk
open PySem PySem.Spec PyProof.Rows PySem.W L2
/-! ### a dict with nested keys, walked by its items; its list of keys -/
/-- the pairs, each a new tuple -/
def ItN (P : Program) (w : World) (d : Addr) (o : Obj) (es : DnE) : It :=
  ⟨fun i H => H d = some (.frz o (DN P w d es)) ∧ i < es.length, fun i H x H' => ∃ T k a v, es[i]? = some (k, a, v) ∧ x = .ref T ∧ H T = none ∧ H' = upd H T (.tup [.ref a, v]), fun i H => H d = some (.frz o (DN P w d es)) ∧ es.length ≤ i⟩
theorem dn_frz {X : Cx} {pins : List (Addr × Obj)} {σ : L2.St} {H : Hp} {s : Shared} {d : Addr} {o : Obj} {es : DnE} (I : L2.Inv X pins σ H s) (hd : H d = some (.frz o (DN X.prog X.w d es))) :
    (d == sysModules) = false ∧ s.heap.get? d = some o ∧ o.ExactDict ∧ ∃ ar ep xs, o.data = .dict ar ep ∧ ar.size = es.length ∧ DnR es xs ∧ ar.toList = xs.map (entryOfKey (nestedKind X.prog X.w)) ∧ es.length ≤ sizeLine := by
  obtain ⟨e0, e1⟩ := (show s.heap.get? d = some o ∧ ObjOk X.prog X.w H s.heap d (DN X.prog X.w d es) from I.hok d _ hd)
  obtain ⟨h1, h2, xs, r, nd, o', ar, ep, g1, g2, g3, g4⟩ := dn_ok e1
  rw [e0] at g1
  cases g1
  exact ⟨h2, e0, g2, ar, ep, xs, g3, by rw [size_of_entries g4]; exact (Paired.length r).symm, r, g4, h1⟩
theorem dn_ent {P : Program} {w : World} {knd : HeapKind P w NestedKey} {es : DnE} {xs : List (NestedKey × Addr × Value)} {ar : Array DictEntry} {i : Nat} (r : DnR es xs) (g : ar.toList = xs.map (entryOfKey knd)) (hi : i < es.length) (hi2 : i < ar.size) : ∃ k a v, es[i]? = some (k, a, v) ∧ ar[i].key = .ref a ∧ RelV v ar[i].val := by
  obtain ⟨q, f1, f2, f3, f4⟩ := LiI.paired_get r (List.getElem?_eq_getElem hi)
  have e := entry_at g i
  rw [f1, Array.getElem?_eq_getElem hi2] at e
  have e : ar[i] = entryOfKey knd q := Option.some.inj e
  refine ⟨es[i].1, es[i].2.1, es[i].2.2, List.getElem?_eq_getElem hi, ?_, ?_⟩
  · rw [e, f3] <;> rfl
  · rw [e]
    exact f4
section
variable {P : Program} {w : World} {K : PySem.W.Frag} {d : Addr} {o : Obj} {ar : Array DictEntry} {ep : Nat}
theorem turn_itemsN {es : DnE} {elts : List Expr} {kk : Nat} {tpos : Pos} (it : Addr) (hod : o.data = .dict ar ep) :
    Turn P w K (.Tuple elts kk tpos) (ItN P w d o es) [it] it (fun i h => ∃ ok ov, IsItemIter h it d i es.length ep ok ov) where
  mem := by simp
  obj := fun i h st b hb => by
    have e : b = it := by simpa using hb
    subst e
    obtain ⟨ok, ov, e⟩ := st
    exact ⟨_, e, fun v z => nomatch z⟩
  keep := fun i h h' st k => let ⟨ok, ov, e⟩ := st; ⟨ok, ov, k it (by simp) _ e⟩
  item := by
    intro X hP hw hK hc i pins s σ H E I hf st hg
    subst hP hw hK
    obtain ⟨hd, hi⟩ := hg
    obtain ⟨hs, hgd, hx, ar', ep', xs, hdt, hsz, r, g, _⟩ := dn_frz I hd
    rw [hod] at hdt
    cases hdt
    have hi2 : i < ar.size := by omega
    obtain ⟨k, a, v, hkv, ek, ru⟩ := dn_ent r g hi hi2
    obtain ⟨ok, ov, he⟩ := st
    rw [← hsz] at he
    have hlt : it < s.heap.objs.size := Heap.lt_size he
    refine wpAny_pyNext_items_item_raw he ⟨o, hgd, hx, hod⟩ hi2 fun h' ho hT hz hk => ?_
    refine ⟨_, rfl, wpAny_letOwnedTupleGo_items (s := { s with heap := h' }) ho fun h'' he' sb => ?_⟩
    have hT2 : h''.get? s.heap.objs.size = some { cls := .type "tuple", data := .seq #[ar[i].key, ar[i].val] } := (sb.2 _ (Nat.ne_of_gt hlt)).trans hT
    have new : ObjOk X.prog X.w (upd H s.heap.objs.size (.tup [.ref a, v])) h'' s.heap.objs.size (.tup [.ref a, v]) :=
      ⟨by show 2 ≤ sizeLine; decide, [ar[i].key, ar[i].val], .cons ek (.cons ru .nil), ⟨_, hT2, rfl, _, rfl⟩⟩
    have I1 : L2.Inv X pins σ (upd H s.heap.objs.size (.tup [.ref a, v])) { s with heap := h'' } :=
      I.turnedNew (t' := s.toks) (ch := [it]) (fun b ob hb e => (sb.2 b (by simpa using hb)).trans (hk b ob (by simpa using hb) e)) hf (Nat.le_refl _) new
    refine ⟨.ref s.heap.objs.size, _, I1, rfl, ⟨_, k, a, v, hkv, rfl, I.hok.fresh (Nat.le_refl _), rfl⟩, ⟨ar[i].key, ar[i].val, ?_⟩, fun b hb => ?_⟩
    · rw [← hsz]; exact he'
    · have e : b = it := by simpa using hb
      rw [e, upd_ne (Nat.ne_of_lt hlt)]
      exact (hf it (by simp)).1
  done := by
    intro X hP hw hK hc i pins s σ H E I hf st hg
    subst hP hw hK
    obtain ⟨hd, hi⟩ := hg
    obtain ⟨f0, f1, f2, f3, f4, f5⟩ := hf it (by simp)
    obtain ⟨hs, hgd, hx, ar', ep', xs, hdt, hsz, r, g, _⟩ := dn_frz I hd
    rw [hod] at hdt
    cases hdt
    obtain ⟨ok, ov, he⟩ := st
    rw [← hsz] at he
    exact wpAny_pyNext_items_end_raw (I.ok.hd hc) he ⟨o, hgd, hx, hod⟩ (by omega) fun h' eb => ⟨rfl, I.turned (t' := s.toks) (fun b ob hb e => eb b ob hb e) f0 f1 f3 f4 f5⟩
  self := fun A i s Q E st h => let ⟨_, _, e⟩ := st; PySem.W.kcp_self e h
end
def iItemsN (P : Program) (w : World) (td : TE) : TI := fun σ H R => td σ H fun x H1 => ∃ d o es, x = .ref d ∧ H1 d = some (.frz o (DN P w d es)) ∧ R (ItN P w d o es) H1
section
variable {X : Cx} {e : Expr} {td : TE} {apos cpos : Pos}
theorem pi_itemsN {elts : List Expr} {kk : Nat} {tpos : Pos} (he : PE X e td) (hbase : attributeBase e "items" X.env (eval e X.env) = eval e X.env := by rfl) (hline : (apos.endLine == cpos.line) = true := by rfl) :
    PI X (.Tuple elts kk tpos) (.Call (.Attribute e "items" apos) [] [] cpos) (iItemsN X.prog X.w td) := by
  refine ⟨fun pins s σ H R I h => ?_⟩
  refine wpAny_Call_method (T := "dict") (id := "dict.items") hbase rfl hline F.plainAttrs_dict F.slot_dict_items F.type_dict_items (thn (he.run pins s σ H _ I h) fun u s1 ⟨x, H1, I1, rx, d, o, es, ex, hd, q⟩ => ?_)
  subst ex
  obtain rfl : u = Value.ref d := rx
  obtain ⟨hs, hgd, hx, ar, ep, xs, hdt, hsz, r, g, _⟩ := dn_frz I1 hd
  have raw : s1.heap.DictRaw d ar ep := ⟨o, hgd, hx, hdt⟩
  refine ⟨raw.typeIs, (fun b e => by cases e; exact ⟨o, hgd, hx.2.1⟩), ?_⟩
  have I2 : L2.Inv X pins σ H1 { s1 with heap := s1.heap.push { cls := .type "dict_items", data := .fields #[.ref d] } } := I1.kept (t' := s1.toks) fun b ob q => Heap.get?_push_of_some _ q
  have fin : wpAny (model X.prog X.w) X.A (pyIter (.ref s1.heap.objs.size)) (PIE X pins σ (.Tuple elts kk tpos) R) X.xe { s1 with heap := s1.heap.push { cls := .type "dict_items", data := .fields #[.ref d] } } := by
    refine wpAny_pyIter_items_raw (d := d) ⟨_, Heap.get?_push_size _ rfl, rfl, rfl⟩ (raw.at fun _ e => Heap.get?_push_of_some _ e) (pi_one (tk := s1.toks) I2 _ (turn_itemsN _ hdt) ⟨.none, .none, ?_⟩ q)
    rw [← hsz]
    exact Heap.get?_push_size _ rfl
  show wpAny _ _ (callWith cpos (.builtin "dict.items") [.ref d] [] []) _ X.xe s1
  exact method_meetsIn F.slot_dict_items F.entry_dict_items rfl (PySem.evalArgs_none ⟨rfl, raw.typeIs, F.args_dict_items_1 _, _, meets_dict_items_raw d hs, ⟨ar, ep, raw⟩, fin⟩)
/-- list(d): the keys, in order -/
theorem call_list_dn (hc : X.calm = true) : CallR X (.type "list") (fun xs H Q => ∃ d es, xs = [V.ref d] ∧ Rd H d (DN X.prog X.w d es) ∧ ∀ p, H p = none → Q (.ref p) (upd H p (.lst (es.map fun x => V.ref x.2.1)))) := by
  intro pins s σ H xs us Q I r h
  obtain ⟨d, es, rfl, hd, q⟩ := h
  obtain ⟨u, rfl, rx⟩ := r.one
  cases rx
  obtain ⟨z, hs, ks, pr, _, o, ar, ep, ho, hx, hdt, he⟩ := dn_ok (hd.ok I.hok)
  have l1 : ar.size = ks.length := size_of_entries he
  have l2 : es.length = ks.length := Paired.length pr
  refine PySem.W.kdl_call (kdl_raw hs hx hdt) (I.ok.hd hc) ho (by omega) fun h' tk acc' c' kp e it => ?_
  have ea : acc'.toList = es.map fun x => Value.ref x.2.1 := by
    have hl : acc'.toList.length = ks.length := by rw [Array.length_toList, it.1]; exact l1
    apply List.ext_getElem?
    intro j
    rw [List.getElem?_map]
    cases hj : acc'.toList[j]? with
    | none =>
      have h1 := List.getElem?_eq_none_iff.mp hj
      rw [List.getElem?_eq_none (by omega)]
      all_goals rfl
    | some v =>
      obtain ⟨en, hen, hv⟩ := it.2 j v (by rw [← Array.getElem?_toList]; exact hj)
      obtain ⟨h1, h2⟩ := Array.getElem?_eq_some_iff.mp hen
      obtain ⟨k, a, v', e1, e2, _⟩ := dn_ent pr he (show j < es.length by omega) h1
      rw [e1, hv, ← h2, e2]
      all_goals rfl
  have eb : acc'.toList = (es.map fun x => x.2.1).map Value.ref := by rw [ea, List.map_map]; all_goals rfl
  have rv : Vals (es.map fun x => V.ref x.2.1) acc'.toList := by
    have e3 : (es.map fun x => V.ref x.2.1) = (es.map fun x => x.2.1).map V.ref := by rw [List.map_map]; all_goals rfl
    rw [eb, e3]
    exact vals_refs _
  refine ⟨.ref s.heap.objs.size, _, I.laid (t' := tk) (o := .lst (es.map fun x => V.ref x.2.1)) kp (Nat.le_refl _) ?_, rfl, q _ (I.hok.fresh (Nat.le_refl _))⟩
  exact ⟨by rw [List.length_map]; omega, acc'.toList, c', rv, by rw [Array.toArray_toList]; exact e⟩
end
end Lk

set_option maxHeartbeats 8000000
namespace Lk
open PySem PySem.Spec PyProof.Rows PySem.W L2
section
variable {X : Cx}
/-- (x,) * k, any k to a thousand -/
def rRepA (K : PySem.W.Frag) : R2 := fun x y H Q => ∃ l k v, x = .ref l ∧ y = .int k ∧ H l = some (.tup [v]) ∧ 0 ≤ k ∧ k ≤ 1000 ∧ ∀ p H', Same H H' → H' p = some (.tup (List.replicate k.toNat v)) → Q (.ref p) H'
theorem op_repA : OpR X (binaryOp .Mult) (rRepA X.K) := by
  intro pins s σ H x y v u Q I rx ry h
  obtain ⟨l, k, v0, rfl, rfl, hT', h1, h2, q⟩ := h
  have hT : SqT X.K H l [v0] := .inl (.inl hT')
  by_cases k0 : k = 0
  · subst k0
    cases rx
    obtain ⟨t, rfl⟩ := ry
    obtain ⟨its, r, ⟨⟨cls, dd, data, sl⟩, ho, hc, n, hd⟩, hs⟩ := I.tuple hT
    simp only at hc hd
    subst hc hd
    refine wpAny_binaryOp_repeat_ref (T := "tuple") (U := "int") (by decide) ⟨_, ho, rfl⟩ (fun s' => typeIs_int s' 0 t) noFill_tuple_mul F.fills_int_mul F.slot_int_rmul repeat_tuple F.slot_int_index.lookup
      (call_meets F.slot_int_rmul (typeIs_int s 0 t) F.entry_int_rmul (F.args_int_rmul_2 _ _) (int_rmul_tuple 0 t l its.toArray n dd sl)
        ⟨ho, rfl, ⟨_, ho, rfl⟩, call_meets F.slot_tuple_mul ⟨_, ho, rfl⟩ F.entry_tuple_mul (F.args_tuple_mul_2 _ _) (tuple_mul0 l its.toArray n dd sl 0 t (by decide) ?_ (by simp)) ⟨ho, ?_⟩⟩)
    · cases r with
      | cons a b => cases b; rfl
    · exact ⟨.ref s.heap.objs.size, _, I.laid (t' := s.toks) (o := .tup []) (fun b ob q => Heap.get?_push_of_some _ q) (Nat.le_refl _) ⟨Nat.zero_le _, [], .nil, IsTup.new _ _⟩, rfl, q _ _ (same_new (I.hok.fresh (Nat.le_refl _))) upd_same⟩
  · by_cases k1 : k = 1
    · subst k1
      cases rx
      obtain ⟨t, rfl⟩ := ry
      obtain ⟨its, r, ⟨⟨cls, dd, data, sl⟩, ho, hc, n, hd⟩, hs⟩ := I.tuple hT
      simp only at hc hd
      subst hc hd
      refine wpAny_binaryOp_repeat_ref (T := "tuple") (U := "int") (by decide) ⟨_, ho, rfl⟩ (fun s' => typeIs_int s' 1 t) noFill_tuple_mul F.fills_int_mul F.slot_int_rmul repeat_tuple F.slot_int_index.lookup
        (call_meets F.slot_int_rmul (typeIs_int s 1 t) F.entry_int_rmul (F.args_int_rmul_2 _ _) (int_rmul_tuple 1 t l its.toArray n dd sl)
          ⟨ho, rfl, ⟨_, ho, rfl⟩, call_meets F.slot_tuple_mul ⟨_, ho, rfl⟩ F.entry_tuple_mul (F.args_tuple_mul_2 _ _) (tuple_mul1 l its.toArray n dd sl 1 t (by decide) (by simp)) ⟨ho, ?_⟩⟩)
      exact ⟨.ref l, H, I, rfl, q _ _ (fun _ _ e => e) hT'⟩
    · refine op_repT pins s σ H _ _ v u Q I rx ry ⟨l, k, [v0], rfl, rfl, hT, by simp, by omega, h2, by simp, fun p hp => q _ _ (same_new hp) ?_⟩
      rw [upd_same]
      simp
/-- max(ns, default=d) -/
theorem cr_maxD : CallRK X (.builtin "max") [Str.ofString "default"] (fun vs zs H Q => ∃ (a : Addr) (ns : List Int) (z : V), vs = [V.ref a] ∧ zs = [z] ∧ SqL X.K H a (ns.map V.int) ∧ X.calm = true ∧ X.A.units + 4 < cLine ∧ (ns = [] → Q z H) ∧ ∀ y ys, ns = y :: ys → ∀ m : Int, m = maxOf y ys → Q (.int m) H) := by
  intro pins s σ H vs zs us ws Q I r rz h
  obtain ⟨a, ns, z, rfl, rfl, hs, hc, hu, q0, q1⟩ := h
  obtain rfl := Vals.ref1 r
  obtain ⟨w1, rfl, e1⟩ := vals1 rz
  obtain ⟨its, rv, hl, hz⟩ := I.list hs
  have hi := rv.ints
  refine max_list_datum_default (α := Int) (xs := ns) (vs := its.toArray) (I.ok.hd hc) hl.isList (by simpa using HoldAll.of_ints hi) ?_ (fun e h' tk kp => ?_) (fun y ys i v h' tk e hi hh kp => ?_)
  · show X.A.units + 1 + 0 < cLine
    omega
  · exact ⟨z, H, I.kept kp, e1, q0 e⟩
  · obtain ⟨as, hh⟩ := hh
    obtain ⟨t, rfl⟩ : ∃ t, v = .int (maxOf y ys) t := by
      have hh : Reads h' v (.int (maxOf y ys)) as := hh
      cases hh
      exact ⟨_, rfl⟩
    exact ⟨.int (maxOf y ys), H, I.kept kp, ⟨t, rfl⟩, q1 y ys e _ rfl⟩
/-- d.update(e), keys ints or texts -/
theorem mt_updateK : MtR X "dict.update" (fun x vs H Q => ∃ d o kvs more, x = .ref d ∧ vs = [.ref o] ∧ d ≠ o ∧ H d = some (.dK kvs) ∧ H o = some (.dK more) ∧ kvs.length + more.length ≤ sizeLine ∧ Q .non (upd H d (.dK (mergeK kvs more)))) := by
  intro pins s σ H x vs v us Q I rx rv h
  obtain ⟨d, o, kvs, more, rfl, rfl, hne, hd, ho, hz, q⟩ := h
  cases rx
  obtain ⟨u, rfl, ru⟩ := rv.one
  cases ru
  obtain ⟨z1, y1, vs1, r1, d1⟩ := dk_of I.hok hd
  obtain ⟨z2, y2, vs2, r2, d2⟩ := dk_of I.hok ho
  have l1 : kvs.length = vs1.length := r1.length
  have l2 : more.length = vs2.length := r2.length
  refine call_meetsIn F.slot_dict_update d1.typeIs F.entry_dict_update (F.args_dict_update_2 _ _) (meets_dict_update (mixKind X.prog X.w) d o hne y2) ⟨vs1, vs2, d1, d2, by omega, fun h' g1 g2 sb => ?_⟩
  refine ⟨.non, _, ?_, rfl, q⟩
  have he : ∃ q, h'.get? d = some q := let ⟨q, _, _, hq, _⟩ := g1; ⟨q, hq⟩
  exact d_write (s := s) I (by rw [hd]; exact True.intro) (t' := s.toks) sb he (dk_new (Nat.le_trans (length_mergeK more kvs) hz) y1 (KV.merge r2 r1) g1)
end
/-! ### (x, y)[::-1] -/
section
variable {prog : Program} {w : World} {A : Around} {E : Value → Shared → Prop} {s : Shared}
theorem sliceApplied_rev2 {sl : Addr} {u : Tok} {Q : Int × Int × Nat → Shared → Prop} (hs : s.heap.IsSliceOf sl .none .none (.int (-1) u)) (h : Q (1, -1, 2) s) : wpAny (model prog w) A (Builtin.Slice.sliceApplied (.ref sl) (pure ((2 : Nat) : Int))) Q E s := by
  obtain ⟨os, hos, hcs, hds⟩ := id hs
  unfold Builtin.Slice.sliceApplied Builtin.Slice.sliceFields
  refine wpAny_bind (wpAny_bind (wpAny_field hos hds (x := .none) rfl (wpAny_bind (wpAny_field hos hds (x := .none) rfl (wpAny_bind (wpAny_field hos hds (x := .int (-1) u) rfl (wpAny_pure ?_)))))))
  refine wpAny_bind (slicePart_int ?_)
  show wpAny _ _ (if ((-1 : Int) == 0) = true then _ else _) _ _ s
  rw [if_neg (by decide)]
  refine wpAny_bind (slicePart_none (wpAny_bind (slicePart_none (wpAny_bind (wpAny_pure ?_)))))
  show wpAny _ _ (match Builtin.Slice.sliceAdjust none none (-1) ((2 : Nat) : Int) with | (lo, hi) => pure (lo, (-1 : Int), Builtin.Slice.slicePlaces lo hi (-1))) _ _ s
  have e : Builtin.Slice.sliceAdjust none none (-1) ((2 : Nat) : Int) = (1, -1) := by decide
  rw [e]
  show wpAny _ _ (pure ((1 : Int), (-1 : Int), Builtin.Slice.slicePlaces 1 (-1) (-1))) _ _ s
  have e2 : Builtin.Slice.slicePlaces 1 (-1) (-1) = 2 := by decide
  rw [e2]
  exact wpAny_pure h
theorem getItem_rev2 {t sl : Addr} {x y : Value} {u : Tok} {Q : Value → Shared → Prop} (ht : IsTup s.heap t #[x, y]) (hs : s.heap.IsSliceOf sl .none .none (.int (-1) u))
    (h : Q (.ref s.heap.objs.size) { s with heap := s.heap.push { cls := .type "tuple", data := .seq #[y, x] } }) : wpAny (model prog w) A (getItem (.ref t) (.ref sl)) Q E s := by
  have htake : sizeOk (.seq #[y, x]) := by
    show 2 ≤ sizeLine
    decide
  obtain ⟨os, hos, hcs, hds⟩ := id hs
  have hTs : s.TypeIs (.ref sl) "slice" := ⟨os, hos, hcs⟩
  unfold getItem
  try with_reducible refine wpAny_holding ?_
  first | refine wpAny_bind (wpAny_pure ?_) | skip
  refine wpAny_bind (wpAny_sequenceKey ht.typeIs (by decide) ?_)
  refine wpAny_bind (wpAny_callSpecial?_slot (name := Str.ofString "__getitem__") ht.typeIs PyProof.Rows.slot_tuple_getitem
    (wpAny_call_entry PyProof.Rows.slot_tuple_getitem ht.typeIs entry_tuple_getitem ?_ (args_tuple_getitem _ _)))
  show wpAny _ _ (Builtin.Tuple.tupleItemsOf (.ref t) >>= _) _ _ s
  refine wpAny_bind (PyProof.Rows.tupleItemsOf_ ht ?_)
  refine wpAny_bind (wpAny_typeOf hTs ?_)
  rw [if_pos (by decide)]
  refine wpAny_bind (sliceApplied_rev2 hs ?_)
  show wpAny _ _ (if (((1 : Int) == 0) && ((-1 : Int) == 1) && ((2 : Nat) == 2)) = true then _ else _) _ _ s
  rw [if_neg (by decide)]
  have ep : ((List.range 2).filterMap fun (m : Nat) => (#[x, y] : Array Value)[((1 : Int) + (m : Int) * (-1)).toNat]?).toArray = #[y, x] := by rfl
  rw [ep]
  first
    | exact wpAny_bind (m := Builtin.Tuple.tupleExact _) (wpAny_newObj_type (wpAny_pure ⟨_, rfl, wpAny_pure h⟩) htake)
    | exact wpAny_bind (m := Builtin.Tuple.tupleExact _) (wpAny_newObj_type (wpAny_bind (wpAny_pure (wpAny_pure ⟨_, rfl, wpAny_pure h⟩))) htake)
    | exact wpAny_bind (wpAny_bind (m := Builtin.Tuple.tupleExact _) (wpAny_newObj_type (wpAny_pure (wpAny_pure ⟨_, rfl, wpAny_pure h⟩)) htake))
    | exact wpAny_bind (wpAny_bind (m := Builtin.Tuple.tupleExact _) (wpAny_newObj_type (wpAny_pure ⟨_, rfl, wpAny_pure h⟩) htake))
end
section
variable {X : Cx}
def tRev2 (K : PySem.W.Frag) (te : TE) : TE := fun σ H Q => te σ H fun x H1 => ∃ a y z, x = .ref a ∧ SqT K H1 a [y, z] ∧ ∀ p, H1 p = none → Q (.ref p) (upd H1 p (.tup [z, y]))
theorem pe_rev2 {e : Expr} {te : TE} {k : Nat} {p1 p2 p3 pos : Pos} (he : PE X e te) : PE X (.Subscript e (.Slice none none (some (.UnaryOp .USub (.Constant (.int 1) k p1) p2)) p3) pos) (tRev2 X.K te) := by
  refine ⟨fun pins s σ H Q I h => ?_⟩
  refine Subscript_ (thn (he.run pins s σ H _ I h) fun v s1 ⟨x, H1, I1, r1, q1⟩ => ?_)
  obtain ⟨a, y, z, ex, hx, q⟩ := q1
  subst ex
  cases r1
  have hst : PO X (some (.UnaryOp .USub (.Constant (.int 1) k p1) p2)) (tPart (tUn (rU fun i => .int (-i)) (tC (.int 1)))) := po_some (pe_un un_neg pe_int)
  refine wpAny_Slice (thn (po_none.run pins s1 σ H1 (fun o H2 => o = none ∧ H2 = H1) I1 ⟨rfl, rfl⟩) fun vl s2 ⟨l, H2, I2, pl, el, e2⟩ => ?_)
  subst el e2
  refine thn (po_none.run pins s2 σ H2 (fun o H3 => o = none ∧ H3 = H2) I2 ⟨rfl, rfl⟩) fun vu s3 ⟨u, H3, I3, pu, eu, e3⟩ => ?_
  subst eu e3
  refine thn (hst.run pins s3 σ H3 (fun o H4 => o = some (-1) ∧ H4 = H3) I3 ⟨1, rfl, -1, rfl, rfl, rfl⟩) fun vs s4 ⟨o, H4, I4, ps, eo, e4⟩ => ?_
  subst eo e4
  cases pl
  cases pu
  cases ps with
  | int _ u =>
    have I5 : L2.Inv X pins σ H4 { s4 with heap := s4.heap.push { cls := .type "slice", data := .fields #[.none, .none, .int (-1) u] } } := I4.kept (t' := s4.toks) fun b ob q => Heap.get?_push_of_some _ q
    obtain ⟨its, r, ht, hz⟩ := I5.tuple hx
    cases r with
    | cons r1 r2 =>
      cases r2 with
      | cons r2 r3 =>
        cases r3
        show wpAny (model X.prog X.w) X.A (subscriptTail e (.Slice none none (some (.UnaryOp .USub (.Constant (.int 1) k p1) p2)) p3) (.ref a) (.ref s4.heap.objs.size)) (EP X pins σ Q) X.xe { s4 with heap := s4.heap.push { cls := .type "slice", data := .fields #[.none, .none, .int (-1) u] } }
        refine tail_any (ops := [.ref a, .ref s4.heap.objs.size]) ht.typeIs (PyProof.Rows.slot_tuple_getitem.lookup) ?_ (by with_unfolding_all rfl)
        refine getItem_rev2 ht (Heap.IsSliceOf.new _ _ _ _) ?_
        refine ⟨.ref _, _, I5.laid (t' := s4.toks) (o := .tup [z, y]) (fun b ob q => Heap.get?_push_of_some _ q) (Nat.le_refl _) ?_, rfl, q _ (I5.hok.fresh (Nat.le_refl _))⟩
        exact ⟨by show 2 ≤ sizeLine; decide, _, .cons r2 (.cons r1 .nil), IsTup.new _ _⟩
end
end Lk

set_option maxHeartbeats 8000000
namespace Lk
open PySem PySem.Spec PyProof.Rows PySem.W L2
section
variable {X : Cx} {pos : Pos}
/-- {}, to be a dict with nested keys -/
def tDNewN (P : Program) (w : World) : TE := fun _ H Q => ∀ p, H p = none → Q (.ref p) (upd H p (DN P w p []))
theorem pe_dnewN : PE X (.Dict [] [] pos) (tDNewN X.prog X.w) := ⟨fun pins s σ H Q I h =>
  wpAny_Dict_empty ⟨.ref s.heap.objs.size, _, I.laid (a := s.heap.objs.size) (o := DN X.prog X.w s.heap.objs.size []) (t' := s.toks) (fun _ _ q => Heap.get?_push_of_some _ q) (Nat.le_refl _) (dn_of_dk (dk_empty s.heap I.big)), rfl, h _ (I.hok.fresh (Nat.le_refl _))⟩⟩
theorem call_len_dn : CallR X (.builtin "len") (fun xs H Q => ∃ d es, xs = [.ref d] ∧ Rd H d (DN X.prog X.w d es) ∧ dnKeys H es ∧ Q (.int ((es.length : Nat) : Int)) H) := by
  intro pins s σ H xs us Q I r h
  obtain ⟨p, es, rfl, hp, hk, q⟩ := h
  obtain ⟨u, rfl, rx⟩ := vals1 r
  obtain rfl : u = .ref p := rx
  obtain ⟨z, hd, ys, rel, dd⟩ := dn_rd I hp hk
  have hl : es.length = ys.length := Paired.length rel
  refine call_len_dictH hd dd (by rw [← hl]; rw [sizeLine_eq] at z; omega) ?_
  rw [← hl]
  exact ⟨.int ((es.length : Nat) : Int), H, I.tok _, ⟨_, rfl⟩, q⟩
/-- isinstance(d, c) -/
theorem call_isi_dn : CallR X (.builtin "isinstance") (fun xs H Q => ∃ d es c u b, xs = [.ref d, c] ∧ ClsV c u ∧ Rd H d (DN X.prog X.w d es) ∧ PySem.W.kitOne X.K (.type "dict") u = some b ∧ Q (.bl b) H) := by
  intro pins s σ H xs us Q I r h
  obtain ⟨d, es, c, u, b, rfl, k, hd, e, q⟩ := h
  obtain ⟨u1, u2, rfl, r1, r2⟩ := vals2 r
  have e2 := k.eq r2
  subst e2
  cases r1
  obtain ⟨_, _, _, _, _, o, ar, ep, g1, g2, _⟩ := dn_ok (hd.ok I.hok)
  exact PySem.W.kia_one (PySem.W.kitx_dict (a := d)) I.kIn ⟨o, g1, g2.1⟩ e (fun z => nomatch z) fun tk => ⟨.bl b, H, I.tok tk, rfl, q⟩
end
end Lk

set_option maxHeartbeats 4000000
namespace Lk
open PySem PySem.Spec PyProof.Rows L2
/-! ### the mathematics' words: rows, players, stands -/
/-- a move's signs -/
def isMv (m : Str) : Prop := 1 ≤ m.length ∧ m.length ≤ 8 ∧ ∀ c ∈ m.cps.toList, c ∈ az.cps.toList
inductive Rw
  | fl
  | ds (k : Nat) (m : Str)
  | ng (i : Nat)
  | cj (i j : Nat)
  | dj (i j : Nat)
  | sh (k i : Nat)
def Rw.word : Rw → Str
  | .fl => "false"
  | .ds _ _ => "does"
  | .ng _ => "not"
  | .cj _ _ => "and"
  | .dj _ _ => "or"
  | .sh _ _ => "shown"
def Rw.parts : Rw → List V
  | .fl => []
  | .ds k m => [.int k, .str m]
  | .ng i => [.int i]
  | .cj i j => [.int i, .int j]
  | .dj i j => [.int i, .int j]
  | .sh k i => [.int k, .int i]
def Rw.vs (r : Rw) : List V := .str r.word :: r.parts
def Rw.refs : Rw → List Nat
  | .fl => []
  | .ds _ _ => []
  | .ng i => [i]
  | .cj i j => [i, j]
  | .dj i j => [i, j]
  | .sh _ i => [i]
def Rw.isSh : Rw → Bool
  | .sh _ _ => true
  | _ => false
def Rw.lev : Rw → Nat
  | .sh k _ => k
  | _ => 0
def Rw.inner : Rw → Nat
  | .sh _ i => i
  | _ => 0
def Rw.ok (n : Nat) : Rw → Prop
  | .fl => True
  | .ds k m => k ≤ 3 ∧ isMv m
  | .ng i => i < n
  | .cj i j => i < n ∧ j < n
  | .dj i j => i < n ∧ j < n
  | .sh k i => k ≤ 99 ∧ i < n
theorem Rw.ok.refs {r : Rw} {n j : Nat} (h : r.ok n) (hj : j ∈ r.refs) : j < n := by
  cases r <;> simp [Rw.refs] at hj <;> simp [Rw.ok] at h <;> omega
theorem Rw.ok.mono {r : Rw} {n m : Nat} (h : r.ok n) (hm : n ≤ m) : r.ok m := by
  cases r <;> simp [Rw.ok] at h ⊢ <;> first | exact h | omega
def RowsOk (rs : List Rw) : Prop := ∀ (i : Nat) (r : Rw), rs[i]? = some r → r.ok i
def Rw.dn (found : List Bool) : Rw → Bool
  | .fl => true
  | .ds _ _ => false
  | .ng i => found.getD i false
  | .cj i j => found.getD i false && found.getD j false
  | .dj i j => found.getD i false && found.getD j false
  | .sh _ _ => true
def downs (rs : List Rw) : List Bool := rs.foldl (fun acc r => acc ++ [r.dn acc]) []
theorem downs_snoc (rs : List Rw) (r : Rw) : downs (rs ++ [r]) = downs rs ++ [r.dn (downs rs)] := by
  unfold downs
  rw [List.foldl_append]
  rfl
/-- a row's value, of those ahead of it -/
def Rw.val (tr : Nat → Bool) (ring : List Str) (kn : Nat → Bool) (i : Nat) : Rw → Bool
  | .fl => false
  | .ds k m => decide (ring[k]? = some m)
  | .ng j => !kn j
  | .cj j l => kn j && kn l
  | .dj j l => kn j || kn l
  | .sh _ _ => tr i
def hv (rs : List Rw) (tr : Nat → Bool) (ring : List Str) : Nat → Nat → Bool
  | 0, _ => false
  | n + 1, i => (rs[i]?.map fun r => r.val tr ring (hv rs tr ring n) i).getD false
def hold (rs : List Rw) (tr : Nat → Bool) (ring : List Str) (i : Nat) : Bool := hv rs tr ring (i + 1) i
theorem Rw.val_congr {r : Rw} {n : Nat} (h : r.ok n) {tr : Nat → Bool} {ring : List Str} {k1 k2 : Nat → Bool} (i : Nat) (e : ∀ j, j < n → k1 j = k2 j) : r.val tr ring k1 i = r.val tr ring k2 i := by
  cases r <;> simp [Rw.ok] at h <;> simp [Rw.val]
  · rw [e _ h]
  · rw [e _ h.1, e _ h.2]
  · rw [e _ h.1, e _ h.2]
theorem hv_stable {rs : List Rw} (ok : RowsOk rs) {tr : Nat → Bool} {ring : List Str} : ∀ (i n : Nat), i < n → hv rs tr ring n i = hv rs tr ring (i + 1) i := by
  intro i
  induction i using Nat.strongRecOn with
  | _ i ih =>
    intro n hn
    cases n with
    | zero => omega
    | succ n =>
      show (rs[i]?.map fun r => r.val tr ring (hv rs tr ring n) i).getD false = (rs[i]?.map fun r => r.val tr ring (hv rs tr ring i) i).getD false
      cases e : rs[i]? with
      | none => rfl
      | some r =>
        show r.val tr ring (hv rs tr ring n) i = r.val tr ring (hv rs tr ring i) i
        refine Rw.val_congr (ok i r e) i fun j hj => ?_
        rw [ih j hj n (by omega), ih j hj i hj]
theorem hold_eq {rs : List Rw} (ok : RowsOk rs) {tr : Nat → Bool} {ring : List Str} {i : Nat} {r : Rw} (e : rs[i]? = some r) : hold rs tr ring i = r.val tr ring (hold rs tr ring) i := by
  show (rs[i]?.map fun r => r.val tr ring (hv rs tr ring i) i).getD false = _
  rw [e]
  show r.val tr ring (hv rs tr ring i) i = _
  exact Rw.val_congr (ok i r e) i fun j hj => hv_stable ok j i hj
/-- what is led to from some rows -/
inductive Rch (rs : List Rw) (ps : List Nat) : Nat → Prop
  | pick {i : Nat} (h : i ∈ ps) : Rch rs ps i
  | ref {i j : Nat} {r : Rw} (h : Rch rs ps i) (e : rs[i]? = some r) (hj : j ∈ r.refs) : Rch rs ps j
open Classical in
noncomputable def coneOf (rs : List Rw) (ps : List Nat) : List Nat := (List.range rs.length).filter fun i => decide (Rch rs ps i)
def shAt (rs : List Rw) (i : Nat) : Bool := (rs[i]?.map Rw.isSh).getD false
def levAt (rs : List Rw) (i : Nat) : Nat := (rs[i]?.map Rw.lev).getD 0
def innAt (rs : List Rw) (i : Nat) : Nat := (rs[i]?.map Rw.inner).getD 0
structure Mv (ms : List Str) : Prop where
  pos : 1 ≤ ms.length
  few : ms.length ≤ 4
  nd : ms.Nodup
  mv : ∀ m ∈ ms, isMv m
structure Pl where
  moves : List Str
  rows : List Rw
  picks : List Nat
noncomputable def Pl.cone (P : Pl) : List Nat := coneOf P.rows P.picks
noncomputable def Pl.marks (P : Pl) : List Nat := P.cone.filter fun i => shAt P.rows i
noncomputable def Pl.high (P : Pl) : Nat := (P.marks.map (levAt P.rows)).foldl max 0
structure Pl.Ok (P : Pl) : Prop where
  mv : Mv P.moves
  rows : RowsOk P.rows
  len : P.rows.length ≤ 120
  np : P.picks.length + 1 = P.moves.length
  pk : ∀ i ∈ P.picks, i < P.rows.length ∧ (downs P.rows)[i]? = some true
/-- one that a law draws: few showns, of no great levels -/
structure Pl.Ok2 (P : Pl) : Prop extends P.Ok where
  ns : (P.rows.filter Rw.isSh).length ≤ 4
  lv : ∀ r ∈ P.rows, r.lev ≤ 12
def pickMv (ms : List Str) (ps : List Nat) (h : Nat → Bool) : Str := ((((ms.zip ps).find? fun x => h x.2).map (·.1)).getD (ms.getLastD ""))
def Pl.does (P : Pl) (tr : Nat → Bool) : Str := pickMv P.moves P.picks (hold P.rows tr [])
abbrev Sd := Nat × List Bool
noncomputable def Pl.tr (P : Pl) (s : Sd) : Nat → Bool := fun i => ((P.marks.zip s.2).lookup i).getD false
noncomputable def Pl.mvs (P : Pl) (s : Sd) : Str := P.does (P.tr s)
noncomputable def Pl.later (P : Pl) (tr : Nat → Bool) (n : Nat) (ring : List Str) (i : Nat) : Bool := tr i && (decide (n < levAt P.rows i) || hold P.rows tr ring (innAt P.rows i))
noncomputable def Pl.step (P : Pl) (s : Sd) (y : Str) : Sd := (min (s.1 + 1) P.high, P.marks.map (P.later (P.tr s) s.1 [P.mvs s, y]))
noncomputable def Pl.rest (P : Pl) (s : Sd) (y : Str) : Bool := decide (s.1 = P.high) && decide (P.step s y = s)
noncomputable def Pl.init (P : Pl) : Sd := (0, List.replicate P.marks.length true)
def Sd.Ok (P : Pl) (s : Sd) : Prop := s.1 ≤ P.high ∧ s.2.length = P.marks.length
def skey (s : Sd) : NestedKey := .tup [.num s.1, .tup (s.2.map fun b => .num (if b = true then 1 else 0))]
def pkey (a b : Str) : NestedKey := .tup [.text a, .text b]
/-! ### the same on the heap -/
abbrev nV (n : Nat) : V := .int ((n : Nat) : Int)
def RowsAt (H : Hp) (xs : List V) (rs : List Rw) : Prop := Paired (fun (x : V) (r : Rw) => ∃ a, x = .ref a ∧ H a = some (.tup r.vs)) xs rs
theorem RowsAt.mono {H H' : Hp} (s : Same H H') {xs : List V} {rs : List Rw} (h : RowsAt H xs rs) : RowsAt H' xs rs := by
  induction h with
  | nil => exact .nil
  | cons h _ ih =>
    obtain ⟨a, e, h⟩ := h
    exact .cons ⟨a, e, s _ _ h⟩ ih
theorem RowsAt.get {H : Hp} {xs : List V} {rs : List Rw} (h : RowsAt H xs rs) : ∀ {i : Nat} {x : V}, xs[i]? = some x → ∃ a r, rs[i]? = some r ∧ x = .ref a ∧ H a = some (.tup r.vs) := by
  induction h with
  | nil => intro i x e; simp at e
  | cons h _ ih =>
    intro i x e
    cases i with
    | zero =>
      obtain ⟨a, e1, e2⟩ := h
      cases e
      exact ⟨a, _, rfl, e1, e2⟩
    | succ i => exact ih (i := i) e
theorem RowsAt.len {H : Hp} {xs : List V} {rs : List Rw} (h : RowsAt H xs rs) : xs.length = rs.length := by
  induction h with
  | nil => rfl
  | cons _ _ ih => simp [ih]
theorem RowsAt.get' {H : Hp} {xs : List V} {rs : List Rw} (h : RowsAt H xs rs) {i : Nat} {r : Rw} (e : rs[i]? = some r) : ∃ a, xs[i]? = some (.ref a) ∧ H a = some (.tup r.vs) := by
  have hl := h.len
  have hi : i < xs.length := by
    obtain ⟨q, _⟩ := List.getElem?_eq_some_iff.mp e
    omega
  obtain ⟨a, r', e1, e2, e3⟩ := h.get (List.getElem?_eq_getElem hi)
  rw [e] at e1
  cases e1
  exact ⟨a, by rw [List.getElem?_eq_getElem hi, e2], e3⟩
/-- a list or a tuple that the heap tracks -/
def Lt (H : Hp) (a : Addr) (xs : List V) : Prop := H a = some (.lst xs) ∨ H a = some (.tup xs)
theorem Lt.sq {K : PySem.W.Frag} {H : Hp} {a : Addr} {xs : List V} (h : Lt H a xs) : Sq K H a xs := h.imp (fun e => .inl (.inl e)) (fun e => .inl (.inl e))
theorem Lt.mono {H H' : Hp} {a : Addr} {xs : List V} (s : Same H H') (h : Lt H a xs) : Lt H' a xs := h.imp (s _ _) (s _ _)
theorem Same.rfl' {H : Hp} : Same H H := fun _ _ e => e
def SdAt (H : Hp) (a : Addr) (s : Sd) : Prop := ∃ b, H a = some (.tup [nV s.1, .ref b]) ∧ H b = some (.tup (s.2.map V.bl))
theorem SdAt.mono {H H' : Hp} {a : Addr} {s : Sd} (m : Same H H') (h : SdAt H a s) : SdAt H' a s := by
  obtain ⟨b, h1, h2⟩ := h
  exact ⟨b, m _ _ h1, m _ _ h2⟩
theorem nkAll_bits {H : Hp} : ∀ bs : List Bool, NkAll H (bs.map V.bl) (bs.map fun b => .num (if b = true then 1 else 0))
  | [] => .nil
  | b :: r => .cons (.bl b) (nkAll_bits r)
theorem depthAll_bits : ∀ bs : List Bool, NestedKey.depthAll (bs.map fun b => .num (if b = true then 1 else 0)) = 0
  | [] => rfl
  | b :: r => by
    simp only [List.map_cons, NestedKey.depthAll, NestedKey.depth, depthAll_bits r]
    all_goals rfl
theorem SdAt.nk {H : Hp} {a : Addr} {s : Sd} (h : SdAt H a s) : NkAt H a (skey s) := by
  obtain ⟨b, h1, h2⟩ := h
  refine ⟨.tup h1 (.cons (.int _) (.cons (.tup h2 (nkAll_bits _)) .nil)), ?_⟩
  simp only [skey, NestedKey.depth, NestedKey.depthAll, depthAll_bits]
  decide
theorem skey_inj {s t : Sd} (h : skey s = skey t) : s = t := by
  unfold skey at h
  injection h with h
  injection h with h1 h2
  injection h1 with h1
  injection h2 with h2 _
  injection h2 with h2
  have e : ∀ (xs ys : List Bool), (xs.map fun b => NestedKey.num (if b = true then 1 else 0)) = (ys.map fun b => NestedKey.num (if b = true then 1 else 0)) → xs = ys := by
    intro xs
    induction xs with
    | nil =>
      intro ys e
      cases ys with
      | nil => rfl
      | cons y r => simp at e
    | cons x r ih =>
      intro ys e
      cases ys with
      | nil => simp at e
      | cons y q =>
        rw [List.map_cons, List.map_cons] at e
        injection e with e1 e2
        rw [ih q e2]
        injection e1 with e1
        cases x <;> cases y <;> first | rfl | (exact absurd e1 (by decide))
  exact Prod.ext (by omega) (e _ _ h2)
theorem pkey_inj {a b c d : Str} (h : pkey a b = pkey c d) : a = c ∧ b = d := by
  unfold pkey at h
  injection h with h
  injection h with h1 h2
  injection h2 with h2 _
  injection h1 with h1
  injection h2 with h2
  exact ⟨h1, h2⟩
theorem pk_at {H : Hp} {p : Addr} {a b : Str} (h : H p = some (.tup [.str a, .str b])) : NkAt H p (pkey a b) := by
  refine ⟨.tup h (.cons (.str _) (.cons (.str _) .nil)), ?_⟩
  simp only [pkey, NestedKey.depth, NestedKey.depthAll]
  decide
structure PlAt (cP : Addr) (H : Hp) (p : Addr) (P : Pl) : Prop where
  ex : ∃ dx a b c d xs, H p = some (.ins cP dx [("ways", .ref a), ("lines", .ref b), ("picks", .ref c), ("cone", .ref d)]) ∧ H a = some (.tup (P.moves.map V.str)) ∧ H b = some (.tup xs) ∧ RowsAt H xs P.rows ∧
    H c = some (.tup (P.picks.map nV)) ∧ H d = some (.lst (P.cone.map nV))
theorem PlAt.mono {cP : Addr} {H H' : Hp} {p : Addr} {P : Pl} (s : Same H H') (h : PlAt cP H p P) : PlAt cP H' p P := by
  obtain ⟨dx, a, b, c, d, xs, h1, h2, h3, h4, h5, h6⟩ := h.ex
  exact ⟨dx, a, b, c, d, xs, s _ _ h1, s _ _ h2, s _ _ h3, h4.mono s, s _ _ h5, s _ _ h6⟩
noncomputable def trE (P : Pl) (tr : Nat → Bool) : List (Key × V) := P.marks.map fun i => (Sum.inl ((i : Nat) : Int), V.bl (tr i))
structure GaAt (cP cG : Addr) (H : Hp) (g : Addr) (P : Pl) : Prop where
  ex : ∃ dx p m, H g = some (.ins cG dx [("walker", .ref p), ("marks", .ref m), ("high", nV P.high)]) ∧ PlAt cP H p P ∧ H m = some (.lst (P.marks.map nV))
theorem GaAt.mono {cP cG : Addr} {H H' : Hp} {p : Addr} {P : Pl} (s : Same H H') (h : GaAt cP cG H p P) : GaAt cP cG H' p P := by
  obtain ⟨dx, p, m, h1, h2, h3⟩ := h.ex
  exact ⟨dx, p, m, s _ _ h1, h2.mono s, s _ _ h3⟩
end Lk

set_option maxHeartbeats 8000000
namespace Lk
open PySem PySem.Spec PyProof.Rows PySem.W L2
/-! ### a list or a tuple, walked; enumerated -/
theorem lt_walkL {K : PySem.W.Frag} {H1 : Hp} {a : Addr} {xs : List V} (h : H1 a = some (.lst xs)) : Walk (Itl K a) xs.length (fun H => H a = H1 a) (YAt xs) :=
  walk_list.mono (fun H e => .inl (.inl (e.trans h))) fun _ _ _ _ _ _ y => y
theorem lt_walkT {K : PySem.W.Frag} {H1 : Hp} {a : Addr} {xs : List V} (h : H1 a = some (.tup xs)) : Walk (Itt K a) xs.length (fun H => H a = H1 a) (YAt xs) :=
  walk_tup.mono (fun H e => .inl (.inl (e.trans h))) fun _ _ _ _ _ _ y => y
def iSq (te : TE) : TI := fun σ H R => te σ H fun v H1 => ∃ a xs, v = .ref a ∧ Lt H1 a xs ∧ ∀ J, Walk J xs.length (fun H => H a = H1 a) (YAt xs) → R J H1
section
variable {X : Cx} {tg : Expr}
theorem pi_sq {l : Expr} {tl : TE} (hl : PE X l tl) : PI X tg l (iSq tl) := by
  refine ⟨fun pins s σ H R I h => ?_⟩
  refine thn (hl.run pins s σ H _ I h) fun v s1 ⟨x, H1, I1, r1, q1⟩ => ?_
  obtain ⟨a, xs, e, hq, q⟩ := q1
  subst e
  cases r1
  rcases hq with hq | hq
  · obtain ⟨its, rv, p, hz⟩ := I1.list (.inl (.inl hq))
    refine wpAny_pyIter_list p.isList ?_
    refine ⟨s1.heap.objs.size, [s1.heap.objs.size], _, _, H1, rfl, I1.kept (t' := s1.toks) fun b o e => Heap.get?_push_of_some _ e, turn_list a _, ⟨_, Heap.get?_push_size _ rfl, rfl, rfl⟩, fun b hb => ?_, q _ (lt_walkL hq)⟩
    have e : b = s1.heap.objs.size := by simpa using hb
    subst e
    exact I1.fpOk (Nat.le_refl _) (I1.hok.fresh (Nat.le_refl _))
  · obtain ⟨its, rv, p, hz⟩ := I1.tuple (.inl (.inl hq))
    refine wpAny_pyIter_tuple (show s1.heap.IsTuple a its.toArray from p) ?_
    refine ⟨s1.heap.objs.size, [s1.heap.objs.size], _, _, H1, rfl, I1.kept (t' := s1.toks) fun b o e => Heap.get?_push_of_some _ e, turn_tuple a _, ⟨_, Heap.get?_push_size _ rfl, rfl, rfl⟩, fun b hb => ?_, q _ (lt_walkT hq)⟩
    have e : b = s1.heap.objs.size := by simpa using hb
    subst e
    exact I1.fpOk (Nat.le_refl _) (I1.hok.fresh (Nat.le_refl _))
end
theorem meets_enumerate_newT (l : Addr) (items : Array Value) (n : Nat) (dct : Option Addr) (sl : Array (Option Value)) :
    Meets (Builtin.«enumerate.__new__» ⟨[.type "enumerate", .ref l], []⟩) (fun _ R s => s.heap.get? l = some { cls := .type "tuple", dict := dct, data := .seq items n, slots := sl } ∧
      R (.ok (.ret (.ref (s.heap.push { cls := .type "tuple_iterator", data := .fields #[.ref l, .int 0 0] }).objs.size)))
        { s with heap := (s.heap.push { cls := .type "tuple_iterator", data := .fields #[.ref l, .int 0 0] }).push { cls := .type "enumerate", data := .fields #[.none, .bool false, .ref s.heap.objs.size, rawInt 0, .none, .none] } }) :=
  .of_wp fun prog w A R s h => by
    obtain ⟨hp, g, d, tk, os⟩ := s; obtain ⟨hl, h⟩ := h
    have hsub := sub_enumerate
    have hL : Heap.IsTuple (Shared.heap ⟨hp, g, d, tk, os⟩) l items := ⟨_, hl, rfl, n, rfl⟩
    wp_walk using wpAny_loadPart' hl
    refine wpAny_stack_any fun st => wpAny_pure ?_
    split
    · rename_i c _ _ _ _ _
      cases (c == Value.type "enumerate")
      · wp_walk using wpAny_loadPart' hl, wpAny_pyIter_tuple hL
        exact ⟨_, rfl, h⟩
      · wp_walk using wpAny_loadPart' hl, wpAny_pyIter_tuple hL
        exact ⟨_, rfl, h⟩
    · wp_walk using wpAny_loadPart' hl, wpAny_pyIter_tuple hL
      exact ⟨_, rfl, h⟩
section
variable {prog : Program} {w : World} {A : Around} {E : Value → Shared → Prop} {s : Shared}
theorem call_enumerate_tuple {l : Addr} {items : Array Value} {Q : Value → Shared → Prop} (hL : s.heap.IsTuple l items)
    (h : ∀ h', IsEnum h' (s.heap.objs.size + 1) s.heap.objs.size 0 .none → h'.IsTupleIter s.heap.objs.size l 0 → h'.objs.size = s.heap.objs.size + 2 →
      (∀ b o, s.heap.get? b = some o → h'.get? b = some o) → Q (.ref (s.heap.objs.size + 1)) { s with heap := h' }) :
    wpAny (model prog w) A (call (.type "enumerate") [.ref l]) Q E s := by
  obtain ⟨⟨c, dct, dt, sl⟩, hl, hc, n, hd⟩ := hL
  replace hc : c = .type "tuple" := hc
  replace hd : dt = .seq items n := hd
  subst hc hd
  refine callType_new F.called_enumerate (by decide) (F.typeCall_enumerate_1 _) (F.newCall_enumerate_1 _) (fun obj => F.args_object_init_2 obj _) F.entry_enumerate_new
    (meets_enumerate_newT l items n dct sl) ⟨hl, ?_⟩
  have hz : (s.heap.push { cls := .type "tuple_iterator", data := .fields #[.ref l, .int 0 0] }).objs.size = s.heap.objs.size + 1 := Heap.size_push ..
  show _ ∧ _
  rw [hz]
  have he : IsEnum ((s.heap.push { cls := .type "tuple_iterator", data := .fields #[.ref l, .int 0 0] }).push
      { cls := .type "enumerate", data := .fields #[.none, .bool false, .ref s.heap.objs.size, rawInt 0, .none, .none] }) (s.heap.objs.size + 1) s.heap.objs.size 0 .none := by
    have := Heap.get?_push_size (s.heap.push { cls := .type "tuple_iterator", data := .fields #[.ref l, .int 0 0] })
      (o := { cls := .type "enumerate", data := .fields #[.none, .bool false, .ref s.heap.objs.size, rawInt 0, .none, .none] }) rfl
    rw [hz] at this; exact this
  refine ⟨⟨_, he, rfl⟩, h _ he ⟨_, Heap.get?_push_of_some _ (Heap.get?_push_size _ rfl), rfl, rfl⟩ (by rw [Heap.size_push, hz]) fun b o x => Heap.get?_push_of_some _ (Heap.get?_push_of_some _ x)⟩
end
/-- enumerate(tuple) -/
def IteT (K : PySem.W.Frag) (a : Addr) : It :=
  ⟨fun i H => ∃ (xs : List V) (x : V), SqT K H a xs ∧ xs[i]? = some x, fun i H v H' => ∃ T x, v = .ref T ∧ H T = none ∧ H' = upd H T (.tup [.int (i : Nat), x]) ∧ ∀ xs, SqT K H a xs → xs[i]? = some x, fun i H => ∃ xs : List V, SqT K H a xs ∧ xs.length = i⟩
theorem turn_enumT {P : Program} {w : World} {K : PySem.W.Frag} {elts : List Expr} {kk : Nat} {tpos : Pos} (a e it : Addr) :
    Turn P w K (.Tuple elts kk tpos) (IteT K a) [e, it] e (fun i h => (∃ old, IsEnum h e it ((i : Nat) : Int) old) ∧ h.IsTupleIter it a i ∧ e ≠ it) where
  mem := by simp
  obj := fun i h st b hb => by
    obtain ⟨⟨old, he⟩, ⟨o, ho, hc, hd⟩, _⟩ := st
    have e' : b = e ∨ b = it := by simpa using hb
    rcases e' with z | z
    · rw [z]; exact ⟨_, he, fun v q => nomatch q⟩
    · rw [z]; exact ⟨o, ho, fun v q => by rw [hd] at q; cases q⟩
  keep := fun i h h' st k => let ⟨⟨old, he⟩, hi, hne⟩ := st; ⟨⟨old, k e (by simp) _ he⟩, hi.at fun o q => k it (by simp) o q, hne⟩
  item := by
    intro X hP hw hK hc i pins s σ H E I hf st hg
    subst hP hw hK
    obtain ⟨⟨old, he⟩, hit, hne⟩ := st
    obtain ⟨xs, x, hq, hx⟩ := hg
    obtain ⟨its, rv, p, hz⟩ := I.tuple hq
    obtain ⟨u, hu, ru⟩ := rv.get hx
    have hel : e < s.heap.objs.size := Heap.lt_size he
    have hil : it < s.heap.objs.size := by obtain ⟨_, q, _⟩ := hit; exact Heap.lt_size q
    have p' : s.heap.IsTuple a its.toArray := p
    have hai : a ≠ it := by
      rintro rfl
      obtain ⟨o1, e1, c1, _⟩ := hit
      obtain ⟨o2, e2, c2, _⟩ := p'
      rw [e1] at e2
      cases e2
      rw [c1] at c2
      exact absurd c2 (by simp)
    have hae : e ≠ a := by
      rintro rfl
      obtain ⟨o2, e2, c2, _⟩ := p'
      rw [he] at e2
      cases e2
      exact absurd c2 (by simp)
    have hlt : i < its.toArray.size := by
      have := List.getElem?_eq_some_iff.mp hu
      obtain ⟨q, _⟩ := this
      simpa using q
    refine wpAny_pyNext_enum_itemD (Draws.tuple (A := X.A.in1) (I.ok.hd hc) it a hai its.toArray) he ⟨hit, p'⟩ hlt hne (by simp [hne, hae]) fun x' h' tk hP' ho st' hT hsz hk => ?_
    have hxu : x' = u := by
      have h1 : its.toArray[i]? = some u := by simpa using hu
      have h2 : its.toArray[i]? = some x' := hP'
      rw [h1] at h2
      exact (Option.some.inj h2).symm
    subst hxu
    obtain ⟨hit', _⟩ := st'
    refine ⟨_, rfl, wpAny_letOwnedTupleGo_enum (s := { s with heap := h', toks := tk + 1 }) ho fun h'' he' sb => ?_⟩
    have hT2 : h''.get? s.heap.objs.size = some { cls := .type "tuple", data := .seq #[.int i tk, x'] } := (sb.2 _ (Nat.ne_of_gt hel)).trans hT
    have new : ObjOk X.prog X.w (upd H s.heap.objs.size (.tup [.int (i : Nat), x])) h'' s.heap.objs.size (.tup [.int (i : Nat), x]) :=
      ⟨by show 2 ≤ sizeLine; decide, [.int i tk, x'], .cons ⟨_, rfl⟩ (.cons ru .nil), ⟨_, hT2, rfl, _, rfl⟩⟩
    have I1 : L2.Inv X pins σ (upd H s.heap.objs.size (.tup [.int (i : Nat), x])) { s with heap := h'', toks := tk + 1 } :=
      I.turnedNew (ch := [e, it]) (fun b ob hb q => (sb.2 b (fun z => hb (by simp [z]))).trans (hk b ob (fun z => hb (by simp [z])) (fun z => hb (by simp [z])) q)) hf (Nat.le_refl _) new
    refine ⟨.ref s.heap.objs.size, _, I1, rfl, ⟨_, x, rfl, I.hok.fresh (Nat.le_refl _), rfl, fun ys hy => by rw [I.tuple_inj hy hq]; exact hx⟩, ⟨⟨x', ?_⟩, hit'.at fun o q => (sb.2 it (Ne.symm hne)).trans q, hne⟩, fun b hb => ?_⟩
    · have e1 : ((i + 1 : Nat) : Int) = (i : Int) + 1 := by omega
      rw [e1]; exact he'
    · have hb' : b < s.heap.objs.size := by
        have e' : b = e ∨ b = it := by simpa using hb
        rcases e' with z | z
        · rw [z]; exact hel
        · rw [z]; exact hil
      rw [upd_ne (Nat.ne_of_lt hb')]
      exact (hf b hb).1
  done := by
    intro X hP hw hK hc i pins s σ H E I hf st hg
    subst hP hw hK
    obtain ⟨⟨old, he⟩, hit, hne⟩ := st
    obtain ⟨xs, hq, hx⟩ := hg
    obtain ⟨its, rv, p, hz⟩ := I.tuple hq
    obtain ⟨f0, f1, f2, f3, f4, f5⟩ := hf it (by simp)
    have p' : s.heap.IsTuple a its.toArray := p
    have hai : a ≠ it := by
      rintro rfl
      obtain ⟨o1, e1, c1, _⟩ := hit
      obtain ⟨o2, e2, c2, _⟩ := p'
      rw [e1] at e2
      cases e2
      rw [c1] at c2
      exact absurd c2 (by simp)
    have hl : i = its.toArray.size := by
      have := rv.length
      simp
      omega
    subst hl
    exact wpAny_pyNext_enum_endD (Draws.tuple (A := X.A.in1) (I.ok.hd hc) it a hai its.toArray) he ⟨hit, p'⟩ fun h' eb => ⟨rfl, I.turned (t' := s.toks) (fun b o hb q => eb b o hb q) f0 f1 f3 f4 f5⟩
  self := fun A i s Q E st h => let ⟨⟨_, he⟩, _⟩ := st; wpAny_pyIter_enum he h
theorem walk_enumT {K : PySem.W.Frag} {a : Addr} {xs : List V} : Walk (IteT K a) xs.length (fun H => SqT K H a xs) (YPair (fun i => some (.int (i : Nat))) (fun i => xs[i]?)) := by
  refine ⟨fun i _ hi q => ⟨xs, xs[i], q, by simp [hi]⟩, fun _ q => ⟨xs, q, rfl⟩, fun i H v H' _ q y => ?_⟩
  obtain ⟨T, x, h1, h2, h3, h4⟩ := y
  exact ⟨T, .int (i : Nat), x, h1, h2, h3, rfl, h4 xs q⟩
def iEnS (ta : TA) : TI := fun σ H R => ta σ H fun vs H1 => ∃ a xs, vs = [.ref a] ∧ Lt H1 a xs ∧ ∀ J, Walk J xs.length (fun H => H a = H1 a) (YPair (fun i => some (.int (i : Nat))) (fun i => xs[i]?)) → R J H1
theorem pi_enumS {X : Cx} {e : Expr} {ta : TA} {p pos tpos : Pos} {elts : List Expr} {kk : Nat} (hg : Gl X "enumerate") (hm : X.mg "enumerate" = none) (ha : PA X [e] ta) (hs : starEach [e] X.env = [(false, eval e X.env)] := by rfl) :
    PI X (.Tuple elts kk tpos) (.Call (.Name "enumerate" p) [e] [] pos) (iEnS ta) := by
  refine ⟨fun pins s σ H R I h => ?_⟩
  refine Call_ (ld_blt I hg hm boot_enumerate (PyProof.Rows.callWith_type1 (thn (ha.run pos pins s σ H _ I h) fun us s1 ⟨vs, H1, I1, r1, q1⟩ => ?_) hs rfl))
  obtain ⟨a, xs, ex, hq, q⟩ := q1
  subst ex
  cases r1 with
  | cons r rr =>
    cases rr
    cases r
    rcases hq with hq | hq
    · obtain ⟨its, rv, p', hz⟩ := I1.list (.inl (.inl hq))
      refine call_enumerate_list p'.isList fun h' he hit hsz hk => wpAny_pyIter_enum he ?_
      have I2 : L2.Inv X pins σ H1 { s1 with heap := h' } := I1.kept (t' := s1.toks) hk
      refine ⟨s1.heap.objs.size + 1, [s1.heap.objs.size + 1, s1.heap.objs.size], _, _, H1, rfl, I2, turn_enum a (s1.heap.objs.size + 1) s1.heap.objs.size, ⟨⟨.none, he⟩, hit, Nat.succ_ne_self _⟩, fun b hb => ?_, q _ (walk_enum.mono (fun H e => .inl (.inl (e.trans hq))) fun _ _ _ _ _ _ y => y)⟩
      have e' : b = s1.heap.objs.size + 1 ∨ b = s1.heap.objs.size := by simpa using hb
      have hle : s1.heap.objs.size ≤ b := by
        rcases e' with z | z
        · rw [z]; exact Nat.le_add_right _ _
        · rw [z]; exact Nat.le_refl _
      exact I1.fpOk hle (I1.hok.fresh hle)
    · obtain ⟨its, rv, p', hz⟩ := I1.tuple (.inl (.inl hq))
      refine call_enumerate_tuple (show s1.heap.IsTuple a its.toArray from p') fun h' he hit hsz hk => wpAny_pyIter_enum he ?_
      have I2 : L2.Inv X pins σ H1 { s1 with heap := h' } := I1.kept (t' := s1.toks) hk
      refine ⟨s1.heap.objs.size + 1, [s1.heap.objs.size + 1, s1.heap.objs.size], _, _, H1, rfl, I2, turn_enumT a (s1.heap.objs.size + 1) s1.heap.objs.size, ⟨⟨.none, he⟩, hit, Nat.succ_ne_self _⟩, fun b hb => ?_, q _ (walk_enumT.mono (fun H e => .inl (.inl (e.trans hq))) fun _ _ _ _ _ _ y => y)⟩
      have e' : b = s1.heap.objs.size + 1 ∨ b = s1.heap.objs.size := by simpa using hb
      have hle : s1.heap.objs.size ≤ b := by
        rcases e' with z | z
        · rw [z]; exact Nat.le_add_right _ _
        · rw [z]; exact Nat.le_refl _
      exact I1.fpOk hle (I1.hok.fresh hle)
end Lk

set_option maxHeartbeats 4000000
namespace Lk
open PySem PySem.Spec PyProof.Rows L2
/-! ### sorted of a dict's int keys, of a list of ints: any number of them -/
theorem srt_dA {X : Cx} (hc : X.calm = true) : CallR X (.builtin "sorted") (fun xs H Q => ∃ (a : Addr) (kvs : List (Key × V)) (ks : List Int), xs = [.ref a] ∧ Rd H a (.dK kvs) ∧ kvs.map (·.1) = ks.map Sum.inl ∧
    ∀ (ys : List Int) (p : Addr), ys.Perm ks → ys.Pairwise (· ≤ ·) → H p = none → Q (.ref p) (upd H p (.lst (ys.map V.int)))) := by
  intro pins s σ H xs us Q I r ⟨a, kvs, ks, ex, hd, hks, q⟩
  subst ex
  obtain ⟨u, eu, rx⟩ := vals1 r
  subst eu; cases rx
  obtain ⟨z, lo, vs, rel, dd⟩ := dk_rd I.hok hd
  obtain ⟨ep, hat⟩ := dd.dictAt
  have hkeys : vs.map (·.1) = ks.map Sum.inl := rel.keys.symm.trans hks
  have hl : vs.length = ks.length := by simpa using congrArg List.length hkeys
  have hz : vs.length ≤ sizeLine := by rw [← rel.length]; exact z
  refine Calls.call_function_entry PyProof.Rows.kind_sorted PyProof.Rows.plain_sorted PyProof.Rows.entry_sorted (PyProof.Rows.args_sorted1 _) ?_
  unfold Builtin.«sorted»
  refine wpAny_bind (m := checkCount "sorted" 1 1 _) (wpAny_pure ?_)
  refine wpAny_bind (PySem.W.kdu_collect (A := X.A.in1) (PySem.W.kdl_dict (knd := mixKind X.prog X.w) (kvs := vs) (ep := ep) lo) (I.ok.hd hc) hat hz fun h' tk acc hk hacc => ?_)
  have hal : acc.toList.length = ks.length := by rw [Array.length_toList, hacc.1, hl]
  have hS : IntsAre acc.toList ks := ints_each hal fun j v e => by
    obtain ⟨k, x, e1, e2⟩ := hacc.2 j v (by rw [← Array.getElem?_toList]; exact e)
    have e3 : (vs.map (·.1))[j]? = some k := by rw [List.getElem?_map, e1]; rfl
    rw [hkeys, List.getElem?_map] at e3
    obtain ⟨y, e4, e5⟩ := Option.map_eq_some_iff.mp e3
    subst e5
    rcases keyIs_shape (show keyIs (Sum.inl y) v = true from e2) with ⟨i, t, ek, ev⟩ | ⟨z, t, ek, ev⟩
    · cases ek; exact ⟨y, t, e4, ev⟩
    · cases ek
  have I1 : Inv X pins σ H { s with heap := h', toks := tk } := I.kept hk
  have hzA : acc.toList.length ≤ sizeLine := by rw [hal, ← hl]; exact hz
  refine wpAny_bind (wpAny_newList ?_ hzA)
  have hoL : (h'.push (seqObj "list" acc.toList.toArray 0)).get? h'.objs.size = some (seqObj "list" acc.toList.toArray 0) := Heap.get?_push_size _ rfl
  show wpAny _ _ _ _ _ { s with heap := h'.push (seqObj "list" acc.toList.toArray 0), toks := tk }
  refine wpAny_bind (wpAny_holding (wpAny_call_entry PyProof.Rows.slot_list_sort ⟨_, hoL, rfl⟩ PyProof.Rows.entry_list_sort
    (SrtO.list_sort_ord (s := { s with heap := h'.push (seqObj "list" acc.toList.toArray 0), toks := tk }) SrtO.swo_int hoL hzA (fun h2 => SrtO.ints_sortable hS h2) fun out g1 g2 => ⟨_, rfl, ?_⟩) (PyProof.Rows.args_list_sort _)))
  obtain ⟨k1, k2, k3⟩ := SrtO.ints_out hS g1 g2
  obtain ⟨e', he'⟩ := PyProof.Rows.sortedHeap_at (vs := acc.toList) (out := out.toArray) hoL
  have hlen : ((out.map SrtO.iv).map V.int).length ≤ sizeLine := by rw [List.length_map, k2.length_eq, ← hal]; exact hzA
  refine wpAny_pure ⟨_, rfl, .ref h'.objs.size, upd H h'.objs.size (.lst ((out.map SrtO.iv).map V.int)), I1.laid (t' := tk) (fun b u e => ?_) (Nat.le_refl _) (show ObjOk X.prog X.w _ _ _ (.lst ((out.map SrtO.iv).map V.int)) from ⟨hlen, out, e', vals_of_ints k1, he'⟩), rfl, q _ _ k2 k3 (I1.hok.fresh (Nat.le_refl _))⟩
  have hb : b < h'.objs.size := Heap.lt_size e
  rw [PyProof.Rows.sortedHeap_old (Nat.ne_of_lt hb) (by rw [size_push']; exact Nat.lt_succ_of_lt hb)]
  exact Heap.get?_push_of_some _ e
theorem srt_lA {X : Cx} (K : PySem.W.Frag) (h : X.K = K := by rfl) : CallR X (.builtin "sorted") (rSortedI K) := h ▸ cr_sortedI
end Lk

set_option maxHeartbeats 4000000
namespace Lk
open PySem PySem.Spec PyProof.Rows L2
/-! ### zip of two or three, each a list or a tuple, in any mix -/
def Sx (p : Bool) (K : PySem.W.Frag) (H : Hp) (a : Addr) (xs : List V) : Prop := cond p (SqT K H a xs) (SqL K H a xs)
def SxIt (p : Bool) (h : Heap) (it a : Addr) (i : Nat) : Prop := cond p (h.IsTupleIter it a i) (h.IsListIter it a i)
def SxAt (p : Bool) (h : Heap) (a : Addr) (its : Array Value) : Prop := cond p (h.IsTuple a its) (h.IsList a its)
def sxO (p : Bool) (a : Addr) : Obj := { cls := .type (cond p "tuple_iterator" "list_iterator"), data := .fields #[.ref a, .int 0 0] }
theorem sx_of {K : PySem.W.Frag} {H : Hp} {a : Addr} {xs : List V} (h : Sq K H a xs) : ∃ p, Sx p K H a xs := by
  rcases h with h | h
  · exact ⟨false, h⟩
  · exact ⟨true, h⟩
theorem Sx.eq {p : Bool} {K : PySem.W.Frag} {H H' : Hp} {a : Addr} {xs : List V} (h : Sx p K H a xs) (e : H' a = H a) : Sx p K H' a xs := by
  cases p with
  | false =>
    rcases (show SqL K H a xs from h) with (q | ⟨o, q⟩) | q
    · exact (show SqL K H' a xs from .inl (.inl (e.trans q)))
    · exact (show SqL K H' a xs from .inl (.inr ⟨o, e.trans q⟩))
    · exact (show SqL K H' a xs from .inr q)
  | true =>
    rcases (show SqT K H a xs from h) with (q | ⟨o, q⟩) | q
    · exact (show SqT K H' a xs from .inl (.inl (e.trans q)))
    · exact (show SqT K H' a xs from .inl (.inr ⟨o, e.trans q⟩))
    · exact (show SqT K H' a xs from .inr q)
theorem sx_in {X : Cx} {pins : List (Addr × Obj)} {σ : L2.St} {H : Hp} {s : Shared} {p : Bool} {a : Addr} {xs : List V} (I : Inv X pins σ H s) (h : Sx p X.K H a xs) :
    ∃ its : List Value, Vals xs its ∧ a < s.heap.objs.size ∧ SxAt p s.heap a its.toArray := by
  cases p with
  | false =>
    obtain ⟨its, rv, pl, _⟩ := I.list (show SqL X.K H a xs from h)
    exact ⟨its, rv, pl.lt, pl.isList⟩
  | true =>
    obtain ⟨its, rv, pl, _⟩ := I.tuple (show SqT X.K H a xs from h)
    exact ⟨its, rv, pl.lt, pl⟩
theorem sx_draw {prog : Program} {w : World} {A : Around} (hh : A.handled = none) (p : Bool) (it a : Addr) (hne : a ≠ it) (its : Array Value) :
    Draws prog w A it [it, a] its.size (fun i v => its[i]? = some v) (fun i h => SxIt p h it a i ∧ SxAt p h a its) := by
  cases p with
  | false => exact Draws.list hh it a hne its
  | true => exact Draws.tuple hh it a hne its
theorem sx_begins (p : Bool) (a : Addr) (its : Array Value) : Begins (.ref a) (sxO p a) fun h => SxAt p h a its := by
  cases p with
  | false => exact begins_list a its
  | true => exact begins_tuple a its
theorem SxIt.obj {p : Bool} {h : Heap} {it a : Addr} {i : Nat} (q : SxIt p h it a i) : ∃ o, h.get? it = some o ∧ ∀ v, o.data ≠ .cell v := by
  cases p with
  | false =>
    obtain ⟨o, e, _, d⟩ := (show h.IsListIter it a i from q)
    exact ⟨o, e, fun v z => by rw [d] at z; cases z⟩
  | true =>
    obtain ⟨o, e, _, d⟩ := (show h.IsTupleIter it a i from q)
    exact ⟨o, e, fun v z => by rw [d] at z; cases z⟩
theorem SxIt.ne {p : Bool} {h : Heap} {it a : Addr} {i : Nat} {its : Array Value} (q : SxIt p h it a i) (r : SxAt p h a its) : a ≠ it := by
  rintro rfl
  cases p with
  | false =>
    obtain ⟨o1, e1, c1, _⟩ := (show h.IsListIter a a i from q)
    obtain ⟨o2, e2, c2, _⟩ := (show h.IsList a its from r)
    rw [e1] at e2
    cases e2
    rw [c1] at c2
    exact absurd c2 (by simp)
  | true =>
    obtain ⟨o1, e1, c1, _⟩ := (show h.IsTupleIter a a i from q)
    obtain ⟨o2, e2, c2, _⟩ := (show h.IsTuple a its from r)
    rw [e1] at e2
    cases e2
    rw [c1] at c2
    exact absurd c2 (by simp)
theorem SxIt.keep {p : Bool} {h h' : Heap} {it a : Addr} {i : Nat} (q : SxIt p h it a i) (k : ∀ o, h.get? it = some o → h'.get? it = some o) : SxIt p h' it a i := by
  cases p with
  | false => exact (show h.IsListIter it a i from q).at k
  | true => exact (show h.IsTupleIter it a i from q).at k
theorem sx_new {p : Bool} {h : Heap} {it a : Addr} (e : h.get? it = some (sxO p a)) : SxIt p h it a 0 := by
  cases p with
  | false => exact (show h.IsListIter it a 0 from ⟨_, e, rfl, rfl⟩)
  | true => exact (show h.IsTupleIter it a 0 from ⟨_, e, rfl, rfl⟩)
/-- a new triple of the i-th ones -/
def YTri (xs ys zs : List V) : Nat → Hp → V → Hp → Prop := fun i H v H' => ∃ T x y z, v = .ref T ∧ H T = none ∧ H' = upd H T (.tup [x, y, z]) ∧ xs[i]? = some x ∧ ys[i]? = some y ∧ zs[i]? = some z
def It3 (K : PySem.W.Frag) (p q r : Bool) (a b c : Addr) (xs ys zs : List V) : It :=
  ⟨fun i H => Sx p K H a xs ∧ Sx q K H b ys ∧ Sx r K H c zs ∧ i < min (min xs.length ys.length) zs.length, YTri xs ys zs, fun i H => Sx p K H a xs ∧ Sx q K H b ys ∧ Sx r K H c zs ∧ i = min (min xs.length ys.length) zs.length⟩
theorem turn_zip3 {P : Program} {w : World} {K : PySem.W.Frag} {elts : List Expr} {kk : Nat} {tpos : Pos} {p q r : Bool} {a b c z TI TO i1 i2 i3 : Addr} {xs ys zs : List V} (S : ZipSep3 z TI TO i1 i2 i3 [i1, a] [i2, b] [i3, c]) :
    Turn P w K (.Tuple elts kk tpos) (It3 K p q r a b c xs ys zs) [z, TI, TO, i1, i2, i3] z (fun i h => IsZip h z TI TO .none ∧ IsTupOf3 h TI (.ref i1) (.ref i2) (.ref i3) ∧ (∃ a1 a2 a3, IsTupOf3 h TO a1 a2 a3) ∧ SxIt p h i1 a i ∧ SxIt q h i2 b i ∧ SxIt r h i3 c i) where
  mem := by simp
  obj := fun i h st b' hb => by
    obtain ⟨hz, hT, ⟨a1, a2, a3, hO⟩, h1, h2, h3⟩ := st
    simp only [List.mem_cons, List.not_mem_nil, or_false] at hb
    rcases hb with rfl | rfl | rfl | rfl | rfl | rfl
    · exact ⟨_, hz, fun v e => nomatch e⟩
    · exact ⟨_, hT, fun v e => nomatch e⟩
    · exact ⟨_, hO, fun v e => nomatch e⟩
    · exact h1.obj
    · exact h2.obj
    · exact h3.obj
  keep := fun i h h' st k => by
    obtain ⟨hz, hT, ⟨a1, a2, a3, hO⟩, h1, h2, h3⟩ := st
    exact ⟨k _ (by simp) _ hz, k _ (by simp) _ hT, ⟨a1, a2, a3, k _ (by simp) _ hO⟩, h1.keep fun o e => k _ (by simp) o e, h2.keep fun o e => k _ (by simp) o e, h3.keep fun o e => k _ (by simp) o e⟩
  item := by
    intro X hP hw hK hc i pins s σ H E I hf st hg
    subst hP hw hK
    obtain ⟨hz, hT, hO, h1, h2, h3⟩ := st
    obtain ⟨g1, g2, g3, hi⟩ := hg
    obtain ⟨us, r1, l1, t1⟩ := sx_in I g1
    obtain ⟨vs, r2, l2, t2⟩ := sx_in I g2
    obtain ⟨ws, r3, l3, t3⟩ := sx_in I g3
    have e1 := r1.length
    have e2 := r2.length
    have e3 := r3.length
    have hh := I.ok.hd hc
    have W := GoesN.zip3 (prog := X.prog) (w := X.w) (A := X.A) (elts := elts) (x1 := kk) (pos := tpos) S (sx_draw (A := X.A.in1) hh p i1 a (h1.ne t1) us.toArray) (sx_draw (A := X.A.in1) hh q i2 b (h2.ne t2) vs.toArray) (sx_draw (A := X.A.in1) hh r i3 c (h3.ne t3) ws.toArray)
    refine W.goes i s (fun u s2 => ∃ x H', Inv X pins σ H' s2 ∧ RelV x u ∧ (It3 X.K p q r a b c xs ys zs).yld i H x H' ∧ _ ∧ ∀ b ∈ [z, TI, TO, i1, i2, i3], H' b = none) E (by simp only [List.size_toArray]; omega) ⟨hz, hT, hO, ⟨h1, t1⟩, ⟨h2, t2⟩, ⟨h3, t3⟩⟩ fun v h' tk Y st' k htk => ?_
    obtain ⟨T, x, y, u, rfl, hn, hx, hy, hu, hTt⟩ := Y
    obtain ⟨hz', hT', hO', ⟨h1', _⟩, ⟨h2', _⟩, ⟨h3', _⟩⟩ := st'
    have hxs : i < xs.length := by omega
    have hys : i < ys.length := by omega
    have hzs : i < zs.length := by omega
    obtain ⟨x', f1, k1⟩ := r1.get (List.getElem?_eq_getElem hxs)
    obtain ⟨y', f2, k2⟩ := r2.get (List.getElem?_eq_getElem hys)
    obtain ⟨z', f3, k3⟩ := r3.get (List.getElem?_eq_getElem hzs)
    have hx : us[i]? = some x := by simpa using hx
    have hy : vs[i]? = some y := by simpa using hy
    have hu : ws[i]? = some u := by simpa using hu
    rw [hx] at f1
    rw [hy] at f2
    rw [hu] at f3
    cases f1
    cases f2
    cases f3
    have new : ObjOk X.prog X.w (upd H T (.tup [xs[i], ys[i], zs[i]])) h' T (.tup [xs[i], ys[i], zs[i]]) :=
      ⟨by show 3 ≤ sizeLine; decide, [x, y, u], .cons k1 (.cons k2 (.cons k3 .nil)), hTt⟩
    refine ⟨.ref T, _, I.turnedNew (t' := tk) (ch := [z, TI, TO, i1, i2, i3]) (fun b o hb e => k b o (fun m => hb ?_) e) hf hn new, rfl, ⟨T, _, _, _, rfl, I.hok.fresh hn, rfl, List.getElem?_eq_getElem hxs, List.getElem?_eq_getElem hys, List.getElem?_eq_getElem hzs⟩, ⟨hz', hT', hO', h1', h2', h3'⟩, fun b hb => ?_⟩
    · simp only [List.mem_cons, List.not_mem_nil, or_false] at m ⊢
      rcases m with m | m | m | m | m <;> simp [m]
    · have hb0 := (hf b hb).1
      have hlt : b < s.heap.objs.size := by
        simp only [List.mem_cons, List.not_mem_nil, or_false] at hb
        rcases hb with rfl | rfl | rfl | rfl | rfl | rfl
        · exact Heap.lt_size hz
        · exact Heap.lt_size hT
        · obtain ⟨_, _, _, q⟩ := hO; exact Heap.lt_size q
        · obtain ⟨_, q, _⟩ := h1.obj; exact Heap.lt_size q
        · obtain ⟨_, q, _⟩ := h2.obj; exact Heap.lt_size q
        · obtain ⟨_, q, _⟩ := h3.obj; exact Heap.lt_size q
      rw [upd_ne (Nat.ne_of_lt (Nat.lt_of_lt_of_le hlt hn))]
      exact hb0
  done := by
    intro X hP hw hK hc i pins s σ H E I hf st hg
    subst hP hw hK
    obtain ⟨hz, hT, hO, h1, h2, h3⟩ := st
    obtain ⟨g1, g2, g3, hi⟩ := hg
    obtain ⟨us, r1, l1, t1⟩ := sx_in I g1
    obtain ⟨vs, r2, l2, t2⟩ := sx_in I g2
    obtain ⟨ws, r3, l3, t3⟩ := sx_in I g3
    have e1 := r1.length
    have e2 := r2.length
    have e3 := r3.length
    have hh := I.ok.hd hc
    have W := GoesN.zip3 (prog := X.prog) (w := X.w) (A := X.A) (elts := elts) (x1 := kk) (pos := tpos) S (sx_draw (A := X.A.in1) hh p i1 a (h1.ne t1) us.toArray) (sx_draw (A := X.A.in1) hh q i2 b (h2.ne t2) vs.toArray) (sx_draw (A := X.A.in1) hh r i3 c (h3.ne t3) ws.toArray)
    have ei : i = min (min us.toArray.size vs.toArray.size) ws.toArray.size := by simp only [List.size_toArray]; omega
    rw [ei] at h1 h2 h3
    exact W.stops s (fun s1 => Inv X pins σ H s1) E ⟨hz, hT, hO, ⟨h1, t1⟩, ⟨h2, t2⟩, ⟨h3, t3⟩⟩ fun h' tk k htk => I.turnedL (t' := tk) (ch := [z, TI, TO, i1, i2, i3]) (fun b o hb e => k b o (fun m => hb (by
      simp only [List.mem_cons, List.not_mem_nil, or_false] at m ⊢
      rcases m with m | m | m | m | m <;> simp [m])) e) hf
  self := fun A i s Q E st h => wpAny_pyIter_zip st.1 h
theorem walk_zip3 {K : PySem.W.Frag} {p q r : Bool} {a b c : Addr} {xs ys zs : List V} {H1 : Hp} (h1 : Sx p K H1 a xs) (h2 : Sx q K H1 b ys) (h3 : Sx r K H1 c zs) :
    Walk (It3 K p q r a b c xs ys zs) (min (min xs.length ys.length) zs.length) (fun H => H a = H1 a ∧ H b = H1 b ∧ H c = H1 c) (YTri xs ys zs) :=
  ⟨fun i H hi g => ⟨h1.eq g.1, h2.eq g.2.1, h3.eq g.2.2, hi⟩, fun H g => ⟨h1.eq g.1, h2.eq g.2.1, h3.eq g.2.2, rfl⟩, fun i H x H' hi g y => y⟩
def iZip3 (K : PySem.W.Frag) (ta : TA) : TI := fun σ H R => ta σ H fun vs H1 => ∃ a b c xs ys zs, vs = [.ref a, .ref b, .ref c] ∧ Sq K H1 a xs ∧ Sq K H1 b ys ∧ Sq K H1 c zs ∧
  ∀ J, Walk J (min (min xs.length ys.length) zs.length) (fun H => H a = H1 a ∧ H b = H1 b ∧ H c = H1 c) (YTri xs ys zs) → R J H1
theorem pi_zip3 {X : Cx} (K : PySem.W.Frag) {e e2 e3 : Expr} {ta : TA} {p pos tpos : Pos} {elts : List Expr} {kk : Nat} (hg : Gl X "zip") (hm : X.mg "zip" = none) (ha : PA X [e, e2, e3] ta) (hK : X.K = K := by rfl)
    (hs : starEach [e, e2, e3] X.env = (false, eval e X.env) :: starEach [e2, e3] X.env := by rfl) (hpl : (backTo pos (starEach [e2, e3] X.env)).any (·.1) = false := by rfl) :
    PI X (.Tuple elts kk tpos) (.Call (.Name "zip" p) [e, e2, e3] [] pos) (iZip3 K ta) := by
  subst hK
  refine ⟨fun pins s σ H R I h => ?_⟩
  refine Call_ (ld_blt I hg hm PyProof.Rows.boot_zip (PyProof.Rows.callWith_type1 (thn (ha.run pos pins s σ H _ I h) fun us s1 ⟨vs, H1, I1, r1, q1⟩ => ?_) hs hpl))
  obtain ⟨a, b, c, xs, ys, zs, ex, q1, q2, q3, Rq⟩ := q1
  subst ex
  cases r1 with
  | cons r rr =>
    cases rr with
    | cons r' rr =>
      cases rr with
      | cons r'' rr =>
        cases rr
        cases r
        cases r'
        cases r''
        obtain ⟨p1, k1⟩ := sx_of q1
        obtain ⟨p2, k2⟩ := sx_of q2
        obtain ⟨p3, k3⟩ := sx_of q3
        obtain ⟨us, rv1, l1, t1⟩ := sx_in I1 k1
        obtain ⟨vs, rv2, l2, t2⟩ := sx_in I1 k2
        obtain ⟨ws, rv3, l3, t3⟩ := sx_in I1 k3
        refine zip_begins3 (sx_begins p1 a us.toArray) (sx_begins p2 b vs.toArray) (sx_begins p3 c ws.toArray) t1 t2 t3 fun h' hz hT hO g1 g2 g3 hsz hk => wpAny_pyIter_zip hz ?_
        have I2 : Inv X pins σ H1 { s1 with heap := h' } := I1.kept (t' := s1.toks) hk
        have one : ∀ {x : Addr}, x < s1.heap.objs.size → ∀ y ∈ [x], y < s1.heap.objs.size := fun hx y hy => by rw [List.mem_singleton.mp hy]; exact hx
        refine ⟨s1.heap.objs.size + 5, [s1.heap.objs.size + 5, s1.heap.objs.size + 3, s1.heap.objs.size + 4, s1.heap.objs.size, s1.heap.objs.size + 1, s1.heap.objs.size + 2], _, _, H1, rfl, I2, turn_zip3 (zip_sep3 (one l1) (one l2) (one l3)), ⟨hz, hT, ⟨_, _, _, hO⟩, sx_new g1, sx_new g2, sx_new g3⟩, fun d hd => ?_, Rq _ (walk_zip3 k1 k2 k3)⟩
        have hle : s1.heap.objs.size ≤ d := by
          simp only [List.mem_cons, List.not_mem_nil, or_false] at hd
          rcases hd with rfl | rfl | rfl | rfl | rfl | rfl
          · exact Nat.le_add_right _ _
          · exact Nat.le_add_right _ _
          · exact Nat.le_add_right _ _
          · exact Nat.le_refl _
          · exact Nat.le_add_right _ _
          · exact Nat.le_add_right _ _
        exact I1.fpOk hle (I1.hok.fresh hle)
/-! two -/
def It2 (K : PySem.W.Frag) (p q : Bool) (a b : Addr) (xs ys : List V) : It :=
  ⟨fun i H => Sx p K H a xs ∧ Sx q K H b ys ∧ i < min xs.length ys.length, YPair (fun i => xs[i]?) (fun i => ys[i]?), fun i H => Sx p K H a xs ∧ Sx q K H b ys ∧ i = min xs.length ys.length⟩
theorem turn_zip2 {P : Program} {w : World} {K : PySem.W.Frag} {elts : List Expr} {kk : Nat} {tpos : Pos} {p q : Bool} {a b z TI TO i1 i2 : Addr} {xs ys : List V} (S : ZipSep2 z TI TO i1 i2 [i1, a] [i2, b]) :
    Turn P w K (.Tuple elts kk tpos) (It2 K p q a b xs ys) [z, TI, TO, i1, i2] z (fun i h => IsZip h z TI TO .none ∧ IsTupOf2 h TI (.ref i1) (.ref i2) ∧ (∃ a1 a2, IsTupOf2 h TO a1 a2) ∧ SxIt p h i1 a i ∧ SxIt q h i2 b i) where
  mem := by simp
  obj := fun i h st b' hb => by
    obtain ⟨hz, hT, ⟨a1, a2, hO⟩, h1, h2⟩ := st
    simp only [List.mem_cons, List.not_mem_nil, or_false] at hb
    rcases hb with rfl | rfl | rfl | rfl | rfl
    · exact ⟨_, hz, fun v e => nomatch e⟩
    · exact ⟨_, hT, fun v e => nomatch e⟩
    · exact ⟨_, hO, fun v e => nomatch e⟩
    · exact h1.obj
    · exact h2.obj
  keep := fun i h h' st k => by
    obtain ⟨hz, hT, ⟨a1, a2, hO⟩, h1, h2⟩ := st
    exact ⟨k _ (by simp) _ hz, k _ (by simp) _ hT, ⟨a1, a2, k _ (by simp) _ hO⟩, h1.keep fun o e => k _ (by simp) o e, h2.keep fun o e => k _ (by simp) o e⟩
  item := by
    intro X hP hw hK hc i pins s σ H E I hf st hg
    subst hP hw hK
    obtain ⟨hz, hT, hO, h1, h2⟩ := st
    obtain ⟨g1, g2, hi⟩ := hg
    obtain ⟨us, r1, l1, t1⟩ := sx_in I g1
    obtain ⟨vs, r2, l2, t2⟩ := sx_in I g2
    have e1 := r1.length
    have e2 := r2.length
    have hh := I.ok.hd hc
    have W := GoesN.zip2 (prog := X.prog) (w := X.w) (A := X.A) (elts := elts) (x1 := kk) (pos := tpos) S (sx_draw (A := X.A.in1) hh p i1 a (h1.ne t1) us.toArray) (sx_draw (A := X.A.in1) hh q i2 b (h2.ne t2) vs.toArray)
    refine W.goes i s (fun u s2 => ∃ x H', Inv X pins σ H' s2 ∧ RelV x u ∧ (It2 X.K p q a b xs ys).yld i H x H' ∧ _ ∧ ∀ b ∈ [z, TI, TO, i1, i2], H' b = none) E (by simp only [List.size_toArray]; omega) ⟨hz, hT, hO, ⟨h1, t1⟩, ⟨h2, t2⟩⟩ fun v h' tk Y st' k htk => ?_
    obtain ⟨T, x, y, rfl, hn, hx, hy, hTt⟩ := Y
    obtain ⟨hz', hT', hO', ⟨h1', _⟩, ⟨h2', _⟩⟩ := st'
    have hxs : i < xs.length := by omega
    have hys : i < ys.length := by omega
    obtain ⟨x', f1, k1⟩ := r1.get (List.getElem?_eq_getElem hxs)
    obtain ⟨y', f2, k2⟩ := r2.get (List.getElem?_eq_getElem hys)
    have hx : us[i]? = some x := by simpa using hx
    have hy : vs[i]? = some y := by simpa using hy
    rw [hx] at f1
    rw [hy] at f2
    cases f1
    cases f2
    have new : ObjOk X.prog X.w (upd H T (.tup [xs[i], ys[i]])) h' T (.tup [xs[i], ys[i]]) := ⟨by show 2 ≤ sizeLine; decide, [x, y], .cons k1 (.cons k2 .nil), hTt⟩
    refine ⟨.ref T, _, I.turnedNew (t' := tk) (ch := [z, TI, TO, i1, i2]) (fun b o hb e => k b o (fun m => hb ?_) e) hf hn new, rfl, ⟨T, _, _, rfl, I.hok.fresh hn, rfl, List.getElem?_eq_getElem hxs, List.getElem?_eq_getElem hys⟩, ⟨hz', hT', hO', h1', h2'⟩, fun b hb => ?_⟩
    · simp only [List.mem_cons, List.not_mem_nil, or_false] at m ⊢
      rcases m with m | m | m | m <;> simp [m]
    · have hb0 := (hf b hb).1
      have hlt : b < s.heap.objs.size := by
        simp only [List.mem_cons, List.not_mem_nil, or_false] at hb
        rcases hb with rfl | rfl | rfl | rfl | rfl
        · exact Heap.lt_size hz
        · exact Heap.lt_size hT
        · obtain ⟨_, _, q⟩ := hO; exact Heap.lt_size q
        · obtain ⟨_, q, _⟩ := h1.obj; exact Heap.lt_size q
        · obtain ⟨_, q, _⟩ := h2.obj; exact Heap.lt_size q
      rw [upd_ne (Nat.ne_of_lt (Nat.lt_of_lt_of_le hlt hn))]
      exact hb0
  done := by
    intro X hP hw hK hc i pins s σ H E I hf st hg
    subst hP hw hK
    obtain ⟨hz, hT, hO, h1, h2⟩ := st
    obtain ⟨g1, g2, hi⟩ := hg
    obtain ⟨us, r1, l1, t1⟩ := sx_in I g1
    obtain ⟨vs, r2, l2, t2⟩ := sx_in I g2
    have e1 := r1.length
    have e2 := r2.length
    have hh := I.ok.hd hc
    have W := GoesN.zip2 (prog := X.prog) (w := X.w) (A := X.A) (elts := elts) (x1 := kk) (pos := tpos) S (sx_draw (A := X.A.in1) hh p i1 a (h1.ne t1) us.toArray) (sx_draw (A := X.A.in1) hh q i2 b (h2.ne t2) vs.toArray)
    have ei : i = min us.toArray.size vs.toArray.size := by simp only [List.size_toArray]; omega
    rw [ei] at h1 h2
    exact W.stops s (fun s1 => Inv X pins σ H s1) E ⟨hz, hT, hO, ⟨h1, t1⟩, ⟨h2, t2⟩⟩ fun h' tk k htk => I.turnedL (t' := tk) (ch := [z, TI, TO, i1, i2]) (fun b o hb e => k b o (fun m => hb (by
      simp only [List.mem_cons, List.not_mem_nil, or_false] at m ⊢
      rcases m with m | m | m | m <;> simp [m])) e) hf
  self := fun A i s Q E st h => wpAny_pyIter_zip st.1 h
theorem walk_zip2 {K : PySem.W.Frag} {p q : Bool} {a b : Addr} {xs ys : List V} {H1 : Hp} (h1 : Sx p K H1 a xs) (h2 : Sx q K H1 b ys) :
    Walk (It2 K p q a b xs ys) (min xs.length ys.length) (fun H => H a = H1 a ∧ H b = H1 b) (YPair (fun i => xs[i]?) (fun i => ys[i]?)) :=
  ⟨fun i H hi g => ⟨h1.eq g.1, h2.eq g.2, hi⟩, fun H g => ⟨h1.eq g.1, h2.eq g.2, rfl⟩, fun i H x H' hi g y => y⟩
def iZip2 (K : PySem.W.Frag) (ta : TA) : TI := fun σ H R => ta σ H fun vs H1 => ∃ a b xs ys, vs = [.ref a, .ref b] ∧ Sq K H1 a xs ∧ Sq K H1 b ys ∧
  ∀ J, Walk J (min xs.length ys.length) (fun H => H a = H1 a ∧ H b = H1 b) (YPair (fun i => xs[i]?) (fun i => ys[i]?)) → R J H1
theorem pi_zip2 {X : Cx} (K : PySem.W.Frag) {e e2 : Expr} {ta : TA} {p pos tpos : Pos} {elts : List Expr} {kk : Nat} (hg : Gl X "zip") (hm : X.mg "zip" = none) (ha : PA X [e, e2] ta) (hK : X.K = K := by rfl)
    (hs : starEach [e, e2] X.env = (false, eval e X.env) :: starEach [e2] X.env := by rfl) (hpl : (backTo pos (starEach [e2] X.env)).any (·.1) = false := by rfl) :
    PI X (.Tuple elts kk tpos) (.Call (.Name "zip" p) [e, e2] [] pos) (iZip2 K ta) := by
  subst hK
  refine ⟨fun pins s σ H R I h => ?_⟩
  refine Call_ (ld_blt I hg hm PyProof.Rows.boot_zip (PyProof.Rows.callWith_type1 (thn (ha.run pos pins s σ H _ I h) fun us s1 ⟨vs, H1, I1, r1, q1⟩ => ?_) hs hpl))
  obtain ⟨a, b, xs, ys, ex, q1, q2, Rq⟩ := q1
  subst ex
  cases r1 with
  | cons r rr =>
    cases rr with
    | cons r' rr =>
      cases rr
      cases r
      cases r'
      obtain ⟨p1, k1⟩ := sx_of q1
      obtain ⟨p2, k2⟩ := sx_of q2
      obtain ⟨us, rv1, l1, t1⟩ := sx_in I1 k1
      obtain ⟨vs, rv2, l2, t2⟩ := sx_in I1 k2
      refine zip_begins2 (sx_begins p1 a us.toArray) (sx_begins p2 b vs.toArray) t1 t2 fun h' hz hT hO g1 g2 hsz hk => wpAny_pyIter_zip hz ?_
      have I2 : Inv X pins σ H1 { s1 with heap := h' } := I1.kept (t' := s1.toks) hk
      have one : ∀ {x : Addr}, x < s1.heap.objs.size → ∀ y ∈ [x], y < s1.heap.objs.size := fun hx y hy => by rw [List.mem_singleton.mp hy]; exact hx
      refine ⟨s1.heap.objs.size + 4, [s1.heap.objs.size + 4, s1.heap.objs.size + 2, s1.heap.objs.size + 3, s1.heap.objs.size, s1.heap.objs.size + 1], _, _, H1, rfl, I2, turn_zip2 (zip_sep2 (one l1) (one l2)), ⟨hz, hT, ⟨_, _, hO⟩, sx_new g1, sx_new g2⟩, fun d hd => ?_, Rq _ (walk_zip2 k1 k2)⟩
      have hle : s1.heap.objs.size ≤ d := by
        simp only [List.mem_cons, List.not_mem_nil, or_false] at hd
        rcases hd with rfl | rfl | rfl | rfl | rfl
        · exact Nat.le_add_right _ _
        · exact Nat.le_add_right _ _
        · exact Nat.le_add_right _ _
        · exact Nat.le_refl _
        · exact Nat.le_add_right _ _
      exact I1.fpOk hle (I1.hok.fresh hle)
end Lk

set_option maxHeartbeats 4000000
namespace Lk
open PySem PySem.Spec PyProof.Rows L2
/-! ### the plain law: stands, led on -/
def cnt (bs : List Bool) : Nat := (bs.filter id).length
theorem cnt_le {α : Type} (f g : α → Bool) (h : ∀ x, g x = true → f x = true) : ∀ xs : List α, cnt (xs.map g) ≤ cnt (xs.map f)
  | [] => Nat.le_refl _
  | x :: r => by
    have ih := cnt_le f g h r
    unfold cnt at ih ⊢
    rw [List.map_cons, List.map_cons, List.filter_cons, List.filter_cons]
    cases hg : g x <;> cases hf : f x <;> simp_all <;> omega
theorem cnt_lt {α : Type} (f g : α → Bool) (h : ∀ x, g x = true → f x = true) : ∀ xs : List α, xs.map g ≠ xs.map f → cnt (xs.map g) < cnt (xs.map f)
  | [], e => absurd rfl e
  | x :: r, e => by
    have ih := cnt_lt f g h r
    have ih2 := cnt_le f g h r
    unfold cnt at ih ih2 ⊢
    rw [List.map_cons, List.map_cons] at e
    rw [List.map_cons, List.map_cons, List.filter_cons, List.filter_cons]
    cases hg : g x <;> cases hf : f x
    · simp only [id, Bool.false_eq_true, if_false]
      exact ih fun z => e (by rw [hg, hf, z])
    · simp only [id, Bool.false_eq_true, if_false, if_true, List.length_cons]
      omega
    · have := h x hg
      rw [hf] at this
      cases this
    · simp only [id, if_true, List.length_cons]
      have := ih fun z => e (by rw [hg, hf, z])
      omega
theorem cnt_len (bs : List Bool) : cnt bs ≤ bs.length := List.length_filter_le _ _
theorem lookup_zip : ∀ (ms : List Nat) (bs : List Bool), ms.Nodup → ms.length = bs.length → ms.map (fun i => ((ms.zip bs).lookup i).getD false) = bs
  | [], [], _, _ => rfl
  | m :: r, b :: q, nd, hl => by
    rw [List.nodup_cons] at nd
    have ih := lookup_zip r q nd.2 (by simpa using hl)
    rw [List.map_cons, List.zip_cons_cons, List.lookup_cons_self]
    refine congrArg (b :: ·) ?_
    rw [← ih]
    refine List.map_congr_left fun i hi => ?_
    have : (i == m) = false := beq_eq_false_iff_ne.mpr fun e => nd.1 (e ▸ hi)
    rw [List.lookup_cons, this, ih]
theorem cone_sorted (rs : List Rw) (ps : List Nat) : (coneOf rs ps).Pairwise (· < ·) := by
  unfold coneOf
  exact List.Pairwise.filter _ List.pairwise_lt_range
theorem marks_sorted (P : Pl) : P.marks.Pairwise (· < ·) := List.Pairwise.filter _ (cone_sorted _ _)
theorem marks_nd (L : Pl) : L.marks.Nodup := (marks_sorted L).imp fun {a b} h => by omega
theorem tr_bits {L : Pl} {s : Sd} (h : s.2.length = L.marks.length) : L.marks.map (L.tr s) = s.2 := lookup_zip _ _ (marks_nd L) h.symm
noncomputable def Pl.mu (L : Pl) (s : Sd) : Nat := (L.high - s.1) + cnt s.2
theorem step_ok {L : Pl} (s : Sd) (y : Str) : Sd.Ok L (L.step s y) := ⟨Nat.min_le_right _ _, by simp [Pl.step]⟩
theorem init_ok (L : Pl) : Sd.Ok L L.init := ⟨Nat.zero_le _, by simp [Pl.init]⟩
theorem step_le {L : Pl} {s : Sd} (ok : Sd.Ok L s) (y : Str) : cnt (L.step s y).2 ≤ cnt s.2 := by
  have e := tr_bits ok.2
  conv => rhs; rw [← e]
  refine cnt_le (L.tr s) _ (fun x hx => ?_) _
  unfold Pl.later at hx
  rw [Bool.and_eq_true] at hx
  exact hx.1
theorem mu_lt {L : Pl} {s : Sd} {y : Str} (ok : Sd.Ok L s) (h : L.rest s y = false) : L.mu (L.step s y) < L.mu s := by
  have hle := step_le ok y
  unfold Pl.mu
  by_cases hn : s.1 = L.high
  · have hne : L.step s y ≠ s := by
      intro e
      unfold Pl.rest at h
      rw [decide_eq_true hn, decide_eq_true e] at h
      cases h
    have h1 : (L.step s y).1 = s.1 := by
      show min (s.1 + 1) L.high = s.1
      omega
    have h2 : (L.step s y).2 ≠ s.2 := fun e => hne (Prod.ext h1 e)
    have e := tr_bits ok.2
    have lt : cnt (L.step s y).2 < cnt s.2 := by
      conv => rhs; rw [← e]
      refine cnt_lt (L.tr s) _ (fun x hx => ?_) _ ?_
      · unfold Pl.later at hx
        rw [Bool.and_eq_true] at hx
        exact hx.1
      · rw [e]
        exact h2
    rw [h1]
    omega
  · have h1 : (L.step s y).1 = s.1 + 1 := by
      show min (s.1 + 1) L.high = _
      have := ok.1
      omega
    have := ok.1
    rw [h1]
    omega
noncomputable def Pl.endF (L : Pl) (y : Str) : Nat → Sd → Sd
  | 0, s => s
  | n + 1, s => if L.rest s y = true then s else L.endF y n (L.step s y)
theorem endF_stable {L : Pl} {y : Str} : ∀ (n : Nat) (s : Sd), Sd.Ok L s → L.mu s ≤ n → L.endF y n s = L.endF y (n + 1) s
  | 0, s, ok, h => by
    cases hr : L.rest s y with
    | true => simp [Pl.endF, hr]
    | false => have := mu_lt ok hr; omega
  | n + 1, s, ok, h => by
    cases hr : L.rest s y with
    | true => simp [Pl.endF, hr]
    | false =>
      have := mu_lt ok hr
      have ih := endF_stable (y := y) n (L.step s y) (step_ok s y) (by omega)
      show (if L.rest s y = true then s else L.endF y n (L.step s y)) = (if L.rest s y = true then s else L.endF y (n + 1) (L.step s y))
      rw [ih]
noncomputable def Pl.endS (L : Pl) (s : Sd) (y : Str) : Sd := L.endF y (L.high + L.marks.length) s
theorem mu_le {L : Pl} {s : Sd} (ok : Sd.Ok L s) : L.mu s ≤ L.high + L.marks.length := by
  have := cnt_len s.2
  have := ok.2
  unfold Pl.mu
  omega
theorem endS_rest {L : Pl} {s : Sd} {y : Str} (ok : Sd.Ok L s) (h : L.rest s y = true) : L.endS s y = s := by
  unfold Pl.endS
  cases L.high + L.marks.length with
  | zero => rfl
  | succ n => simp [Pl.endF, h]
theorem endS_step {L : Pl} {s : Sd} {y : Str} (ok : Sd.Ok L s) (h : L.rest s y = false) : L.endS (L.step s y) y = L.endS s y := by
  unfold Pl.endS
  rw [endF_stable _ s ok (mu_le ok)]
  show _ = (if L.rest s y = true then s else L.endF y _ (L.step s y))
  rw [h]
  rfl
noncomputable def Pl.endM (L : Pl) (s : Sd) (y : Str) : Str := L.mvs (L.endS s y)
/-- behind some letters -/
noncomputable def Pl.run (L : Pl) (s : Sd) (ys : List Str) : Sd := ys.foldl L.step s
theorem run_ok {L : Pl} : ∀ {ys : List Str} {s : Sd}, Sd.Ok L s → Sd.Ok L (L.run s ys)
  | [], _, h => h
  | y :: r, s, _ => run_ok (ys := r) (step_ok s y)
theorem run_snoc (L : Pl) (s : Sd) (ys : List Str) (y : Str) : L.run s (ys ++ [y]) = L.step (L.run s ys) y := by
  unfold Pl.run
  rw [List.foldl_append]
  rfl
end Lk

set_option maxHeartbeats 4000000
namespace Lk
open PySem PySem.Spec PyProof.Rows L2
/-! ### the search: every stand with a shortest word -/
theorem nd_len : ∀ (n : Nat) (ks : List Nat), ks.Nodup → (∀ k ∈ ks, k < n) → ks.length ≤ n
  | 0, [], _, _ => Nat.le_refl _
  | 0, k :: _, _, h => by have := h k (by simp); omega
  | n + 1, ks, nd, h => by
    by_cases hn : n ∈ ks
    · have h1 := nd_len n (ks.erase n) (nd.erase n) fun k hk => by
        have e := (List.Nodup.mem_erase_iff nd).mp hk
        have := h k e.2
        have := e.1
        omega
      rw [List.length_erase_of_mem hn] at h1
      omega
    · have h1 := nd_len n ks nd fun k hk => by
        have := h k hk
        have : k ≠ n := fun e => hn (e ▸ hk)
        omega
      omega
def bval : List Bool → Nat
  | [] => 0
  | b :: r => (if b = true then 1 else 0) + 2 * bval r
theorem bval_lt : ∀ bs : List Bool, bval bs < 2 ^ bs.length
  | [] => by decide
  | b :: r => by
    have := bval_lt r
    unfold bval
    rw [List.length_cons, Nat.pow_succ]
    split <;> omega
theorem bval_inj : ∀ {xs ys : List Bool}, xs.length = ys.length → bval xs = bval ys → xs = ys
  | [], [], _, _ => rfl
  | x :: xs, y :: ys, hl, h => by
    unfold bval at h
    cases x <;> cases y <;> simp only [if_true, Bool.false_eq_true, if_false] at h
    · have e := bval_inj (xs := xs) (ys := ys) (by simpa using hl) (by omega)
      rw [e]
    · omega
    · omega
    · have e := bval_inj (xs := xs) (ys := ys) (by simpa using hl) (by omega)
      rw [e]
/-- few unlike stands -/
theorem sds_len {h m : Nat} (ss : List Sd) (nd : ss.Nodup) (ok : ∀ s ∈ ss, s.1 ≤ h ∧ s.2.length = m) : ss.length ≤ (h + 1) * 2 ^ m := by
  have hl : (ss.map fun s => s.1 * 2 ^ m + bval s.2).length = ss.length := List.length_map ..
  rw [← hl]
  refine nd_len _ _ ?_ fun k hk => ?_
  · rw [List.Nodup, List.pairwise_map]
    refine List.Pairwise.imp_of_mem (fun {a b} ha hb hne e => hne ?_) nd
    have la := ok a ha
    have lb := ok b hb
    have h1 := bval_lt a.2
    have h2 := bval_lt b.2
    rw [la.2] at h1
    rw [lb.2] at h2
    have e1 : a.1 = b.1 := by
      rcases Nat.lt_trichotomy a.1 b.1 with q | q | q
      · have : (a.1 + 1) * 2 ^ m ≤ b.1 * 2 ^ m := Nat.mul_le_mul_right _ q
        rw [Nat.add_mul, Nat.one_mul] at this
        omega
      · exact q
      · have : (b.1 + 1) * 2 ^ m ≤ a.1 * 2 ^ m := Nat.mul_le_mul_right _ q
        rw [Nat.add_mul, Nat.one_mul] at this
        omega
    rw [e1] at e
    exact Prod.ext e1 (bval_inj (by rw [la.2, lb.2]) (by omega))
  · obtain ⟨s, hs, rfl⟩ := List.mem_map.mp hk
    have l := ok s hs
    have h1 := bval_lt s.2
    rw [l.2] at h1
    have : s.1 * 2 ^ m ≤ h * 2 ^ m := Nat.mul_le_mul_right _ l.1
    rw [Nat.add_mul, Nat.one_mul]
    omega
abbrev Wd := Sd × List Str
/-- a word's number: words in the order of their lengths, those of one length in the letters' order -/
def code (ls : List Str) (u : List Str) : Nat := u.foldl (fun a y => 4 * a + (ls.idxOf y + 1)) 0
theorem code_snoc (ls u : List Str) (y : Str) : code ls (u ++ [y]) = 4 * code ls u + (ls.idxOf y + 1) := by
  unfold code
  rw [List.foldl_append]
  rfl
theorem snoc_ind {α : Type} {p : List α → Prop} (h0 : p []) (h1 : ∀ u y, p u → p (u ++ [y])) : ∀ u, p u := by
  intro u
  rw [← List.reverse_reverse u]
  induction u.reverse with
  | nil => exact h0
  | cons y r ih =>
    rw [List.reverse_cons]
    exact h1 _ _ ih
def loN : Nat → Nat
  | 0 => 0
  | n + 1 => 4 * loN n + 1
def hiN : Nat → Nat
  | 0 => 0
  | n + 1 => 4 * hiN n + 4
theorem lo_hi : ∀ n, loN (n + 1) = hiN n + 1
  | 0 => rfl
  | n + 1 => by
    have h := lo_hi n
    show 4 * loN (n + 1) + 1 = 4 * hiN n + 4 + 1
    omega
theorem lo_mono {n m : Nat} (h : n ≤ m) : loN n ≤ loN m := by
  induction h with
  | refl => exact Nat.le_refl _
  | step _ ih =>
    show _ ≤ 4 * loN _ + 1
    omega
theorem code_lo (ls : List Str) (u : List Str) : loN u.length ≤ code ls u := by
  refine snoc_ind (p := fun u => loN u.length ≤ code ls u) ?_ (fun u y ih => ?_) u
  · exact Nat.le_refl _
  · rw [code_snoc, List.length_append]
    show 4 * loN u.length + 1 ≤ _
    omega
theorem code_hi {ls : List Str} (h4 : ls.length ≤ 4) (u : List Str) (h : ∀ y ∈ u, y ∈ ls) : code ls u ≤ hiN u.length := by
  revert h
  refine snoc_ind (p := fun u => (∀ y ∈ u, y ∈ ls) → code ls u ≤ hiN u.length) ?_ (fun u y ih => ?_) u
  · exact fun _ => Nat.le_refl _
  · intro h
    have ih := ih fun z hz => h z (List.mem_append_left _ hz)
    have := List.idxOf_lt_length_of_mem (h y (by simp))
    rw [code_snoc, List.length_append]
    show _ ≤ 4 * hiN u.length + 4
    omega
theorem code_len {ls : List Str} (h4 : ls.length ≤ 4) {u v : List Str} (hv : ∀ y ∈ v, y ∈ ls) (h : code ls u ≤ code ls v) : u.length ≤ v.length := by
  have h1 := code_lo ls u
  have h2 := code_hi h4 v hv
  by_cases q : u.length ≤ v.length
  · exact q
  · have h3 := lo_mono (show v.length + 1 ≤ u.length by omega)
    rw [lo_hi] at h3
    omega
/-- what is so at each time of the search -/
structure Bc (L : Pl) (ls : List Str) (i : Nat) (W : List Wd) : Prop where
  lead : ∀ x ∈ W, L.run L.init x.2 = x.1 ∧ ∀ y ∈ x.2, y ∈ ls
  fst : W[0]? = some (L.init, [])
  nd : (W.map (·.1)).Nodup
  so : W.Pairwise fun a b => code ls a.2 < code ls b.2
  wl : ∀ (j : Nat) (c : Wd), W[j]? = some c → c.2.length ≤ j
  done : ∀ j c, j < i → W[j]? = some c → ∀ y ∈ ls, ∃ z ∈ W, z.1 = L.step c.1 y ∧ code ls z.2 ≤ code ls (c.2 ++ [y])
/-- the i first ones are done -/
structure Bf (L : Pl) (ls : List Str) (i : Nat) (W : List Wd) : Prop where
  b : Bc L ls i W
  near : ∀ c, W[i]? = some c → ∀ x ∈ W, code ls x.2 ≤ 4 * code ls c.2
theorem bf_zero (L : Pl) (ls : List Str) : Bf L ls 0 [(L.init, [])] := by
  refine ⟨⟨fun x hx => ?_, rfl, by simp, by simp, fun j c hj => ?_, fun j c hj => by omega⟩, fun c hc x hx => ?_⟩
  · rw [List.mem_singleton.mp hx]
    exact ⟨rfl, fun y hy => by cases hy⟩
  · rw [List.mem_singleton.mp (List.mem_of_getElem? hj)]
    exact Nat.zero_le _
  · rw [List.mem_singleton.mp hx]
    exact Nat.zero_le _
theorem Bc.ok {L : Pl} {ls : List Str} {i : Nat} {W : List Wd} (b : Bc L ls i W) : ∀ x ∈ W, Sd.Ok L x.1 := fun x hx => by
  rw [← (b.lead x hx).1]
  exact run_ok (init_ok L)
theorem Bc.len {L : Pl} {ls : List Str} {i : Nat} {W : List Wd} (b : Bc L ls i W) : W.length ≤ (L.high + 1) * 2 ^ L.marks.length := by
  have := sds_len (h := L.high) (m := L.marks.length) _ b.nd fun s hs => by
    obtain ⟨x, hx, rfl⟩ := List.mem_map.mp hs
    exact b.ok x hx
  rwa [List.length_map] at this
section
variable {L : Pl} {ls : List Str} {i : Nat} {W : List Wd}
theorem Bf.ok (b : Bf L ls i W) : ∀ x ∈ W, Sd.Ok L x.1 := b.b.ok
theorem Bf.len (b : Bf L ls i W) : W.length ≤ (L.high + 1) * 2 ^ L.marks.length := b.b.len
theorem Bf.lead (b : Bf L ls i W) : ∀ x ∈ W, L.run L.init x.2 = x.1 ∧ ∀ y ∈ x.2, y ∈ ls := b.b.lead
theorem Bf.nd (b : Bf L ls i W) : (W.map (·.1)).Nodup := b.b.nd
theorem Bf.so (b : Bf L ls i W) : W.Pairwise fun a b => code ls a.2 < code ls b.2 := b.b.so
end
/-- one letter more of the i-th one: found, or new at the end; k letters are done -/
structure Bg (L : Pl) (ls : List Str) (i k : Nat) (c : Wd) (W : List Wd) : Prop where
  b : Bc L ls i W
  at_ : W[i]? = some c
  near : ∀ x ∈ W, code ls x.2 ≤ 4 * code ls c.2 + k
  here : ∀ y ∈ ls.take k, ∃ z ∈ W, z.1 = L.step c.1 y ∧ code ls z.2 ≤ code ls (c.2 ++ [y])
theorem idx_at {ls : List Str} (nd : ls.Nodup) {k : Nat} {y : Str} (h : ls[k]? = some y) : ls.idxOf y = k := by
  obtain ⟨hk, e⟩ := List.getElem?_eq_some_iff.mp h
  rw [← e]
  exact nd.idxOf_getElem k hk
theorem Bg.old {L : Pl} {ls : List Str} {i k : Nat} {c : Wd} {W : List Wd} {y : Str} (nd : ls.Nodup) (g : Bg L ls i k c W) (hy : ls[k]? = some y) (h : L.step c.1 y ∈ W.map (·.1)) : Bg L ls i (k + 1) c W := by
  refine ⟨g.b, g.at_, fun x hx => Nat.le_succ_of_le (g.near x hx), fun y' h' => ?_⟩
  rw [List.take_add_one, hy] at h'
  rcases List.mem_append.mp h' with q | q
  · exact g.here y' q
  · have : y' = y := by simpa using q
    subst this
    obtain ⟨z, hz, e⟩ := List.mem_map.mp h
    refine ⟨z, hz, e, ?_⟩
    rw [code_snoc, idx_at nd hy]
    exact Nat.le_succ_of_le (g.near z hz)
theorem Bg.new {L : Pl} {ls : List Str} {i k : Nat} {c : Wd} {W : List Wd} {y : Str} (nd : ls.Nodup) (g : Bg L ls i k c W) (hy : ls[k]? = some y) (h : L.step c.1 y ∉ W.map (·.1)) : Bg L ls i (k + 1) c (W ++ [(L.step c.1 y, c.2 ++ [y])]) := by
  have hi : i < W.length := (List.getElem?_eq_some_iff.mp g.at_).1
  have hc : c ∈ W := List.mem_of_getElem? g.at_
  have at' : (W ++ [(L.step c.1 y, c.2 ++ [y])])[i]? = some c := by rw [List.getElem?_append_left hi]; exact g.at_
  have ec : code ls (c.2 ++ [y]) = 4 * code ls c.2 + (k + 1) := by rw [code_snoc, idx_at nd hy]
  refine ⟨⟨fun x hx => ?_, ?_, ?_, ?_, fun j c' hc' => ?_, fun j c' hj hc' y' hy' => ?_⟩, at', fun x hx => ?_, fun y' h' => ?_⟩
  · rcases List.mem_append.mp hx with q | q
    · exact g.b.lead x q
    · rw [List.mem_singleton.mp q]
      refine ⟨?_, fun y' hy' => ?_⟩
      · rw [run_snoc, (g.b.lead c hc).1]
      · rcases List.mem_append.mp hy' with q | q
        · exact (g.b.lead c hc).2 y' q
        · rw [List.mem_singleton.mp q]
          exact List.mem_of_getElem? hy
  · rw [List.getElem?_append_left (by omega)]
    exact g.b.fst
  · rw [List.map_append, List.nodup_append]
    refine ⟨g.b.nd, by simp, fun a ha b hb e => ?_⟩
    have : b = L.step c.1 y := by simpa using hb
    exact h (this ▸ e ▸ ha)
  · rw [List.pairwise_append]
    refine ⟨g.b.so, by simp, fun a ha b hb => ?_⟩
    rw [List.mem_singleton.mp hb]
    have := g.near a ha
    show _ < code ls (c.2 ++ [y])
    omega
  · by_cases hj : j < W.length
    · rw [List.getElem?_append_left hj] at hc'
      exact g.b.wl j c' hc'
    · have hm : c' = (L.step c.1 y, c.2 ++ [y]) := by
        rw [List.getElem?_append_right (by omega)] at hc'
        exact List.mem_singleton.mp (List.mem_of_getElem? hc')
      have := g.b.wl i c g.at_
      rw [hm]
      simp
      omega
  · rw [List.getElem?_append_left (by omega)] at hc'
    obtain ⟨z, hz, e⟩ := g.b.done j c' hj hc' y' hy'
    exact ⟨z, List.mem_append_left _ hz, e⟩
  · rcases List.mem_append.mp hx with q | q
    · exact Nat.le_succ_of_le (g.near x q)
    · rw [List.mem_singleton.mp q]
      exact Nat.le_of_eq ec
  · rw [List.take_add_one, hy] at h'
    rcases List.mem_append.mp h' with q | q
    · obtain ⟨z, hz, e⟩ := g.here y' q
      exact ⟨z, List.mem_append_left _ hz, e⟩
    · have : y' = y := by simpa using q
      subst this
      exact ⟨_, List.mem_append_right _ (List.mem_singleton.mpr rfl), rfl, Nat.le_refl _⟩
theorem Bf.start {L : Pl} {ls : List Str} {i : Nat} {W : List Wd} {c : Wd} (b : Bf L ls i W) (h : W[i]? = some c) : Bg L ls i 0 c W := ⟨b.b, h, fun x hx => b.near c h x hx, fun y hy => by simp at hy⟩
theorem Bg.fin {L : Pl} {ls : List Str} {i : Nat} {W : List Wd} {c : Wd} (h4 : ls.length ≤ 4) (g : Bg L ls i ls.length c W) : Bf L ls (i + 1) W := by
  refine ⟨⟨g.b.lead, g.b.fst, g.b.nd, g.b.so, g.b.wl, fun j c' hj hc' y hy => ?_⟩, fun c' hc' x hx => ?_⟩
  · by_cases e : j = i
    · subst e
      rw [g.at_] at hc'
      cases hc'
      exact g.here y (by rw [List.take_length]; exact hy)
    · exact g.b.done j c' (by omega) hc' y hy
  · have h1 := g.near x hx
    obtain ⟨q1, q2⟩ := List.getElem?_eq_some_iff.mp g.at_
    obtain ⟨r1, r2⟩ := List.getElem?_eq_some_iff.mp hc'
    have := (List.pairwise_iff_getElem.mp g.b.so) i (i + 1) q1 r1 (by omega)
    rw [q2, r2] at this
    omega
/-- done: every word leads to a stand that has a word no later -/
theorem Bf.all {L : Pl} {ls : List Str} {W : List Wd} (b : Bf L ls W.length W) : ∀ u : List Str, (∀ y ∈ u, y ∈ ls) → ∃ z ∈ W, z.1 = L.run L.init u ∧ code ls z.2 ≤ code ls u := by
  refine snoc_ind (p := fun u => (∀ y ∈ u, y ∈ ls) → ∃ z ∈ W, z.1 = L.run L.init u ∧ code ls z.2 ≤ code ls u) ?_ (fun u y ih => ?_)
  · exact fun _ => ⟨_, List.mem_of_getElem? b.b.fst, rfl, Nat.le_refl _⟩
  · intro h
    obtain ⟨z, hz, e, l⟩ := ih fun x hx => h x (List.mem_append_left _ hx)
    obtain ⟨j, hj⟩ := List.mem_iff_getElem?.mp hz
    obtain ⟨z', hz', e', l'⟩ := b.b.done j z (List.getElem?_eq_some_iff.mp hj).1 hj y (h y (by simp))
    refine ⟨z', hz', by rw [run_snoc, ← e, e'], Nat.le_trans l' ?_⟩
    rw [code_snoc, code_snoc]
    omega
end Lk

set_option maxHeartbeats 4000000
namespace Lk
open PySem PySem.Spec PyProof.Rows L2
theorem hu16 {A : Around} {k : Nat} (hr : Room k A) : A.units + 16 < cLine := by
  have := hr.units
  omega
abbrev FnP (K : PySem.W.Frag) (x q : Str) (st : Stmt) (f : Addr) (fd : FuncData) : Prop := FunD K x q (defArgs st) (defBody st) (defScope st) [] [] f fd
section
variable {P : Program} {w : World} {K : PySem.W.Frag} {mg : Str → Option Value} {base : Heap}
theorem okN {x q : Str} {st : Stmt} {f : Addr} {fd : FuncData} {N ps : List Str} {k : Nat} {sp : Sp} (F : FnP K x q st f fd) (S : FnScope N ps (defScope st)) (len : ∀ vs H Q E, sp vs H Q E → vs.length = ps.length)
    (hbody : ∀ (cdv : Value) (A : Around) (outer : List Env) (s : Shared) (H : Hp) (vs : List V) (Q : VK) (E : XK), Room k (A.deeper (envOfC q (defScope st) s.heap.objs.size f cdv)) → sp vs H Q E →
      ∃ t, PSs (cxOf CX0 P w K mg base N q (defScope st) f cdv A outer s H E).nox (defBody st) t ∧ t { nx := fun _ H' => Q .non H', rt := Q } (start N vs) H) : FnOk P w K mg base CX0 (k + 1) f fd ps sp :=
  F.ok S len fun cdv A outer s H vs Q E hr h => by
    obtain ⟨t, h1, h2⟩ := hbody cdv A outer s H vs Q E hr h
    exact ⟨t, h1.nox, h2⟩
end
theorem ixT {X : Cx} (K : PySem.W.Frag) (h : X.K = K := by rfl) : IxR X (rIxT K) := h ▸ ix_tup
theorem ixL {X : Cx} (K : PySem.W.Frag) (h : X.K = K := by rfl) : IxR X (rIxL K) := h ▸ ix_list
theorem ixS {X : Cx} (K : PySem.W.Frag) (h : X.K = K := by rfl) : IxR X (rIx K) := h ▸ ix_seq
theorem inS {X : Cx} (K : PySem.W.Frag) (h : X.K = K := by rfl) : OpR X (compareOp .In) (rIn K false) := h ▸ op_in_seq
theorem notInS {X : Cx} (K : PySem.W.Frag) (h : X.K = K := by rfl) : OpR X (compareOp .NotIn) (rIn K true) := h ▸ op_notIn_seq
theorem slL {X : Cx} (K : PySem.W.Frag) (h : X.K = K := by rfl) : SlR X (rSlL K) := h ▸ sl_list
theorem slT {X : Cx} (K : PySem.W.Frag) (h : X.K = K := by rfl) : SlR X (rSlA K) := h ▸ sl_tupA
theorem lenS {X : Cx} (K : PySem.W.Frag) (h : X.K = K := by rfl) : CallR X (.builtin "len") (fun xs H Q => ∃ p ys, xs = [.ref p] ∧ (SqL K H p ys ∨ SqT K H p ys) ∧ Q (.int ys.length) H) := h ▸ call_len_seq
theorem allS {X : Cx} (K : PySem.W.Frag) (hc : X.calm = true) (h : X.K = K := by rfl) : CallR X (.builtin "all") (rAll K) := h ▸ cr_all hc
theorem maxS {X : Cx} (K : PySem.W.Frag) (hc : X.calm = true) (h : X.K = K := by rfl) : CallR X (.builtin "max") (rMax K) := h ▸ cr_max hc
theorem fldK {X : Cx} (K : PySem.W.Frag) {o : Expr} {f : Str} {pos : Pos} {ta : TE} (ha : PE X o ta) (hs : attributeBase o f X.env (eval o X.env) = eval o X.env) (h : X.K = K := by rfl) : PE X (.Attribute o f pos) (tFld K ta f) := h ▸ pe_fld ha hs
theorem pgT {X : Cx} (K : PySem.W.Frag) (n : Nat) {es : List Expr} {k : Nat} {pos : Pos} {t : TGs} (hc : X.calm = true) (h : PGs X es t) (h1 : X.K = K := by rfl) (hn : (assignEach es X.env).length = n := by rfl) (hst : (assignEach es X.env).findIdx? (·.1) = none := by rfl) : PG X (.Tuple es k pos) (gTup K n t) := h1 ▸ pg_tup hc h hn hst
theorem yesT {σ : L2.St} {H : Hp} {A B : Hp → Prop} (h : A H) : tYes σ H fun b H3 => if b = true then A H3 else B H3 := iteT (B := B H) h
theorem eqvT {x y : V} (h : x = y) : decide (x = y) = true := decide_eq_true h
theorem eqvF {x y : V} (h : x ≠ y) : decide (x = y) = false := decide_eq_false h
theorem ifT {c : Prop} [Decidable c] {A B : Prop} (h : c) (a : A) : if decide c = true then A else B := by rw [decide_eq_true h]; exact iteT a
theorem ifF {c : Prop} [Decidable c] {A B : Prop} (h : ¬ c) (b : B) : if decide c = true then A else B := by rw [decide_eq_false h]; exact iteF b
theorem ifNT {c : Prop} [Decidable c] {A B : Prop} (h : ¬ c) (a : A) : if (!decide c) = true then A else B := by rw [decide_eq_false h]; exact iteT a
theorem ifNF {c : Prop} [Decidable c] {A B : Prop} (h : c) (b : B) : if (!decide c) = true then A else B := by rw [decide_eq_true h]; exact iteF b
theorem str_ne {a b : Str} (h : a ≠ b) : ¬ V.str a = V.str b := fun z => h (by injection z)
theorem fm_const {c : V} : ∀ xs : List V, xs.filterMap (fun _ => some c) = List.replicate xs.length c
  | [] => rfl
  | _ :: r => by
    rw [List.filterMap_cons, fm_const r]
    rfl
theorem all_rep (n : Nat) : (List.replicate n true).all id = true := by simp [List.all_replicate]
theorem rep_bl (n : Nat) : (List.replicate n true).map V.bl = List.replicate n (V.bl true) := by simp
theorem same_of {H H2 : Hp} {a : Addr} {xs : List V} (s : Same H H2) (h : Lt H a xs) : H2 a = H a := by
  rcases h with e | e <;> rw [e] <;> exact s _ _ e
/-- the places that a row names -/
def Rw.places : Rw → List Nat
  | .fl => []
  | .ds _ _ => []
  | .ng _ => [1]
  | .cj _ _ => [1, 2]
  | .dj _ _ => [1, 2]
  | .sh _ _ => [2]
theorem rn_at (r : Rw) : rnTab.lookup r.word = some (r.places.map fun p => ((p : Nat) : Int)) := by cases r <;> rfl
theorem sz_at (r : Rw) : szTab.lookup r.word = some ((r.vs.length : Nat) : Int) := by cases r <;> rfl
theorem places_at {r : Rw} {n p : Nat} (ok : r.ok n) (h : p ∈ r.places) : ∃ j, r.vs[p]? = some (nV j) ∧ j < n := by
  cases r <;> simp [Rw.places] at h <;> simp [Rw.ok] at ok
  · subst h; exact ⟨_, rfl, ok⟩
  · rcases h with rfl | rfl
    · exact ⟨_, rfl, ok.1⟩
    · exact ⟨_, rfl, ok.2⟩
  · rcases h with rfl | rfl
    · exact ⟨_, rfl, ok.1⟩
    · exact ⟨_, rfl, ok.2⟩
  · subst h; exact ⟨_, rfl, ok.2⟩
def vD : V → PyData
  | .int i => .int i
  | .str s => .str s
  | .bl b => .bool b
  | _ => .none
def scalV : V → Bool
  | .int _ => true
  | .str s => PyData.strOk s
  | .bl _ => true
  | _ => false
theorem dp_all {K : PySem.W.Frag} {H : Hp} : ∀ xs : List V, xs.all scalV = true → DpAll K H xs (xs.map vD)
  | [], _ => .nil
  | x :: r, h => by
    rw [List.all_cons, Bool.and_eq_true] at h
    refine .cons ?_ (dp_all r h.2)
    have h1 := h.1
    cases x <;> first | exact .int _ | exact .str _ | exact .bl _ | (exact absurd h1 Bool.false_ne_true)
theorem shp_all : ∀ xs : List V, xs.all scalV = true → PyData.canLayAll0 (xs.map vD) = true ∧ PyData.depthAll (xs.map vD) = 0
  | [], _ => by simp [PyData.canLayAll0, PyData.depthAll]
  | x :: r, h => by
    rw [List.all_cons, Bool.and_eq_true] at h
    obtain ⟨h1, h2⟩ := shp_all r h.2
    have h3 := h.1
    cases x <;> simp [scalV] at h3 <;> simp [vD, PyData.canLayAll0, PyData.depthAll, PyData.canLay0, PyData.depth, h1, h2, h3]
theorem shp_tup {xs : List V} (h : xs.all scalV = true) : SeqAt.shaped (.tuple (xs.map vD)) = true := by
  obtain ⟨h1, h2⟩ := shp_all xs h
  simp [SeqAt.shaped, PyData.canLay0, PyData.depth, h1, h2]
theorem isMv.strOk {m : Str} (h : isMv m) : PyData.strOk m = true := by
  obtain ⟨h1, h2, h3⟩ := h
  have key : ∀ c ∈ az.cps.toList, c < 128 := by decide
  unfold PyData.strOk
  rw [← Array.all_toList]
  rw [List.all_eq_true]
  intro c hc
  have := key c (h3 c hc)
  simp
  omega
theorem Rw.ok.scal {r : Rw} {n : Nat} (h : r.ok n) : r.vs.all scalV = true := by
  cases r with
  | ds k m =>
    have := h.2.strOk
    simp [Rw.vs, Rw.parts, scalV, Rw.word, this]
    decide +kernel
  | _ =>
    simp [Rw.vs, Rw.parts, scalV, Rw.word]
    decide +kernel
/-! ### is_number, is_list, is_move -/
def spIsNumber : Sp := fun vs H Q _ => ∃ t lo hi : Int, vs = [.int t, .int lo, .int hi] ∧ Q (.bl (decide (lo ≤ t) && decide (t ≤ hi))) H
def spIsList : Sp := fun vs H Q _ => ∃ a xs, vs = [.ref a] ∧ Lt H a xs ∧ ∀ H', Same H H' → Q (.bl true) H'
def spIsMove : Sp := fun vs H Q _ => ∃ m : Str, vs = [.str m] ∧ isMv m ∧ ∀ H', Same H H' → Q (.bl true) H'
def spAreMoves : Sp := fun vs H Q _ => ∃ a ms, vs = [.ref a] ∧ Lt H a (ms.map V.str) ∧ Mv ms ∧ ∀ H', Same H H' → Q (.bl true) H'
section
variable {P : Program} {w : World} {K : PySem.W.Frag} {mg : Str → Option Value} {base : Heap} {cP cG cT : Addr} {f : Addr} {fd : FuncData} (T : Txt K w mg cP cG cT)
include T
theorem ok_is_number (F : FnP K "is_number" "is_number" s_is_number f fd) : FnOk P w K mg base CX0 1 f fd ["thing", "low", "high"] spIsNumber := by
  refine okN F sc_is_number (fun vs H Q E h => ?_) (fun cdv A outer s H vs Q E hr h => ?_)
  · obtain ⟨t, lo, hi, rfl, _⟩ := h
    rfl
  · obtain ⟨t, lo, hi, rfl, q⟩ := h
    refine ⟨_, (pss_cons (ps_if (PW.pt (pw_or (pt_not (pt_val (pe_callB call_isi (by rfl) T.isinstance_ b_isinstance (pa_cons (pv 0) (pa_cons (ty_int T) pa_nil))))) (pw_or1 (pt_val (pe_callB call_isi (by rfl) T.isinstance_ b_isinstance (pa_cons (pv 0) (pa_cons (ty_bool T) pa_nil))))))) (pss_one (ps_ret pe_bl)) pss_nil)
      (pss_one (ps_ret (pe_and (pe_cmpR op_le (pv 1) (pv 0) (nomark _)) (pe_one (pe_or (pe_cmpR op_isN (pv 2) pe_non (nomark _)) (pe_one (pe_cmpR op_le (pv 0) (pv 2) (nomark _))))))))), ?_⟩
    refine ⟨_, rfl, _, _, _, _, true, rfl, .ty _, .base (.int _), by exact kit_ty (by decide +kernel), true, rfl, ?_⟩
    refine iteF ?_
    refine ⟨_, rfl, _, _, _, _, false, rfl, .ty _, .base (.int _), by exact kit_ty (by decide +kernel), false, rfl, ?_⟩
    refine iteF ?_
    refine ⟨_, rfl, _, rfl, _, _, rfl, rfl, _, rfl, ?_⟩
    by_cases h1 : lo ≤ t
    · rw [decide_eq_true h1] at q ⊢
      refine iteT ?_
      refine ⟨_, rfl, rfl, _, rfl, ?_⟩
      refine iteF ?_
      exact ⟨_, rfl, _, rfl, _, _, rfl, rfl, q⟩
    · rw [decide_eq_false h1] at q ⊢
      exact iteF q
theorem ok_is_list (F : FnP K "is_list" "is_list" s_is_list f fd) : FnOk P w K mg base CX0 1 f fd ["thing"] spIsList := by
  refine okN F sc_is_list (fun vs H Q E h => ?_) (fun cdv A outer s H vs Q E hr h => ?_)
  · obtain ⟨a, xs, rfl, _⟩ := h
    rfl
  · obtain ⟨a, xs, rfl, hx, q⟩ := h
    refine ⟨_, (pss_one (ps_ret (pe_callB call_isiT (by rfl) T.isinstance_ b_isinstance (pa_cons (pv 0) (pa_cons (pe_tup (pa_cons (ty_list T) (pa_cons (ty_tuple T) pa_nil))) pa_nil))))), ?_⟩
    refine ⟨_, rfl, (by show 2 ≤ sizeLine; decide), fun t ht => ?_⟩
    rcases hx with hx | hx
    · refine ⟨_, t, _, _, _, true, rfl, upd_same, .cons (.ty _) (.cons (.ty _) .nil), .base (.lst (by rw [upd_ne (ne_of_none hx ht)]; exact hx)), kitAny_cons (b := true) (kit_ty (by decide +kernel)) (fun e => nomatch e) (fun _ => rfl), ?_⟩
      exact q _ (same_new ht)
    · refine ⟨_, t, _, _, _, true, rfl, upd_same, .cons (.ty _) (.cons (.ty _) .nil), .base (.tup (by rw [upd_ne (ne_of_none hx ht)]; exact hx)), kitAny_cons (b := false) (kit_ty (by decide +kernel)) (fun _ => kitAny_cons (b := true) (kit_ty (by decide +kernel)) (fun e => nomatch e) (fun _ => rfl)) (fun e => nomatch e), ?_⟩
      exact q _ (same_new ht)
theorem ok_is_move (F : FnP K "is_move" "is_move" s_is_move f fd) : FnOk P w K mg base CX0 1 f fd ["thing"] spIsMove := by
  refine okN F sc_is_move (fun vs H Q E h => ?_) (fun cdv A outer s H vs Q E hr h => ?_)
  · obtain ⟨m, rfl, _⟩ := h
    rfl
  · obtain ⟨m, rfl, ⟨m1, m2, m3⟩, q⟩ := h
    refine ⟨_, (pss_cons (ps_if (PW.pt (pw_or (pt_not (pt_val (pe_callB call_isi (by rfl) T.isinstance_ b_isinstance (pa_cons (pv 0) (pa_cons (ty_str T) pa_nil))))) (pw_or1 (pt_not (pt_chain op_le op_le pe_int (pe_callB call_len_str (by rfl) T.len_ b_len (pa_cons (pv 0) pa_nil)) (gl_LONGEST T)))))) (pss_one (ps_ret pe_bl)) pss_nil)
      (pss_one (ps_ret (pe_callB (allS K rfl) (by rfl) T.all_ b_all (pa_cons (pe_lc (own := [("sign", 1)]) rfl sc_is_move.nd (pi_str (pv 0)) (blkOk_by (own := [("sign", 1)]) (N := ["thing", "sign"]) (sc := defScope s_is_move) (by decide +kernel)) (fun _ _ _ _ _ => pg_name (i := 1) sc_is_move.nd rfl (Or.inl rfl)) (fun _ _ _ _ _ => pts_nil) (fun _ _ _ _ _ => (pe_cmpR op_in_sign (pv 1) (gl_LETTERS T) rfl))) pa_nil))))), ?_⟩
    refine ⟨_, rfl, _, _, _, _, true, rfl, .ty _, .base (.str _), by exact kit_ty (by decide +kernel), true, rfl, ?_⟩
    refine iteF ?_
    refine ⟨_, rfl, _, rfl, sz_le (by omega), _, _, rfl, rfl, true, ?_⟩
    refine ⟨congrArg V.bl (decide_eq_true (by omega)), ?_⟩
    refine iteT ?_
    refine ⟨_, _, rfl, rfl, true, congrArg V.bl (decide_eq_true (by omega)), ?_⟩
    refine iteF ?_
    refine ⟨_, rfl, m, rfl, fun D hD => ?_⟩
    refine lcW_fm walk_str (fun _ => some (.bl true)) hD (by have : m.cps.size = m.length := rfl; omega) (fun _ _ => trivial) (fun i x H1 H' hi s1 y K1 K0 h1 h0 => ?_) (fun H' s' e => ?_)
    · obtain ⟨rfl, c, hc, rfl⟩ := y
      refine ⟨rfl, yesT ?_⟩
      refine ⟨_, rfl, c, az, rfl, rfl, ?_⟩
      rw [decide_eq_true (m3 c (List.mem_of_getElem? (by simpa using hc)))]
      exact h1 _ _ rfl (fun _ _ e => e)
    · refine ⟨D, List.replicate m.cps.size true, rfl, .inl (.inl ?_), ?_⟩
      · rw [e]
        simp [List.filterMap_eq_map, List.map_const']
      · have : (List.replicate m.cps.size true).all id = true := by simp [List.all_replicate]
        rw [this]
        exact q _ s'
theorem ok_are_moves {C_is_list : Cal P w K mg base "is_list" 1 ["thing"] spIsList} {C_is_move : Cal P w K mg base "is_move" 1 ["thing"] spIsMove} (F : FnP K "are_moves" "are_moves" s_are_moves f fd) : FnOk P w K mg base CX0 2 f fd ["thing"] spAreMoves := by
  refine okN F sc_are_moves (fun vs H Q E h => ?_) (fun cdv A outer s H vs Q E hr h => ?_)
  · obtain ⟨a, ms, rfl, _⟩ := h
    rfl
  · obtain ⟨a, ms, rfl, hm, ⟨p1, p2, p3, p4⟩, q⟩ := h
    refine ⟨_, (pss_cons (ps_if (PW.pt (pw_or (pt_not (pt_val (pe_cal C_is_list hr (pa_cons (pv 0) pa_nil)))) (pw_or1 (pt_not (pt_chain op_le op_le pe_int (pe_callB (lenS K) (by rfl) T.len_ b_len (pa_cons (pv 0) pa_nil)) (pe_op op_add (gl_MOST_FURTHER T) pe_int)))))) (pss_one (ps_ret pe_bl)) pss_nil)
      (pss_one (ps_ret (pe_and (pe_callB (allS K rfl) (by rfl) T.all_ b_all (pa_cons (pe_lc (own := [("move", 1)]) rfl sc_are_moves.nd (pi_sq (pv 0)) (blkOk_by (own := [("move", 1)]) (N := ["thing", "move"]) (sc := defScope s_are_moves) (by decide +kernel)) (fun _ _ _ _ _ => pg_name (i := 1) sc_are_moves.nd rfl (Or.inl rfl)) (fun _ _ _ _ _ => pts_nil) (fun _ _ _ _ _ => (pe_cal C_is_move hr (pa_cons (pv 1) pa_nil)))) pa_nil)) (pe_one (pe_cmpR op_eq (pe_lenSetS (by rfl) T.len_ (by rfl) T.set_ (pv 0)) (pe_callB (lenS K) (by rfl) T.len_ b_len (pa_cons (pv 0) pa_nil)) (nomark _))))))), ?_⟩
    refine ⟨_, rfl, a, _, rfl, hm, fun H1 s1 => ⟨true, rfl, ?_⟩⟩
    refine iteF ?_
    have hm1 := hm.mono s1
    refine ⟨_, rfl, a, _, rfl, hm1.sq, _, _, rfl, rfl, true, congrArg V.bl (decide_eq_true (by simp; omega)), ?_⟩
    refine iteT ?_
    refine ⟨_, _, rfl, rfl, _, _, rfl, rfl, true, congrArg V.bl (decide_eq_true (by simp; omega)), ?_⟩
    refine iteF ?_
    refine ⟨_, rfl, a, _, rfl, hm1, fun J hJ D hD => ?_⟩
    refine lcW_fm hJ (fun _ => some (.bl true)) hD (by simp; omega) (fun H2 s2 => same_of s2 hm1) (fun i x H2 H' hi s2 y K1 K0 h1 h0 => ?_) (fun H2 s2 e => ?_)
    · obtain ⟨rfl, hx⟩ := y
      refine ⟨rfl, yesT ?_⟩
      rw [List.getElem?_map] at hx
      obtain ⟨m, hm', rfl⟩ := Option.map_eq_some_iff.mp hx
      exact ⟨_, rfl, m, rfl, p4 m (List.mem_of_getElem? hm'), fun H3 s3 => h1 _ _ rfl s3⟩
    · refine ⟨D, List.replicate ms.length true, rfl, .inl (.inl ?_), ?_⟩
      · rw [e]
        simp [List.filterMap_eq_map, List.map_const']
      · have : (List.replicate ms.length true).all id = true := by simp [List.all_replicate]
        rw [this]
        refine ⟨true, rfl, ?_⟩
        refine iteT ?_
        have hm2 := hm1.mono s2
        refine ⟨_, rfl, a, ms, rfl, hm2.sq, p3, by omega, ?_⟩
        refine ⟨_, rfl, a, _, rfl, hm2.sq, rfl, ?_⟩
        rw [eqvT (by simp)]
        exact q _ (s1.trans s2)
def spIsRow : Sp := fun vs H Q _ => ∃ (a : Addr) (n : Nat) (r : Rw), vs = [.ref a, nV n] ∧ H a = some (.tup r.vs) ∧ r.ok n ∧ ∀ H', Same H H' → Q (.bl true) H'
theorem ok_is_row {C_is_number : Cal P w K mg base "is_number" 1 ["thing", "low", "high"] spIsNumber} {C_is_move : Cal P w K mg base "is_move" 1 ["thing"] spIsMove} (F : FnP K "is_row" "is_row" s_is_row f fd) : FnOk P w K mg base CX0 2 f fd ["thing", "at"] spIsRow := by
  refine okN F sc_is_row (fun vs H Q E h => ?_) (fun cdv A outer s H vs Q E hr h => ?_)
  · obtain ⟨a, n, r, rfl, _⟩ := h
    rfl
  · obtain ⟨a, n, r, rfl, ha, ok, q⟩ := h
    refine ⟨_, (pss_cons (ps_if (PW.pt (pw_or (pt_not (pt_val (pe_callB call_isi (by rfl) T.isinstance_ b_isinstance (pa_cons (pv 0) (pa_cons (ty_tuple T) pa_nil))))) (pw_or (pt_cmpR (op_eqD hr.units) (pv 0) (pe_tup pa_nil) (nomark _)) (pw_or1 (pt_not (pt_val (pe_callB call_isi (by rfl) T.isinstance_ b_isinstance (pa_cons (pe_ix (ixT K) (pv 0) pe_int (fun _ _ => rfl)) (pa_cons (ty_str T) pa_nil))))))))) (pss_one (ps_ret pe_bl)) pss_nil)
      (pss_cons (ps_asg (pv 0) (pg_star (n := 2) (i := 1) rfl (pgs_cons (pg_name (i := 2) sc_is_row.nd rfl (Or.inl rfl)) (pgs_star (pg_name (i := 3) sc_is_row.nd rfl (Or.inl rfl)) pgs_nil))))
      (pss_cons (ps_if (PW.pt (pw_or (pt_cmpR (op_notIn_kd T.SIZES.choose_spec.2.1.choose_spec.choose_spec) (pv 2) (gl_SIZES T) rfl) (pw_or1 (pt_cmpR op_ne (pe_callB (lenS K) (by rfl) T.len_ b_len (pa_cons (pv 0) pa_nil)) (pe_ix ix_kdict (gl_SIZES T) (pv 2) (fun _ _ => rfl)) (nomark _))))) (pss_one (ps_ret pe_bl)) pss_nil)
      (pss_cons (ps_if (pt_not (pt_val (pe_callB (allS K rfl) (by rfl) T.all_ b_all (pa_cons (pe_lc (own := [("place", 4)]) rfl sc_is_row.nd (pi_tup (pe_ix ix_kdict (gl_ROWS_NAMED T) (pv 2) (fun _ _ => rfl))) (blkOk_by (own := [("place", 4)]) (N := ["thing", "at", "word", "parts", "place"]) (sc := defScope s_is_row) (by decide +kernel)) (fun _ _ _ _ _ => pg_name (i := 4) sc_is_row.nd rfl (Or.inl rfl)) (fun _ _ _ _ _ => pts_nil) (fun _ _ _ _ _ => (pe_cal C_is_number hr (pa_cons (pe_ix (ixT K) (pv 0) (pv 4) (fun _ _ => rfl)) (pa_cons pe_int (pa_cons (pe_op op_sub (pv 1) pe_int) pa_nil)))))) pa_nil)))) (pss_one (ps_ret pe_bl)) pss_nil)
      (pss_cons (ps_if (pt_cmpR op_eq (pv 2) pe_str (nomark _)) (pss_one (ps_ret (pe_and (pe_cal C_is_number hr (pa_cons (pe_ix (ixL K) (pv 3) pe_int (fun _ _ => rfl)) (pa_cons pe_int (pa_cons (gl_MOST_FURTHER T) pa_nil)))) (pe_one (pe_cal C_is_move hr (pa_cons (pe_ix (ixL K) (pv 3) pe_int (fun _ _ => rfl)) pa_nil)))))) pss_nil)
      (pss_one (ps_ret (pe_or (pe_cmpR op_ne (pv 2) pe_str (nomark _)) (pe_one (pe_cal C_is_number hr (pa_cons (pe_ix (ixL K) (pv 3) pe_int (fun _ _ => rfl)) (pa_cons pe_int (pa_cons (gl_MOST_K T) pa_nil))))))))))))), ?_⟩
    refine ⟨_, rfl, _, _, _, _, true, rfl, .ty _, .base (.tup ha), by exact kit_ty (by decide +kernel), true, rfl, ?_⟩
    refine iteF ?_
    refine ⟨_, rfl, (by show 0 ≤ sizeLine; decide), fun t ht => ?_⟩
    refine ⟨_, .tuple [], .tup (.inl (.inl (by rw [upd_ne (ne_of_none ha ht)]; exact ha))) (dp_all r.vs ok.scal), .tup (.inl (.inl upd_same)) .nil, shp_tup ok.scal, shp_tup (xs := []) rfl, false, by cases r <;> rfl, ?_⟩
    refine iteF ?_
    have s1 : Same H (upd H t (.tup [])) := same_new ht
    generalize upd H t (.tup []) = H1 at s1
    have ha1 := s1 _ _ ha
    refine ⟨_, rfl, a, r.vs, 0, .str r.word, rfl, rfl, .inl (.inl ha1), atI_nat (j := 0) rfl, _, _, _, _, true, rfl, .ty _, .base (.str _), by exact kit_ty (by decide +kernel), true, rfl, ?_⟩
    refine iteF ?_
    refine ⟨_, rfl, a, r.vs, rfl, .inr (.inl (.inl ha1)), by cases r <;> (simp [Rw.vs, Rw.parts]), by cases r <;> (simp [Rw.vs, Rw.parts]), fun D hD => ?_⟩
    have eD : ((r.vs.drop 1).take (r.vs.length + 1 - 2)) = r.parts := by cases r <;> rfl
    have eT : r.vs.take 1 ++ [V.ref D] ++ (r.vs.drop 1).drop (r.vs.length + 1 - 2) = [.str r.word, .ref D] := by cases r <;> rfl
    rw [eD, eT]
    refine ⟨.str r.word, _, rfl, _, _, rfl, rfl, ?_⟩
    have s2 : Same H1 (upd H1 D (.lst r.parts)) := same_new hD
    have hD2 : (upd H1 D (.lst r.parts)) D = some (.lst r.parts) := upd_same
    generalize upd H1 D (.lst r.parts) = H2 at s2 hD2
    have ha2 := s2 _ _ ha1
    obtain ⟨es, n', u, k1, k2, k3, k4⟩ := T.SIZES.choose_spec.2.2 r.word _ (sz_at r)
    refine ⟨_, rfl, r.word, some u, rfl, rfl, k3, false, rfl, ?_⟩
    refine iteF ?_
    refine ⟨_, rfl, a, _, rfl, .inr (.inl (.inl ha2)), _, rfl, _, _, _, rfl, rfl, T.SIZES.choose_spec.2.2 r.word _ (sz_at r), rfl, false, ?_, ?_⟩
    · rw [eqvT rfl]
      rfl
    refine iteF ?_
    obtain ⟨pa, q1, q2⟩ := T.ROWS_NAMED.choose_spec.2 r.word _ (rn_at r)
    have rdP : ∀ H, SqT K H pa ((r.places.map fun p => ((p : Nat) : Int)).map V.int) := fun H => q2.sq H
    refine ⟨_, rfl, _, _, _, rfl, rfl, q1, pa, rfl, ⟨_, rdP _⟩, fun D2 hD2' => ?_⟩
    refine lcT_fm (fun _ => some (.bl true)) hD2' (rdP _) (by cases r <;> simp [Rw.places]) (fun i x H' hx s' K1 K0 h1 h0 => ?_) (fun H' s' e => ?_)
    · refine ⟨rfl, yesT ?_⟩
      rw [List.map_map, List.getElem?_map] at hx
      obtain ⟨p, hp, rfl⟩ := Option.map_eq_some_iff.mp hx
      obtain ⟨j, hj, hjn⟩ := places_at ok (List.mem_of_getElem? hp)
      refine ⟨_, rfl, _, rfl, a, _, _, _, rfl, rfl, .inl (.inl (s' _ _ ha2)), atI_nat hj, ?_⟩
      refine ⟨_, rfl, _, _, rfl, rfl, _, _, _, rfl, ?_⟩
      rw [decide_eq_true (by omega), decide_eq_true (by omega)]
      exact h1 _ _ rfl (fun _ _ e => e)
    · refine ⟨D2, List.replicate r.places.length true, rfl, .inl (.inl ?_), ?_⟩
      · rw [e, fm_const, rep_bl]
        simp
      · rw [all_rep]
        refine ⟨true, rfl, ?_⟩
        refine iteF ?_
        have hD3 := s' _ _ hD2
        have sA := (s1.trans s2).trans s'
        refine ⟨_, rfl, rfl, _, rfl, ?_⟩
        cases r with
        | ds k m =>
          refine ifT rfl ?_
          refine ⟨_, rfl, D, _, 0, _, rfl, rfl, .inl (.inl hD3), rfl, _, _, _, rfl, ?_⟩
          rw [decide_eq_true (by omega), decide_eq_true (by have := ok.1; omega)]
          refine ⟨true, rfl, ?_⟩
          refine iteT ?_
          refine ⟨_, rfl, D, _, 1, _, rfl, rfl, .inl (.inl hD3), rfl, m, rfl, ok.2, fun H4 s4 => ?_⟩
          exact q _ (sA.trans s4)
        | sh k j =>
          refine ifF (str_ne (a := "shown") (by decide)) ?_
          refine ⟨_, rfl, rfl, _, rfl, ?_⟩
          refine ifNF rfl ?_
          refine ⟨_, rfl, D, _, 0, _, rfl, rfl, .inl (.inl hD3), rfl, _, _, _, rfl, ?_⟩
          rw [decide_eq_true (by omega), decide_eq_true (by have := ok.1; omega)]
          exact q _ sA
        | fl =>
          refine ifF (str_ne (a := "false") (by decide)) ?_
          refine ⟨_, rfl, rfl, _, rfl, ?_⟩
          refine ifNT (str_ne (a := "false") (by decide)) ?_
          exact q _ sA
        | ng i =>
          refine ifF (str_ne (a := "not") (by decide)) ?_
          refine ⟨_, rfl, rfl, _, rfl, ?_⟩
          refine ifNT (str_ne (a := "not") (by decide)) ?_
          exact q _ sA
        | cj i j =>
          refine ifF (str_ne (a := "and") (by decide)) ?_
          refine ⟨_, rfl, rfl, _, rfl, ?_⟩
          refine ifNT (str_ne (a := "and") (by decide)) ?_
          exact q _ sA
        | dj i j =>
          refine ifF (str_ne (a := "or") (by decide)) ?_
          refine ⟨_, rfl, rfl, _, rfl, ?_⟩
          refine ifNT (str_ne (a := "or") (by decide)) ?_
          exact q _ sA
end
end Lk

set_option maxHeartbeats 4000000
namespace Lk
open PySem PySem.Spec PyProof.Rows L2
def spNeedRows : Sp := fun vs H Q _ => ∃ a xs rs, vs = [.ref a] ∧ Lt H a xs ∧ RowsAt H xs rs ∧ RowsOk rs ∧ rs.length ≤ 120 ∧ ∀ H', Same H H' → Q .non H'
def spNamedBy : Sp := fun vs H Q _ => ∃ (a : Addr) (r : Rw), vs = [.ref a] ∧ H a = some (.tup r.vs) ∧ ∀ p H', Same H H' → H p = none → H' p = some (.lst (r.refs.map nV)) → Q (.ref p) H'
theorem refs_at (r : Rw) : r.places.length = r.refs.length ∧ ∀ (i p : Nat), r.places[i]? = some p → ∃ j : Nat, r.refs[i]? = some j ∧ r.vs[p]? = some (nV j) := by
  cases r <;> refine ⟨rfl, fun i p h => ?_⟩ <;> simp [Rw.places] at h
  · cases i with
    | zero => cases h; exact ⟨_, rfl, rfl⟩
    | succ i => simp at h
  · match i, h with
    | 0, h => cases h; exact ⟨_, rfl, rfl⟩
    | 1, h => cases h; exact ⟨_, rfl, rfl⟩
    | i + 2, h => simp at h
  · match i, h with
    | 0, h => cases h; exact ⟨_, rfl, rfl⟩
    | 1, h => cases h; exact ⟨_, rfl, rfl⟩
    | i + 2, h => simp at h
  · cases i with
    | zero => cases h; exact ⟨_, rfl, rfl⟩
    | succ i => simp at h
section
variable {P : Program} {w : World} {K : PySem.W.Frag} {mg : Str → Option Value} {base : Heap} {cP cG cT : Addr} {f : Addr} {fd : FuncData} (T : Txt K w mg cP cG cT)
include T
theorem ok_need_rows {C_is_list : Cal P w K mg base "is_list" 1 ["thing"] spIsList} {C_is_row : Cal P w K mg base "is_row" 2 ["thing", "at"] spIsRow} (F : FnP K "need_rows" "need_rows" s_need_rows f fd) : FnOk P w K mg base CX0 3 f fd ["rows"] spNeedRows := by
  refine okN F sc_need_rows (fun vs H Q E h => ?_) (fun cdv A outer s H vs Q E hr h => ?_)
  · obtain ⟨a, xs, rs, rfl, _⟩ := h
    rfl
  · obtain ⟨a, xs, rs, rfl, hx, hrs, ok, hl, q⟩ := h
    refine ⟨_, (pss_cons (ps_if (pt_not (pt_val (pe_cal C_is_list hr (pa_cons (pv 0) pa_nil)))) (pss_one ps_never) pss_nil)
      (pss_one (ps_for PassesOwn.never rfl (pi_enumS (by rfl) T.enumerate_ (pa_cons (pv 0) pa_nil)) (pgT K 2 rfl (pgs_cons (pg_name (i := 1) sc_need_rows.nd rfl (Or.inl rfl)) (pgs_cons (pg_name (i := 2) sc_need_rows.nd rfl (Or.inl rfl)) pgs_nil))) (pss_one (ps_if (PW.pt (pw_or (pt_cmpR op_eq (pv 1) (gl_MOST_ROWS T) (nomark _)) (pw_or1 (pt_not (pt_val (pe_cal C_is_row hr (pa_cons (pv 2) (pa_cons (pv 1) pa_nil)))))))) (pss_one ps_never) pss_nil))))), ?_⟩
    refine ⟨_, rfl, a, _, rfl, hx, fun H1 s1 => ⟨true, rfl, ?_⟩⟩
    refine iteF ?_
    refine ⟨_, rfl, a, xs, rfl, hx.mono s1, fun J hJ => ?_⟩
    have hx1 := hx.mono s1
    have hrs1 := hrs.mono s1
    refine for_it hJ (fun i σ H' => Same H1 H' ∧ ∃ u v, σ = [some (.ref a), u, v]) ⟨fun _ _ e => e, _, _, rfl⟩ (fun i σ H' hi h => same_of h.1 hx1) (fun i x σ H2 H3 hi h y => ?_) (fun σ H' h => q _ (s1.trans h.1))
    obtain ⟨t, u, v, rfl, ht, rfl, e1, e2⟩ := y
    obtain ⟨s2, u', v', rfl⟩ := h
    cases e1
    obtain ⟨b, r, e3, rfl, e4⟩ := hrs1.get e2
    have s3 : Same H1 (upd H2 t (.tup [.int (i : Nat), .ref b])) := s2.trans (same_new ht)
    refine ⟨t, _, rfl, .inl (.inl upd_same), rfl, _, _, rfl, _, _, rfl, rfl, ?_⟩
    refine ⟨_, rfl, rfl, _, rfl, ?_⟩
    refine ifF (by intro z; injection z with z; have := hrs.len; omega) ?_
    refine ⟨_, rfl, _, rfl, b, i, r, rfl, s3 _ _ e4, ok i r e3, fun H4 s4 => ⟨true, rfl, ?_⟩⟩
    refine iteF ?_
    exact ⟨s3.trans s4, _, _, rfl⟩
theorem ok_named_by (F : FnP K "named_by" "named_by" s_named_by f fd) : FnOk P w K mg base CX0 1 f fd ["row"] spNamedBy := by
  refine okN F sc_named_by (fun vs H Q E h => ?_) (fun cdv A outer s H vs Q E hr h => ?_)
  · obtain ⟨a, r, rfl, _⟩ := h
    rfl
  · obtain ⟨a, r, rfl, ha, q⟩ := h
    refine ⟨_, (pss_one (ps_ret (pe_lc (own := [("place", 1)]) rfl sc_named_by.nd (pi_tup (pe_ix ix_kdict (gl_ROWS_NAMED T) (pe_ix (ixT K) (pv 0) pe_int (fun _ _ => rfl)) (fun _ _ => rfl))) (blkOk_by (own := [("place", 1)]) (N := ["row", "place"]) (sc := defScope s_named_by) (by decide +kernel)) (fun _ _ _ _ _ => pg_name (i := 1) sc_named_by.nd rfl (Or.inl rfl)) (fun _ _ _ _ _ => pts_nil) (fun _ _ _ _ _ => (pe_ix (ixT K) (pv 0) (pv 1) (fun _ _ => rfl)))))), ?_⟩
    obtain ⟨pa, q1, q2⟩ := T.ROWS_NAMED.choose_spec.2 r.word _ (rn_at r)
    have rdP : ∀ H, SqT K H pa ((r.places.map fun p => ((p : Nat) : Int)).map V.int) := fun H => q2.sq H
    refine ⟨_, rfl, a, r.vs, 0, .str r.word, rfl, rfl, .inl (.inl ha), atI_nat (j := 0) rfl, _, _, _, rfl, rfl, q1, pa, rfl, ⟨_, rdP _⟩, fun D2 hD2' => ?_⟩
    obtain ⟨l1, l2⟩ := refs_at r
    refine lcW_fm walk_tup (fun i => r.refs[i]?.map nV) hD2' (by cases r <;> simp [Rw.places]) (fun _ _ => rdP _) (fun i x H2 H' hi s' y K1 K0 h1 h0 => ?_) (fun H' s' e => ?_)
    · obtain ⟨rfl, hx⟩ := y
      refine ⟨rfl, yesT ?_⟩
      rw [List.map_map, List.getElem?_map] at hx
      obtain ⟨p, hp, rfl⟩ := Option.map_eq_some_iff.mp hx
      obtain ⟨j, hj, hjn⟩ := l2 i p hp
      refine ⟨_, rfl, _, rfl, a, r.vs, _, nV j, rfl, rfl, .inl (.inl (s' _ _ ha)), atI_nat hjn, ?_⟩
      exact h1 _ _ (by rw [hj]; rfl) (fun _ _ e => e)
    · refine q _ _ s' hD2' ?_
      rw [e]
      congr 2
      cases r <;> rfl
end
end Lk

set_option maxHeartbeats 4000000
namespace Lk
open PySem PySem.Spec PyProof.Rows L2
def spDownOnes : Sp := fun vs H Q _ => ∃ a xs rs, vs = [.ref a] ∧ Lt H a xs ∧ RowsAt H xs rs ∧ RowsOk rs ∧ rs.length ≤ 120 ∧ ∀ p H', Same H H' → H p = none → H' p = some (.lst ((downs rs).map V.bl)) → Q (.ref p) H'
theorem downs_len (rs : List Rw) : (downs rs).length = rs.length := by
  have : ∀ (rs : List Rw) (acc : List Bool), (rs.foldl (fun acc r => acc ++ [r.dn acc]) acc).length = acc.length + rs.length := by
    intro rs
    induction rs with
    | nil => intro acc; rfl
    | cons r q ih =>
      intro acc
      rw [List.foldl_cons, ih]
      simp
      omega
  have := this rs []
  simpa [downs] using this
def Rw.isTop : Rw → Bool
  | .fl => true
  | .sh _ _ => true
  | _ => false
theorem top_in (r : Rw) : inV (.str r.word) [.str "false", .str "shown"] = r.isTop := by
  cases r
  · show inV (.str "false") [.str "false", .str "shown"] = true; decide +kernel
  · show inV (.str "does") [.str "false", .str "shown"] = false; decide +kernel
  · show inV (.str "not") [.str "false", .str "shown"] = false; decide +kernel
  · show inV (.str "and") [.str "false", .str "shown"] = false; decide +kernel
  · show inV (.str "or") [.str "false", .str "shown"] = false; decide +kernel
  · show inV (.str "shown") [.str "false", .str "shown"] = true; decide +kernel
theorem dn_top {r : Rw} {fs : List Bool} (h : r.isTop = true) : r.dn fs = true := by
  cases r <;> simp [Rw.isTop] at h <;> rfl
theorem dn_refs {r : Rw} {fs : List Bool} (h : r.isTop = false) (h2 : r.word ≠ "does") : r.dn fs = (r.refs.map fun j => fs.getD j false).all id := by
  cases r <;> simp [Rw.isTop] at h <;> first | (exact absurd rfl h2) | simp [Rw.dn, Rw.refs]
theorem dn_does {r : Rw} {fs : List Bool} (h2 : r.word = "does") : r.dn fs = false := by
  cases r with
  | fl => exact absurd h2 (by decide)
  | ds k m => rfl
  | ng i => exact absurd h2 (show ("not" : Str) ≠ "does" by decide)
  | cj i j => exact absurd h2 (show ("and" : Str) ≠ "does" by decide)
  | dj i j => exact absurd h2 (show ("or" : Str) ≠ "does" by decide)
  | sh k i => exact absurd h2 (show ("shown" : Str) ≠ "does" by decide)
theorem fm_map (g : Nat → V) : ∀ js : List Nat, (js.map nV).filterMap (fun x => match x with | .int j => some (g j.toNat) | _ => none) = js.map g
  | [] => rfl
  | j :: r => by
    rw [List.map_cons, List.filterMap_cons]
    simp only [fm_map g r, Int.toNat_natCast, List.map_cons]
section
variable {P : Program} {w : World} {K : PySem.W.Frag} {mg : Str → Option Value} {base : Heap} {cP cG cT : Addr} {f : Addr} {fd : FuncData} (T : Txt K w mg cP cG cT)
include T
theorem ok_down_ones {C_named_by : Cal P w K mg base "named_by" 1 ["row"] spNamedBy} (F : FnP K "down_ones" "down_ones" s_down_ones f fd) : FnOk P w K mg base CX0 2 f fd ["rows"] spDownOnes := by
  refine okN F sc_down_ones (fun vs H Q E h => ?_) (fun cdv A outer s H vs Q E hr h => ?_)
  · obtain ⟨a, xs, rs, rfl, _⟩ := h
    rfl
  · obtain ⟨a, xs, rs, rfl, hx, hrs, ok, hl, q⟩ := h
    refine ⟨_, (pss_cons (ps_set (i := 1) sc_down_ones.nd rfl (Or.inr rfl) (pe_lst pa_nil))
      (pss_cons (ps_for PassesOwn.never rfl (pi_sq (pv 0)) (pg_name (i := 2) sc_down_ones.nd rfl (Or.inl rfl)) (pss_one (ps_if (pt_cmpR (inS K) (pe_ix (ixT K) (pv 2) pe_int (fun _ _ => rfl)) (pe_tup (pa_cons pe_str (pa_cons pe_str pa_nil))) rfl) (pss_one (ps_expr (pe_bm PySem.F.plainAttrs_list PySem.F.slot_list_append PySem.F.type_list_append mt_append (pv 1) (pa_cons pe_bl pa_nil)))) (pss_one (ps_expr (pe_bm PySem.F.plainAttrs_list PySem.F.slot_list_append PySem.F.type_list_append mt_append (pv 1) (pa_cons (pe_and (pe_cmpR op_ne (pe_ix (ixT K) (pv 2) pe_int (fun _ _ => rfl)) pe_str (nomark _)) (pe_one (pe_callB (allS K rfl) (by rfl) T.all_ b_all (pa_cons (pe_lc (own := [("at", 3)]) rfl sc_down_ones.nd (pi_sq (pe_cal C_named_by hr (pa_cons (pv 2) pa_nil))) (blkOk_by (own := [("at", 3)]) (N := ["rows", "found", "row", "at"]) (sc := defScope s_down_ones) (by decide +kernel)) (fun _ _ _ _ _ => pg_name (i := 3) sc_down_ones.nd rfl (Or.inl rfl)) (fun _ _ _ _ _ => pts_nil) (fun _ _ _ _ _ => (pe_ix (ixL K) (pv 1) (pv 3) (fun _ _ => rfl)))) pa_nil)))) pa_nil)))))))
      (pss_one (ps_ret (pv 1))))), ?_⟩
    refine ⟨(by show 0 ≤ sizeLine; decide), fun D hD => ?_⟩
    refine ⟨_, rfl, a, xs, rfl, hx.mono (same_new hD), fun J hJ => ?_⟩
    have hx1 := hx.mono (same_new (o := .lst []) hD)
    refine for_it hJ (fun i σ H' => Same H H' ∧ (∃ u v, σ = [some (.ref a), some (.ref D), u, v]) ∧ H' D = some (.lst ((downs (rs.take i)).map V.bl))) ⟨same_new hD, ⟨_, _, rfl⟩, upd_same⟩ (fun i σ H' hi h => ?_) (fun i x σ H9 H2 hi h y => ?_) (fun σ H' h => ?_)
    · rw [same_of h.1 hx, same_of (same_new hD) hx]
    · obtain ⟨s2, ⟨u', v', rfl⟩, hd2⟩ := h
      obtain ⟨rfl, e2⟩ := y
      obtain ⟨b, r, e3, rfl, e4⟩ := hrs.get e2
      have hb := s2 _ _ e4
      have hi2 : i < rs.length := by have := hrs.len; omega
      have et : rs.take (i + 1) = rs.take i ++ [r] := by rw [List.take_add_one, e3]; rfl
      have fin : ∀ H4, Same H H4 → H4 D = some (.lst ((downs (rs.take i)).map V.bl ++ [.bl (r.dn (downs (rs.take i)))])) → H4 D = some (.lst ((downs (rs.take (i + 1))).map V.bl)) := by
        intro H4 _ e
        rw [e, et, downs_snoc, List.map_append]
        rfl
      have hlen : ((downs (rs.take i)).map V.bl).length < sizeLine := by
        rw [List.length_map, downs_len, List.length_take]
        exact sz_lt (by omega)
      refine ⟨_, rfl, b, r.vs, 0, .str r.word, rfl, rfl, .inl (.inl hb), atI_nat (j := 0) rfl, (by show 2 ≤ sizeLine; decide), fun t ht => ?_⟩
      have s3 := same_new (o := .tup [.str "false", .str "shown"]) ht
      have htt : (upd H2 t (.tup [.str "false", .str "shown"])) t = some (.tup [.str "false", .str "shown"]) := upd_same
      generalize upd H2 t (.tup [.str "false", .str "shown"]) = H3 at s3 htt
      have hd3 := s3 _ _ hd2
      have hb3 := s3 _ _ hb
      refine ⟨t, _, rfl, .inr (.inl (.inl htt)), rfl, rfl, _, rfl, ?_⟩
      show if inV (.str r.word) [.str "false", .str "shown"] = true then _ else _
      rw [top_in]
      cases hT : r.isTop with
      | true =>
        refine iteT ?_
        refine ⟨_, rfl, .inl ⟨rfl, _, .inl (.inl hd3)⟩, D, _, _, rfl, rfl, hd3, hlen, ?_⟩
        refine ⟨?_, ⟨_, _, rfl⟩, fin _ ?_ ?_⟩
        · exact same_mut (s2.trans s3) hD
        · exact same_mut (s2.trans s3) hD
        · rw [upd_same, dn_top hT]
      | false =>
        refine iteF ?_
        refine ⟨_, rfl, .inl ⟨rfl, _, .inl (.inl hd3)⟩, ?_⟩
        refine ⟨_, rfl, b, r.vs, 0, .str r.word, rfl, rfl, .inl (.inl hb3), atI_nat (j := 0) rfl, rfl, _, rfl, ?_⟩
        by_cases hw : r.word = "does"
        · refine ifNF (congrArg V.str hw) ?_
          refine ⟨D, _, _, rfl, rfl, hd3, hlen, ?_⟩
          refine ⟨same_mut (s2.trans s3) hD, ⟨_, _, rfl⟩, fin _ (same_mut (s2.trans s3) hD) ?_⟩
          rw [upd_same, dn_does hw]
        · refine ifNT (str_ne hw) ?_
          refine ⟨_, rfl, b, r, rfl, hb3, fun p H4 s4 np hp => ?_⟩
          refine ⟨p, _, rfl, .inl hp, fun J2 hJ2 D2 hD2 => ?_⟩
          have hd4 := s4 _ _ hd3
          refine lcW_fm hJ2 (fun k => (r.refs[k]?).map fun j => .bl ((downs (rs.take i)).getD j false)) hD2 (by cases r <;> simp [Rw.refs]) (fun H5 s5 => s5 _ _ hp ▸ hp.symm ▸ rfl) (fun k x H5 H6 hk s5 y K1 K0 h1 h0 => ?_) (fun H5 s5 e => ?_)
          · obtain ⟨rfl, hx'⟩ := y
            refine ⟨rfl, yesT ?_⟩
            rw [List.getElem?_map] at hx'
            obtain ⟨j, hj, rfl⟩ := Option.map_eq_some_iff.mp hx'
            have hji : j < i := (ok i r e3).refs (List.mem_of_getElem? hj)
            have hjl : j < (downs (rs.take i)).length := by
              rw [downs_len, List.length_take]
              omega
            refine ⟨_, rfl, _, rfl, D, _, _, .bl ((downs (rs.take i)).getD j false), rfl, rfl, .inl (.inl (s5 _ _ hd4)), atI_nat ?_, ?_⟩
            · rw [List.getElem?_map, List.getElem?_eq_getElem hjl, List.getD_eq_getElem?_getD, List.getElem?_eq_getElem hjl]
              rfl
            · exact h1 _ _ (by rw [hj]; rfl) (fun _ _ e => e)
          · refine ⟨D2, r.refs.map fun j => (downs (rs.take i)).getD j false, rfl, .inl (.inl ?_), ?_⟩
            · rw [e]
              congr 2
              cases r <;> rfl
            · have hd5 := s5 _ _ hd4
              rw [← dn_refs hT hw]
              refine ⟨D, _, _, rfl, rfl, hd5, hlen, ?_⟩
              have s6 := ((s2.trans s3).trans s4).trans s5
              exact ⟨same_mut s6 hD, ⟨_, _, rfl⟩, fin _ (same_mut s6 hD) upd_same⟩
    · obtain ⟨s2, ⟨u', v', rfl⟩, hd2⟩ := h
      refine ⟨_, rfl, ?_⟩
      refine q D H' s2 hD ?_
      rw [hd2, List.take_of_length_le (by have := hrs.len; omega)]
end
end Lk

set_option maxHeartbeats 4000000
namespace Lk
open PySem PySem.Spec PyProof.Rows L2
def bsE (ks : List Nat) : List (Key × V) := ks.map fun i => (Sum.inl ((i : Nat) : Int), V.bl true)
def addN (ks : List Nat) (i : Nat) : List Nat := if i ∈ ks then ks else ks ++ [i]
theorem bs_any (ks : List Nat) (i : Nat) : ((bsE ks).any fun kv => decide (kv.1 = Sum.inl ((i : Nat) : Int))) = decide (i ∈ ks) := by
  rw [Bool.eq_iff_iff]
  simp only [List.any_eq_true, decide_eq_true_eq, bsE, List.mem_map]
  constructor
  · rintro ⟨x, ⟨j, hj, rfl⟩, e⟩
    have e : (Sum.inl ((j : Nat) : Int) : Key) = Sum.inl ((i : Nat) : Int) := e
    injection e with e
    have : j = i := by omega
    exact this ▸ hj
  · intro h
    exact ⟨_, ⟨i, h, rfl⟩, rfl⟩
theorem bs_put (ks : List Nat) (i : Nat) : putK (bsE ks) (Sum.inl ((i : Nat) : Int)) (.bl true) = bsE (addN ks i) := by
  unfold putK addN
  rw [bs_any]
  by_cases h : i ∈ ks
  · rw [if_pos (by simpa using h), if_pos h]
    unfold bsE
    rw [List.map_map]
    refine List.map_congr_left fun j hj => ?_
    show (if (Sum.inl ((j : Nat) : Int) : Key) = Sum.inl ((i : Nat) : Int) then _ else _) = _
    split <;> rfl
  · rw [if_neg (by simpa using h), if_neg h]
    unfold bsE
    rw [List.map_append]
    rfl
theorem bs_merge : ∀ (more ks : List Nat), mergeK (bsE ks) (bsE more) = bsE (more.foldl addN ks)
  | [], _ => rfl
  | i :: r, ks => by
    show mergeK (putK (bsE ks) (Sum.inl ((i : Nat) : Int)) (.bl true)) (bsE r) = _
    rw [bs_put, bs_merge r, List.foldl_cons]
theorem bs_val (ks : List Nat) (i : Nat) : valV (bsE ks) (Sum.inl ((i : Nat) : Int)) = if i ∈ ks then some (.bl true) else none := by
  have h := valV_any (Sum.inl ((i : Nat) : Int) : Key) (bsE ks)
  rw [bs_any] at h
  by_cases hi : i ∈ ks
  · rw [if_pos hi]
    rw [decide_eq_true hi] at h
    obtain ⟨v, hv⟩ := Option.isSome_iff_exists.mp h.symm
    rw [hv]
    unfold valV at hv
    obtain ⟨p, hp, rfl⟩ := Option.map_eq_some_iff.mp hv
    obtain ⟨j, _, rfl⟩ := List.mem_map.mp (List.mem_of_find?_eq_some hp)
    rfl
  · rw [if_neg hi]
    rw [decide_eq_false hi] at h
    cases e : valV (bsE ks) (Sum.inl ((i : Nat) : Int)) with
    | none => rfl
    | some v => rw [e] at h; cases h
theorem mem_addN {ks : List Nat} {i j : Nat} : j ∈ addN ks i ↔ j ∈ ks ∨ j = i := by
  unfold addN
  split
  · constructor
    · exact .inl
    · rintro (h | rfl) <;> assumption
  · simp
theorem nd_addN {ks : List Nat} {i : Nat} (h : ks.Nodup) : (addN ks i).Nodup := by
  unfold addN
  split
  · exact h
  · rename_i hi
    rw [List.nodup_append]
    refine ⟨h, by simp, ?_⟩
    intro x hx y hy e
    have : y = i := by simpa using hy
    exact hi (this ▸ e ▸ hx)
theorem mem_addAll {j : Nat} : ∀ {more ks : List Nat}, j ∈ more.foldl addN ks ↔ j ∈ ks ∨ j ∈ more
  | [], _ => by simp
  | i :: r, ks => by
    rw [List.foldl_cons, mem_addAll (more := r), mem_addN]
    simp [or_assoc]
theorem nd_addAll : ∀ {more ks : List Nat}, ks.Nodup → (more.foldl addN ks).Nodup
  | [], _, h => h
  | _ :: r, _, h => by
    rw [List.foldl_cons]
    exact nd_addAll (nd_addN h)
theorem sorted_eq : ∀ {xs ys : List Int}, xs.Pairwise (· < ·) → ys.Pairwise (· < ·) → (∀ x, x ∈ xs ↔ x ∈ ys) → xs = ys
  | [], [], _, _, _ => rfl
  | [], y :: _, _, _, h => by have := (h y).mpr (by simp); cases this
  | x :: _, [], _, _, h => by have := (h x).mp (by simp); cases this
  | x :: r, y :: q, h1, h2, h => by
    rw [List.pairwise_cons] at h1 h2
    have e : x = y := by
      have a := (h x).mp (by simp)
      have b := (h y).mpr (by simp)
      rcases List.mem_cons.mp a with a | a
      · exact a
      · rcases List.mem_cons.mp b with b | b
        · exact b.symm
        · have := h1.1 y b
          have := h2.1 x a
          omega
    subst e
    rw [sorted_eq h1.2 h2.2 fun z => ?_]
    have := h z
    simp only [List.mem_cons] at this
    constructor
    · intro hz
      rcases this.mp (.inr hz) with rfl | k
      · have := h1.1 z hz
        omega
      · exact k
    · intro hz
      rcases this.mpr (.inr hz) with rfl | k
      · have := h2.1 z hz
        omega
      · exact k
theorem mem_cone {rs : List Rw} {ps : List Nat} {i : Nat} : i ∈ coneOf rs ps ↔ i < rs.length ∧ Rch rs ps i := by
  unfold coneOf
  rw [List.mem_filter]
  simp
/-- the keys, once they are closed, in order: the cone -/
theorem cone_eq {rs : List Rw} {ps ks : List Nat} {ys : List Int} (ok : RowsOk rs) (hp : ∀ p ∈ ps, p < rs.length) (h0 : ∀ p ∈ ps, p ∈ ks) (h1 : ∀ k ∈ ks, k < rs.length ∧ Rch rs ps k) (h2 : ∀ k ∈ ks, ∀ r, rs[k]? = some r → ∀ j ∈ r.refs, j ∈ ks) (nd : ks.Nodup)
    (pm : ys.Perm (ks.map fun i => ((i : Nat) : Int))) (so : ys.Pairwise (· ≤ ·)) : ys = (coneOf rs ps).map fun i => ((i : Nat) : Int) := by
  refine sorted_eq ?_ ?_ fun x => ?_
  · have nd2 : ys.Nodup := pm.symm.nodup (List.Pairwise.map _ (fun a b h e => h (by omega)) nd)
    exact (List.Pairwise.and so nd2).imp fun {a b} h => by have := h.1; have := h.2; omega
  · exact List.Pairwise.map _ (fun a b h => by omega) (cone_sorted rs ps)
  · rw [pm.mem_iff]
    simp only [List.mem_map]
    constructor
    · rintro ⟨i, hi, rfl⟩
      exact ⟨i, mem_cone.mpr (h1 i hi), rfl⟩
    · rintro ⟨i, hi, rfl⟩
      refine ⟨i, ?_, rfl⟩
      have hr := (mem_cone.mp hi).2
      induction hr with
      | pick h => exact h0 _ h
      | ref h e hj ih => exact h2 _ (ih (mem_cone.mpr ⟨by obtain ⟨z, _⟩ := List.getElem?_eq_some_iff.mp e; exact z, h⟩)) _ e _ hj
/-! ### a dict comprehension over anything that is walked -/
section
variable {J : It} {n : Nat} {G : Hp → Prop} {Y : Nat → Hp → V → Hp → Prop} {P : Program} {w : World}
theorem dcN_it (wk : Walk J n G Y) {g : TG} {tt : TT} {tk tv : TE} {vs : List Nat} {σ : L2.St} {H1 : Hp} {D : Addr} {Qd : Hp → Prop} (o : HO) (em : Emp P w D o) (Pv : Nat → Hp → Prop) (h0 : Pv 0 (upd H1 D o)) (hG : ∀ i H, i ≤ n → Pv i H → G H)
    (hs : ∀ i x H H', i < n → Pv i H → Y i H x H' → g x (wipe σ vs) H' fun σ2 H2 => wipe σ2 vs = wipe σ vs ∧ tt σ2 H2 fun b H3 =>
      if b = true then tk σ2 H3 fun y H4 => tv σ2 H4 fun z H5 => rPutC P w D y z H5 (Pv (i + 1)) else Pv (i + 1) H3) (hd : ∀ H, Pv n H → Qd H) :
    ∃ W : Nat → Nat → Hp → Prop, (∃ m o, Emp P w D o ∧ W 0 m (upd H1 D o)) ∧ ∀ i m H, W i m H →
      (J.stop i H ∧ Qd H) ∨ (J.go i H ∧ ∃ Nx : Hp → Prop, (∀ H', Nx H' → ∃ m', m' < m ∧ W (i + 1) m' H') ∧ ∀ x H', J.yld i H x H' → g x (wipe σ vs) H' fun σ2 H2 => wipe σ2 vs = wipe σ vs ∧ tt σ2 H2 fun b H3 =>
        if b = true then tk σ2 H3 fun y H4 => tv σ2 H4 fun z H5 => rPutC P w D y z H5 Nx else Nx H3) := by
  refine ⟨fun i m H => m = n - i ∧ i ≤ n ∧ Pv i H, ⟨n, o, em, by simp, Nat.zero_le _, h0⟩, ?_⟩
  rintro i m H ⟨rfl, hi, p⟩
  have q := hG i H hi p
  by_cases hlt : i < n
  · refine .inr ⟨wk.goes i H hlt q, Pv (i + 1), fun H' p' => ⟨n - (i + 1), by omega, rfl, hlt, p'⟩, fun x H' y => hs i x H H' hlt p (wk.yields i H x H' hlt q y)⟩
  · have e : i = n := by omega
    subst e
    exact .inl ⟨wk.stops H q, hd H p⟩
end
theorem none_of {H H2 : Hp} {p : Addr} (s : Same H H2) (h : H2 p = none) : H p = none := by
  cases e : H p with
  | none => rfl
  | some u => rw [s _ _ e] at h; cases h
theorem ixS_at {K : PySem.W.Frag} {H : Hp} {a : Addr} {xs : List V} {i : Nat} {x : V} {Q : VK} (h : Lt H a xs) (e : xs[i]? = some x) (q : Q x H) : rIx K (.ref a) (nV i) H Q := by
  rcases h with h | h
  · exact .inl ⟨a, xs, _, x, rfl, rfl, .inl (.inl h), atI_nat e, q⟩
  · exact .inr (.inl ⟨a, xs, _, x, rfl, rfl, .inl (.inl h), atI_nat e, q⟩)
def spBelow : Sp := fun vs H Q _ => ∃ (a b : Addr) (xs : List V) (rs : List Rw) (ps : List Nat), vs = [.ref a, .ref b] ∧ Lt H a xs ∧ RowsAt H xs rs ∧ RowsOk rs ∧ rs.length ≤ 120 ∧ Lt H b (ps.map nV) ∧ (∀ p ∈ ps, p < rs.length) ∧
  ∀ p H', Same H H' → H p = none → H' p = some (.lst ((coneOf rs ps).map nV)) → Q (.ref p) H'
section
variable {P : Program} {w : World} {K : PySem.W.Frag} {mg : Str → Option Value} {base : Heap} {cP cG cT : Addr} {f : Addr} {fd : FuncData} (T : Txt K w mg cP cG cT)
include T
theorem ok_below {C_named_by : Cal P w K mg base "named_by" 1 ["row"] spNamedBy} (F : FnP K "below" "below" s_below f fd) : FnOk P w K mg base CX0 2 f fd ["rows", "some"] spBelow := by
  refine okN F sc_below (fun vs H Q E h => ?_) (fun cdv A outer s H vs Q E hr h => ?_)
  · obtain ⟨a, b, xs, rs, ps, rfl, _⟩ := h
    rfl
  · obtain ⟨a, b, xs, rs, ps, rfl, hx, hrs, ok, hl, hb, hp, q⟩ := h
    have hxl := hrs.len
    refine ⟨_, (pss_cons (ps_setDcN (i := 3) (own := [("at", 2)]) (hu16 hr) rfl sc_below.nd rfl rfl (swD_true rfl rfl rfl (by decide +kernel)) (pi_sq (pv 1)) (blkOk_by (own := [("at", 2)]) (N := ["rows", "some", "at", "met", "other"]) (sc := defScope s_below) (by decide +kernel)) (fun _ _ _ _ _ => pg_name (i := 2) sc_below.nd rfl (Or.inl rfl)) (fun _ _ _ _ _ => pts_nil) (fun _ _ _ _ _ => (pv 2)) (fun _ _ _ _ _ => pe_bl))
      (pss_cons (ps_for PassesOwn.never rfl (pi_range3 rfl T.range_ (pa_cons (pe_op op_sub (pe_callB (lenS K) (by rfl) T.len_ b_len (pa_cons (pv 0) pa_nil)) pe_int) (pa_cons (pe_un un_neg pe_int) (pa_cons (pe_un un_neg pe_int) pa_nil)))) (pg_name (i := 2) sc_below.nd rfl (Or.inl rfl)) (pss_one (ps_if (pt_cmp (pc_din (hu_of hr) (pv 2) (pv 3)) rfl) (pss_one (ps_expr (pe_bm PySem.F.plainAttrs_dict PySem.F.slot_dict_update PySem.F.type_dict_update mt_updateK (pv 3) (pa_cons (pe_dcN (hu16 hr) (own := [("other", 4)]) rfl sc_below.nd (pi_sq (pe_cal C_named_by hr (pa_cons (pe_ix (ixS K) (pv 0) (pv 2) (fun _ _ => rfl)) pa_nil))) (blkOk_by (own := [("other", 4)]) (N := ["rows", "some", "at", "met", "other"]) (sc := defScope s_below) (by decide +kernel)) (fun _ _ _ _ _ => pg_name (i := 4) sc_below.nd rfl (Or.inl rfl)) (fun _ _ _ _ _ => pts_nil) (fun _ _ _ _ _ => (pv 4)) (fun _ _ _ _ _ => pe_bl)) pa_nil)))) pss_nil)))
      (pss_one (ps_ret (pe_callB (srt_dA rfl) (by rfl) T.sorted_ b_sorted (pa_cons (pv 3) pa_nil)))))), ?_⟩
    refine ⟨_, rfl, b, _, rfl, hb, fun J hJ D hD => ?_⟩
    refine dcN_it hJ (.dK []) (.inl rfl) (fun i H' => Same H H' ∧ H' D = some (.dK (bsE ((ps.take i).foldl addN [])))) ⟨same_new hD, upd_same⟩ (fun i H' hi h => same_of h.1 hb) (fun i x H9 H2 hi h y => ?_) (fun H1 h => ?_)
    · obtain ⟨rfl, hx⟩ := y
      obtain ⟨s2, hd⟩ := h
      rw [List.getElem?_map] at hx
      obtain ⟨p, hp', rfl⟩ := Option.map_eq_some_iff.mp hx
      refine ⟨rfl, yesT ?_⟩
      refine ⟨_, rfl, .inl ⟨_, Sum.inl ((p : Nat) : Int), rfl, hd, ?_, same_mut s2 hD, ?_⟩⟩
      · unfold bsE
        rw [List.length_map]
        refine sz_lt (Nat.lt_of_le_of_lt (nd_len 120 _ (nd_addAll List.nodup_nil) fun k hk => ?_) (by decide))
        have := mem_addAll.mp hk
        have := hp k (List.mem_of_mem_take (by simpa using this))
        omega
      · rw [upd_same, bs_put, List.take_add_one, hp', List.foldl_append]
        rfl
    · obtain ⟨s1, hd1⟩ := h
      have hx1 := hx.mono s1
      have hrs1 := hrs.mono s1
      rw [List.take_of_length_le (by simp)] at hd1
      refine ⟨_, rfl, a, xs, rfl, hx1.sq, _, _, rfl, rfl, _, rfl, _, rfl, _, _, _, _, rfl, RgC.neg (by omega) (by omega) (by omega) (by omega), ?_⟩
      refine for_rangeC (fun t σ H' => Same H H' ∧ (∃ u v, σ = [some (.ref a), some (.ref b), u, some (.ref D), v]) ∧ ∃ ks : List Nat, H' D = some (.dK (bsE ks)) ∧ ks.Nodup ∧ (∀ p ∈ ps, p ∈ ks) ∧ (∀ k ∈ ks, k < rs.length ∧ Rch rs ps k) ∧
        ∀ k ∈ ks, rs.length ≤ k + t → ∀ r, rs[k]? = some r → ∀ j ∈ r.refs, j ∈ ks) ⟨s1, ⟨_, _, rfl⟩, _, hd1, nd_addAll List.nodup_nil, fun p h => mem_addAll.mpr (.inr h), fun k hk => ?_, fun k hk hl' => ?_⟩ (fun t σ H2 ht h => ?_) (fun σ H2 h => ?_)
      · have := mem_addAll.mp hk
        have h' : k ∈ ps := by simpa using this
        exact ⟨hp k h', .pick h'⟩
      · have := mem_addAll.mp hk
        have h' : k ∈ ps := by simpa using this
        have := hp k h'
        omega
      · obtain ⟨s2, ⟨u, v, rfl⟩, ks, hd2, nd, k0, k1, k2⟩ := h
        have ht' : t < rs.length := by omega
        have ei : ((xs.length : Nat) : Int) - 1 + (t : Int) * (-1) = ((rs.length - 1 - t : Nat) : Int) := by omega
        show (fun x σ H Q => gName 2 x σ H Q) (V.int (((xs.length : Nat) : Int) - 1 + (t : Int) * (-1))) _ _ _
        rw [ei]
        generalize ej : rs.length - 1 - t = m
        have hm : m < rs.length := by omega
        refine ⟨_, rfl, _, rfl, D, _, rfl, DGet.k (k := Sum.inl ((m : Nat) : Int)) hd2, _, rfl, ?_⟩
        rw [bs_val]
        by_cases hmk : m ∈ ks
        · rw [if_pos hmk]
          refine iteT ?_
          obtain ⟨r, hr'⟩ : ∃ r, rs[m]? = some r := ⟨_, List.getElem?_eq_getElem hm⟩
          obtain ⟨ra, hra, har⟩ := hrs.get' hr'
          refine ⟨_, rfl, .inr (.inr (.inl ⟨rfl, .inl ⟨_, hd2⟩⟩)), ?_⟩
          have hx2 := hx.mono s2
          refine ⟨_, rfl, _, rfl, ?_⟩
          refine ixS_at hx2 hra ?_
          refine ⟨ra, r, rfl, s2 _ _ har, fun p H3 s3 np hp3 => ?_⟩
          refine ⟨p, _, rfl, .inl hp3, fun J3 hJ3 E3 hE3 => ?_⟩
          have hd3 := s3 _ _ hd2
          refine dcN_it hJ3 (.dK []) (.inl rfl) (fun i H' => Same H3 H' ∧ H' E3 = some (.dK (bsE ((r.refs.take i).foldl addN [])))) ⟨same_new hE3, upd_same⟩ (fun i H' hi h => same_of h.1 (.inl hp3)) (fun i x H9 H4 hi h y => ?_) (fun H4 h => ?_)
          · obtain ⟨rfl, hx⟩ := y
            obtain ⟨s4, hd⟩ := h
            rw [List.getElem?_map] at hx
            obtain ⟨j, hj, rfl⟩ := Option.map_eq_some_iff.mp hx
            refine ⟨rfl, yesT ?_⟩
            refine ⟨_, rfl, .inl ⟨_, Sum.inl ((j : Nat) : Int), rfl, hd, ?_, same_mut s4 hE3, ?_⟩⟩
            · unfold bsE
              rw [List.length_map]
              refine sz_lt (Nat.lt_of_le_of_lt (nd_len 120 _ (nd_addAll List.nodup_nil) fun k hk => ?_) (by decide))
              have := mem_addAll.mp hk
              have := (ok m r hr').refs (List.mem_of_mem_take (by simpa using this))
              omega
            · rw [upd_same, bs_put, List.take_add_one, hj, List.foldl_append]
              rfl
          · obtain ⟨s4, hd⟩ := h
            rw [List.take_of_length_le (by simp)] at hd
            have hd4 := s4 _ _ hd3
            have hne : D ≠ E3 := ne_of_none hd3 hE3
            have hk' : ∀ k ∈ (r.refs.foldl addN []), k < rs.length := fun k hk => by
              have h' := mem_addAll.mp hk
              have := (ok m r hr').refs (by simpa using h')
              omega
            have hlen1 := nd_len 120 ks nd fun k hk => by have := (k1 k hk).1; omega
            have hlen2 := nd_len 120 _ (nd_addAll (more := r.refs) List.nodup_nil) fun k hk => by have := hk' k hk; omega
            refine ⟨D, E3, _, _, rfl, rfl, hne, hd4, hd, ?_, ?_⟩
            · unfold bsE
              rw [List.length_map, List.length_map]
              exact sz_le (by omega)
            · rw [bs_merge]
              have s5 := (s2.trans s3).trans s4
              refine ⟨same_mut s5 hD, ⟨_, _, rfl⟩, _, upd_same, nd_addAll nd, fun p hp => mem_addAll.mpr (.inl (k0 p hp)), fun k hk => ?_, fun k hk hl' r' hr2 j hj => ?_⟩
              · rcases mem_addAll.mp hk with h | h
                · exact k1 k h
                · have h3 : k ∈ r.refs := by simpa using mem_addAll.mp h
                  exact ⟨hk' k h, .ref (k1 m hmk).2 hr' h3⟩
              · rcases mem_addAll.mp hk with h | h
                · by_cases e : k = m
                  · subst e
                    rw [hr'] at hr2
                    cases hr2
                    exact mem_addAll.mpr (.inr (mem_addAll.mpr (.inr hj)))
                  · exact mem_addAll.mpr (.inl (k2 k h (by omega) r' hr2 j hj))
                · by_cases e : k = m
                  · subst e
                    rw [hr'] at hr2
                    cases hr2
                    exact mem_addAll.mpr (.inr (mem_addAll.mpr (.inr hj)))
                  · have h3 : k ∈ r.refs := by simpa using mem_addAll.mp h
                    have := (ok m r hr').refs h3
                    omega
        · rw [if_neg hmk]
          refine iteF ?_
          refine ⟨s2, ⟨_, _, rfl⟩, ks, hd2, nd, k0, k1, fun k hk hl' => ?_⟩
          by_cases e : k = m
          · exact absurd (e ▸ hk) hmk
          · exact k2 k hk (by omega)
      · obtain ⟨s2, ⟨u, v, rfl⟩, ks, hd2, nd, k0, k1, k2⟩ := h
        refine ⟨_, rfl, D, _, ks.map fun i => ((i : Nat) : Int), rfl, .inl hd2, ?_, fun ys p pm so np => ?_⟩
        · simp [bsE]
        · have e := cone_eq ok hp k0 k1 (fun k hk => k2 k hk (by have := (k1 k hk).1; omega)) nd pm so
          refine q p _ (s2.trans (same_new np)) ?_ ?_
          · exact none_of s2 np
          · rw [upd_same, e, List.map_map]
            rfl
end
end Lk

set_option maxHeartbeats 4000000
namespace Lk
open PySem PySem.Spec PyProof.Rows L2
theorem minS {X : Cx} (K : PySem.W.Frag) (hc : X.calm = true) (h : X.K = K := by rfl) : CallR X (.builtin "min") (rMin K) := h ▸ cr_min hc
theorem tupS {X : Cx} (K : PySem.W.Frag) (h : X.K = K := by rfl) : CallR X (.type "tuple") (fun xs H Q => ∃ p ys, xs = [.ref p] ∧ ((SqL K H p ys ∧ ∀ l, H l = none → Q (.ref l) (upd H l (.tup ys))) ∨ (SqT K H p ys ∧ Q (.ref p) H))) := h ▸ call_tuple_of
theorem lstS {X : Cx} (K : PySem.W.Frag) (h : X.K = K := by rfl) : CallR X (.type "list") (fun xs H Q => ∃ p ys, xs = [.ref p] ∧ (SqL K H p ys ∨ SqT K H p ys) ∧ ∀ l, H l = none → Q (.ref l) (upd H l (.lst ys))) := h ▸ call_list_of
theorem walk_zipT {K : PySem.W.Frag} {a b : Addr} {xs ys : List V} {n : Nat} (hn : n = min xs.length ys.length) : Walk (RZ.ItzT K a b) n (fun H => SqT K H a xs ∧ SqT K H b ys) (YPair (fun i => xs[i]?) (fun i => ys[i]?)) := by
  subst hn
  refine ⟨fun i _ hi q => ?_, fun _ q => ⟨xs, ys, q.1, q.2, by omega⟩, fun i H v H' _ q y => ?_⟩
  · have h1 : i < xs.length := by omega
    have h2 : i < ys.length := by omega
    exact ⟨xs, ys, xs[i], ys[i], q.1, q.2, by simp [h1], by simp [h2]⟩
  · obtain ⟨T, x, z, h1, h2, h3, h4, h5⟩ := y
    exact ⟨T, x, z, h1, h2, h3, h4 xs q.1, h5 ys q.2⟩
/-- tuple(x), x a list or a tuple -/
theorem tupA {X : Cx} : CallR X (.type "tuple") (fun vs H Q => ∃ a xs, vs = [.ref a] ∧ Lt H a xs ∧ ∀ p H', Same H H' → H' p = some (.tup xs) → Q (.ref p) H') := by
  intro pins s σ H xs us Q I r h
  obtain ⟨a, ys, rfl, hl, q⟩ := h
  refine call_tuple_of pins s σ H _ us Q I r ⟨a, ys, rfl, ?_⟩
  rcases hl with h | h
  · exact .inl ⟨.inl (.inl h), fun l hl => q l _ (same_new hl) upd_same⟩
  · exact .inr ⟨.inl (.inl h), q a H (fun _ _ e => e) h⟩
theorem ne_x {H : Hp} {x p : Addr} {o u : HO} (hx : H x = some o) (hp : H p = some u) (h : o ≠ u) : p ≠ x := by
  rintro rfl
  rw [hx] at hp
  exact h (Option.some.inj hp)
def SameX (x : Addr) (H H' : Hp) : Prop := ∀ a u, a ≠ x → H a = some u → H' a = some u
theorem SameX.trans {x : Addr} {H H1 H2 : Hp} (h1 : SameX x H H1) (h2 : SameX x H1 H2) : SameX x H H2 := fun a u n e => h2 a u n (h1 a u n e)
theorem sx {x : Addr} {H H' : Hp} (h : Same H H') : SameX x H H' := fun a u _ e => h a u e
theorem sameX_upd {x : Addr} {H : Hp} {o : HO} : SameX x H (upd H x o) := fun a u n e => by rw [upd_ne n]; exact e
theorem ne_l {H : Hp} {x p C dx : Addr} {fs : List (Str × V)} {xs : List V} (hx : H x = some (.ins C dx fs)) (h : Lt H p xs) : p ≠ x := by
  rcases h with h | h
  · exact ne_x hx h (by simp)
  · exact ne_x hx h (by simp)
theorem Lt.monoX {H H' : Hp} {x p C dx : Addr} {fs : List (Str × V)} {xs : List V} (s : SameX x H H') (hx : H x = some (.ins C dx fs)) (h : Lt H p xs) : Lt H' p xs := h.imp (s _ _ (ne_l hx h)) (s _ _ (ne_l hx h))
theorem RowsAt.monoX {H H' : Hp} {x C dx : Addr} {fs : List (Str × V)} {xs : List V} {rs : List Rw} (s : SameX x H H') (hx : H x = some (.ins C dx fs)) (h : RowsAt H xs rs) : RowsAt H' xs rs := by
  induction h with
  | nil => exact .nil
  | cons h _ ih =>
    obtain ⟨a, e, h⟩ := h
    exact .cons ⟨a, e, s _ _ (ne_x hx h (by simp)) h⟩ ih
def spNeedMoves : Sp := fun vs H Q _ => ∃ a ms, vs = [.ref a] ∧ Lt H a (ms.map V.str) ∧ Mv ms ∧ ∀ H', Same H H' → Q .non H'
/-- its cone is a new list -/
def PlNew (H H' : Hp) (x : Addr) : Prop := ∀ C dx fs d, H' x = some (.ins C dx fs) → fs.lookup ("cone" : Str) = some (V.ref d) → H d = none
def spPlayer (cP : Addr) : Sp := fun vs H Q _ => ∃ x dx a b c xs P, vs = [.ref x, .ref a, .ref b, .ref c] ∧ H x = some (.ins cP dx []) ∧ Lt H a (P.moves.map V.str) ∧ Lt H b xs ∧ RowsAt H xs P.rows ∧ Lt H c (P.picks.map nV) ∧ P.Ok ∧
  ∀ H', SameX x H H' → PlAt cP H' x P → PlNew H H' x → Q .non H'
section
variable {P : Program} {w : World} {K : PySem.W.Frag} {mg : Str → Option Value} {base : Heap} {cP cG cT : Addr} {f : Addr} {fd : FuncData} (T : Txt K w mg cP cG cT)
include T
theorem ok_need_moves {C_are_moves : Cal P w K mg base "are_moves" 2 ["thing"] spAreMoves} (F : FnP K "need_moves" "need_moves" s_need_moves f fd) : FnOk P w K mg base CX0 3 f fd ["thing"] spNeedMoves := by
  refine okN F sc_need_moves (fun vs H Q E h => ?_) (fun cdv A outer s H vs Q E hr h => ?_)
  · obtain ⟨a, ms, rfl, _⟩ := h
    rfl
  · obtain ⟨a, ms, rfl, hx, mv, q⟩ := h
    refine ⟨_, (pss_one (ps_if (pt_not (pt_val (pe_cal C_are_moves hr (pa_cons (pv 0) pa_nil)))) (pss_one ps_never) pss_nil)), ?_⟩
    refine ⟨_, rfl, a, ms, rfl, hx, mv, fun H1 s1 => ⟨true, rfl, ?_⟩⟩
    refine iteF ?_
    exact q H1 s1
theorem ok_Player {C_need_moves : Cal P w K mg base "need_moves" 3 ["thing"] spNeedMoves} {C_need_rows : Cal P w K mg base "need_rows" 3 ["rows"] spNeedRows} {C_is_list : Cal P w K mg base "is_list" 1 ["thing"] spIsList} {C_down_ones : Cal P w K mg base "down_ones" 2 ["rows"] spDownOnes}
    {C_is_number : Cal P w K mg base "is_number" 1 ["thing", "low", "high"] spIsNumber} {C_below : Cal P w K mg base "below" 2 ["rows", "some"] spBelow} (F : FnP K "__init__" "Player.__init__" s_Player___init__ f fd) :
    FnOk P w K mg base CX0 4 f fd ["self", "moves", "rows", "chosen"] (spPlayer cP) := by
  refine okN F sc_Player___init (fun vs H Q E h => ?_) (fun cdv A outer s H vs Q E hr h => ?_)
  · obtain ⟨x, dx, a, b, c, xs, P, rfl, _⟩ := h
    rfl
  · obtain ⟨x, dx, a, b, c, xs, P, rfl, hx, ha, hb, hrs, hc, ok, q⟩ := h
    have hxl := hrs.len
    have hl2 := ok.len
    have hnp := ok.np
    refine ⟨_, (pss_cons (ps_expr (pe_cal C_need_moves hr (pa_cons (pv 1) pa_nil)))
      (pss_cons (ps_expr (pe_cal C_need_rows hr (pa_cons (pv 2) pa_nil)))
      (pss_cons (ps_if (pt_not (pt_val (pe_cal C_is_list hr (pa_cons (pv 3) pa_nil)))) (pss_one ps_never) pss_nil)
      (pss_cons (ps_set (i := 4) sc_Player___init.nd rfl (Or.inl rfl) (pe_cal C_down_ones hr (pa_cons (pv 2) pa_nil)))
      (pss_cons (ps_for PassesOwn.never rfl (pi_range1 rfl T.range_ (pa_cons (pe_callB (call_max2 rfl) (by rfl) T.max_ b_max (pa_cons (pe_callB (lenS K) (by rfl) T.len_ b_len (pa_cons (pv 3) pa_nil)) (pa_cons (pe_op op_sub (pe_callB (lenS K) (by rfl) T.len_ b_len (pa_cons (pv 1) pa_nil)) pe_int) pa_nil))) pa_nil)) (pg_name (i := 5) sc_Player___init.nd rfl (Or.inl rfl)) (pss_cons (ps_if (PW.pt (pw_or (pt_cmpR op_eq (pv 5) (pe_op op_sub (pe_callB (lenS K) (by rfl) T.len_ b_len (pa_cons (pv 1) pa_nil)) pe_int) (nomark _)) (pw_or1 (pt_cmpR op_eq (pv 5) (pe_callB (lenS K) (by rfl) T.len_ b_len (pa_cons (pv 3) pa_nil)) (nomark _))))) (pss_one ps_never) pss_nil)
      (pss_one (ps_if (PW.pt (pw_or (pt_not (pt_val (pe_cal C_is_number hr (pa_cons (pe_ix (ixS K) (pv 3) (pv 5) (fun _ _ => rfl)) (pa_cons pe_int (pa_cons (pe_op op_sub (pe_callB (lenS K) (by rfl) T.len_ b_len (pa_cons (pv 2) pa_nil)) pe_int) pa_nil)))))) (pw_or1 (pt_not (pt_val (pe_ix (ixL K) (pv 4) (pe_ix (ixS K) (pv 3) (pv 5) (fun _ _ => rfl)) (fun _ _ => rfl))))))) (pss_one ps_never) pss_nil))))
      (pss_cons (ps_fld (pv 0) (pe_callTy tupA (by rfl) T.tuple_ b_tuple (pa_cons (pv 1) pa_nil)) rfl)
      (pss_cons (ps_fld (pv 0) (pe_callTy tupA (by rfl) T.tuple_ b_tuple (pa_cons (pv 2) pa_nil)) rfl)
      (pss_cons (ps_fld (pv 0) (pe_callTy tupA (by rfl) T.tuple_ b_tuple (pa_cons (pv 3) pa_nil)) rfl)
      (pss_one (ps_fld (pv 0) (pe_cal C_below hr (pa_cons (fldK K (pv 0) rfl) (pa_cons (fldK K (pv 0) rfl) pa_nil))) rfl)))))))))), ?_⟩
    refine ⟨_, rfl, a, _, rfl, ha, ok.mv, fun H1 s1 => ?_⟩
    refine ⟨_, rfl, b, xs, _, rfl, hb.mono s1, hrs.mono s1, ok.rows, ok.len, fun H2 s2 => ?_⟩
    have s2 := s1.trans s2
    refine ⟨_, rfl, c, _, rfl, hc.mono s2, fun H3 s3 => ⟨true, rfl, ?_⟩⟩
    have s3 := s2.trans s3
    refine iteF ?_
    refine ⟨_, rfl, b, xs, _, rfl, hb.mono s3, hrs.mono s3, ok.rows, ok.len, fun d H4 s4 nd hd4 => ?_⟩
    have s4 := s3.trans s4
    have ha4 := ha.mono s4
    have hb4 := hb.mono s4
    have hc4 := hc.mono s4
    refine ⟨_, rfl, c, _, rfl, hc4.sq, _, rfl, a, _, rfl, ha4.sq, _, _, rfl, rfl, _, _, rfl, ?_⟩
    have emax : (if (((P.moves.map V.str).length : Nat) : Int) - 1 > (((P.picks.map nV).length : Nat) : Int) then (((P.moves.map V.str).length : Nat) : Int) - 1 else (((P.picks.map nV).length : Nat) : Int)) = ((P.picks.length : Nat) : Int) := by
      rw [List.length_map, List.length_map, if_neg (by omega)]
    rw [emax]
    have hpl : P.picks.length ≤ 3 := by have := ok.mv.few; omega
    refine ⟨_, rfl, by omega, by omega, ?_⟩
    rw [Int.toNat_natCast]
    refine for_range (fun i σ H' => Same H4 H' ∧ ∃ u, σ = [some (.ref x), some (.ref a), some (.ref b), some (.ref c), some (.ref d), u]) ⟨fun _ _ e => e, _, rfl⟩ (fun i σ H5 hi h => ?_) (fun σ H5 h => ?_)
    · obtain ⟨s5, u, rfl⟩ := h
      have ha5 := ha4.mono s5
      have hb5 := hb4.mono s5
      have hc5 := hc4.mono s5
      have hd5 := s5 _ _ hd4
      obtain ⟨p, hp⟩ : ∃ p, P.picks[i]? = some p := ⟨_, List.getElem?_eq_getElem hi⟩
      obtain ⟨p1, p2⟩ := ok.pk p (List.mem_of_getElem? hp)
      show (fun x σ H Q => gName 5 x σ H Q) (V.int (0 + (i : Int))) _ _ _
      rw [show (0 + (i : Int)) = (i : Int) by omega]
      refine ⟨_, rfl, _, rfl, a, _, rfl, ha5.sq, _, _, rfl, rfl, rfl, _, rfl, ?_⟩
      refine ifF (by intro z; injection z with z; rw [List.length_map] at z; omega) ?_
      refine ⟨_, rfl, _, rfl, c, _, rfl, hc5.sq, rfl, _, rfl, ?_⟩
      refine ifF (by intro z; injection z with z; rw [List.length_map] at z; omega) ?_
      refine ⟨_, rfl, _, rfl, ixS_at hc5 (by rw [List.getElem?_map, hp]; rfl) ?_⟩
      refine ⟨_, rfl, b, _, rfl, hb5.sq, _, _, rfl, rfl, _, _, _, rfl, ?_⟩
      rw [decide_eq_true (by omega), decide_eq_true (by omega)]
      refine ⟨true, rfl, ?_⟩
      refine iteF ?_
      refine ⟨_, rfl, _, rfl, _, rfl, ixS_at hc5 (by rw [List.getElem?_map, hp]; rfl) ?_⟩
      refine ⟨d, _, _, .bl true, rfl, rfl, .inl (.inl hd5), atI_nat (by rw [List.getElem?_map, p2]; rfl), true, rfl, ?_⟩
      refine iteF ?_
      exact ⟨s5, _, rfl⟩
    · obtain ⟨s5, u, rfl⟩ := h
      have s5 := s4.trans s5
      refine ⟨_, rfl, a, _, rfl, ha.mono s5, fun w1 H6 s6 hw1 => ?_⟩
      have s6 := s5.trans s6
      have hx6 := s6 _ _ hx
      refine ⟨_, rfl, x, _, _, _, rfl, hx6, T.clP, T.naP _ (by simp), by decide, ?_⟩
      have z6 : SameX x H (upd H6 x (.ins cP dx [("ways", .ref w1)])) := (sx s6).trans sameX_upd
      have hw1 : (upd H6 x (.ins cP dx [("ways", .ref w1)])) w1 = some (.tup (P.moves.map V.str)) := by rw [upd_ne (ne_x hx6 hw1 (by simp))]; exact hw1
      have hx6 : (upd H6 x (.ins cP dx [("ways", .ref w1)])) x = some (.ins cP dx [("ways", .ref w1)]) := upd_same
      show tSeq _ _ _ _ (upd H6 x (.ins cP dx [("ways", .ref w1)]))
      generalize upd H6 x (.ins cP dx [("ways", .ref w1)]) = H7 at z6 hw1 hx6
      have hb7 : Lt H7 b xs := hb.imp (z6 _ _ (ne_l hx hb)) (z6 _ _ (ne_l hx hb))
      refine ⟨_, rfl, b, xs, rfl, hb7, fun w2 H8 s8 hw2 => ?_⟩
      have z8 := z6.trans (sx s8)
      have hx8 := s8 _ _ hx6
      refine ⟨_, rfl, x, _, _, _, rfl, hx8, T.clP, T.naP _ (by simp), by simp, ?_⟩
      have e2 : putF "lines" (.ref w2) [("ways", V.ref w1)] = ([("ways", V.ref w1), ("lines", V.ref w2)] : List (Str × V)) := by rfl
      rw [e2]
      have z9 : SameX x H (upd H8 x (.ins cP dx [("ways", .ref w1), ("lines", .ref w2)])) := z8.trans sameX_upd
      have hw1 : (upd H8 x (.ins cP dx [("ways", .ref w1), ("lines", .ref w2)])) w1 = some (.tup (P.moves.map V.str)) := by rw [upd_ne (ne_x hx8 (s8 _ _ hw1) (by simp))]; exact s8 _ _ hw1
      have hw2 : (upd H8 x (.ins cP dx [("ways", .ref w1), ("lines", .ref w2)])) w2 = some (.tup xs) := by rw [upd_ne (ne_x hx8 hw2 (by simp))]; exact hw2
      have hx9 : (upd H8 x (.ins cP dx [("ways", .ref w1), ("lines", .ref w2)])) x = some (.ins cP dx [("ways", .ref w1), ("lines", .ref w2)]) := upd_same
      generalize upd H8 x (.ins cP dx [("ways", .ref w1), ("lines", .ref w2)]) = H9 at z9 hw1 hw2 hx9
      refine ⟨_, rfl, c, _, rfl, hc.monoX z9 hx, fun w3 HA sA hw3 => ?_⟩
      have zA := z9.trans (sx sA)
      have hxA := sA _ _ hx9
      have hw1 := sA _ _ hw1
      have hw2 := sA _ _ hw2
      refine ⟨_, rfl, x, _, _, _, rfl, hxA, T.clP, T.naP _ (by simp), by simp, ?_⟩
      have e3 : putF "picks" (.ref w3) [("ways", V.ref w1), ("lines", V.ref w2)] = ([("ways", V.ref w1), ("lines", V.ref w2), ("picks", V.ref w3)] : List (Str × V)) := by rfl
      rw [e3]
      have zB : SameX x H (upd HA x (.ins cP dx [("ways", .ref w1), ("lines", .ref w2), ("picks", .ref w3)])) := zA.trans sameX_upd
      have hw1 : (upd HA x (.ins cP dx [("ways", .ref w1), ("lines", .ref w2), ("picks", .ref w3)])) w1 = some (.tup (P.moves.map V.str)) := by rw [upd_ne (ne_x hxA hw1 (by simp))]; exact hw1
      have hw2 : (upd HA x (.ins cP dx [("ways", .ref w1), ("lines", .ref w2), ("picks", .ref w3)])) w2 = some (.tup xs) := by rw [upd_ne (ne_x hxA hw2 (by simp))]; exact hw2
      have hw3 : (upd HA x (.ins cP dx [("ways", .ref w1), ("lines", .ref w2), ("picks", .ref w3)])) w3 = some (.tup (P.picks.map nV)) := by rw [upd_ne (ne_x hxA hw3 (by simp))]; exact hw3
      have hxB : (upd HA x (.ins cP dx [("ways", .ref w1), ("lines", .ref w2), ("picks", .ref w3)])) x = some (.ins cP dx [("ways", .ref w1), ("lines", .ref w2), ("picks", .ref w3)]) := upd_same
      generalize upd HA x (.ins cP dx [("ways", .ref w1), ("lines", .ref w2), ("picks", .ref w3)]) = HB at zB hw1 hw2 hw3 hxB
      refine ⟨_, rfl, x, _, _, _, _, rfl, hxB, T.clP, T.naP _ (by simp), rfl, ?_⟩
      refine ⟨_, rfl, x, _, _, _, _, rfl, hxB, T.clP, T.naP _ (by simp), rfl, ?_⟩
      have hrB := hrs.monoX zB hx
      refine ⟨w2, w3, xs, _, _, rfl, .inr hw2, hrB, ok.rows, ok.len, .inr hw3, fun p hp => (ok.pk p hp).1, fun w4 HC sC nw4 hw4 => ?_⟩
      have hxC := sC _ _ hxB
      refine ⟨_, rfl, x, _, _, _, rfl, hxC, T.clP, T.naP _ (by simp), by simp, ?_⟩
      have e4 : putF "cone" (.ref w4) [("ways", V.ref w1), ("lines", V.ref w2), ("picks", V.ref w3)] = ([("ways", V.ref w1), ("lines", V.ref w2), ("picks", V.ref w3), ("cone", V.ref w4)] : List (Str × V)) := by rfl
      rw [e4]
      have zC := zB.trans (sx sC)
      have zD : SameX x HC (upd HC x (.ins cP dx [("ways", .ref w1), ("lines", .ref w2), ("picks", .ref w3), ("cone", .ref w4)])) := sameX_upd
      refine q _ (zC.trans zD) ⟨dx, w1, w2, w3, w4, xs, upd_same, zD _ _ (ne_x hxC (sC _ _ hw1) (by simp)) (sC _ _ hw1), zD _ _ (ne_x hxC (sC _ _ hw2) (by simp)) (sC _ _ hw2), (hrB.mono sC).monoX zD hxC, zD _ _ (ne_x hxC (sC _ _ hw3) (by simp)) (sC _ _ hw3), zD _ _ (ne_x hxC hw4 (by simp)) hw4⟩ (fun C dx' fs d e1 e2 => ?_)
      rw [upd_same] at e1
      cases e1
      have e2 : some (V.ref w4) = some (V.ref d) := e2
      cases e2
      cases hu : H w4 with
      | none => rfl
      | some u =>
        have := zB w4 u (fun e => by rw [e, hxB] at nw4; cases nw4) hu
        rw [nw4] at this
        cases this
end
end Lk

set_option maxHeartbeats 4000000
namespace Lk
open PySem PySem.Spec PyProof.Rows PySem.W L2
def spMoves (cP : Addr) : Sp := fun vs H Q _ => ∃ p P, vs = [.ref p] ∧ PlAt cP H p P ∧ ∀ a, H a = some (.tup (P.moves.map V.str)) → Q (.ref a) H
def spRows (cP : Addr) : Sp := fun vs H Q _ => ∃ p P, vs = [.ref p] ∧ PlAt cP H p P ∧ ∀ a xs, H a = some (.tup xs) → RowsAt H xs P.rows → Q (.ref a) H
def spChosen (cP : Addr) : Sp := fun vs H Q _ => ∃ p P, vs = [.ref p] ∧ PlAt cP H p P ∧ ∀ a, H a = some (.tup (P.picks.map nV)) → Q (.ref a) H
def spShowns (cP : Addr) : Sp := fun vs H Q _ => ∃ p P, vs = [.ref p] ∧ PlAt cP H p P ∧ P.rows.length ≤ 120 ∧ ∀ q H', Same H H' → H q = none → H' q = some (.lst (P.marks.map nV)) → Q (.ref q) H'
def spTop (cP : Addr) : Sp := fun vs H Q _ => ∃ p P, vs = [.ref p] ∧ PlAt cP H p P ∧ P.rows.length ≤ 120 ∧ ∀ H', Same H H' → Q (nV P.high) H'
theorem fm_filter (g : Nat → Bool) : ∀ js : List Nat, (js.map nV).filterMap (fun x => match x with | .int j => if g j.toNat then some x else none | _ => none) = (js.filter g).map nV
  | [] => rfl
  | j :: r => by
    rw [List.map_cons, List.filterMap_cons, List.filter_cons]
    simp only [fm_filter g r, Int.toNat_natCast]
    by_cases h : g j = true
    · simp [h]
    · simp [h]
theorem range_fmA {α β : Type} (xs : List α) (f : α → Option β) : (List.range xs.length).filterMap (fun i => (xs[i]?).bind f) = xs.filterMap f := by
  induction xs with
  | nil => rfl
  | cons x r ih =>
    rw [List.length_cons, List.range_succ_eq_map, List.filterMap_cons, List.filterMap_map]
    have e : ((fun i => ((x :: r)[i]?).bind f) ∘ Nat.succ) = fun i => (r[i]?).bind f := by funext i; simp
    rw [e, ih]
    cases h : f x <;> simp [h]
theorem range_mapA {α β : Type} (xs : List α) (f : α → β) : (List.range xs.length).filterMap (fun i => (xs[i]?).map f) = xs.map f := by
  have := range_fmA xs (fun x => some (f x))
  rw [List.filterMap_eq_map'] at this
  rw [← this]
  congr 1
  funext i
  cases xs[i]? <;> rfl
theorem fm_if {α β : Type} (g : α → Bool) (h : α → β) : ∀ js : List α, js.filterMap (fun j => if g j = true then some (h j) else none) = (js.filter g).map h
  | [] => rfl
  | j :: r => by
    rw [List.filterMap_cons, List.filter_cons, fm_if g h r]
    by_cases q : g j = true
    · simp [q]
    · simp [q]
theorem sh_word (r : Rw) : decide (V.str r.word = V.str "shown") = r.isSh := by
  cases r
  · exact eqvF (str_ne (a := "false") (by decide))
  · exact eqvF (str_ne (a := "does") (by decide))
  · exact eqvF (str_ne (a := "not") (by decide))
  · exact eqvF (str_ne (a := "and") (by decide))
  · exact eqvF (str_ne (a := "or") (by decide))
  · exact eqvT rfl
theorem cone_lt {P : Pl} {i : Nat} (h : i ∈ P.cone) : i < P.rows.length := (mem_cone.mp h).1
theorem cone_len (P : Pl) (h : P.rows.length ≤ 120) : P.cone.length ≤ 120 := by
  refine nd_len 120 _ ?_ fun k hk => by have := cone_lt hk; omega
  exact (cone_sorted P.rows P.picks).imp fun {a b} h => by omega
theorem marks_len (P : Pl) (h : P.rows.length ≤ 120) : P.marks.length ≤ 120 := Nat.le_trans (List.length_filter_le _ _) (cone_len P h)
theorem mem_marks {P : Pl} {i : Nat} : i ∈ P.marks ↔ i ∈ P.cone ∧ shAt P.rows i = true := by
  unfold Pl.marks
  rw [List.mem_filter]
theorem sh_row {P : Pl} {i : Nat} (h : i ∈ P.marks) : ∃ k j, P.rows[i]? = some (.sh k j) ∧ levAt P.rows i = k ∧ innAt P.rows i = j := by
  obtain ⟨h1, h2⟩ := mem_marks.mp h
  have hi := cone_lt h1
  unfold shAt at h2
  rw [List.getElem?_eq_getElem hi] at h2
  cases e : P.rows[i] with
  | sh k j => exact ⟨k, j, by rw [List.getElem?_eq_getElem hi, e], by unfold levAt; rw [List.getElem?_eq_getElem hi, e]; rfl, by unfold innAt; rw [List.getElem?_eq_getElem hi, e]; rfl⟩
  | _ => rw [e] at h2; cases h2
theorem max_cast : ∀ (ls : List Nat) (a : Nat), maxOf ((a : Nat) : Int) (ls.map fun i => ((i : Nat) : Int)) = ((ls.foldl max a : Nat) : Int) := by
  intro ls
  induction ls with
  | nil => intro a; rfl
  | cons x r ih =>
    intro a
    show List.foldl _ (if DatumOrd.lt ((a : Nat) : Int) ((x : Nat) : Int) = true then ((x : Nat) : Int) else ((a : Nat) : Int)) _ = _
    have e : (if DatumOrd.lt ((a : Nat) : Int) ((x : Nat) : Int) = true then ((x : Nat) : Int) else ((a : Nat) : Int)) = ((max a x : Nat) : Int) := by
      have h : DatumOrd.lt ((a : Nat) : Int) ((x : Nat) : Int) = decide (((a : Nat) : Int) < ((x : Nat) : Int)) := rfl
      rw [h]
      by_cases q : a < x
      · rw [decide_eq_true (by omega)]
        simp
        omega
      · rw [decide_eq_false (by omega)]
        simp
        omega
    rw [e]
    exact ih _
section
variable {P : Program} {w : World} {K : PySem.W.Frag} {mg : Str → Option Value} {base : Heap} {cP cG cT : Addr} {f : Addr} {fd : FuncData} (T : Txt K w mg cP cG cT)
include T
theorem ok_moves (F : FnP K "moves" "Player.moves" s_Player_moves f fd) : FnOk P w K mg base CX0 1 f fd ["self"] (spMoves cP) := by
  refine okN F sc_Player_moves (fun vs H Q E h => ?_) (fun cdv A outer s H vs Q E hr h => ?_)
  · obtain ⟨p, P, rfl, _⟩ := h
    rfl
  · obtain ⟨p, P, rfl, hp, q⟩ := h
    obtain ⟨dx, a, b, c, d, xs, h1, h2, h3, h4, h5, h6⟩ := hp.ex
    refine ⟨_, (pss_one (ps_ret (fldK K (pv 0) rfl))), ?_⟩
    exact ⟨_, rfl, p, _, _, _, _, rfl, h1, T.clP, T.naP _ (by simp), rfl, q a h2⟩
theorem ok_rows (F : FnP K "rows" "Player.rows" s_Player_rows f fd) : FnOk P w K mg base CX0 1 f fd ["self"] (spRows cP) := by
  refine okN F sc_Player_rows (fun vs H Q E h => ?_) (fun cdv A outer s H vs Q E hr h => ?_)
  · obtain ⟨p, P, rfl, _⟩ := h
    rfl
  · obtain ⟨p, P, rfl, hp, q⟩ := h
    obtain ⟨dx, a, b, c, d, xs, h1, h2, h3, h4, h5, h6⟩ := hp.ex
    refine ⟨_, (pss_one (ps_ret (fldK K (pv 0) rfl))), ?_⟩
    exact ⟨_, rfl, p, _, _, _, _, rfl, h1, T.clP, T.naP _ (by simp), rfl, q b xs h3 h4⟩
theorem ok_chosen (F : FnP K "chosen" "Player.chosen" s_Player_chosen f fd) : FnOk P w K mg base CX0 1 f fd ["self"] (spChosen cP) := by
  refine okN F sc_Player_chosen (fun vs H Q E h => ?_) (fun cdv A outer s H vs Q E hr h => ?_)
  · obtain ⟨p, P, rfl, _⟩ := h
    rfl
  · obtain ⟨p, P, rfl, hp, q⟩ := h
    obtain ⟨dx, a, b, c, d, xs, h1, h2, h3, h4, h5, h6⟩ := hp.ex
    refine ⟨_, (pss_one (ps_ret (fldK K (pv 0) rfl))), ?_⟩
    exact ⟨_, rfl, p, _, _, _, _, rfl, h1, T.clP, T.naP _ (by simp), rfl, q c h5⟩
theorem ok_showns (F : FnP K "showns" "Player.showns" s_Player_showns f fd) : FnOk P w K mg base CX0 1 f fd ["self"] (spShowns cP) := by
  refine okN F sc_Player_showns (fun vs H Q E h => ?_) (fun cdv A outer s H vs Q E hr h => ?_)
  · obtain ⟨p, P, rfl, _⟩ := h
    rfl
  · obtain ⟨p, P, rfl, hp, hl, q⟩ := h
    obtain ⟨dx, a, b, c, d, xs, h1, h2, h3, h4, h5, h6⟩ := hp.ex
    refine ⟨_, (pss_one (ps_ret (pe_lc (own := [("at", 1)]) rfl sc_Player_showns.nd (pi_sq (fldK K (pv 0) rfl)) (blkOk_by (own := [("at", 1)]) (N := ["self", "at"]) (sc := defScope s_Player_showns) (by decide +kernel)) (fun _ _ _ _ _ => pg_name (i := 1) sc_Player_showns.nd rfl (Or.inl rfl)) (fun _ _ _ _ _ => pts_one (pt_cmpR op_eq (pe_ix (ixT K) (pe_ix (ixT K) (fldK K (pv 0) rfl) (pv 1) (fun _ _ => rfl)) pe_int (fun _ _ => rfl)) pe_str (nomark _))) (fun _ _ _ _ _ => (pv 1))))), ?_⟩
    refine ⟨_, rfl, p, _, _, _, _, rfl, h1, T.clP, T.naP _ (by simp), rfl, d, _, rfl, .inl h6, fun J hJ D hD => ?_⟩
    refine lcW_fm hJ (fun i => (P.cone[i]?).bind fun j => if shAt P.rows j then some (nV j) else none) hD (by have := cone_len P hl; simp; omega) (fun H2 s2 => same_of s2 (.inl h6)) (fun i x H9 H2 hi s2 y K1 K0 k1 k0 => ?_) (fun H2 s2 e => ?_)
    · obtain ⟨rfl, hx⟩ := y
      rw [List.getElem?_map] at hx
      obtain ⟨j, hj, rfl⟩ := Option.map_eq_some_iff.mp hx
      have hjl := cone_lt (List.mem_of_getElem? hj)
      obtain ⟨r, hr'⟩ : ∃ r, P.rows[j]? = some r := ⟨_, List.getElem?_eq_getElem hjl⟩
      obtain ⟨ra, hra, har⟩ := h4.get' hr'
      refine ⟨rfl, ?_⟩
      refine ⟨_, rfl, p, _, _, _, _, rfl, s2 _ _ h1, T.clP, T.naP _ (by simp), rfl, _, rfl, b, xs, _, _, rfl, rfl, .inl (.inl (s2 _ _ h3)), atI_nat hra, ra, _, 0, .str r.word, rfl, rfl, .inl (.inl (s2 _ _ har)), atI_nat (j := 0) rfl, ?_⟩
      refine ⟨rfl, _, rfl, ?_⟩
      show if decide (V.str r.word = V.str "shown") = true then _ else _
      rw [sh_word]
      have eS : shAt P.rows j = r.isSh := by unfold shAt; rw [hr']; rfl
      cases hS : r.isSh with
      | true =>
        refine iteT ?_
        exact ⟨_, rfl, k1 _ _ (by rw [hj]; show (if shAt P.rows j = true then some (nV j) else none) = _; rw [eS, hS]; rfl) (fun _ _ e => e)⟩
      | false =>
        refine iteF ?_
        exact k0 _ (by rw [hj]; show (if shAt P.rows j = true then some (nV j) else none) = _; rw [eS, hS]; rfl) (fun _ _ e => e)
    · refine q D H2 s2 hD ?_
      rw [e, List.length_map, range_fmA, fm_if]
      rfl
theorem ok_top {M_showns : Mth P w K mg base cP "showns" 1 ["self"] (spShowns cP)} (F : FnP K "top" "Player.top" s_Player_top f fd) : FnOk P w K mg base CX0 2 f fd ["self"] (spTop cP) := by
  refine okN F sc_Player_top (fun vs H Q E h => ?_) (fun cdv A outer s H vs Q E hr h => ?_)
  · obtain ⟨p, P, rfl, _⟩ := h
    rfl
  · obtain ⟨p, P, rfl, hp, hl, q⟩ := h
    obtain ⟨dx, a, b, c, d, xs, h1, h2, h3, h4, h5, h6⟩ := hp.ex
    refine ⟨_, (pss_one (ps_ret (pe_callBK cr_maxD (by rfl) T.max_ b_max (pa_cons (pe_lc (own := [("at", 1)]) rfl sc_Player_top.nd (pi_sq (pe_mth0 T.clP M_showns hr (pv 0))) (blkOk_by (own := [("at", 1)]) (N := ["self", "at"]) (sc := defScope s_Player_top) (by decide +kernel)) (fun _ _ _ _ _ => pg_name (i := 1) sc_Player_top.nd rfl (Or.inl rfl)) (fun _ _ _ _ _ => pts_nil) (fun _ _ _ _ _ => (pe_ix (ixT K) (pe_ix (ixT K) (fldK K (pv 0) rfl) (pv 1) (fun _ _ => rfl)) pe_int (fun _ _ => rfl)))) pa_nil) (pk_cons pe_int pk_nil)))), ?_⟩
    refine ⟨_, rfl, p, dx, _, rfl, h1, rfl, ?_⟩
    refine ⟨p, P, rfl, hp, hl, fun m H1 s1 nm hm => ?_⟩
    refine ⟨m, _, rfl, .inl hm, fun J hJ D hD => ?_⟩
    refine lcW_fm hJ (fun i => (P.marks[i]?).map fun j => nV (levAt P.rows j)) hD (by have := marks_len P hl; simp; omega) (fun H2 s2 => same_of s2 (.inl hm)) (fun i x H9 H2 hi s2 y K1 K0 k1 k0 => ?_) (fun H2 s2 e => ?_)
    · obtain ⟨rfl, hx⟩ := y
      rw [List.getElem?_map] at hx
      obtain ⟨j, hj, rfl⟩ := Option.map_eq_some_iff.mp hx
      obtain ⟨k, i', hr', e1, e2⟩ := sh_row (List.mem_of_getElem? hj)
      obtain ⟨ra, hra, har⟩ := h4.get' hr'
      have s2 := s1.trans s2
      refine ⟨rfl, yesT ?_⟩
      refine ⟨_, rfl, p, _, _, _, _, rfl, s2 _ _ h1, T.clP, T.naP _ (by simp), rfl, _, rfl, b, xs, _, _, rfl, rfl, .inl (.inl (s2 _ _ h3)), atI_nat hra, ra, _, 1, nV k, rfl, rfl, .inl (.inl (s2 _ _ har)), atI_nat (j := 1) rfl, ?_⟩
      exact k1 _ _ (by rw [hj, Option.map_some, e1]) (fun _ _ e => e)
    · rw [List.length_map, range_mapA] at e
      have e3 : P.marks.map (fun j => nV (levAt P.rows j)) = ((P.marks.map (levAt P.rows)).map fun i => ((i : Nat) : Int)).map V.int := by rw [List.map_map, List.map_map]; rfl
      rw [e3] at e
      refine ⟨D, _, _, rfl, rfl, .inl (.inl e), rfl, Nat.lt_of_le_of_lt (Nat.add_le_add_left (by decide) _) hr.units, fun en => ?_, fun y ys en m hm => ?_⟩
      · have : P.high = 0 := by
          unfold Pl.high
          rw [List.map_eq_nil_iff.mp en]
          rfl
        have q' := q H2 (s1.trans s2)
        rw [this] at q'
        exact q'
      · have : m = ((P.high : Nat) : Int) := by
          unfold Pl.high
          cases el : P.marks.map (levAt P.rows) with
          | nil => rw [el] at en; cases en
          | cons z zs =>
            rw [el, List.map_cons] at en
            injection en with en1 en2
            subst en1 en2
            rw [hm, max_cast, List.foldl_cons, Nat.zero_max]
        rw [this]
        exact q H2 (s1.trans s2)
end
end Lk

set_option maxHeartbeats 4000000
namespace Lk
open PySem PySem.Spec PyProof.Rows L2
abbrev kN (i : Nat) : Key := Sum.inl ((i : Nat) : Int)
theorem dget {H : Hp} {d : Addr} {kvs : List (Key × V)} {i : Nat} {v : V} (h : Rd H d (.dK kvs)) (e : valV kvs (kN i) = some v) : DGet H d (nV i) (some v) := .inl ⟨kvs, kN i, h, rfl, e.symm⟩
def spValueOf : Sp := fun vs H Q _ => ∃ a i k t g, ∃ (r : Rw) (kvs tvs : List (Key × V)) (ring : List Str) (tr kn : Nat → Bool), vs = [.ref a, nV i, .ref k, .ref t, .ref g] ∧ H a = some (.tup r.vs) ∧ Rd H k (.dK kvs) ∧ (r.isSh = false → ∀ j ∈ r.refs, valV kvs (kN j) = some (.bl (kn j))) ∧
  Rd H t (.dK tvs) ∧ (r.isSh = true → valV tvs (kN i) = some (.bl (tr i))) ∧ H g = some (.tup (ring.map V.str)) ∧ ∀ H', Same H H' → Q (.bl (r.val tr ring kn i)) H'
def spValues : Sp := fun vs H Q _ => ∃ a b t g, ∃ (xs : List V) (rs : List Rw) (ns : List Nat) (tvs : List (Key × V)) (ring : List Str) (tr : Nat → Bool), vs = [.ref a, .ref b, .ref t, .ref g] ∧ H a = some (.tup xs) ∧ RowsAt H xs rs ∧ RowsOk rs ∧ H b = some (.lst (ns.map nV)) ∧ ns.length ≤ 120 ∧
  ns.Pairwise (· < ·) ∧ (∀ i ∈ ns, ∃ r, rs[i]? = some r ∧ ∀ j ∈ r.refs, j ∈ ns) ∧ Rd H t (.dK tvs) ∧ (∀ i ∈ ns, shAt rs i = true → valV tvs (kN i) = some (.bl (tr i))) ∧ H g = some (.tup (ring.map V.str)) ∧
  ∀ p kvs H', Same H H' → H p = none → H' p = some (.dK kvs) → (∀ i ∈ ns, valV kvs (kN i) = some (.bl (hold rs tr ring i))) → Q (.ref p) H'
section
variable {P : Program} {w : World} {K : PySem.W.Frag} {mg : Str → Option Value} {base : Heap} {cP cG cT : Addr} {f : Addr} {fd : FuncData} (T : Txt K w mg cP cG cT)
include T
theorem ok_value_of (F : FnP K "value_of" "value_of" s_value_of f fd) : FnOk P w K mg base CX0 1 f fd ["row", "at", "known", "truths", "ring"] spValueOf := by
  refine okN F sc_value_of (fun vs H Q E h => ?_) (fun cdv A outer s H vs Q E hr h => ?_)
  · obtain ⟨a, i, k, t, g, r, kvs, tvs, ring, tr, kn, rfl, _⟩ := h
    rfl
  · obtain ⟨a, i, k, t, g, r, kvs, tvs, ring, tr, kn, rfl, ha, hk, hk1, ht, ht1, hg, q⟩ := h
    refine ⟨_, (pss_cons (ps_asg (pv 0) (pg_star (n := 2) (i := 1) rfl (pgs_cons (pg_name (i := 5) sc_value_of.nd rfl (Or.inl rfl)) (pgs_star (pg_name (i := 6) sc_value_of.nd rfl (Or.inl rfl)) pgs_nil))))
      (pss_cons (ps_if (pt_cmpR op_eq (pv 5) pe_str (nomark _)) (pss_one (ps_ret (pe_and (pe_cmpR op_lt (pe_ix (ixL K) (pv 6) pe_int (fun _ _ => rfl)) (pe_callB (lenS K) (by rfl) T.len_ b_len (pa_cons (pv 4) pa_nil)) (nomark _)) (pe_one (pe_cmpR op_eq (pe_ix (ixT K) (pv 4) (pe_ix (ixL K) (pv 6) pe_int (fun _ _ => rfl)) (fun _ _ => rfl)) (pe_ix (ixL K) (pv 6) pe_int (fun _ _ => rfl)) (nomark _)))))) pss_nil)
      (pss_cons (ps_if (pt_cmpR op_eq (pv 5) pe_str (nomark _)) (pss_one (ps_ret (pe_not (pe_dget (hu_of hr) (pv 2) (pe_ix (ixL K) (pv 6) pe_int (fun _ _ => rfl)) (fun _ _ => rfl))))) pss_nil)
      (pss_cons (ps_if (pt_cmpR op_eq (pv 5) pe_str (nomark _)) (pss_one (ps_ret (pe_and (pe_dget (hu_of hr) (pv 2) (pe_ix (ixL K) (pv 6) pe_int (fun _ _ => rfl)) (fun _ _ => rfl)) (pe_one (pe_dget (hu_of hr) (pv 2) (pe_ix (ixL K) (pv 6) pe_int (fun _ _ => rfl)) (fun _ _ => rfl)))))) pss_nil)
      (pss_cons (ps_if (pt_cmpR op_eq (pv 5) pe_str (nomark _)) (pss_one (ps_ret (pe_or (pe_dget (hu_of hr) (pv 2) (pe_ix (ixL K) (pv 6) pe_int (fun _ _ => rfl)) (fun _ _ => rfl)) (pe_one (pe_dget (hu_of hr) (pv 2) (pe_ix (ixL K) (pv 6) pe_int (fun _ _ => rfl)) (fun _ _ => rfl)))))) pss_nil)
      (pss_one (ps_ret (pe_ifExp (pt_cmpR op_eq (pv 5) pe_str (nomark _)) (pe_dget (hu_of hr) (pv 3) (pv 1) (fun _ _ => rfl)) pe_bl)))))))), ?_⟩
    refine ⟨_, rfl, a, r.vs, rfl, .inr (.inl (.inl ha)), by cases r <;> (simp [Rw.vs, Rw.parts]), by cases r <;> (simp [Rw.vs, Rw.parts]), fun D hD => ?_⟩
    have eD : ((r.vs.drop 1).take (r.vs.length + 1 - 2)) = r.parts := by cases r <;> rfl
    have eT : r.vs.take 1 ++ [V.ref D] ++ (r.vs.drop 1).drop (r.vs.length + 1 - 2) = [.str r.word, .ref D] := by cases r <;> rfl
    rw [eD, eT]
    refine ⟨.str r.word, _, rfl, _, _, rfl, rfl, ?_⟩
    have s2 : Same H (upd H D (.lst r.parts)) := same_new hD
    have hD2 : (upd H D (.lst r.parts)) D = some (.lst r.parts) := upd_same
    generalize upd H D (.lst r.parts) = H2 at s2 hD2
    have hk2 := same_rd s2 hk
    have ht2 := same_rd s2 ht
    have hg2 := s2 _ _ hg
    cases r with
    | fl =>
      refine ⟨_, rfl, rfl, _, rfl, ?_⟩
      refine ifF (str_ne (a := "false") (by decide)) ?_
      refine ⟨_, rfl, rfl, _, rfl, ?_⟩
      refine ifF (str_ne (a := "false") (by decide)) ?_
      refine ⟨_, rfl, rfl, _, rfl, ?_⟩
      refine ifF (str_ne (a := "false") (by decide)) ?_
      refine ⟨_, rfl, rfl, _, rfl, ?_⟩
      refine ifF (str_ne (a := "false") (by decide)) ?_
      refine ⟨_, rfl, rfl, _, rfl, ?_⟩
      refine ifF (str_ne (a := "false") (by decide)) ?_
      exact q _ s2
    | sh m j =>
      refine ⟨_, rfl, rfl, _, rfl, ?_⟩
      refine ifF (str_ne (a := "shown") (by decide)) ?_
      refine ⟨_, rfl, rfl, _, rfl, ?_⟩
      refine ifF (str_ne (a := "shown") (by decide)) ?_
      refine ⟨_, rfl, rfl, _, rfl, ?_⟩
      refine ifF (str_ne (a := "shown") (by decide)) ?_
      refine ⟨_, rfl, rfl, _, rfl, ?_⟩
      refine ifF (str_ne (a := "shown") (by decide)) ?_
      refine ⟨_, rfl, rfl, _, rfl, ?_⟩
      refine ifT rfl ?_
      exact ⟨_, rfl, _, rfl, t, _, rfl, dget ht2 (ht1 rfl), q _ s2⟩
    | ng j =>
      refine ⟨_, rfl, rfl, _, rfl, ?_⟩
      refine ifF (str_ne (a := "not") (by decide)) ?_
      refine ⟨_, rfl, rfl, _, rfl, ?_⟩
      refine ifT rfl ?_
      refine ⟨_, rfl, _, rfl, D, _, _, (nV j), rfl, rfl, .inl (.inl hD2), atI_nat (j := 0) rfl, ?_⟩
      exact ⟨k, _, rfl, dget hk2 (hk1 rfl j (by simp [Rw.refs])), _, rfl, q _ s2⟩
    | cj j l =>
      refine ⟨_, rfl, rfl, _, rfl, ?_⟩
      refine ifF (str_ne (a := "and") (by decide)) ?_
      refine ⟨_, rfl, rfl, _, rfl, ?_⟩
      refine ifF (str_ne (a := "and") (by decide)) ?_
      refine ⟨_, rfl, rfl, _, rfl, ?_⟩
      refine ifT rfl ?_
      refine ⟨_, rfl, _, rfl, D, _, _, (nV j), rfl, rfl, .inl (.inl hD2), atI_nat (j := 0) rfl, ?_⟩
      refine ⟨k, _, rfl, dget hk2 (hk1 rfl j (by simp [Rw.refs])), _, rfl, ?_⟩
      have q := q _ s2
      simp only [Rw.val] at q
      cases h : kn j with
      | false =>
        rw [h] at q
        exact iteF q
      | true =>
        rw [h] at q
        refine iteT ?_
        refine ⟨_, rfl, _, rfl, D, _, _, (nV l), rfl, rfl, .inl (.inl hD2), atI_nat (j := 1) rfl, ?_⟩
        exact ⟨k, _, rfl, dget hk2 (hk1 rfl l (by simp [Rw.refs])), q⟩
    | dj j l =>
      refine ⟨_, rfl, rfl, _, rfl, ?_⟩
      refine ifF (str_ne (a := "or") (by decide)) ?_
      refine ⟨_, rfl, rfl, _, rfl, ?_⟩
      refine ifF (str_ne (a := "or") (by decide)) ?_
      refine ⟨_, rfl, rfl, _, rfl, ?_⟩
      refine ifF (str_ne (a := "or") (by decide)) ?_
      refine ⟨_, rfl, rfl, _, rfl, ?_⟩
      refine ifT rfl ?_
      refine ⟨_, rfl, _, rfl, D, _, _, (nV j), rfl, rfl, .inl (.inl hD2), atI_nat (j := 0) rfl, ?_⟩
      refine ⟨k, _, rfl, dget hk2 (hk1 rfl j (by simp [Rw.refs])), _, rfl, ?_⟩
      have q := q _ s2
      simp only [Rw.val] at q
      cases h : kn j with
      | true =>
        rw [h] at q
        exact iteT q
      | false =>
        rw [h] at q
        refine iteF ?_
        refine ⟨_, rfl, _, rfl, D, _, _, (nV l), rfl, rfl, .inl (.inl hD2), atI_nat (j := 1) rfl, ?_⟩
        exact ⟨k, _, rfl, dget hk2 (hk1 rfl l (by simp [Rw.refs])), q⟩
    | ds m y =>
      refine ⟨_, rfl, rfl, _, rfl, ?_⟩
      refine ifT rfl ?_
      refine ⟨_, rfl, D, _, _, (nV m), rfl, rfl, .inl (.inl hD2), atI_nat (j := 0) rfl, ?_⟩
      refine ⟨_, rfl, g, _, rfl, .inr (.inl (.inl hg2)), _, _, rfl, rfl, _, rfl, ?_⟩
      have q := q _ s2
      simp only [Rw.val] at q
      rw [List.length_map]
      by_cases hm : m < ring.length
      · refine ifT (by omega) ?_
        refine ⟨_, rfl, _, rfl, D, _, _, (nV m), rfl, rfl, .inl (.inl hD2), atI_nat (j := 0) rfl, ?_⟩
        refine ⟨g, _, _, .str ring[m], rfl, rfl, .inl (.inl hg2), atI_nat (by rw [List.getElem?_map, List.getElem?_eq_getElem hm]; rfl), ?_⟩
        refine ⟨_, rfl, D, _, _, (.str y), rfl, rfl, .inl (.inl hD2), atI_nat (j := 1) rfl, ?_⟩
        refine ⟨rfl, ?_⟩
        have e : decide (V.str ring[m] = V.str y) = decide (ring[m]? = some y) := by
          rw [List.getElem?_eq_getElem hm]
          rw [Bool.eq_iff_iff]
          simp
        rw [e]
        exact q
      · refine ifF (by omega) ?_
        rw [List.getElem?_eq_none (by omega)] at q
        exact q
end
end Lk

set_option maxHeartbeats 4000000
namespace Lk
open PySem PySem.Spec PyProof.Rows L2
theorem take_lt {ns : List Nat} (so : ns.Pairwise (· < ·)) {i m j : Nat} (e : ns[i]? = some m) (hj : j ∈ ns) (hl : j < m) : j ∈ ns.take i := by
  obtain ⟨k, hk⟩ := List.mem_iff_getElem?.mp hj
  by_cases h : k < i
  · refine List.mem_iff_getElem?.mpr ⟨k, ?_⟩
    rw [List.getElem?_take, if_pos h]
    exact hk
  · obtain ⟨hk1, hk2⟩ := List.getElem?_eq_some_iff.mp hk
    obtain ⟨hi1, hi2⟩ := List.getElem?_eq_some_iff.mp e
    by_cases e2 : k = i
    · subst e2
      rw [hk] at e
      cases e
      omega
    · have := (List.pairwise_iff_getElem.mp so) i k hi1 hk1 (by omega)
      omega
theorem trE_val {P : Pl} {tr : Nat → Bool} {i : Nat} (h : i ∈ P.marks) : valV (trE P tr) (kN i) = some (.bl (tr i)) := by
  unfold trE
  generalize P.marks = ms at h
  induction ms with
  | nil => cases h
  | cons m r ih =>
    rw [List.map_cons]
    by_cases e : m = i
    · subst e
      exact valV_pos rfl
    · rw [valV_neg (by intro z; have z : (Sum.inl ((m : Nat) : Int) : Key) = Sum.inl ((i : Nat) : Int) := z; injection z with z; omega)]
      refine ih ?_
      rcases List.mem_cons.mp h with h | h
      · exact absurd h.symm e
      · exact h
theorem cone_closed {P : Pl} (ok : RowsOk P.rows) : ∀ i ∈ P.cone, ∃ r, P.rows[i]? = some r ∧ ∀ j ∈ r.refs, j ∈ P.cone := fun i hi => by
  have h := mem_cone.mp hi
  refine ⟨_, List.getElem?_eq_getElem h.1, fun j hj => mem_cone.mpr ⟨?_, .ref h.2 (List.getElem?_eq_getElem h.1) hj⟩⟩
  have := (ok i _ (List.getElem?_eq_getElem h.1)).refs hj
  omega
theorem atI_neg {α β : Type} {xs : List α} (f : α → β) (d : α) (h : xs ≠ []) : atI (xs.map f) (-1) = some (f (xs.getLastD d)) := by
  have e : xs = xs.dropLast ++ [xs.getLast h] := (List.dropLast_concat_getLast h).symm
  have e2 : xs.getLastD d = xs.getLast h := by
    rw [List.getLastD_eq_getLast?, List.getLast?_eq_getLast h]
    rfl
  rw [e2]
  clear e2
  generalize xs.getLast h = z at e
  rw [e, List.map_append]
  exact atI_last _ _
def spMoveOf (cP : Addr) : Sp := fun vs H Q _ => ∃ p t P tr, vs = [.ref p, .ref t] ∧ PlAt cP H p P ∧ P.Ok ∧ Rd H t (.dK (trE P tr)) ∧ ∀ H', Same H H' → Q (.str (P.does tr)) H'
def spLed : Sp := fun vs H Q _ => ∃ a b t g n xs P tr ring, vs = [.ref a, .ref b, .ref t, nV n, .ref g] ∧ H a = some (.tup xs) ∧ RowsAt H xs P.rows ∧ P.Ok ∧ H b = some (.lst (P.cone.map nV)) ∧ H t = some (.dK (trE P tr)) ∧ H g = some (.tup (ring.map V.str)) ∧
  ∀ q H', Same H H' → H q = none → H' q = some (.dK (trE P (P.later tr n ring))) → Q (.ref q) H'
section
variable {P : Program} {w : World} {K : PySem.W.Frag} {mg : Str → Option Value} {base : Heap} {cP cG cT : Addr} {f : Addr} {fd : FuncData} (T : Txt K w mg cP cG cT)
include T
theorem ok_values {C_value_of : Cal P w K mg base "value_of" 1 ["row", "at", "known", "truths", "ring"] spValueOf} (F : FnP K "values" "values" s_values f fd) : FnOk P w K mg base CX0 2 f fd ["rows", "wanted", "truths", "ring"] spValues := by
  refine okN F sc_values (fun vs H Q E h => ?_) (fun cdv A outer s H vs Q E hr h => ?_)
  · obtain ⟨a, b, t, g, xs, rs, ns, tvs, ring, tr, rfl, _⟩ := h
    rfl
  · obtain ⟨a, b, t, g, xs, rs, ns, tvs, ring, tr, rfl, ha, hrs, ok, hb, hl, so, cl, ht, ht1, hg, q⟩ := h
    refine ⟨_, (pss_cons (ps_set (i := 4) sc_values.nd rfl (Or.inl rfl) pe_dnewK)
      (pss_cons (ps_for PassesOwn.never rfl (pi_sq (pv 1)) (pg_name (i := 5) sc_values.nd rfl (Or.inl rfl)) (pss_one (ps_dput (hu_of hr) (pv 4) (pv 5) (pe_cal C_value_of hr (pa_cons (pe_ix (ixT K) (pv 0) (pv 5) (fun _ _ => rfl)) (pa_cons (pv 5) (pa_cons (pv 4) (pa_cons (pv 2) (pa_cons (pv 3) pa_nil)))))) rfl)))
      (pss_one (ps_ret (pv 4))))), ?_⟩
    intro D hD
    have s0 : Same H (upd H D (.dK [])) := same_new hD
    refine ⟨_, rfl, b, _, rfl, .inl (s0 _ _ hb), fun J hJ => ?_⟩
    refine for_it hJ (fun i σ H' => Same H H' ∧ (∃ u, σ = [some (.ref a), some (.ref b), some (.ref t), some (.ref g), some (.ref D), u]) ∧ ∃ kvs : List (Key × V), H' D = some (.dK kvs) ∧ kvs.length ≤ i ∧ ∀ j ∈ ns.take i, valV kvs (kN j) = some (.bl (hold rs tr ring j)))
      ⟨s0, ⟨_, rfl⟩, [], upd_same, Nat.le_refl _, fun j hj => by simp at hj⟩ (fun i σ H' hi h => (h.1 _ _ hb).trans (s0 _ _ hb).symm) (fun i x σ H9 H2 hi h y => ?_) (fun σ H2 h => ?_)
    · obtain ⟨s2, ⟨u, rfl⟩, kvs, hd2, kl, hk⟩ := h
      obtain ⟨rfl, hx⟩ := y
      rw [List.getElem?_map] at hx
      obtain ⟨m, hm, rfl⟩ := Option.map_eq_some_iff.mp hx
      have hmn := List.mem_of_getElem? hm
      obtain ⟨r, hr', hrc⟩ := cl m hmn
      obtain ⟨ra, hra, har⟩ := hrs.get' hr'
      have hil : i < ns.length := by simpa using hi
      refine ⟨_, rfl, _, rfl, a, xs, _, _, rfl, rfl, .inl (.inl (s2 _ _ ha)), atI_nat hra, ?_⟩
      refine ⟨_, rfl, _, rfl, _, rfl, _, rfl, ?_⟩
      refine ⟨ra, m, D, t, g, r, kvs, tvs, ring, tr, hold rs tr ring, rfl, s2 _ _ har, .inl hd2, fun _ j hj => hk j (take_lt so hm (hrc j hj) ((ok m r hr').refs hj)), same_rd s2 ht, fun hs => ht1 m hmn (by unfold shAt; rw [hr']; exact hs), s2 _ _ hg, fun H3 s3 => ?_⟩
      have hd3 := s3 _ _ hd2
      refine ⟨_, rfl, _, rfl, D, _, rfl, DPut.k (k := kN m) hd3 (sz_lt (by omega)), ?_⟩
      refine ⟨same_mut (s2.trans s3) hD, ⟨_, rfl⟩, _, upd_same, ?_, fun j hj => ?_⟩
      · have := length_putK kvs (kN m) (.bl (r.val tr ring (hold rs tr ring) m))
        omega
      · rw [valV_put]
        by_cases e : j = m
        · subst e
          rw [if_pos rfl, hold_eq ok hr']
        · rw [if_neg (by intro z; injection z with z; omega)]
          refine hk j ?_
          rw [List.take_add_one, hm] at hj
          rcases List.mem_append.mp hj with h | h
          · exact h
          · exact absurd (by simpa using h) e
    · obtain ⟨s2, ⟨u, rfl⟩, kvs, hd2, kl, hk⟩ := h
      refine ⟨_, rfl, q D kvs H2 s2 hD hd2 fun i hi => hk i ?_⟩
      rw [List.take_of_length_le (by simp)]
      exact hi
theorem ok_move_of {C_values : Cal P w K mg base "values" 2 ["rows", "wanted", "truths", "ring"] spValues} {M_rows : Mth P w K mg base cP "rows" 1 ["self"] (spRows cP)} {M_moves : Mth P w K mg base cP "moves" 1 ["self"] (spMoves cP)} {M_chosen : Mth P w K mg base cP "chosen" 1 ["self"] (spChosen cP)}
    (F : FnP K "move_of" "move_of" s_move_of f fd) : FnOk P w K mg base CX0 3 f fd ["player", "truths"] (spMoveOf cP) := by
  refine okN F sc_move_of (fun vs H Q E h => ?_) (fun cdv A outer s H vs Q E hr h => ?_)
  · obtain ⟨p, t, P, tr, rfl, _⟩ := h
    rfl
  · obtain ⟨p, t, P, tr, rfl, hp, ok, ht, q⟩ := h
    obtain ⟨dx, a, b, c, d, xs, h1, h2, h3, h4, h5, h6⟩ := hp.ex
    refine ⟨_, (pss_cons (ps_set (i := 2) sc_move_of.nd rfl (Or.inl rfl) (pe_cal C_values hr (pa_cons (pe_mth0 T.clP M_rows hr (pv 0)) (pa_cons (fldK K (pv 0) rfl) (pa_cons (pv 1) (pa_cons (pe_tup pa_nil) pa_nil))))))
      (pss_cons (ps_for PassesOwn.never rfl (RZ.pi_zipA rfl T.zip_ (pa_cons (pe_mth0 T.clP M_moves hr (pv 0)) (pa_cons (pe_mth0 T.clP M_chosen hr (pv 0)) pa_nil))) (pgT K 2 rfl (pgs_cons (pg_name (i := 3) sc_move_of.nd rfl (Or.inl rfl)) (pgs_cons (pg_name (i := 4) sc_move_of.nd rfl (Or.inl rfl)) pgs_nil))) (pss_one (ps_if (pt_val (pe_dget (hu_of hr) (pv 2) (pv 4) (fun _ _ => rfl))) (pss_one (ps_ret (pv 3))) pss_nil)))
      (pss_one (ps_ret (pe_ix (ixT K) (pe_mth0 T.clP M_moves hr (pv 0)) (pe_un un_neg pe_int) (fun _ _ => rfl)))))), ?_⟩
    refine ⟨_, rfl, p, dx, _, rfl, h1, rfl, p, P, rfl, hp, fun b2 xs2 hb2 hrs2 => ?_⟩
    refine ⟨_, rfl, p, _, _, _, _, rfl, h1, T.clP, T.naP _ (by simp), rfl, _, rfl, (by show 0 ≤ sizeLine; decide), fun g hg => ?_⟩
    have s1 : Same H (upd H g (.tup [])) := same_new hg
    have hg1 : (upd H g (.tup [])) g = some (.tup []) := upd_same
    generalize upd H g (.tup []) = H1 at s1 hg1
    refine ⟨b2, d, t, g, xs2, P.rows, P.cone, trE P tr, [], tr, rfl, s1 _ _ hb2, hrs2.mono s1, ok.rows, s1 _ _ h6, cone_len P ok.len, cone_sorted _ _, cone_closed ok.rows, same_rd s1 ht, fun i hi hs => trE_val (mem_marks.mpr ⟨hi, hs⟩), hg1, fun k kvs H2 s2 nk hk hkv => ?_⟩
    have s2 := s1.trans s2
    have hp2 := hp.mono s2
    refine ⟨_, rfl, p, dx, _, rfl, s2 _ _ h1, rfl, p, P, rfl, hp2, fun m1 hm1 => ?_⟩
    refine ⟨_, rfl, p, dx, _, rfl, s2 _ _ h1, rfl, p, P, rfl, hp2, fun m2 hm2 => ?_⟩
    refine ⟨m1, m2, _, _, rfl, .inr ⟨.inl (.inl hm1), .inl (.inl hm2), ?_⟩⟩
    have hnp := ok.np
    refine for_it (walk_zipT (n := P.picks.length) (by simp; omega)) (fun i σ H' => Same H2 H' ∧ (∃ u v, σ = [some (.ref p), some (.ref t), some (.ref k), u, v]) ∧ ∀ x ∈ (P.moves.zip P.picks).take i, hold P.rows tr [] x.2 = false) ⟨fun _ _ e => e, ⟨_, _, rfl⟩, fun x hx => by simp at hx⟩
      (fun i σ H' hi h => ⟨.inl (.inl (h.1 _ _ hm1)), .inl (.inl (h.1 _ _ hm2))⟩) (fun i x σ H3 H9 hi h y => ?_) (fun σ H3 h => ?_)
    · obtain ⟨s3, ⟨u, v, rfl⟩, hf⟩ := h
      obtain ⟨t1, u1, v1, rfl, nt1, rfl, e1, e2⟩ := y
      simp only [List.getElem?_map] at e1 e2
      obtain ⟨m, hm, rfl⟩ := Option.map_eq_some_iff.mp e1
      obtain ⟨i', hi', rfl⟩ := Option.map_eq_some_iff.mp e2
      have s4 := s3.trans (same_new (o := .tup [.str m, nV i']) nt1)
      refine ⟨t1, _, rfl, .inl (.inl upd_same), rfl, _, _, rfl, _, _, rfl, rfl, ?_⟩
      have hz : (P.moves.zip P.picks)[i]? = some (m, i') := by
        rw [List.getElem?_zip_eq_some]
        exact ⟨hm, hi'⟩
      have hic : i' ∈ P.cone := mem_cone.mpr ⟨(ok.pk i' (List.mem_of_getElem? hi')).1, .pick (List.mem_of_getElem? hi')⟩
      refine ⟨_, rfl, _, rfl, k, _, rfl, dget (.inl (s4 _ _ hk)) (hkv i' hic), _, rfl, ?_⟩
      cases hh : hold P.rows tr [] i' with
      | true =>
        refine iteT ?_
        refine ⟨_, rfl, ?_⟩
        have e : P.does tr = m := by
          unfold Pl.does pickMv
          have : (P.moves.zip P.picks).find? (fun x => hold P.rows tr [] x.2) = some (m, i') := by
            rw [List.find?_eq_some_iff_getElem]
            obtain ⟨hz1, hz2⟩ := List.getElem?_eq_some_iff.mp hz
            refine ⟨hh, i, hz1, hz2, fun j hj => ?_⟩
            rw [hf _ (List.mem_iff_getElem?.mpr ⟨j, by rw [List.getElem?_take, if_pos hj]; exact List.getElem?_eq_getElem (by omega)⟩)]
            rfl
          rw [this]
          rfl
        have q' := q _ (s2.trans s4)
        rw [e] at q'
        exact q'
      | false =>
        refine iteF ?_
        refine ⟨s4, ⟨_, _, rfl⟩, fun x hx => ?_⟩
        rw [List.take_add_one, hz] at hx
        rcases List.mem_append.mp hx with h | h
        · exact hf x h
        · have : x = (m, i') := by simpa using h
          rw [this]
          exact hh
    · obtain ⟨s3, ⟨u, v, rfl⟩, hf⟩ := h
      have s3' := s2.trans s3
      refine ⟨_, rfl, p, dx, _, rfl, s3' _ _ h1, rfl, p, P, rfl, hp.mono s3', fun m3 hm3 => ?_⟩
      have hne : P.moves ≠ [] := by
        intro e
        have := ok.mv.pos
        rw [e] at this
        cases this
      refine ⟨_, rfl, m3, _, _, _, rfl, rfl, .inl (.inl hm3), atI_neg V.str "" hne, ?_⟩
      have e : P.does tr = P.moves.getLastD "" := by
        unfold Pl.does pickMv
        have : (P.moves.zip P.picks).find? (fun x => hold P.rows tr [] x.2) = none := by
          rw [List.find?_eq_none]
          intro x hx
          rw [hf x]
          · exact Bool.false_ne_true
          · rw [List.take_of_length_le (by simp; omega)]
            exact hx
        rw [this]
        rfl
      have q' := q _ s3'
      rw [e] at q'
      exact q'
end
end Lk

set_option maxHeartbeats 4000000
namespace Lk
open PySem PySem.Spec PyProof.Rows L2
def plainPl (ms : List Str) (m : Str) : Pl := ⟨ms, [.fl, .ng 0], ms.dropLast.map fun x => if x = m then 1 else 0⟩
theorem plain_ok {ms : List Str} {m : Str} (mv : Mv ms) : (plainPl ms m).Ok := by
  refine ⟨mv, ?_, show 2 ≤ 120 by decide, ?_, ?_⟩
  · intro i r e
    match i, e with
    | 0, e => cases e; trivial
    | 1, e => cases e; show 0 < 1; omega
    | i + 2, e => cases e
  · show (ms.dropLast.map _).length + 1 = ms.length
    have := mv.pos
    rw [List.length_map, List.length_dropLast]
    omega
  · intro i hi
    obtain ⟨x, _, rfl⟩ := List.mem_map.mp (show i ∈ ms.dropLast.map _ from hi)
    by_cases e : x = m
    · rw [if_pos e]
      exact ⟨show 1 < 2 by decide, rfl⟩
    · rw [if_neg e]
      exact ⟨show 0 < 2 by decide, rfl⟩
theorem in_strs (m : Str) (ms : List Str) : inV (.str m) (ms.map V.str) = decide (m ∈ ms) := by
  rw [Bool.eq_iff_iff]
  simp only [inV, List.any_eq_true, List.mem_map, decide_eq_true_eq]
  constructor
  · rintro ⟨x, ⟨y, hy, rfl⟩, e⟩
    have e : (y == m) = true := e
    exact (eq_of_beq e) ▸ hy
  · intro h
    exact ⟨_, ⟨m, h, rfl⟩, show (m == m) = true from beq_self_eq_true m⟩
theorem flat_strs (ms : List Str) : (ms.map V.str).all flatV = true := by
  rw [List.all_eq_true]
  intro x hx
  obtain ⟨y, _, rfl⟩ := List.mem_map.mp hx
  rfl
theorem trE_put {P : Pl} {tr : Nat → Bool} {i m : Nat} (h : P.marks[i]? = some m) : putK ((trE P tr).take i) (kN m) (.bl (tr m)) = (trE P tr).take (i + 1) := by
  have so := marks_sorted P
  unfold trE
  generalize P.marks = ms at h so
  rw [List.take_add_one, List.getElem?_map, h]
  show putK _ _ _ = _ ++ [(kN m, V.bl (tr m))]
  unfold putK
  rw [if_neg]
  rw [List.any_eq_true]
  rintro ⟨x, hx, e⟩
  rw [← List.map_take] at hx
  obtain ⟨j, hj, rfl⟩ := List.mem_map.mp hx
  have e : (Sum.inl ((j : Nat) : Int) : Key) = Sum.inl ((m : Nat) : Int) := of_decide_eq_true e
  injection e with e
  obtain ⟨k, hk⟩ := List.mem_iff_getElem?.mp hj
  obtain ⟨hk1, hk2⟩ := List.getElem?_eq_some_iff.mp hk
  obtain ⟨hi1, hi2⟩ := List.getElem?_eq_some_iff.mp h
  have hki : k < i := by
    rw [List.length_take] at hk1
    omega
  have := (List.pairwise_iff_getElem.mp so) k i (by omega) hi1 hki
  rw [List.getElem_take] at hk2
  omega
def spPlain (cP : Addr) : Sp := fun vs H Q _ => ∃ a ms m, vs = [.ref a, .str m] ∧ Lt H a (ms.map V.str) ∧ Mv ms ∧ m ∈ ms ∧ ∀ p H', Same H H' → PlAt cP H' p (plainPl ms m) → Q (.ref p) H'
section
variable {P : Program} {w : World} {K : PySem.W.Frag} {mg : Str → Option Value} {base : Heap} {cP cG cT : Addr} {f : Addr} {fd : FuncData} (T : Txt K w mg cP cG cT)
include T
theorem ok_led_truths {C_values : Cal P w K mg base "values" 2 ["rows", "wanted", "truths", "ring"] spValues} (F : FnP K "led_truths" "led_truths" s_led_truths f fd) : FnOk P w K mg base CX0 3 f fd ["rows", "wanted", "truths", "level", "ring"] spLed := by
  refine okN F sc_led_truths (fun vs H Q E h => ?_) (fun cdv A outer s H vs Q E hr h => ?_)
  · obtain ⟨a, b, t, g, n, xs, P, tr, ring, rfl, _⟩ := h
    rfl
  · obtain ⟨a, b, t, g, n, xs, P, tr, ring, rfl, ha, hrs, ok, hb, ht, hg, q⟩ := h
    refine ⟨_, (pss_cons (ps_set (i := 5) sc_led_truths.nd rfl (Or.inl rfl) (pe_cal C_values hr (pa_cons (pv 0) (pa_cons (pv 1) (pa_cons (pv 2) (pa_cons (pv 4) pa_nil))))))
      (pss_cons (ps_set (i := 6) sc_led_truths.nd rfl (Or.inl rfl) pe_dnewK)
      (pss_cons (ps_lock (ps_for PassesOwn.never rfl (pi_keys (pv 2)) (pg_name (i := 7) sc_led_truths.nd rfl (Or.inl rfl)) (pss_cons (ps_asg (pe_ix (ixT K) (pv 0) (pv 7) (fun _ _ => rfl)) (pgT K 3 rfl (pgs_cons (pg_name (i := 8) sc_led_truths.nd rfl (Or.inl rfl)) (pgs_cons (pg_name (i := 9) sc_led_truths.nd rfl (Or.inl rfl)) (pgs_cons (pg_name (i := 10) sc_led_truths.nd rfl (Or.inl rfl)) pgs_nil)))))
      (pss_one (ps_dput (hu_of hr) (pv 6) (pv 7) (pe_and (pe_dget (hu_of hr) (pv 2) (pv 7) (fun _ _ => rfl)) (pe_one (pe_or (pe_cmpR op_lt (pv 3) (pv 9) (nomark _)) (pe_one (pe_dget (hu_of hr) (pv 5) (pv 10) (fun _ _ => rfl)))))) rfl)))))
      (pss_one (ps_ret (pv 6)))))), ?_⟩
    refine ⟨_, rfl, _, rfl, _, rfl, _, rfl, ?_⟩
    refine ⟨a, b, t, g, xs, P.rows, P.cone, trE P tr, ring, tr, rfl, ha, hrs, ok.rows, hb, cone_len P ok.len, cone_sorted _ _, cone_closed ok.rows, .inl ht, fun i hi hs => trE_val (mem_marks.mpr ⟨hi, hs⟩), hg, fun k kvs H1 s1 nk hk hkv => ?_⟩
    intro D hD
    have s2 := s1.trans (same_new (o := .dK []) hD)
    have hk2 : (upd H1 D (.dK [])) k = some (.dK kvs) := same_new hD _ _ hk
    have hd2 : (upd H1 D (.dK [])) D = some (.dK []) := upd_same
    have nD : H D = none := none_of s1 hD
    have hkD : k ≠ D := ne_of_none hk hD
    generalize upd H1 D (.dK []) = H2 at s2 hk2 hd2
    refine ⟨t, _, s2 _ _ ht, trivial, fun od => ?_⟩
    have htD : t ≠ D := ne_of_none ht nD
    have hne : ∀ {c : Addr} {o : HO}, H c = some o → o ≠ .dK (trE P tr) → c ≠ t := fun hc h e => h (by subst e; rw [ht] at hc; exact (Option.some.inj hc).symm)
    have hkt : k ≠ t := by
      rintro rfl
      rw [s1 _ _ ht] at hk
      have := none_of s1 hD
      rw [ht] at nk
      cases nk
    refine ⟨_, rfl, t, od, rfl, .inl ⟨_, upd_same, ?_⟩⟩
    refine for_it (walk_keys (kvs := trE P tr)) (fun i σ H' => (∀ c o, c ≠ t → H c = some o → H' c = some o) ∧ H' t = some (.frz od (.dK (trE P tr))) ∧ H' k = some (.dK kvs) ∧ (∃ u1 u2 u3 u4, σ = [some (.ref a), some (.ref b), some (.ref t), some (nV n), some (.ref g), some (.ref k), some (.ref D), u1, u2, u3, u4]) ∧
      H' D = some (.dK ((trE P (P.later tr n ring)).take i))) ⟨fun c o hc e => by rw [upd_ne hc]; exact s2 _ _ e, upd_same, by rw [upd_ne hkt]; exact hk2, ⟨_, _, _, _, rfl⟩, by rw [upd_ne htD.symm]; exact hd2⟩ (fun i σ H' hi h => h.2.1) (fun i x σ H9 H3 hi h y => ?_) (fun σ H3 h => ?_)
    · obtain ⟨hf, ht3, hk3, ⟨u1, u2, u3, u4, rfl⟩, hd3⟩ := h
      obtain ⟨rfl, k', v', e1, rfl⟩ := y
      have e1' := e1
      unfold trE at e1'
      rw [List.getElem?_map] at e1'
      obtain ⟨m, hm, e2⟩ := Option.map_eq_some_iff.mp e1'
      cases e2
      have hmm := List.mem_of_getElem? hm
      obtain ⟨lv, j, hr', el, ej⟩ := sh_row hmm
      obtain ⟨ra, hra, har⟩ := hrs.get' hr'
      have hjc : j ∈ P.cone := by
        obtain ⟨r2, hr2, hc2⟩ := cone_closed ok.rows m (mem_marks.mp hmm).1
        rw [hr'] at hr2
        cases hr2
        exact hc2 j (by simp [Rw.refs])
      have hlen : ((trE P (P.later tr n ring)).take i).length < sizeLine := by
        rw [List.length_take]
        have := marks_len P ok.len
        unfold trE
        rw [List.length_map]
        exact sz_lt (by omega)
      have eL : P.later tr n ring m = (tr m && (decide (n < lv) || hold P.rows tr ring j)) := by
        unfold Pl.later
        rw [el, ej]
      refine ⟨_, rfl, _, rfl, a, xs, _, _, rfl, rfl, .inl (.inl (hf a _ (hne ha (by simp)) ha)), atI_nat hra, ?_⟩
      refine ⟨ra, _, rfl, .inl (.inl (hf ra _ (hne har (by simp)) har)), rfl, _, _, rfl, _, _, rfl, _, _, rfl, rfl, ?_⟩
      refine ⟨_, rfl, _, rfl, t, _, rfl, dget (.inr ⟨od, ht3⟩) (trE_val hmm), _, rfl, ?_⟩
      have step : ∀ v : Bool, v = P.later tr n ring m → (∀ c o, c ≠ t → H c = some o → (upd H3 D (.dK (putK ((trE P (P.later tr n ring)).take i) (kN m) (.bl v)))) c = some o) ∧ (upd H3 D (.dK (putK ((trE P (P.later tr n ring)).take i) (kN m) (.bl v)))) t = some (.frz od (.dK (trE P tr))) ∧
          (upd H3 D (.dK (putK ((trE P (P.later tr n ring)).take i) (kN m) (.bl v)))) k = some (.dK kvs) ∧ (upd H3 D (.dK (putK ((trE P (P.later tr n ring)).take i) (kN m) (.bl v)))) D = some (.dK ((trE P (P.later tr n ring)).take (i + 1))) := fun v hv => by
        refine ⟨fun c o hc e => ?_, ?_, ?_, ?_⟩
        · rw [upd_ne (ne_of_none e nD)]
          exact hf c o hc e
        · rw [upd_ne htD]
          exact ht3
        · rw [upd_ne hkD]
          exact hk3
        · rw [upd_same, hv, trE_put hm]
      cases htr : tr m with
      | false =>
        refine iteF ?_
        obtain ⟨z1, z2, z3, z4⟩ := step false (by rw [eL, htr]; rfl)
        exact ⟨_, rfl, _, rfl, D, _, rfl, DPut.k (k := kN m) hd3 hlen, z1, z2, z3, ⟨_, _, _, _, rfl⟩, z4⟩
      | true =>
        refine iteT ?_
        refine ⟨_, rfl, _, rfl, _, _, rfl, rfl, _, rfl, ?_⟩
        by_cases hn : n < lv
        · refine ifT (by omega) ?_
          obtain ⟨z1, z2, z3, z4⟩ := step true (by rw [eL, htr, decide_eq_true hn]; rfl)
          exact ⟨_, rfl, _, rfl, D, _, rfl, DPut.k (k := kN m) hd3 hlen, z1, z2, z3, ⟨_, _, _, _, rfl⟩, z4⟩
        · refine ifF (by omega) ?_
          refine ⟨_, rfl, _, rfl, k, _, rfl, dget (.inl hk3) (hkv j hjc), ?_⟩
          obtain ⟨z1, z2, z3, z4⟩ := step (hold P.rows tr ring j) (by rw [eL, htr, decide_eq_false hn]; rfl)
          exact ⟨_, rfl, _, rfl, D, _, rfl, DPut.k (k := kN m) hd3 hlen, z1, z2, z3, ⟨_, _, _, _, rfl⟩, z4⟩
    · obtain ⟨hf, ht3, hk3, ⟨u1, u2, u3, u4, rfl⟩, hd3⟩ := h
      refine ⟨ht3, _, rfl, ?_⟩
      refine q D _ (fun c o e => ?_) nD ?_
      · by_cases hc : c = t
        · subst hc
          rw [ht] at e
          cases e
          exact upd_same
        · rw [upd_ne hc]
          exact hf c o hc e
      · rw [upd_ne htD.symm, hd3, List.take_of_length_le (by unfold trE; simp)]
end
end Lk

set_option maxHeartbeats 4000000
namespace Lk
open PySem PySem.Spec PyProof.Rows L2
theorem pc_ninP {X : Cx} (P : Program) (w : World) {i o : Expr} {ty td : TE} (hu : X.A.units + 16 < cLine) (hi : PE X i ty) (ho : PE X o td) (h1 : X.prog = P := by rfl) (h2 : X.w = w := by rfl) : PC X .In i o (tNIn P w false ty td) := h1 ▸ h2 ▸ pc_nin hu hi ho
theorem ngetP {X : Cx} (P : Program) (w : World) {i o : Expr} {pos : Pos} {ty td : TE} (hu : X.A.units + 16 < cLine) (ho : PE X o td) (hi : PE X i ty) (hs : NoSl i) (h1 : X.prog = P := by rfl) (h2 : X.w = w := by rfl) : PE X (.Subscript o i pos) (tNGet P w td ty) := h1 ▸ h2 ▸ pe_nget hu ho hi hs
theorem trE_zip {L : Pl} {s : Sd} (h : s.2.length = L.marks.length) : trE L (L.tr s) = (L.marks.zip s.2).map fun x => (kN x.1, V.bl x.2) := by
  have e := tr_bits h
  unfold trE
  generalize L.tr s = g at e
  rw [← e]
  generalize L.marks = ms
  induction ms with
  | nil => rfl
  | cons m r ih => simp [ih]
theorem merge_nd : ∀ (more pre : List (Key × V)), ((pre ++ more).map (·.1)).Nodup → mergeK pre more = pre ++ more
  | [], pre, _ => by simp [mergeK]
  | x :: r, pre, nd => by
    show mergeK (putK pre x.1 x.2) r = _
    have hn : ¬ (pre.any fun kv => decide (kv.1 = x.1)) = true := by
      rw [List.any_eq_true]
      rintro ⟨y, hy, e⟩
      have e := of_decide_eq_true e
      rw [List.map_append, List.map_cons] at nd
      exact (List.nodup_append.mp nd).2.2 y.1 (List.mem_map_of_mem hy) x.1 (by simp) e
    have e : putK pre x.1 x.2 = pre ++ [x] := by
      unfold putK
      rw [if_neg hn]
    rw [e, merge_nd r _ (by rw [List.append_assoc]; exact nd), List.append_assoc]
    rfl
theorem trE_nd (L : Pl) (tr : Nat → Bool) : ((trE L tr).map (·.1)).Nodup := by
  unfold trE
  rw [List.map_map]
  exact List.Pairwise.map _ (fun a b h e => h (by have e : (Sum.inl ((a : Nat) : Int) : Key) = Sum.inl ((b : Nat) : Int) := e; injection e with e; omega)) (marks_nd L)
theorem PlAt.monoX {cP : Addr} {H H' : Hp} {x p C dx : Addr} {fs : List (Str × V)} {L : Pl} (s : SameX x H H') (hx : H x = some (.ins C dx fs)) (hf : fs.length < 4) (h : PlAt cP H p L) : PlAt cP H' p L := by
  obtain ⟨dy, a, b, c, d, xs, h1, h2, h3, h4, h5, h6⟩ := h.ex
  refine ⟨dy, a, b, c, d, xs, s _ _ (ne_x hx h1 ?_) h1, s _ _ (ne_x hx h2 (by simp)) h2, s _ _ (ne_x hx h3 (by simp)) h3, h4.monoX s hx, s _ _ (ne_x hx h5 (by simp)) h5, s _ _ (ne_x hx h6 (by simp)) h6⟩
  intro e
  injection e with _ _ e
  rw [e] at hf
  exact absurd hf (by simp)
def spNeedPlayer (cP : Addr) : Sp := fun vs H Q _ => ∃ p L, vs = [.ref p] ∧ PlAt cP H p L ∧ Q .non H
def spGait (cP cG : Addr) : Sp := fun vs H Q _ => ∃ x dx p L, vs = [.ref x, .ref p] ∧ H x = some (.ins cG dx []) ∧ PlAt cP H p L ∧ L.rows.length ≤ 120 ∧ ∀ H', SameX x H H' → GaAt cP cG H' x L → Q .non H'
def spFirst (cP cG : Addr) : Sp := fun vs H Q _ => ∃ g L, vs = [.ref g] ∧ GaAt cP cG H g L ∧ L.rows.length ≤ 120 ∧ ∀ a H', Same H H' → SdAt H' a L.init → Q (.ref a) H'
def spTruths (cP cG : Addr) : Sp := fun vs H Q _ => ∃ g a L s, vs = [.ref g, .ref a] ∧ GaAt cP cG H g L ∧ SdAt H a s ∧ s.2.length = L.marks.length ∧ ∀ q H', Same H H' → H q = none → H' q = some (.dK (trE L (L.tr s))) → Q (.ref q) H'
def spMove (cP cG : Addr) : Sp := fun vs H Q _ => ∃ g a L s, vs = [.ref g, .ref a] ∧ GaAt cP cG H g L ∧ L.Ok ∧ SdAt H a s ∧ s.2.length = L.marks.length ∧ ∀ H', Same H H' → Q (.str (L.mvs s)) H'
def spBehind (cP cG : Addr) : Sp := fun vs H Q _ => ∃ g a L s y, vs = [.ref g, .ref a, .str y] ∧ GaAt cP cG H g L ∧ L.Ok ∧ SdAt H a s ∧ s.2.length = L.marks.length ∧ ∀ q H', Same H H' → SdAt H' q (L.step s y) → Q (.ref q) H'
def spRests (cP cG : Addr) : Sp := fun vs H Q _ => ∃ g a L s y, vs = [.ref g, .ref a, .str y] ∧ GaAt cP cG H g L ∧ L.Ok ∧ SdAt H a s ∧ s.2.length = L.marks.length ∧ ∀ H', Same H H' → Q (.bl (L.rest s y)) H'
section
variable {P : Program} {w : World} {K : PySem.W.Frag} {mg : Str → Option Value} {base : Heap} {cP cG cT : Addr} {f : Addr} {fd : FuncData} (T : Txt K w mg cP cG cT)
include T
theorem ok_need_player (F : FnP K "need_player" "need_player" s_need_player f fd) : FnOk P w K mg base CX0 1 f fd ["thing"] (spNeedPlayer cP) := by
  refine okN F sc_need_player (fun vs H Q E h => ?_) (fun cdv A outer s H vs Q E hr h => ?_)
  · obtain ⟨p, L, rfl, _⟩ := h
    rfl
  · obtain ⟨p, L, rfl, hp, q⟩ := h
    obtain ⟨dx, a, b, c, d, xs, h1, h2, h3, h4, h5, h6⟩ := hp.ex
    refine ⟨_, (pss_one (ps_if (pt_not (pt_val (pe_callB call_isi (by rfl) T.isinstance_ b_isinstance (pa_cons (pv 0) (pa_cons (gl_Player T) pa_nil))))) (pss_one ps_never) pss_nil)), ?_⟩
    refine ⟨_, rfl, _, _, _, _, true, rfl, .own _, .base (.ins h1 T.clP T.isP.1 T.isP.2.1 T.isP.2.2.1 T.isP.2.2.2.1), T.isP.2.2.2.2, true, rfl, ?_⟩
    exact iteF q
theorem ok_Gait {M_showns : Mth P w K mg base cP "showns" 1 ["self"] (spShowns cP)} {M_top : Mth P w K mg base cP "top" 2 ["self"] (spTop cP)} (F : FnP K "__init__" "Gait.__init__" s_Gait___init__ f fd) :
    FnOk P w K mg base CX0 3 f fd ["self", "player"] (spGait cP cG) := by
  refine okN F sc_Gait___init (fun vs H Q E h => ?_) (fun cdv A outer s H vs Q E hr h => ?_)
  · obtain ⟨x, dx, p, L, rfl, _⟩ := h
    rfl
  · obtain ⟨x, dx, p, L, rfl, hx, hp, hl, q⟩ := h
    obtain ⟨dy, a, b, c, d, xs, h1, h2, h3, h4, h5, h6⟩ := hp.ex
    refine ⟨_, (pss_cons (ps_fld (pv 0) (pv 1) rfl)
      (pss_cons (ps_fld (pv 0) (pe_mth0 T.clP M_showns hr (pv 1)) rfl)
      (pss_one (ps_fld (pv 0) (pe_mth0 T.clP M_top hr (pv 1)) rfl)))), ?_⟩
    refine ⟨_, rfl, _, rfl, x, _, _, _, rfl, hx, T.clG, T.naG _ (by simp), by decide, ?_⟩
    have z1 : SameX x H (upd H x (.ins cG dx [("walker", .ref p)])) := sameX_upd
    have hp1 := hp.monoX z1 hx (by decide)
    have hx1 : (upd H x (.ins cG dx [("walker", .ref p)])) x = some (.ins cG dx [("walker", .ref p)]) := upd_same
    show tSeq _ _ _ _ (upd H x (.ins cG dx [("walker", .ref p)]))
    generalize upd H x (.ins cG dx [("walker", .ref p)]) = H1 at z1 hp1 hx1
    obtain ⟨dy1, a1, b1, c1, d1, xs1, g1, _⟩ := hp1.ex
    refine ⟨_, rfl, p, _, _, rfl, g1, rfl, p, L, rfl, hp1, hl, fun m H2 s2 nm hm => ?_⟩
    have hx2 := s2 _ _ hx1
    have z2 := z1.trans (sx s2)
    have hp2 := hp1.mono s2
    refine ⟨_, rfl, x, _, _, _, rfl, hx2, T.clG, T.naG _ (by simp), by simp, ?_⟩
    have e2 : putF "marks" (.ref m) [("walker", V.ref p)] = ([("walker", V.ref p), ("marks", V.ref m)] : List (Str × V)) := by rfl
    rw [e2]
    have z3 : SameX x H2 (upd H2 x (.ins cG dx [("walker", .ref p), ("marks", .ref m)])) := sameX_upd
    have hp3 := hp2.monoX z3 hx2 (by simp)
    have hm3 := z3 _ _ (ne_x hx2 hm (by simp)) hm
    have z3 := z2.trans z3
    have hx3 : (upd H2 x (.ins cG dx [("walker", .ref p), ("marks", .ref m)])) x = some (.ins cG dx [("walker", .ref p), ("marks", .ref m)]) := upd_same
    generalize upd H2 x (.ins cG dx [("walker", .ref p), ("marks", .ref m)]) = H3 at z3 hp3 hx3 hm3
    obtain ⟨dy3, a3, b3, c3, d3, xs3, g3, _⟩ := hp3.ex
    refine ⟨_, rfl, p, _, _, rfl, g3, rfl, p, L, rfl, hp3, hl, fun H4 s4 => ?_⟩
    have hx4 := s4 _ _ hx3
    refine ⟨_, rfl, x, _, _, _, rfl, hx4, T.clG, T.naG _ (by simp), by simp, ?_⟩
    have e4 : putF "high" (nV L.high) [("walker", V.ref p), ("marks", V.ref m)] = ([("walker", V.ref p), ("marks", V.ref m), ("high", nV L.high)] : List (Str × V)) := by rfl
    rw [e4]
    have z5 : SameX x H4 (upd H4 x (.ins cG dx [("walker", .ref p), ("marks", .ref m), ("high", nV L.high)])) := sameX_upd
    exact q _ ((z3.trans (sx s4)).trans z5) ⟨dx, p, m, upd_same, (hp3.mono s4).monoX z5 hx4 (by simp), z5 _ _ (ne_x hx4 (s4 _ _ hm3) (by simp)) (s4 _ _ hm3)⟩
theorem ok_first (F : FnP K "first" "Gait.first" s_Gait_first f fd) : FnOk P w K mg base CX0 1 f fd ["self"] (spFirst cP cG) := by
  refine okN F sc_Gait_first (fun vs H Q E h => ?_) (fun cdv A outer s H vs Q E hr h => ?_)
  · obtain ⟨g, L, rfl, _⟩ := h
    rfl
  · obtain ⟨g, L, rfl, hg, hl, q⟩ := h
    obtain ⟨dx, p, m, h1, h2, h3⟩ := hg.ex
    refine ⟨_, (pss_one (ps_ret (pe_tup (pa_cons pe_int (pa_cons (pe_op op_repA (pe_tup (pa_cons pe_bl pa_nil)) (pe_callB (lenS K) (by rfl) T.len_ b_len (pa_cons (fldK K (pv 0) rfl) pa_nil))) pa_nil))))), ?_⟩
    refine ⟨(by show 1 ≤ sizeLine; decide), fun t ht => ?_⟩
    have s1 : Same H (upd H t (.tup [.bl true])) := same_new ht
    have ht1 : (upd H t (.tup [.bl true])) t = some (.tup [.bl true]) := upd_same
    generalize upd H t (.tup [.bl true]) = H1 at s1 ht1
    have hml := marks_len L hl
    refine ⟨_, rfl, g, _, _, _, _, rfl, s1 _ _ h1, T.clG, T.naG _ (by simp), rfl, m, _, rfl, .inl (.inl (.inl (s1 _ _ h3))), t, _, _, rfl, rfl, ht1, by omega, by rw [List.length_map]; omega, fun b H2 s2 hb => ?_⟩
    refine ⟨(by show 2 ≤ sizeLine; decide), fun r nr => ?_⟩
    refine q r _ ((s1.trans s2).trans (same_new nr)) ⟨b, upd_same, ?_⟩
    rw [upd_ne (ne_of_none hb nr), hb, List.length_map, Int.toNat_natCast]
    show _ = some (HO.tup ((List.replicate L.marks.length true).map V.bl))
    rw [List.map_replicate]
theorem ok_truths (F : FnP K "truths" "Gait.truths" s_Gait_truths f fd) : FnOk P w K mg base CX0 1 f fd ["self", "stand"] (spTruths cP cG) := by
  refine okN F sc_Gait_truths (fun vs H Q E h => ?_) (fun cdv A outer s H vs Q E hr h => ?_)
  · obtain ⟨g, a, L, s, rfl, _⟩ := h
    rfl
  · obtain ⟨g, a, L, s, rfl, hg, ha, hl, q⟩ := h
    obtain ⟨dx, p, m, h1, h2, h3⟩ := hg.ex
    obtain ⟨b, h4, h5⟩ := ha
    refine ⟨_, (pss_one (ps_ret (pe_callTy (call_dictP rfl) (by rfl) T.dict_ b_dict (pa_cons (pe_listZip (by rfl) T.list_ (by rfl) T.zip_ (pa_cons (fldK K (pv 0) rfl) (pa_cons (pe_ix (ixT K) (pv 1) pe_int (fun _ _ => rfl)) pa_nil))) pa_nil)))), ?_⟩
    refine ⟨_, rfl, g, _, _, _, _, rfl, h1, T.clG, T.naG _ (by simp), rfl, _, rfl, a, _, _, _, rfl, rfl, .inl (.inl h4), atI_nat (j := 1) rfl, ?_⟩
    refine ⟨m, b, _, _, rfl, .inl (.inl (.inl h3)), .inr (.inl (.inl h5)), by simp [hl], fun H1 z ts s1 nz hz pr => ?_⟩
    refine ⟨z, ts, trE L (L.tr s), rfl, .inl (.inl hz), ?_, fun r nr => ?_⟩
    · rw [trE_zip hl]
      rw [List.zip_map] at pr
      clear hz
      generalize L.marks.zip s.2 = zs at pr
      induction zs generalizing ts with
      | nil => cases pr; exact .nil
      | cons y r ih =>
        cases pr with
        | cons h t => exact .cons (.inl (.inl h)) (ih _ t)
    · rw [merge_nd _ [] (by rw [List.nil_append]; exact trE_nd L _), List.nil_append]
      exact q r _ (s1.trans (same_new nr)) (none_of s1 nr) upd_same
theorem ok_move {C_move_of : Cal P w K mg base "move_of" 3 ["player", "truths"] (spMoveOf cP)} {M_truths : Mth P w K mg base cG "truths" 1 ["self", "stand"] (spTruths cP cG)} (F : FnP K "move" "Gait.move" s_Gait_move f fd) : FnOk P w K mg base CX0 4 f fd ["self", "stand"] (spMove cP cG) := by
  refine okN F sc_Gait_move (fun vs H Q E h => ?_) (fun cdv A outer s H vs Q E hr h => ?_)
  · obtain ⟨g, a, L, s, rfl, _⟩ := h
    rfl
  · obtain ⟨g, a, L, s, rfl, hg, ok, ha, hl, q⟩ := h
    obtain ⟨dx, p, m, h1, h2, h3⟩ := hg.ex
    refine ⟨_, (pss_one (ps_ret (pe_cal C_move_of hr (pa_cons (fldK K (pv 0) rfl) (pa_cons (pe_mth T.clG M_truths hr (pv 0) (pa_cons (pv 1) pa_nil)) pa_nil))))), ?_⟩
    refine ⟨_, rfl, g, _, _, _, _, rfl, h1, T.clG, T.naG _ (by simp), rfl, _, rfl, g, _, _, rfl, h1, rfl, _, rfl, g, a, L, s, rfl, hg, ha, hl, fun t H1 s1 nt ht => ?_⟩
    exact ⟨p, t, L, L.tr s, rfl, h2.mono s1, ok, .inl ht, fun H2 s2 => q _ (s1.trans s2)⟩
end
end Lk

set_option maxHeartbeats 4000000
namespace Lk
open PySem PySem.Spec PyProof.Rows L2
def sdata (s : Sd) : PyData := .tuple [.int s.1, .tuple ((s.2.map V.bl).map vD)]
theorem dp_sd {K : PySem.W.Frag} {H : Hp} {a : Addr} {s : Sd} (h : SdAt H a s) : Dp K H (.ref a) (sdata s) := by
  obtain ⟨b, h1, h2⟩ := h
  refine .tup (.inl (.inl h1)) (.cons (.int _) (.cons (.tup (.inl (.inl h2)) (dp_all _ ?_)) .nil))
  rw [List.all_eq_true]
  intro x hx
  obtain ⟨y, _, rfl⟩ := List.mem_map.mp hx
  rfl
theorem sd_shaped (s : Sd) : SeqAt.shaped (sdata s) = true := by
  obtain ⟨h1, h2⟩ := shp_all (s.2.map V.bl) (by
    rw [List.all_eq_true]
    intro x hx
    obtain ⟨y, _, rfl⟩ := List.mem_map.mp hx
    rfl)
  simp only [sdata, SeqAt.shaped, PyData.canLay0, PyData.canLayAll0, PyData.depth, PyData.depthAll, h1, h2]
  decide
theorem eqv_bits : ∀ xs ys : List Bool, PyData.eqvAll ((xs.map V.bl).map vD) ((ys.map V.bl).map vD) = decide (xs = ys)
  | [], [] => by simp [PyData.eqvAll]
  | [], _ :: _ => by simp [PyData.eqvAll]
  | _ :: _, [] => by simp [PyData.eqvAll]
  | x :: xs, y :: ys => by
    simp only [List.map_cons, vD, PyData.eqvAll, PyData.eqv, eqv_bits xs ys]
    rw [Bool.eq_iff_iff]
    simp
theorem eqv_sd (s t : Sd) : PyData.eqv (sdata s) (sdata t) = decide (s = t) := by
  simp only [sdata, PyData.eqv, PyData.eqvAll, eqv_bits]
  rw [Bool.eq_iff_iff]
  simp only [Bool.and_eq_true, decide_eq_true_eq, beq_iff_eq, Bool.and_true, and_true]
  constructor
  · rintro ⟨h1, h2⟩
    exact Prod.ext (by omega) h2
  · rintro rfl
    exact ⟨rfl, rfl⟩
section
variable {P : Program} {w : World} {K : PySem.W.Frag} {mg : Str → Option Value} {base : Heap} {cP cG cT : Addr} {f : Addr} {fd : FuncData} (T : Txt K w mg cP cG cT)
include T
theorem ok_behind {C_led_truths : Cal P w K mg base "led_truths" 3 ["rows", "wanted", "truths", "level", "ring"] spLed} {M_truths : Mth P w K mg base cG "truths" 1 ["self", "stand"] (spTruths cP cG)} {M_move : Mth P w K mg base cG "move" 4 ["self", "stand"] (spMove cP cG)}
    {M_rows : Mth P w K mg base cP "rows" 1 ["self"] (spRows cP)} (F : FnP K "behind" "Gait.behind" s_Gait_behind f fd) : FnOk P w K mg base CX0 5 f fd ["self", "stand", "letter"] (spBehind cP cG) := by
  refine okN F sc_Gait_behind (fun vs H Q E h => ?_) (fun cdv A outer s H vs Q E hr h => ?_)
  · obtain ⟨g, a, L, s, y, rfl, _⟩ := h
    rfl
  · obtain ⟨g, a, L, s, y, rfl, hg, ok, ha, hl, q⟩ := h
    have hg' := hg
    have ha' := ha
    obtain ⟨dx, p, m, h1, h2, h3⟩ := hg.ex
    obtain ⟨b, h4, h5⟩ := ha
    refine ⟨_, (pss_cons (ps_par (i := 3) (j := 4) (by rfl) sc_Gait_behind.nd rfl rfl (by decide) rfl rfl (pa_cons (pe_mth T.clG M_truths hr (pv 0) (pa_cons (pv 1) pa_nil)) (pa_cons (pe_tup (pa_cons (pe_mth T.clG M_move hr (pv 0) (pa_cons (pv 1) pa_nil)) (pa_cons (pv 2) pa_nil))) pa_nil)) (by rfl))
      (pss_cons (ps_set (i := 5) sc_Gait_behind.nd rfl (Or.inr rfl) (pe_cal C_led_truths hr (pa_cons (pe_mth0 T.clP M_rows hr (fldK K (pv 0) rfl)) (pa_cons (fldK K (fldK K (pv 0) rfl) rfl) (pa_cons (pv 3) (pa_cons (pe_ix (ixT K) (pv 1) pe_int (fun _ _ => rfl)) (pa_cons (pv 4) pa_nil)))))))
      (pss_one (ps_ret (pe_tup (pa_cons (pe_callB (call_min2 rfl) (by rfl) T.min_ b_min (pa_cons (pe_op op_add (pe_ix (ixT K) (pv 1) pe_int (fun _ _ => rfl)) pe_int) (pa_cons (fldK K (pv 0) rfl) pa_nil))) (pa_cons (pe_callTy tupA (by rfl) T.tuple_ b_tuple (pa_cons (pe_lc (own := [("at", 6)]) rfl sc_Gait_behind.nd (pi_sq (fldK K (pv 0) rfl)) (blkOk_by (own := [("at", 6)]) (N := ["self", "stand", "letter", "truths", "ring", "later", "at"]) (sc := defScope s_Gait_behind) (by decide +kernel)) (fun _ _ _ _ _ => pg_name (i := 6) sc_Gait_behind.nd rfl (Or.inl rfl)) (fun _ _ _ _ _ => pts_nil) (fun _ _ _ _ _ => (pe_dget (hu_of hr) (pv 5) (pv 6) (fun _ _ => rfl)))) pa_nil)) pa_nil))))))), ?_⟩
    refine ⟨_, rfl, g, _, _, rfl, h1, rfl, _, rfl, g, a, L, s, rfl, hg', ha', hl, fun t H1 s1 nt ht => ?_⟩
    refine ⟨_, rfl, g, _, _, rfl, s1 _ _ h1, rfl, _, rfl, g, a, L, s, rfl, hg'.mono s1, ok, ha'.mono s1, hl, fun H2 s2 => ?_⟩
    refine ⟨_, rfl, (by show 2 ≤ sizeLine; decide), fun r nr => ?_⟩
    have ht3 : (upd H2 r (.tup [.str (L.mvs s), .str y])) t = some (.dK (trE L (L.tr s))) := same_new nr _ _ (s2 _ _ ht)
    have s3 := (s1.trans s2).trans (same_new (o := .tup [.str (L.mvs s), .str y]) nr)
    have hr3 : (upd H2 r (.tup [.str (L.mvs s), .str y])) r = some (.tup [.str (L.mvs s), .str y]) := upd_same
    refine ⟨_, _, rfl, ?_⟩
    generalize upd H2 r (.tup [.str (L.mvs s), .str y]) = H3 at s3 ht3 hr3
    have hp3 := h2.mono s3
    obtain ⟨dy, wa, wb, wc, wd, xs, k1, k2, k3, k4, k5, k6⟩ := hp3.ex
    refine ⟨_, rfl, g, _, _, _, _, rfl, s3 _ _ h1, T.clG, T.naG _ (by simp), rfl, p, _, _, rfl, k1, rfl, p, L, rfl, hp3, fun b2 xs2 hb2 hrs2 => ?_⟩
    refine ⟨_, rfl, g, _, _, _, _, rfl, s3 _ _ h1, T.clG, T.naG _ (by simp), rfl, p, _, _, _, _, rfl, k1, T.clP, T.naP _ (by simp), rfl, _, rfl, _, rfl, a, _, _, _, rfl, rfl, .inl (.inl (s3 _ _ h4)), atI_nat (j := 0) rfl, _, rfl, ?_⟩
    refine ⟨b2, wd, t, r, s.1, xs2, L, L.tr s, [L.mvs s, y], rfl, hb2, hrs2, ok, k6, ht3, hr3, fun l H4 s4 nl hl4 => ?_⟩
    have s4 := s3.trans s4
    refine ⟨_, rfl, a, _, _, _, rfl, rfl, .inl (.inl (s4 _ _ h4)), atI_nat (j := 0) rfl, _, _, rfl, rfl, _, rfl, g, _, _, _, _, rfl, s4 _ _ h1, T.clG, T.naG _ (by simp), rfl, _, _, rfl, ?_⟩
    refine ⟨_, rfl, g, _, _, _, _, rfl, s4 _ _ h1, T.clG, T.naG _ (by simp), rfl, m, _, rfl, .inl (s4 _ _ h3), fun J hJ D hD => ?_⟩
    refine lcW_fm hJ (fun i => (L.marks[i]?).map fun j => .bl (L.later (L.tr s) s.1 [L.mvs s, y] j)) hD (by have := marks_len L ok.len; simp; omega) (fun H6 s6 => same_of s6 (.inl (s4 _ _ h3))) (fun i x H9 H6 hi s6 y' K1 K0 z1 z0 => ?_) (fun H6 s6 e => ?_)
    · obtain ⟨rfl, hx⟩ := y'
      rw [List.getElem?_map] at hx
      obtain ⟨j, hj, rfl⟩ := Option.map_eq_some_iff.mp hx
      refine ⟨rfl, yesT ?_⟩
      refine ⟨_, rfl, _, rfl, l, _, rfl, dget (.inl (s6 _ _ hl4)) (trE_val (List.mem_of_getElem? hj)), ?_⟩
      exact z1 _ _ (by rw [hj]; rfl) (fun _ _ e => e)
    · rw [List.length_map, range_mapA] at e
      refine ⟨D, _, rfl, .inl e, fun u H7 s7 hu => ?_⟩
      refine ⟨(by show 2 ≤ sizeLine; decide), fun z nz => ?_⟩
      refine q z _ (((s4.trans s6).trans s7).trans (same_new nz)) ⟨u, ?_, ?_⟩
      · rw [upd_same]
        have em : (if ((L.high : Nat) : Int) < ((s.1 : Nat) : Int) + 1 then ((L.high : Nat) : Int) else ((s.1 : Nat) : Int) + 1) = (((min (s.1 + 1) L.high : Nat)) : Int) := by
          split <;> omega
        rw [em]
        rfl
      · rw [upd_ne (ne_of_none hu nz), hu]
        show some (HO.tup _) = some (HO.tup ((L.marks.map _).map V.bl))
        rw [List.map_map]
        rfl
theorem ok_rests {M_behind : Mth P w K mg base cG "behind" 5 ["self", "stand", "letter"] (spBehind cP cG)} (F : FnP K "rests" "Gait.rests" s_Gait_rests f fd) : FnOk P w K mg base CX0 6 f fd ["self", "stand", "letter"] (spRests cP cG) := by
  refine okN F sc_Gait_rests (fun vs H Q E h => ?_) (fun cdv A outer s H vs Q E hr h => ?_)
  · obtain ⟨g, a, L, s, y, rfl, _⟩ := h
    rfl
  · obtain ⟨g, a, L, s, y, rfl, hg, ok, ha, hl, q⟩ := h
    have ha' := ha
    obtain ⟨dx, p, m, h1, h2, h3⟩ := hg.ex
    obtain ⟨b, h4, h5⟩ := ha
    refine ⟨_, (pss_one (ps_ret (pe_and (pe_cmpR op_eq (pe_ix (ixT K) (pv 1) pe_int (fun _ _ => rfl)) (fldK K (pv 0) rfl) (nomark _)) (pe_one (pe_cmpR (op_eqD hr.units) (pe_mth T.clG M_behind hr (pv 0) (pa_cons (pv 1) (pa_cons (pv 2) pa_nil))) (pv 1) (nomark _)))))), ?_⟩
    refine ⟨_, rfl, a, _, _, _, rfl, rfl, .inl (.inl h4), atI_nat (j := 0) rfl, _, rfl, g, _, _, _, _, rfl, h1, T.clG, T.naG _ (by simp), rfl, rfl, _, rfl, ?_⟩
    unfold Pl.rest at q
    by_cases e : s.1 = L.high
    · refine ifT (by rw [e]) ?_
      rw [decide_eq_true e] at q
      refine ⟨_, rfl, g, _, _, rfl, h1, rfl, _, rfl, _, rfl, g, a, L, s, y, rfl, hg, ok, ha', hl, fun r H1 s1 hr1 => ?_⟩
      refine ⟨_, rfl, _, _, dp_sd hr1, dp_sd (ha'.mono s1), sd_shaped _, sd_shaped _, ?_⟩
      rw [eqv_sd]
      exact q _ s1
    · have hne : ¬ V.int ((s.1 : Nat) : Int) = V.int ((L.high : Nat) : Int) := by
        intro z
        injection z with z
        omega
      refine ifF hne ?_
      rw [decide_eq_false e] at q
      exact q _ (fun _ _ e => e)
end
end Lk

set_option maxHeartbeats 4000000
namespace Lk
open PySem PySem.Spec PyProof.Rows L2
def spEnd (cP cG : Addr) : Sp := fun vs H Q _ => ∃ g a L s y, vs = [.ref g, .ref a, .str y] ∧ GaAt cP cG H g L ∧ L.Ok ∧ SdAt H a s ∧ Sd.Ok L s ∧ ∀ H', Same H H' → Q (.str (L.endM s y)) H'
/-- the search's dict and line on the heap -/
def WdsAt (H : Hp) (es : DnE) (W : List Wd) : Prop := Paired (fun (e : NestedKey × Addr × V) (x : Wd) => e.1 = skey x.1 ∧ SdAt H e.2.1 x.1 ∧ ∃ b, e.2.2 = .ref b ∧ H b = some (.tup (x.2.map V.str))) es W
def LnAt (H : Hp) (xs : List V) (W : List Wd) : Prop := Paired (fun (v : V) (x : Wd) => ∃ a, v = .ref a ∧ SdAt H a x.1) xs W
theorem WdsAt.mono {H H' : Hp} (s : Same H H') {es : DnE} {W : List Wd} (h : WdsAt H es W) : WdsAt H' es W := by
  induction h with
  | nil => exact .nil
  | cons h _ ih =>
    obtain ⟨h1, h2, b, h3, h4⟩ := h
    exact .cons ⟨h1, h2.mono s, b, h3, s _ _ h4⟩ ih
theorem LnAt.mono {H H' : Hp} (s : Same H H') {xs : List V} {W : List Wd} (h : LnAt H xs W) : LnAt H' xs W := by
  induction h with
  | nil => exact .nil
  | cons h _ ih =>
    obtain ⟨a, h1, h2⟩ := h
    exact .cons ⟨a, h1, h2.mono s⟩ ih
theorem paired_snoc {α β : Type} {R : α → β → Prop} {xs : List α} {ys : List β} {x : α} {y : β} (h : Paired R xs ys) (r : R x y) : Paired R (xs ++ [x]) (ys ++ [y]) := by
  induction h with
  | nil => exact .cons r .nil
  | cons h _ ih => exact .cons h ih
theorem paired_get {α β : Type} {R : α → β → Prop} {xs : List α} {ys : List β} (h : Paired R xs ys) : ∀ {i : Nat} {y : β}, ys[i]? = some y → ∃ x, xs[i]? = some x ∧ R x y := by
  induction h with
  | nil => intro i y e; simp at e
  | cons h _ ih =>
    intro i y e
    cases i with
    | zero => cases e; exact ⟨_, rfl, h⟩
    | succ i => exact ih (i := i) e
theorem paired_len {α β : Type} {R : α → β → Prop} {xs : List α} {ys : List β} (h : Paired R xs ys) : xs.length = ys.length := by
  induction h with
  | nil => rfl
  | cons _ _ ih => simp [ih]
theorem WdsAt.keys {H : Hp} {es : DnE} {W : List Wd} (h : WdsAt H es W) : dnKeys H es := by
  induction h with
  | nil => intro p hp; cases hp
  | cons h _ ih =>
    intro p hp
    rcases List.mem_cons.mp hp with rfl | hp
    · rw [h.1]
      exact h.2.1.nk
    · exact ih p hp
theorem WdsAt.find {H : Hp} {es : DnE} {W : List Wd} (h : WdsAt H es W) (s : Sd) : (s ∉ W.map (·.1) ∧ dnAt es (skey s) = none) ∨ ∃ x a b, x ∈ W ∧ x.1 = s ∧ dnAt es (skey s) = some (a, .ref b) ∧ H b = some (.tup (x.2.map V.str)) := by
  induction h with
  | nil => exact .inl ⟨by simp, rfl⟩
  | @cons e x _ _ h _ ih =>
    obtain ⟨h1, h2, b, h3, h4⟩ := h
    by_cases q : x.1 = s
    · refine .inr ⟨x, e.2.1, b, List.mem_cons_self, q, ?_, h4⟩
      unfold dnAt
      rw [List.find?_cons, decide_eq_true (by rw [h1, q])]
      show some (e.2.1, e.2.2) = _
      rw [h3]
    · have ek : decide (e.1 = skey s) = false := decide_eq_false fun z => q (skey_inj (by rw [← h1]; exact z))
      have er : ∀ r : DnE, dnAt (e :: r) (skey s) = dnAt r (skey s) := fun r => by
        unfold dnAt
        rw [List.find?_cons, ek]
      rw [er]
      rcases ih with ⟨i1, i2⟩ | ⟨x', a, b', i1, i2, i3, i4⟩
      · refine .inl ⟨?_, i2⟩
        rw [List.map_cons, List.mem_cons]
        rintro (z | z)
        · exact q z.symm
        · exact i1 z
      · exact .inr ⟨x', a, b', List.mem_cons_of_mem _ i1, i2, i3, i4⟩
theorem sd_uniq {W : List Wd} (nd : (W.map (·.1)).Nodup) {x y : Wd} (hx : x ∈ W) (hy : y ∈ W) (e : x.1 = y.1) : x = y := by
  induction W with
  | nil => cases hx
  | cons z r ih =>
    rw [List.map_cons, List.nodup_cons] at nd
    rcases List.mem_cons.mp hx with hx1 | hx1
    · rcases List.mem_cons.mp hy with hy1 | hy1
      · rw [hx1, hy1]
      · have hm := List.mem_map_of_mem (f := (·.1)) hy1
        rw [← e, hx1] at hm
        exact absurd hm nd.1
    · rcases List.mem_cons.mp hy with hy1 | hy1
      · have hm := List.mem_map_of_mem (f := (·.1)) hx1
        rw [e, hy1] at hm
        exact absurd hm nd.1
      · exact ih nd.2 hx1 hy1
theorem dnPut_new {es : DnE} {k : NestedKey} {a : Addr} {v : V} (h : dnAt es k = none) : dnPut es k a v = es ++ [(k, a, v)] := by
  unfold dnPut
  rw [h]
  rfl
def Pl.Small (L : Pl) : Prop := L.marks.length ≤ 4 ∧ L.high ≤ 12
theorem bound_le {L : Pl} (h : L.Small) : (L.high + 1) * 2 ^ L.marks.length ≤ 208 := by
  have h1 : 2 ^ L.marks.length ≤ 2 ^ 4 := Nat.pow_le_pow_right (by decide) h.1
  have h2 : L.high + 1 ≤ 13 := by have := h.2; omega
  calc (L.high + 1) * 2 ^ L.marks.length ≤ 13 * 2 ^ 4 := Nat.mul_le_mul h2 h1
    _ = 208 := by decide
def spWords (P : Program) (w : World) (cP cG : Addr) : Sp := fun vs H Q _ => ∃ g l L ls, vs = [.ref g, .ref l] ∧ GaAt cP cG H g L ∧ L.Ok ∧ L.Small ∧ Lt H l (ls.map V.str) ∧ Mv ls ∧
  ∀ d H' es W, Same H H' → H d = none → H' d = some (DN P w d es) → WdsAt H' es W → Bf L ls W.length W → Q (.ref d) H'
section
variable {P : Program} {w : World} {K : PySem.W.Frag} {mg : Str → Option Value} {base : Heap} {cP cG cT : Addr} {f : Addr} {fd : FuncData} (T : Txt K w mg cP cG cT)
include T
theorem ok_end {M_rests : Mth P w K mg base cG "rests" 6 ["self", "stand", "letter"] (spRests cP cG)} {M_behind : Mth P w K mg base cG "behind" 5 ["self", "stand", "letter"] (spBehind cP cG)} {M_move : Mth P w K mg base cG "move" 4 ["self", "stand"] (spMove cP cG)}
    (F : FnP K "end" "Gait.end" s_Gait_end f fd) : FnOk P w K mg base CX0 7 f fd ["self", "stand", "letter"] (spEnd cP cG) := by
  refine okN F sc_Gait_end (fun vs H Q E h => ?_) (fun cdv A outer s H vs Q E hr h => ?_)
  · obtain ⟨g, a, L, s, y, rfl, _⟩ := h
    rfl
  · obtain ⟨g, a, L, s, y, rfl, hg, ok, ha, hs, q⟩ := h
    obtain ⟨dx, p, m, h1, h2, h3⟩ := hg.ex
    refine ⟨_, (pss_cons (ps_while PassesOwn.never (pt_not (pt_val (pe_mth T.clG M_rests hr (pv 0) (pa_cons (pv 1) (pa_cons (pv 2) pa_nil))))) (pss_one (ps_set (i := 1) sc_Gait_end.nd rfl (Or.inl rfl) (pe_mth T.clG M_behind hr (pv 0) (pa_cons (pv 1) (pa_cons (pv 2) pa_nil))))))
      (pss_one (ps_ret (pe_mth T.clG M_move hr (pv 0) (pa_cons (pv 1) pa_nil))))), ?_⟩
    refine ⟨fun m σ H' => Same H H' ∧ ∃ a' s', σ = [some (.ref g), some (.ref a'), some (.str y)] ∧ SdAt H' a' s' ∧ Sd.Ok L s' ∧ L.endS s' y = L.endS s y ∧ L.mu s' = m, ⟨_, fun _ _ e => e, a, s, rfl, ha, hs, rfl, rfl⟩, ?_⟩
    rintro m' σ H1 ⟨s1, a', s', rfl, ha', hs', ee, em⟩
    refine ⟨_, rfl, g, _, _, rfl, s1 _ _ h1, rfl, _, rfl, _, rfl, g, a', L, s', y, rfl, hg.mono s1, ok, ha', hs'.2, fun H2 s2 => ⟨_, rfl, ?_⟩⟩
    have s2 := s1.trans s2
    have ha2 := ha'.mono (by assumption)
    cases hrr : L.rest s' y with
    | true =>
      refine iteF ?_
      refine ⟨_, rfl, g, _, _, rfl, s2 _ _ h1, rfl, _, rfl, g, a', L, s', rfl, hg.mono s2, ok, ha2, hs'.2, fun H3 s3 => ?_⟩
      have q := q _ (s2.trans s3)
      unfold Pl.endM at q
      rw [← ee, endS_rest hs' hrr] at q
      exact q
    | false =>
      refine iteT ?_
      refine ⟨fun σ' H'' => ∃ m'', m'' < m' ∧ Same H H'' ∧ ∃ a' s', σ' = [some (.ref g), some (.ref a'), some (.str y)] ∧ SdAt H'' a' s' ∧ Sd.Ok L s' ∧ L.endS s' y = L.endS s y ∧ L.mu s' = m'', fun σ' H'' h => h, ?_⟩
      refine ⟨_, rfl, g, _, _, rfl, s2 _ _ h1, rfl, _, rfl, _, rfl, g, a', L, s', y, rfl, hg.mono s2, ok, ha2, hs'.2, fun r H3 s3 hr3 => ?_⟩
      refine ⟨_, ?_, s2.trans s3, r, _, rfl, hr3, step_ok _ _, ?_, rfl⟩
      · have := mu_lt hs' hrr
        omega
      · rw [endS_step hs' hrr, ee]
end
end Lk

set_option maxHeartbeats 4000000
/-! ### xs != ys of two lists of one length, item by item, within one model -/
namespace PySem.SeqAt
open AutoSeq1 (wpAny_loadPart')
open MeetsSeq MeetsSeq2 MeetsSeq3 SeqRoads2
section
variable {prog : Program} {w : World}
abbrev lO (its : Array Value) (n : Nat) (dd : Option Addr) (sl : Array (Option Value)) : Obj := { cls := .type "list", dict := dd, data := .seq its n, slots := sl }
theorem neIn_go (l b : Addr) (us vs : Array Value) (n n2 : Nat) (dd dd2 : Option Addr) (sl sl2 : Array (Option Value)) (hsz : us.size = vs.size) (e : Nat → Bool) (k : Nat) :
    ∀ i : Nat, us.size - i = k → MeetsIn prog w (Builtin.«list.__eq__.loop» ⟨[.ref l, .ref b, rawInt i, rawInt 3], []⟩)
      (fun A R s => s.heap.get? l = some (lO us n dd sl) ∧ s.heap.get? b = some (lO vs n2 dd2 sl2) ∧ (∀ j (q1 : j < us.size) (q2 : j < vs.size), EqIn prog w A.in1 s us[j] vs[j] (e j)) ∧ R (.ok (.ret (.bool (!((List.range us.size).drop i).all e)))) s) := by
  induction k with
  | zero =>
    rintro i hk A R ⟨hp, g, d, tk, os⟩ ⟨hl, hb, he, h⟩
    wp_walk using (wpAny_loadPart' hl), (wpAny_loadPart' hb)
    have f1 : us[((i : Nat) : Int).toNat]? = none := by simp; omega
    have f2 : vs[((i : Nat) : Int).toNat]? = none := by simp; omega
    have f3 : (List.range us.size).drop i = [] := by simp; omega
    rw [f3] at h
    rw [f1, f2]
    wp_walk using (wpAny_loadPart' hl), (wpAny_loadPart' hb)
    show R (.ok (.ret (.bool (us.size != vs.size)))) _
    rw [hsz]
    simpa using h
  | succ k ih =>
    rintro i hk A R ⟨hp, g, d, tk, os⟩ ⟨hl, hb, he, h⟩
    wp_walk using (wpAny_loadPart' hl), (wpAny_loadPart' hb)
    have q1 : i < us.size := by omega
    have q2 : i < vs.size := by omega
    have f1 : us[((i : Nat) : Int).toNat]? = some us[i] := by simp [q1]
    have f2 : vs[((i : Nat) : Int).toNat]? = some vs[i] := by simp [q2]
    have f3 : (List.range us.size).drop i = i :: (List.range us.size).drop (i + 1) := by simp [List.drop_eq_getElem_cons, q1]
    have f4 : ((i : Int) + 1) = ((i + 1 : Nat) : Int) := by push_cast; rfl
    rw [f3, List.all_cons] at h
    rw [f1, f2]
    refine wpAny_bind (he i q1 q2 _ _ ?_)
    cases hq : e i with
    | true =>
      rw [hq] at h
      wp_walk
      rw [f4]
      exact ⟨plainId_quiet plain_eq_loop _, codeAny_builtin entry_eq_loop (by rw [Around.under_plainId plain_eq_loop _]; exact ih (i + 1) (by omega) A R _ ⟨hl, hb, he, by simpa using h⟩)⟩
    | false =>
      rw [hq] at h
      wp_walk using (wpAny_loadPart' hl), (wpAny_loadPart' hb)
      rw [f1, f2]
      wp_walk
      simpa using h
theorem neIn_list (l b : Addr) (us vs : Array Value) (n n2 : Nat) (dd dd2 : Option Addr) (sl sl2 : Array (Option Value)) (hsz : us.size = vs.size) (e : Nat → Bool) :
    MeetsIn prog w (Builtin.«list.__ne__» ⟨[.ref l, .ref b], []⟩)
      (fun A R s => s.heap.get? l = some (lO us n dd sl) ∧ s.heap.get? b = some (lO vs n2 dd2 sl2) ∧ (∀ j (q1 : j < us.size) (q2 : j < vs.size), EqIn prog w A.in1 s us[j] vs[j] (e j)) ∧ R (.ok (.ret (.bool (!(List.range us.size).all e)))) s) := by
  rintro A R ⟨hp, g, d, tk, os⟩ ⟨hl, hb, he, h⟩
  have f0 := AutoSeq1.sub_list_list
  have f1 : ¬ (us.size != vs.size) = true := by simp [hsz]
  wp_walk using (wpAny_loadPart' hl), (wpAny_loadPart' hb)
  exact ⟨plainId_quiet plain_eq_loop _, codeAny_builtin entry_eq_loop (by rw [Around.under_plainId plain_eq_loop _]; exact neIn_go l b us vs n n2 dd dd2 sl sl2 hsz e _ 0 rfl A R _ ⟨hl, hb, he, by simpa using h⟩)⟩
theorem neIn_lists {A : Around} {s : Shared} {E : Value → Shared → Prop} {l b : Addr} {us vs : Array Value} {e : Nat → Bool} {Q : Value → Shared → Prop} (hl : s.heap.IsList l us) (hb : s.heap.IsList b vs) (hsz : us.size = vs.size) (hu : A.units < cLine)
    (he : ∀ j (q1 : j < us.size) (q2 : j < vs.size), EqIn prog w A.in1 s us[j] vs[j] (e j)) (h : Q (.bool (!(List.range us.size).all e)) s) : wpAny (model prog w) A (compareOp .NotEq (.ref l) (.ref b)) Q E s := by
  obtain ⟨⟨c1, dd, d1, sl⟩, ho, k1, n, k2⟩ := id hl
  obtain ⟨⟨c2, dd2, d2, sl2⟩, ho2, k3, n2, k4⟩ := id hb
  simp only at k1 k2 k3 k4
  subst k1 k2 k3 k4
  exact wpAny_richCompare_same_room (T := "list") (op := .NotEq) ⟨_, ho, rfl⟩ ⟨_, ho2, rfl⟩ F.slot_list_ne (call_meetsIn F.slot_list_ne ⟨_, ho, rfl⟩ F.entry_list_ne (F.args_list_ne_2 _ _) (neIn_list l b us vs n n2 dd dd2 sl sl2 hsz e)
    ⟨ho, ho2, he, show Value.bool (!(List.range us.size).all e) ≠ Value.notImplemented ∧ Q (.bool (!(List.range us.size).all e)) s from ⟨(fun x => nomatch x), h⟩⟩) hu
end
end PySem.SeqAt
namespace Lk
open PySem PySem.Spec PyProof.Rows L2
/-! ### lists of dicts from numbers to truths -/
abbrev bKv (r : List (Int × Bool)) : List (Key × V) := r.map fun q => (Sum.inl q.1, V.bl q.2)
def BdAll (H : Hp) (xs : List V) (rs : List (List (Int × Bool))) : Prop := Paired (fun (x : V) (r : List (Int × Bool)) => ∃ d, x = .ref d ∧ Rd H d (.dK (bKv r))) xs rs
theorem bkv_vals : ∀ {r : List (Int × Bool)} {vs : List (Key × Value)}, KV (bKv r) vs → vs = r.map fun q => (Sum.inl q.1, Value.bool q.2)
  | [], _, .nil => rfl
  | q :: r, _, .cons h t => by
    rename_i kv vs
    obtain ⟨k, v⟩ := kv
    obtain ⟨h1, h2⟩ := h
    have h2 : v = Value.bool q.2 := h2
    rw [bkv_vals t, h2, List.map_cons]
    have ek : (Sum.inl q.1 : Key) = k := h1
    rw [← ek]
theorem bkv_inj : ∀ {r t : List (Int × Bool)}, bKv r = bKv t → r = t
  | [], [], _ => rfl
  | [], _ :: _, h => by cases h
  | _ :: _, [], h => by cases h
  | (i, b) :: r, (j, c) :: t, h => by
    injection h with h1 h2
    injection h1 with h3 h4
    have h3 : i = j := by injection h3
    have h4 : b = c := by injection h4
    rw [bkv_inj h2, h3, h4]
def lkB (r : List (Int × Bool)) : Key → Option Bool
  | .inl i => r.lookup i
  | .inr _ => none
theorem lkB_val : ∀ (r : List (Int × Bool)) (i : Int), valueAt (r.map fun q => ((Sum.inl q.1 : Key), Value.bool q.2)) (Sum.inl i) = (r.lookup i).map Value.bool
  | [], i => rfl
  | (j, b) :: r, i => by
    have ih := lkB_val r i
    unfold valueAt at ih ⊢
    rw [List.map_cons, List.find?_cons, List.lookup_cons]
    by_cases h : i = j
    · subst h
      simp
    · have e1 : decide ((Sum.inl j : Key) = Sum.inl i) = false := decide_eq_false fun z => h (by injection z with z; exact z.symm)
      rw [show (i == j) = false from beq_eq_false_iff_ne.mpr h]
      show Option.map _ (match decide ((Sum.inl j : Key) = Sum.inl i) with | true => _ | false => _) = _
      rw [e1]
      exact ih
theorem lk_mem : ∀ {r : List (Int × Bool)}, (r.map (·.1)).Nodup → ∀ {i : Int} {b : Bool}, (i, b) ∈ r → r.lookup i = some b
  | (j, c) :: r, nd, i, b, h => by
    rw [List.map_cons, List.nodup_cons] at nd
    rw [List.lookup_cons]
    rcases List.mem_cons.mp h with e | h
    · cases e
      rw [beq_self_eq_true]
    · have : i ≠ j := fun e => nd.1 (e ▸ List.mem_map.mpr ⟨_, h, rfl⟩)
      rw [show (i == j) = false from beq_eq_false_iff_ne.mpr this]
      exact lk_mem nd.2 h
theorem lk_some : ∀ {r : List (Int × Bool)} {i : Int}, i ∈ r.map (·.1) → ∃ b, r.lookup i = some b
  | (j, c) :: r, i, h => by
    rw [List.lookup_cons]
    by_cases e : i = j
    · subst e
      rw [beq_self_eq_true]
      exact ⟨c, rfl⟩
    · rw [show (i == j) = false from beq_eq_false_iff_ne.mpr e]
      exact lk_some ((List.mem_cons.mp h).resolve_left e)
theorem lk_ext : ∀ {r t : List (Int × Bool)}, r.map (·.1) = t.map (·.1) → (r.map (·.1)).Nodup → (∀ q ∈ r, r.lookup q.1 = t.lookup q.1) → r = t
  | [], [], _, _, _ => rfl
  | [], _ :: _, h, _, _ => by cases h
  | _ :: _, [], h, _, _ => by cases h
  | (i, b) :: r, (j, c) :: t, h, nd, k => by
    injection h with h1 h2
    have h1 : i = j := h1
    subst h1
    rw [List.map_cons, List.nodup_cons] at nd
    have k0 := k (i, b) (by simp)
    rw [List.lookup_cons, List.lookup_cons, beq_self_eq_true] at k0
    have k0 : b = c := by injection k0
    have kr := lk_ext h2 nd.2 fun q hq => by
      have := k q (List.mem_cons_of_mem _ hq)
      have hne : q.1 ≠ i := fun e => nd.1 (List.mem_map.mpr ⟨q, hq, e⟩)
      rw [List.lookup_cons, List.lookup_cons, show (q.1 == i) = false from beq_eq_false_iff_ne.mpr hne] at this
      exact this
    rw [k0, kr]
theorem bd_tree {X : Cx} {pins : List (Addr × Obj)} {σ : L2.St} {H : Hp} {s : Shared} (I : Inv X pins σ H s) {d1 d2 : Addr} {r t : List (Int × Bool)} (h1 : Rd H d1 (.dK (bKv r))) (h2 : Rd H d2 (.dK (bKv t))) (hk : r.map (·.1) = t.map (·.1)) (nd : (r.map (·.1)).Nodup) :
    PySem.W.EqTree X.prog X.w s 1 (.ref d1) (.ref d2) (decide (r = t)) := by
  by_cases hd : d1 = d2
  · subst hd
    have e : r = t := by
      rcases h1 with h1 | ⟨o1, h1⟩ <;> rcases h2 with h2 | ⟨o2, h2⟩ <;> rw [h1] at h2
      · injection h2 with h2; injection h2 with h2; exact bkv_inj h2
      · injection h2 with h2; cases h2
      · injection h2 with h2; cases h2
      · injection h2 with h2; injection h2 with _ h2; injection h2 with h2; exact bkv_inj h2
    rw [decide_eq_true e]
    exact .same
  · obtain ⟨_, l1, vs1, k1, D1⟩ := dk_rd I.hok h1
    obtain ⟨_, l2, vs2, k2, D2⟩ := dk_rd I.hok h2
    have e1 := bkv_vals k1
    have e2 := bkv_vals k2
    subst e1 e2
    have tr := PySem.W.EqTree.dicts (prog := X.prog) (w := X.w) (n := 0) (e := fun k => decide (lkB r k = lkB t k)) hd l1 l2 D1 D2 fun k v y hm hv => by
      obtain ⟨⟨i, b⟩, hq, e⟩ := List.mem_map.mp hm
      cases e
      rw [lkB_val] at hv
      obtain ⟨c, hc, rfl⟩ := Option.map_eq_some_iff.mp hv
      have hb := lk_mem nd hq
      show PySem.W.EqTree X.prog X.w s 0 (.bool b) (.bool c) (decide (r.lookup i = t.lookup i))
      rw [hb, hc]
      have e : decide (some b = some c) = (b == c) := by cases b <;> cases c <;> rfl
      rw [e]
      exact .leaf fun A _ => SeqAt.EqAt.bool_bool b c
    have er : (((r.map fun q => ((Sum.inl q.1 : Key), Value.bool q.2)).length == (t.map fun q => ((Sum.inl q.1 : Key), Value.bool q.2)).length) &&
        (r.map fun q => ((Sum.inl q.1 : Key), Value.bool q.2)).all fun p => (valueAt (t.map fun q => ((Sum.inl q.1 : Key), Value.bool q.2)) p.1).isSome && decide (lkB r p.1 = lkB t p.1)) = decide (r = t) := by
      have hl : r.length = t.length := by simpa using congrArg List.length hk
      rw [List.length_map, List.length_map, hl, beq_self_eq_true, Bool.true_and, Bool.eq_iff_iff, List.all_eq_true, decide_eq_true_eq]
      constructor
      · intro h
        refine lk_ext hk nd fun q hq => ?_
        have := (Bool.and_eq_true_iff.mp (h _ (List.mem_map_of_mem hq))).2
        exact of_decide_eq_true this
      · rintro rfl p hp
        obtain ⟨q, hq, rfl⟩ := List.mem_map.mp hp
        rw [lkB_val, lk_mem nd (i := q.1) (b := q.2) hq]
        simp
    rw [er] at tr
    exact tr
def rNeBd : R2 := fun x y H Q => ∃ a b xs ys rs ss, x = .ref a ∧ y = .ref b ∧ H a = some (.lst xs) ∧ H b = some (.lst ys) ∧ BdAll H xs rs ∧ BdAll H ys ss ∧ rs.map (fun r => r.map (·.1)) = ss.map (fun r => r.map (·.1)) ∧ (∀ r ∈ rs, (r.map (·.1)).Nodup) ∧ Q (.bl (!decide (rs = ss))) H
theorem op_neBd {X : Cx} (hu : X.A.units + 16 < cLine) : OpR X (compareOp .NotEq) rNeBd := by
  intro pins s σ H x y v u Q I rx ry h
  obtain ⟨a, b, xs, ys, rs, ss, rfl, rfl, ha, hb, h1, h2, hk, nd, q⟩ := h
  cases rx
  cases ry
  obtain ⟨us, r1, p1, z1⟩ := I.list (.inl (.inl ha))
  obtain ⟨vs, r2, p2, z2⟩ := I.list (.inl (.inl hb))
  have l1 := r1.length
  have l2 := r2.length
  have m1 := paired_len h1
  have m2 := paired_len h2
  have hl : rs.length = ss.length := by simpa using congrArg List.length hk
  have key : ∀ j : Nat, j < rs.length → ∃ d1 d2 r t, us[j]? = some (.ref d1) ∧ vs[j]? = some (.ref d2) ∧ rs[j]? = some r ∧ ss[j]? = some t ∧ Rd H d1 (.dK (bKv r)) ∧ Rd H d2 (.dK (bKv t)) ∧ r.map (·.1) = t.map (·.1) := fun j hj => by
    obtain ⟨x1, g1, d1, rfl, k1⟩ := paired_get h1 (List.getElem?_eq_getElem hj)
    obtain ⟨x2, g2, d2, rfl, k2⟩ := paired_get h2 (List.getElem?_eq_getElem (by omega : j < ss.length))
    obtain ⟨u1, f1, w1⟩ := r1.get g1
    obtain ⟨u2, f2, w2⟩ := r2.get g2
    cases w1
    cases w2
    refine ⟨d1, d2, _, _, f1, f2, List.getElem?_eq_getElem hj, List.getElem?_eq_getElem (by omega), k1, k2, ?_⟩
    have := congrArg (fun z => z[j]?) hk
    simp only [List.getElem?_map, List.getElem?_eq_getElem hj, List.getElem?_eq_getElem (by omega : j < ss.length), Option.map_some] at this
    exact Option.some.inj this
  refine SeqAt.neIn_lists (e := fun j => decide (rs[j]? = ss[j]?)) p1.isList p2.isList (by simp only [List.size_toArray]; omega) (by omega) (fun j q1 q2 => ?_) ?_
  · simp only [List.size_toArray] at q1 q2
    obtain ⟨d1, d2, r, t, f1, f2, g1, g2, k1, k2, e⟩ := key j (by omega)
    obtain ⟨_, e1⟩ := List.getElem?_eq_some_iff.mp f1
    obtain ⟨_, e2⟩ := List.getElem?_eq_some_iff.mp f2
    have et := (bd_tree I k1 k2 e (nd r (List.mem_of_getElem? g1))).at X.A.in1 (by show X.A.units + 1 + 1 < cLine; omega)
    have ed : decide (rs[j]? = ss[j]?) = decide (r = t) := by rw [g1, g2]; simp
    rw [ed]
    simpa [e1, e2] using et
  · have er : ((List.range us.toArray.size).all fun j => decide (rs[j]? = ss[j]?)) = decide (rs = ss) := by
      rw [Bool.eq_iff_iff, List.all_eq_true, decide_eq_true_eq]
      constructor
      · intro h
        refine List.ext_getElem? fun j => ?_
        by_cases hj : j < rs.length
        · exact of_decide_eq_true (h j (List.mem_range.mpr (by simp only [List.size_toArray]; omega)))
        · rw [List.getElem?_eq_none (by omega), List.getElem?_eq_none (by omega)]
      · rintro rfl j _
        exact decide_eq_true rfl
    rw [er]
    exact ⟨.bl (!decide (rs = ss)), H, I, rfl, q⟩
end Lk

set_option maxHeartbeats 4000000
/-! ### tuple(d.values()) -/
namespace PySem
open Sem (wp)
open AutoSeq1 (wpAny_loadPart')
section
variable {prog : Program} {w : World} {A : Around} {E : Value → Shared → Prop} {s : Shared} {r d : Addr} {n : Nat} {P : Nat → Value → Prop} {OK : Heap → Prop}
theorem tup_valsC {Q₁ : Value → Shared → Prop} (S : PySem.W.KdlSrc prog w "dict_values" r d n P OK) (hh : A.handled = none) (ok : OK s.heap) (hT : s.TypeIs (.ref r) "dict_values") (hn : n ≤ sizeLine)
    (h : ∀ (h' : Heap) (tk : Nat) (acc : Array Value), (∀ b o, s.heap.get? b = some o → h'.get? b = some o) → ItemsOf P acc n → Q₁ (.ref h'.objs.size) { s with heap := h'.push { cls := .type "tuple", data := .seq acc }, toks := tk }) :
    codeAny (model prog w) A (.call (.builtin "tuple.__new__") ⟨[.type "tuple", .ref r], []⟩) (wants Q₁ E) s := by
  refine codeAny_of_tree (show wpAny _ A.in1 (do checkBuiltinCall "tuple.__new__" ⟨[.type "tuple", .ref r], []⟩; again (.builtin "tuple.__new__" ⟨[.type "tuple", .ref r], []⟩)) _ _ s from ?_)
  refine wpAny_bind (wpAny_of_eq (F.newCall_tuple_1 _) (wpAny_pure ⟨plainId_quiet F.plain_tuple_new _, codeAny_builtin F.entry_tuple_new (by
    rw [Around.under_plainId F.plain_tuple_new _]
    have g1 := sub_tuple_self
    have g2 := init_tuple_lookup
    have g3 := madeHere_tuple
    have g4 : A.in1.handled = none := hh
    wp_walk using wpAny_typeOf hT, PySem.W.kdu_collect (A := A.in1) S g4 ok hn
    intro h' tk acc hk hacc
    refine (show wpAny _ _ (Builtin.Tuple.tupleExact acc.toList.toArray >>= fun v => ret v) _ _ _ from ?_)
    unfold Builtin.Tuple.tupleExact
    have e : acc.toList.toArray = acc := by simp
    rw [e]
    refine wpAny_bind (wpAny_newObj_type (wpAny_pure ?_) (by show acc.size ≤ sizeLine; rw [hacc.1]; exact hn))
    exact h h' tk acc hk hacc)⟩))
theorem tup_vals {Q : Value → Shared → Prop} (S : PySem.W.KdlSrc prog w "dict_values" r d n P OK) (hh : A.handled = none) (ok : OK s.heap) (hT : s.TypeIs (.ref r) "dict_values") (hn : n ≤ sizeLine)
    (hQ : ∀ (h' : Heap) (tk : Nat) (acc : Array Value), (∀ b o, s.heap.get? b = some o → h'.get? b = some o) → ItemsOf P acc n → Q (.ref h'.objs.size) { s with heap := h'.push { cls := .type "tuple", data := .seq acc }, toks := tk }) :
    wpAny (model prog w) A (call (.type "tuple") [.ref r]) Q E s := by
  refine callType_codes (Q₁ := fun ob s₁ => s₁.TypeIs ob "tuple" ∧ Q ob s₁) F.called_tuple (F.typeCall_tuple_1 _) F.entry_object_init (tup_valsC (A := A.in1) S hh ok hT hn fun h' tk acc hk hacc => ⟨⟨_, Heap.get?_push_size _ rfl, rfl⟩, hQ h' tk acc hk hacc⟩) fun ob s₁ h₁ => ?_
  exact ⟨h₁.1, F.args_object_init_2 ob _, object_init_meets F.called_tuple.init.lookup F.called_tuple.made (by decide) prog w A.in1 _ s₁ ⟨h₁.1, rfl, h₁.2⟩⟩
end
end PySem
namespace Lk
open PySem PySem.Spec PyProof.Rows L2
def tTupVals (td : TE) : TE := fun σ H Q => td σ H fun x H1 => ∃ a kvs, x = V.ref a ∧ H1 a = some (.dK kvs) ∧ ∀ p, H1 p = none → Q (.ref p) (upd H1 p (.tup (kvs.map (·.2))))
theorem pe_tupVals {X : Cx} {o : Expr} {p pos apos mpos : Pos} {td : TE} (hg : Gl X "tuple") (hm : X.mg "tuple" = none) (hd : PE X o td) (hc : X.calm = true := by rfl) (hbase : attributeBase o "values" X.env (eval o X.env) = eval o X.env := by rfl) (hline : (apos.endLine == mpos.line) = true := by rfl)
    (hs : starEach [Expr.Call (.Attribute o "values" apos) [] [] mpos] X.env = (false, eval (Expr.Call (.Attribute o "values" apos) [] [] mpos) X.env) :: starEach [] X.env := by rfl) :
    PE X (.Call (.Name "tuple" p) [.Call (.Attribute o "values" apos) [] [] mpos] [] pos) (tTupVals td) := by
  refine ⟨fun pins s σ H Q I h => ?_⟩
  refine wpAny_Call_Name_kw (ld_blt I hg hm b_tuple (PyProof.Rows.callWith_type1 ?_ hs rfl))
  rw [hs]
  show wpAny _ _ (spliced ((false, eval (.Call (.Attribute o "values" apos) [] [] mpos) X.env) :: backTo pos (starEach [] X.env))) _ _ s
  refine Calls.spliced_cons (wpAny_Call_method0_late hbase hline (thn (hd.run pins s σ H _ I h) fun v s1 ⟨x, H1, I1, r1, a, kvs, ex, ha, q⟩ => ?_))
  subst ex
  obtain rfl : v = Value.ref a := r1
  obtain ⟨z, hsys, vs, rel, dof⟩ := dk_of I1.hok ha
  obtain ⟨ep, dat⟩ := dof.dictAt
  obtain ⟨ob, es, ho, ex, hdat, hko, hpr, hnd⟩ := id dat
  refine ⟨"dict", "dict.values", F.plainAttrs_dict, F.slot_dict_values, F.type_dict_values, ⟨ob, ho, ex.1⟩, fun b e => ?_, Calls.callWith_builtin rfl (PySem.evalArgs_none ?_)⟩
  · cases e
    exact ⟨ob, ho, ex.2.1⟩
  refine call_meetsIn F.slot_dict_values ⟨ob, ho, ex.1⟩ F.entry_dict_values (F.args_dict_values_1 _) (meets_dict_values (mixKind X.prog X.w) a hsys) ⟨⟨vs, dof⟩, Calls.spliced_nil ?_⟩
  have k1 : ∀ b u, s1.heap.get? b = some u → (s1.heap.push { cls := .type "dict_values", data := .fields #[.ref a] }).get? b = some u := fun b u e => Heap.get?_push_of_some _ e
  have hv : (s1.heap.push { cls := .type "dict_values", data := .fields #[.ref a] }).IsValuesView s1.heap.objs.size a := ⟨_, Heap.get?_push_size _ rfl, rfl, rfl⟩
  have hl : vs.length = kvs.length := (KV.length rel).symm
  refine tup_vals (PySem.W.kdl_values (knd := mixKind X.prog X.w) (r := s1.heap.objs.size) (d := a) (kvs := vs) (ep := ep)) (I1.ok.hd hc) ⟨hv, dat.keep k1⟩ ⟨_, Heap.get?_push_size _ rfl, rfl⟩ (by rw [hl]; exact z) fun h' tk acc hk hacc => ?_
  have kk : ∀ b u, s1.heap.get? b = some u → h'.get? b = some u := fun b u e => hk b u (k1 b u e)
  have I2 : Inv X pins σ H1 { s1 with heap := h', toks := tk } := I1.kept kk
  have rv : Vals (kvs.map (·.2)) acc.toList := by
    have ea : acc.toList = vs.map (·.2) := by
      refine List.ext_getElem? fun j => ?_
      by_cases hj : j < vs.length
      · have hja : j < acc.toList.length := by rw [Array.length_toList, hacc.1]; exact hj
        obtain ⟨k, e⟩ := hacc.2 j acc.toList[j] (by rw [← Array.getElem?_toList, List.getElem?_eq_getElem hja])
        rw [List.getElem?_eq_getElem hja, List.getElem?_map, e]
        rfl
      · rw [List.getElem?_eq_none (by rw [Array.length_toList, hacc.1]; omega), List.getElem?_eq_none (by rw [List.length_map]; omega)]
    rw [ea]
    have key : ∀ {kvs : List (Key × V)} {vs : List (Key × Value)}, KV kvs vs → Vals (kvs.map (·.2)) (vs.map (·.2)) := fun {kvs vs} r => by
      induction r with
      | nil => exact .nil
      | cons h _ ih => exact .cons h.2 ih
    exact key rel
  have new : ObjOk X.prog X.w (upd H1 h'.objs.size (.tup (kvs.map (·.2)))) (h'.push { cls := .type "tuple", data := .seq acc }) h'.objs.size (.tup (kvs.map (·.2))) := by
    have e : acc = acc.toList.toArray := by simp
    refine ⟨by rw [List.length_map]; exact z, acc.toList, rv, ?_⟩
    rw [Array.toArray_toList]
    exact ⟨_, Heap.get?_push_size _ rfl, rfl, _, rfl⟩
  exact ⟨.ref h'.objs.size, _, I2.laid (t' := tk) (fun b o e => Heap.get?_push_of_some _ e) (Nat.le_refl _) new, rfl, q _ (I2.hok.fresh (Nat.le_refl _))⟩
end Lk

set_option maxHeartbeats 4000000
namespace Lk
open PySem PySem.Spec PyProof.Rows PySem.W L2
/-! ### sorted of a dict whose keys are stands -/
def encS (x : Addr × Sd) : PyData := .tuple [.int x.2.1, .tuple (x.2.2.map .bool)]
theorem reads_bits {h : Heap} : ∀ {bs : List Bool} {us : List Value}, Vals (bs.map V.bl) us → ReadsAll h us (bs.map PyData.bool) []
  | [], _, .nil => .nil
  | b :: r, _, .cons h t => by
    cases h
    exact .cons (as := []) (bs := []) (.bool b) (reads_bits t)
theorem reads_sd {X : Cx} {pins : List (Addr × Obj)} {σ : L2.St} {H : Hp} {s : Shared} {a : Addr} {x : Sd} (I : Inv X pins σ H s) (h : SdAt H a x) : Reads s.heap (.ref a) (encS (a, x)) [] := by
  obtain ⟨b, h1, h2⟩ := h
  obtain ⟨us, r1, p1, _⟩ := I.tuple (.inl (.inl h1))
  obtain ⟨vs, r2, p2, _⟩ := I.tuple (.inl (.inl h2))
  obtain ⟨o1, e1, c1, n1, d1⟩ := (show s.heap.IsTuple a us.toArray from p1)
  obtain ⟨o2, e2, c2, n2, d2⟩ := (show s.heap.IsTuple b vs.toArray from p2)
  obtain ⟨u1, u2, rfl, q1, q2⟩ := r1.two
  obtain ⟨t, rfl⟩ := q1
  cases q2
  refine .tuple e1 c1 d1 ?_
  exact .cons (as := []) (bs := []) (.int _ t) (.cons (as := []) (bs := []) (.tuple e2 c2 d2 (reads_bits (by simpa using r2))) .nil)
theorem each_of {α β γ : Type} {R : β → γ → Prop} (f : α → β) (g : α → γ) : ∀ l : List α, (∀ x ∈ l, R (f x) (g x)) → EachIs R (l.map f) (l.map g)
  | [], _ => .nil
  | x :: r, h => .cons (h x (by simp)) (each_of f g r fun y hy => h y (List.mem_cons_of_mem _ hy))
theorem alike_bits : ∀ xs ys : List Bool, alikeAll (xs.map PyData.bool) (ys.map PyData.bool) = true
  | [], _ => by simp [alikeAll]
  | _ :: _, [] => by simp [alikeAll]
  | x :: xs, y :: ys => by
    simp only [List.map_cons, alikeAll, alike, Bool.true_and]
    exact alike_bits xs ys
theorem depth_bits : ∀ bs : List Bool, PyData.depthAll (bs.map PyData.bool) = 0
  | [] => by simp [PyData.depthAll]
  | b :: r => by simp [PyData.depthAll, PyData.depth, depth_bits r]
theorem each_refs : ∀ {out : List Value} {l : List (Addr × Sd)}, EachIs (fun v (b : Addr × Sd) => v = .ref b.1) out l → out = l.map fun b => .ref b.1
  | _, _, .nil => rfl
  | _, _, .cons h t => by rw [h, each_refs t]; rfl
def rSrtN (P : Program) (w : World) : List V → Hp → VK → Prop := fun xs H Q => ∃ (d : Addr) (es : DnE) (ss : List Sd), xs = [V.ref d] ∧ Rd H d (DN P w d es) ∧ Paired (fun (e : NestedKey × Addr × V) (x : Sd) => SdAt H e.2.1 x) es ss ∧
  ∀ (zs : List (Addr × Sd)) (p : Addr), zs.Perm ((es.map fun e => e.2.1).zip ss) → H p = none → Q (.ref p) (upd H p (.lst (zs.map fun z => V.ref z.1)))
theorem srt_dn {X : Cx} (P : Program) (w : World) (hu : X.A.units + 16 < cLine) (hc : X.calm = true := by rfl) (h1 : X.prog = P := by rfl) (h2 : X.w = w := by rfl) : CallR X (.builtin "sorted") (rSrtN P w) := by
  subst h1 h2
  intro pins s σ H xs us Q I r ⟨d, es, ss, ex, hd, hss, q⟩
  subst ex
  obtain ⟨u, eu, rx⟩ := vals1 r
  subst eu; cases rx
  obtain ⟨z, hs, ks, pr, _, o, ar, ep, ho, hx, hdt, he⟩ := dn_ok (hd.ok I.hok)
  have l1 : ar.size = ks.length := size_of_entries he
  have l2 : es.length = ks.length := Paired.length pr
  have l3 : es.length = ss.length := Paired.length hss
  refine Calls.call_function_entry PyProof.Rows.kind_sorted PyProof.Rows.plain_sorted PyProof.Rows.entry_sorted (PyProof.Rows.args_sorted1 _) ?_
  unfold Builtin.«sorted»
  refine wpAny_bind (m := checkCount "sorted" 1 1 _) (wpAny_pure ?_)
  refine wpAny_bind (PySem.W.kdu_collect (A := X.A.in1) (kdl_raw hs hx hdt) (I.ok.hd hc) ho (by omega) fun h' tk acc hk hacc => ?_)
  have ea : acc.toList = (((es.map fun e => e.2.1).zip ss).map fun z => Value.ref z.1) := by
    have hl : acc.toList.length = ks.length := by rw [Array.length_toList, hacc.1]; exact l1
    apply List.ext_getElem?
    intro j
    rw [List.getElem?_map]
    by_cases hj : j < ks.length
    · have hja : j < acc.toList.length := by omega
      rw [List.getElem?_eq_getElem hja]
      obtain ⟨en, hen, hv⟩ := hacc.2 j acc.toList[j] (by rw [← Array.getElem?_toList]; exact List.getElem?_eq_getElem hja)
      obtain ⟨g1, g2⟩ := Array.getElem?_eq_some_iff.mp hen
      obtain ⟨k, a, v', e1, e2, _⟩ := dn_ent pr he (show j < es.length by omega) g1
      have ez : ((es.map fun e => e.2.1).zip ss)[j]? = some (a, ss[j]'(by omega)) := by
        rw [List.getElem?_zip_eq_some]
        exact ⟨by rw [List.getElem?_map, e1]; rfl, List.getElem?_eq_getElem (by omega)⟩
      rw [ez, hv, ← g2, e2]
      rfl
    · rw [List.getElem?_eq_none (by omega), List.getElem?_eq_none (by rw [List.length_zip, List.length_map]; omega)]
      rfl
  have I1 : Inv X pins σ H { s with heap := h', toks := tk } := I.kept hk
  have hzA : acc.toList.length ≤ sizeLine := by rw [Array.length_toList, hacc.1]; omega
  refine wpAny_bind (wpAny_newList ?_ hzA)
  have hoL : (h'.push (seqObj "list" acc.toList.toArray 0)).get? h'.objs.size = some (seqObj "list" acc.toList.toArray 0) := Heap.get?_push_size _ rfl
  show wpAny _ _ _ _ _ { s with heap := h'.push (seqObj "list" acc.toList.toArray 0), toks := tk }
  have hzs : ∀ z ∈ (es.map fun e => e.2.1).zip ss, SdAt H z.1 z.2 := fun z hz => by
    obtain ⟨j, hj⟩ := List.mem_iff_getElem?.mp hz
    rw [List.getElem?_zip_eq_some] at hj
    obtain ⟨j1, j2⟩ := hj
    rw [List.getElem?_map] at j1
    obtain ⟨e, je, e1⟩ := Option.map_eq_some_iff.mp j1
    obtain ⟨e', je', k⟩ := Lk.paired_get hss j2
    rw [je] at je'
    cases je'
    rw [← e1]
    exact k
  refine wpAny_bind (wpAny_holding (list_sort_data (s := { s with heap := h'.push (seqObj "list" acc.toList.toArray 0), toks := tk }) (A := X.A.in1) (enc := encS) (R := fun v (b : Addr × Sd) => v = .ref b.1) (bs := (es.map fun e => e.2.1).zip ss) hoL ?_ ?_ ?_ ?_ ?_ ?_ ?_))
  · rw [ea]
    have := each_of (R := fun v (b : Addr × Sd) => v = Value.ref b.1) (fun z : Addr × Sd => Value.ref z.1) id ((es.map fun e => e.2.1).zip ss) fun x _ => rfl
    simpa using this
  · have key := each_of (R := fun v (b : Addr × Sd) => ∃ as, Reads (h'.push (seqObj "list" acc.toList.toArray 0)) v (encS b) as ∧ h'.objs.size ∉ as) (fun z : Addr × Sd => Value.ref z.1) id ((es.map fun e => e.2.1).zip ss) fun x hx => ⟨[], Reads.keeps (fun b o e => Heap.get?_push_of_some _ (hk b o e)) (reads_sd I (hzs x hx)), by simp⟩
    rw [List.map_id] at key
    exact Eq.mpr (congrArg (fun l => EachIs (fun v (b : Addr × Sd) => ∃ as, Reads (h'.push (seqObj "list" acc.toList.toArray 0)) v (encS b) as ∧ h'.objs.size ∉ as) l ((es.map fun e => e.2.1).zip ss)) ea) key
  · intro a ha b hb
    obtain ⟨x, _, rfl⟩ := List.mem_map.mp ha
    obtain ⟨y, _, rfl⟩ := List.mem_map.mp hb
    simp [encS, alike, alikeAll, alike_bits]
  · refine .inl fun a ha => ?_
    obtain ⟨x, _, rfl⟩ := List.mem_map.mp ha
    exact ⟨_, _, rfl⟩
  · rw [List.length_zip, List.length_map]; omega
  · intro b hb
    have : (encS b).depth ≤ 2 := by
      simp [encS, PyData.depth, PyData.depthAll, depth_bits]
    show X.A.units + 1 + 1 + _ < cLine
    omega
  intro out hol heach
  have pm := List.mergeSort_perm ((es.map fun e => e.2.1).zip ss) (dataLe false encS)
  generalize ((es.map fun e => e.2.1).zip ss).mergeSort (dataLe false encS) = zs at pm heach
  have eo := each_refs heach
  subst eo
  obtain ⟨e', he'⟩ := PyProof.Rows.sortedHeap_at (vs := acc.toList) (out := (zs.map fun b => Value.ref b.1).toArray) hoL
  have hzl : zs.length = es.length := by rw [pm.length_eq, List.length_zip, List.length_map]; omega
  have rv : Vals (zs.map fun z => V.ref z.1) (zs.map fun b => Value.ref b.1) := by
    have e1 : (zs.map fun z => V.ref z.1) = (zs.map (·.1)).map V.ref := by rw [List.map_map]; rfl
    have e2 : (zs.map fun b => Value.ref b.1) = (zs.map (·.1)).map Value.ref := by rw [List.map_map]; rfl
    rw [e1, e2]
    exact vals_refs _
  have new : ObjOk X.prog X.w (upd H h'.objs.size (.lst (zs.map fun z => V.ref z.1))) (PyProof.Rows.sortedHeap (h'.push (seqObj "list" acc.toList.toArray 0)) h'.objs.size acc.toList (zs.map fun b => Value.ref b.1).toArray) h'.objs.size (.lst (zs.map fun z => V.ref z.1)) :=
    ⟨by rw [List.length_map]; omega, _, e', rv, he'⟩
  refine wpAny_pure ⟨_, rfl, .ref h'.objs.size, upd H h'.objs.size (.lst (zs.map fun z => V.ref z.1)), I1.laid (t' := tk) (fun b u e => ?_) (Nat.le_refl _) new, rfl, q _ _ pm (I1.hok.fresh (Nat.le_refl _))⟩
  have hb : b < h'.objs.size := Heap.lt_size e
  rw [PyProof.Rows.sortedHeap_old (Nat.ne_of_lt hb) (by rw [size_push']; exact Nat.lt_succ_of_lt hb)]
  exact Heap.get?_push_of_some _ e
end Lk

set_option maxHeartbeats 8000000
namespace Lk
open PySem PySem.Spec PyProof.Rows PySem.W L2
/-! ### in, not in of a tuple of data; the keys of a dict with nested keys -/
theorem hu65 {A : Around} {k : Nat} (hr : Room k A) : A.units + 65 < cLine := by
  have := hr.un
  omega
section
variable {X : Cx}
def rInT (K : PySem.W.Frag) : R2 := fun x y H Q => ∃ d ds, Dp K H x d ∧ Dp K H y (.tuple ds) ∧ SeqAt.shaped d = true ∧ SeqAt.shaped (.tuple ds) = true ∧ Q (.bl (ds.any fun z => PyData.eqv z d)) H
def rNotInT (K : PySem.W.Frag) : R2 := fun x y H Q => ∃ d ds, Dp K H x d ∧ Dp K H y (.tuple ds) ∧ SeqAt.shaped d = true ∧ SeqAt.shaped (.tuple ds) = true ∧ Q (.bl (!ds.any fun z => PyData.eqv z d)) H
theorem op_inT (hu : X.A.units + 65 < cLine) : OpR X (compareOp .In) (rInT X.K) := by
  intro pins s σ H x y v u Q I rx ry h
  obtain ⟨d, ds, hd, he, sd, se, q⟩ := h
  obtain ⟨as, r1⟩ := Dp.reads I d x v hd rx
  obtain ⟨bs, r2⟩ := Dp.reads I (.tuple ds) y u he ry
  exact SeqAt.in_tuple_reads r2 r1 (SeqAt.canLay_of_shaped se) (SeqAt.canLay_of_shaped sd) (room_in_shaped sd hu) ⟨.bl _, H, I, rfl, q⟩
theorem op_notInT (hu : X.A.units + 65 < cLine) : OpR X (compareOp .NotIn) (rNotInT X.K) := by
  intro pins s σ H x y v u Q I rx ry h
  obtain ⟨d, ds, hd, he, sd, se, q⟩ := h
  obtain ⟨as, r1⟩ := Dp.reads I d x v hd rx
  obtain ⟨bs, r2⟩ := Dp.reads I (.tuple ds) y u he ry
  exact SeqAt.notIn_tuple_reads r2 r1 (SeqAt.canLay_of_shaped se) (SeqAt.canLay_of_shaped sd) (room_in_shaped sd hu) ⟨.bl _, H, I, rfl, q⟩
end
def ItkN (P : Program) (w : World) (d : Addr) (o : Obj) (es : DnE) : It :=
  ⟨fun i H => H d = some (.frz o (DN P w d es)) ∧ i < es.length, fun i H x H' => H' = H ∧ ∃ k a v, es[i]? = some (k, a, v) ∧ x = .ref a, fun i H => H d = some (.frz o (DN P w d es)) ∧ es.length ≤ i⟩
section
variable {P : Program} {w : World} {K : PySem.W.Frag} {d : Addr} {o : Obj} {ar : Array DictEntry} {ep : Nat}
theorem turn_keysN {es : DnE} {tg : Expr} (it : Addr) (hod : o.data = .dict ar ep) : Turn P w K tg (ItkN P w d o es) [it] it (fun i h => h.IsKeyIter it d i es.length ep) where
  mem := by simp
  obj := fun i h st b hb => by
    have e : b = it := by simpa using hb
    subst e
    obtain ⟨oi, e, c, dd⟩ := st
    exact ⟨oi, e, fun v z => by rw [dd] at z; cases z⟩
  keep := fun i h h' st k => st.at fun oi e => k it (by simp) oi e
  item := by
    intro X hP hw hK hc i pins s σ H E I hf st hg
    subst hP hw hK
    obtain ⟨hd, hi⟩ := hg
    obtain ⟨f0, f1, f2, f3, f4, f5⟩ := hf it (by simp)
    obtain ⟨hs, hgd, hx, ar', ep', xs, hdt, hsz, r, g, _⟩ := dn_frz I hd
    rw [hod] at hdt
    cases hdt
    have hi2 : i < ar.size := by omega
    obtain ⟨k, a, v, hkv, ek, ru⟩ := dn_ent r g hi hi2
    refine next_key_item st hgd hod hsz (Array.getElem?_eq_getElem hi2) fun h' st' sb => ?_
    have I1 : L2.Inv X pins σ H { s with heap := h' } := I.turned (t' := s.toks) (fun b ob hb e => (sb.2 b hb).trans e) f0 f1 f3 f4 f5
    obtain ⟨oi, e, c, dd⟩ := id st'
    exact ⟨ar[i].key, rfl, go_of (s := { s with heap := h' }) e c dd (by decide) ⟨.ref a, H, I1, ek, ⟨rfl, k, a, v, hkv, rfl⟩, st', fun b hb => (hf b hb).1⟩⟩
  done := by
    intro X hP hw hK hc i pins s σ H E I hf st hg
    subst hP hw hK
    obtain ⟨hd, hi⟩ := hg
    obtain ⟨f0, f1, f2, f3, f4, f5⟩ := hf it (by simp)
    obtain ⟨hs, hgd, hx, ar', ep', xs, hdt, hsz, r, g, _⟩ := dn_frz I hd
    rw [hod] at hdt
    cases hdt
    exact next_key_end (I.ok.hd hc) st hgd hod hsz hi fun h' eb => ⟨rfl, I.turned (t' := s.toks) (fun b ob hb e => eb b ob hb e) f0 f1 f3 f4 f5⟩
  self := fun A i s Q E st h => by
    refine wpAny_pyIter_slot st.typeIs F.slot_dict_keyiterator_iter (wpAny_call_entry F.slot_dict_keyiterator_iter st.typeIs F.entry_dict_keyiterator_iter ?_ (F.args_dict_keyiterator_iter_1 _))
    show wpAny _ _ (ret (.ref it)) _ _ s
    exact wpAny_pure ⟨_, rfl, "dict_keyiterator", _, st.typeIs, F.slot_dict_keyiterator_next.lookup, h⟩
theorem walk_keysN {es : DnE} : Walk (ItkN P w d o es) es.length (fun H => H d = some (.frz o (DN P w d es))) (YAt (es.map fun e => .ref e.2.1)) := by
  refine ⟨fun i _ hi q => ⟨q, hi⟩, fun _ q => ⟨q, Nat.le_refl _⟩, fun i H v H' hi q y => ?_⟩
  obtain ⟨e, k, a, u, h1, rfl⟩ := y
  exact ⟨e, by rw [List.getElem?_map, h1]; rfl⟩
end
def iKeysN (P : Program) (w : World) (td : TE) : TI := fun σ H R => td σ H fun x H1 => ∃ d o es, x = .ref d ∧ H1 d = some (.frz o (DN P w d es)) ∧ R (ItkN P w d o es) H1
theorem pi_keysN {X : Cx} {tg e : Expr} {td : TE} (he : PE X e td) : PI X tg e (iKeysN X.prog X.w td) := by
  refine ⟨fun pins s σ H R I h => ?_⟩
  refine thn (he.run pins s σ H _ I h) fun u s1 ⟨x, H1, I1, rx, d, o, es, ex, hd, q⟩ => ?_
  subst ex
  obtain rfl : u = Value.ref d := rx
  obtain ⟨hs, hgd, hx, ar, ep, xs, hdt, hsz, r, g, _⟩ := dn_frz I1 hd
  refine iter_keys hs hgd hx hdt (pi_one (tk := s1.toks) I1 _ (turn_keysN _ hdt) ⟨_, Heap.get?_push_size _ rfl, rfl, ?_⟩ q)
  rw [hsz] <;> rfl
end Lk

set_option maxHeartbeats 4000000
namespace Lk
open PySem PySem.Spec PyProof.Rows L2
/-- t + u, one way -/
theorem catT {X : Cx} : OpR X (binaryOp .Add) (fun x y H Q => ∃ a b xs ys, x = .ref a ∧ y = .ref b ∧ H a = some (.tup xs) ∧ H b = some (.tup ys) ∧ xs.length + ys.length ≤ sizeLine ∧ ∀ p H', Same H H' → H' p = some (.tup (xs ++ ys)) → Q (.ref p) H') := by
  intro pins s σ H x y v u Q I rx ry h
  obtain ⟨a, b, xs, ys, rfl, rfl, ha, hb, hz, q⟩ := h
  refine op_catA pins s σ H _ _ v u Q I rx ry ⟨a, b, xs, ys, rfl, rfl, .inl (.inl ha), .inl (.inl hb), hz, fun e => ?_, fun _ e => ?_, fun _ _ p np => q p _ (same_new np) upd_same⟩
  · subst e
    exact q b H (fun _ _ e => e) hb
  · subst e
    exact q a H (fun _ _ e => e) (by rw [List.append_nil]; exact ha)
theorem WdsAt.updX {H : Hp} {d : Addr} {o : HO} {es : DnE} {W : List Wd} (hd : ∀ xs, H d ≠ some (.tup xs)) (h : WdsAt H es W) : WdsAt (upd H d o) es W := by
  have k : ∀ {c xs}, H c = some (.tup xs) → (upd H d o) c = some (.tup xs) := fun {c xs} e => by
    rw [upd_ne (by rintro rfl; exact hd _ e)]
    exact e
  induction h with
  | nil => exact .nil
  | cons h _ ih =>
    obtain ⟨h1, ⟨b1, h2, h2'⟩, b, h3, h4⟩ := h
    exact .cons ⟨h1, ⟨b1, k h2, k h2'⟩, b, h3, k h4⟩ ih
theorem SdAt.updX {H : Hp} {d a : Addr} {o : HO} {s : Sd} (hd : ∀ xs, H d ≠ some (.tup xs)) (h : SdAt H a s) : SdAt (upd H d o) a s := by
  have k : ∀ {c xs}, H c = some (.tup xs) → (upd H d o) c = some (.tup xs) := fun {c xs} e => by
    rw [upd_ne (by rintro rfl; exact hd _ e)]
    exact e
  obtain ⟨b1, h2, h2'⟩ := h
  exact ⟨b1, k h2, k h2'⟩
theorem LnAt.updX {H : Hp} {d : Addr} {o : HO} {xs : List V} {W : List Wd} (hd : ∀ xs, H d ≠ some (.tup xs)) (h : LnAt H xs W) : LnAt (upd H d o) xs W := by
  induction h with
  | nil => exact .nil
  | cons h _ ih =>
    obtain ⟨a, h1, h2⟩ := h
    exact .cons ⟨a, h1, h2.updX hd⟩ ih
section
variable {P : Program} {w : World} {K : PySem.W.Frag} {mg : Str → Option Value} {base : Heap} {cP cG cT : Addr} {f : Addr} {fd : FuncData} (T : Txt K w mg cP cG cT)
include T
theorem ok_words {M_first : Mth P w K mg base cG "first" 1 ["self"] (spFirst cP cG)} {M_behind : Mth P w K mg base cG "behind" 5 ["self", "stand", "letter"] (spBehind cP cG)}
    (F : FnP K "words" "Gait.words" s_Gait_words f fd) : FnOk P w K mg base CX0 6 f fd ["self", "letters"] (spWords P w cP cG) := by
  refine okN F sc_Gait_words (fun vs H Q E h => ?_) (fun cdv A outer s H vs Q E hr h => ?_)
  · obtain ⟨g, l, L, ls, rfl, _⟩ := h
    rfl
  · obtain ⟨g, l, L, ls, rfl, hg, ok, sm, hl, mvl, q⟩ := h
    obtain ⟨dx, p, m, h1, h2, h3⟩ := hg.ex
    refine ⟨_, (pss_cons (ps_par3 (i := 2) (j := 3) (l := 4) rfl sc_Gait_words.nd rfl rfl rfl (by decide) (by decide) (by decide) rfl rfl rfl (pa_cons (pe_ndisp (hu16 hr) (pe_mth0 T.clG M_first hr (pv 0)) (pe_tup pa_nil)) (pa_cons (pe_lst (pa_cons (pe_mth0 T.clG M_first hr (pv 0)) pa_nil)) (pa_cons pe_int pa_nil))) (by rfl))
      (pss_cons (ps_while PassesOwn.never (pt_cmpR op_lt (pv 4) (pe_callB (lenS K) (by rfl) T.len_ b_len (pa_cons (pv 3) pa_nil)) (nomark _)) (pss_cons (ps_set (i := 5) sc_Gait_words.nd rfl (Or.inl rfl) (pe_ix (ixL K) (pv 3) (pv 4) (fun _ _ => rfl)))
      (pss_cons (ps_for PassesOwn.never rfl (pi_sq (pv 1)) (pg_name (i := 6) sc_Gait_words.nd rfl (Or.inl rfl)) (pss_cons (ps_set (i := 7) sc_Gait_words.nd rfl (Or.inl rfl) (pe_mth T.clG M_behind hr (pv 0) (pa_cons (pv 5) (pa_cons (pv 6) pa_nil))))
      (pss_one (ps_if (pt_cmp (pc_nnotin (hu16 hr) (pv 7) (pv 2)) rfl) (pss_cons (ps_nput (hu16 hr) (pv 2) (pv 7) (pe_op catT (pe_nget (hu16 hr) (pv 2) (pv 5) (fun _ _ => rfl)) (pe_tup (pa_cons (pv 6) pa_nil))) rfl)
      (pss_one (ps_expr (pe_bm PySem.F.plainAttrs_list PySem.F.slot_list_append PySem.F.type_list_append mt_append (pv 3) (pa_cons (pv 7) pa_nil))))) pss_nil))))
      (pss_one (ps_set (i := 4) sc_Gait_words.nd rfl (Or.inl rfl) (pe_op op_add (pv 4) pe_int))))))
      (pss_one (ps_ret (pv 2))))), ?_⟩
    intro d nd
    have s0 : Same H (upd H d (.dK [])) := same_new nd
    have hd0 : (upd H d (.dK [])) d = some (.dK []) := upd_same
    generalize upd H d (.dK []) = H0 at s0 hd0
    refine ⟨_, rfl, g, _, _, rfl, s0 _ _ h1, rfl, g, L, rfl, hg.mono s0, ok.len, fun a0 H1 s1 ha0 => ?_⟩
    refine ⟨(by show 0 ≤ sizeLine; decide), fun t nt => ?_⟩
    have s2 := s1.trans (same_new (o := .tup []) nt)
    have ha2 := ha0.mono (same_new (o := .tup []) nt)
    have ht2 : (upd H1 t (.tup [])) t = some (.tup []) := upd_same
    generalize upd H1 t (.tup []) = H2 at s2 ha2 ht2
    have hd2 := s2 _ _ hd0
    refine ⟨hd2, a0, skey L.init, .ref t, rfl, ha2.nk, ?_⟩
    have s3 : Same H (upd H2 d (DN P w d [(skey L.init, a0, .ref t)])) := same_mut (s0.trans s2) nd
    have hd3 : (upd H2 d (DN P w d [(skey L.init, a0, .ref t)])) d = some (DN P w d [(skey L.init, a0, .ref t)]) := upd_same
    have hw3 : WdsAt (upd H2 d (DN P w d [(skey L.init, a0, .ref t)])) [(skey L.init, a0, .ref t)] [(L.init, [])] :=
      WdsAt.updX (fun xs e => by rw [hd2] at e; cases e) (.cons ⟨rfl, ha2, t, rfl, ht2⟩ .nil)
    show tCons _ _ _ (upd H2 d (DN P w d [(skey L.init, a0, .ref t)])) _
    generalize upd H2 d (DN P w d [(skey L.init, a0, .ref t)]) = H3 at s3 hd3 hw3
    refine ⟨_, rfl, g, _, _, rfl, s3 _ _ h1, rfl, g, L, rfl, hg.mono s3, ok.len, fun a1 H4 s4 ha1 => ?_⟩
    refine ⟨(by show 1 ≤ sizeLine; decide), fun n nn => ?_⟩
    have hd4 := s4 _ _ hd3
    have s5 : Same H (upd H4 n (.lst [.ref a1])) := (s3.trans s4).trans (same_new nn)
    have hn5 : (upd H4 n (.lst [.ref a1])) n = some (.lst [.ref a1]) := upd_same
    have hd5 : (upd H4 n (.lst [.ref a1])) d = some (DN P w d [(skey L.init, a0, .ref t)]) := same_new nn _ _ hd4
    have hw5 := (hw3.mono s4).mono (same_new (o := .lst [.ref a1]) nn)
    have hl5 : LnAt (upd H4 n (.lst [.ref a1])) [.ref a1] [(L.init, [])] := .cons ⟨a1, rfl, ha1.mono (same_new nn)⟩ .nil
    have hn0 : H n = none := none_of (s3.trans s4) nn
    generalize upd H4 n (.lst [.ref a1]) = H5 at s5 hn5 hd5 hw5 hl5
    refine ⟨_, _, _, rfl, ?_⟩
    refine ⟨fun mm σ H' => Same H H' ∧ ∃ i W es xs u v z, σ = [some (.ref g), some (.ref l), some (.ref d), some (.ref n), some (nV i), u, v, z] ∧ H' d = some (DN P w d es) ∧ H' n = some (.lst xs) ∧ WdsAt H' es W ∧ LnAt H' xs W ∧ Bf L ls i W ∧ i ≤ W.length ∧ mm = 209 - i,
      ⟨_, s5, 0, _, _, _, _, _, _, rfl, hd5, hn5, hw5, hl5, bf_zero L ls, Nat.zero_le _, rfl⟩, ?_⟩
    rintro mm σ H' ⟨s', i, W, es, xs, u, v, z, rfl, hd', hn', hw', hl', bf, hi, rfl⟩
    have hxl := paired_len hl'
    have hel := paired_len hw'
    have hwl := Nat.le_trans bf.len (bound_le sm)
    refine ⟨_, rfl, _, rfl, n, xs, rfl, .inl (.inl (.inl hn')), _, _, rfl, rfl, _, rfl, ?_⟩
    by_cases hlt : i < W.length
    · refine ifT (by omega) ?_
      obtain ⟨c, hc⟩ : ∃ c, W[i]? = some c := ⟨_, List.getElem?_eq_getElem hlt⟩
      obtain ⟨xv, hxv, a, rfl, hac⟩ := paired_get hl' hc
      refine ⟨fun σ' H'' => ∃ m'', m'' < 209 - i ∧ Same H H'' ∧ ∃ i W es xs u v z, σ' = [some (.ref g), some (.ref l), some (.ref d), some (.ref n), some (nV i), u, v, z] ∧ H'' d = some (DN P w d es) ∧ H'' n = some (.lst xs) ∧ WdsAt H'' es W ∧ LnAt H'' xs W ∧ Bf L ls i W ∧ i ≤ W.length ∧ m'' = 209 - i,
        fun σ' H'' h => h, ?_⟩
      refine ⟨_, rfl, _, rfl, n, xs, _, _, rfl, rfl, .inl (.inl hn'), atI_nat hxv, ?_⟩
      refine ⟨_, rfl, l, _, rfl, hl.mono s', fun J hJ => ?_⟩
      refine for_it hJ (fun k σ H'' => Same H H'' ∧ ∃ W es xs v z, σ = [some (.ref g), some (.ref l), some (.ref d), some (.ref n), some (nV i), some (.ref a), v, z] ∧ H'' d = some (DN P w d es) ∧ H'' n = some (.lst xs) ∧ WdsAt H'' es W ∧ LnAt H'' xs W ∧ Bg L ls i k c W ∧ SdAt H'' a c.1)
        ⟨s', W, es, xs, _, _, rfl, hd', hn', hw', hl', bf.start hc, hac⟩ (fun k σ H'' hk h => (same_of h.1 hl).trans (same_of s' hl).symm) (fun k x σ H9 H6 hk h y => ?_) (fun σ H6 h => ?_)
      · obtain ⟨s6, W, es, xs, v, z, rfl, hd6, hn6, hw6, hl6, bg, ha6⟩ := h
        obtain ⟨rfl, hx⟩ := y
        rw [List.getElem?_map] at hx
        obtain ⟨y, hy, rfl⟩ := Option.map_eq_some_iff.mp hx
        have hWl := Nat.le_trans bg.b.len (bound_le sm)
        have hEl := paired_len hw6
        have hXl := paired_len hl6
        have hcm : c ∈ W := List.mem_of_getElem? bg.at_
        refine ⟨_, rfl, g, _, _, rfl, s6 _ _ h1, rfl, _, rfl, _, rfl, g, a, L, c.1, y, rfl, hg.mono s6, ok, ha6, (bg.b.ok c hcm).2, fun r H7 s7 hr7 => ?_⟩
        have hd7 := s7 _ _ hd6
        have hn7 := s7 _ _ hn6
        have hw7 := hw6.mono s7
        have hl7 := hl6.mono s7
        have ha7 := ha6.mono s7
        have s7 := s6.trans s7
        refine ⟨_, rfl, _, rfl, r, d, es, skey (L.step c.1 y), rfl, rfl, .inl hd7, hw7.keys, hr7.nk, _, rfl, ?_⟩
        rcases hw7.find (L.step c.1 y) with ⟨f1, f2⟩ | ⟨x, a', b', f0, f1, f2, f3⟩
        · show if (!(dnAt es (skey (L.step c.1 y))).isSome) = true then _ else _
          rw [f2]
          refine iteT ?_
          rcases hw7.find c.1 with ⟨f3, _⟩ | ⟨x, a', b', g0, g1, g2, g3⟩
          · exact absurd (List.mem_map_of_mem hcm) f3
          · have exc := sd_uniq bg.b.nd g0 hcm g1
            subst exc
            refine ⟨_, rfl, _, rfl, a, d, es, skey x.1, a', .ref b', rfl, rfl, .inl hd7, hw7.keys, ha7.nk, g2, ?_⟩
            refine ⟨_, rfl, (by show 1 ≤ sizeLine; decide), fun t1 n1 => ?_⟩
            have s8 := s7.trans (same_new (o := .tup [.str y]) n1)
            have hb8 := same_new (o := .tup [.str y]) n1 _ _ g3
            have hd8 := same_new (o := .tup [.str y]) n1 _ _ hd7
            have hn8 := same_new (o := .tup [.str y]) n1 _ _ hn7
            have hw8 := hw7.mono (same_new (o := .tup [.str y]) n1)
            have hl8 := hl7.mono (same_new (o := .tup [.str y]) n1)
            have ha8 := ha7.mono (same_new (o := .tup [.str y]) n1)
            have hr8 := hr7.mono (same_new (o := .tup [.str y]) n1)
            have ht8 : (upd H7 t1 (.tup [.str y])) t1 = some (.tup [.str y]) := upd_same
            generalize upd H7 t1 (.tup [.str y]) = H8 at s8 hb8 hd8 hn8 hw8 hl8 ha8 hr8 ht8
            have hlen : x.2.length ≤ 208 := by
              obtain ⟨j, hj⟩ := List.mem_iff_getElem?.mp hcm
              exact Nat.le_trans (bg.b.wl j _ hj) (by have := (List.getElem?_eq_some_iff.mp hj).1; omega)
            refine ⟨b', t1, _, _, rfl, rfl, hb8, ht8, by rw [List.length_map]; exact sz_le (by simp; omega), fun wa H9 s9 hwa => ?_⟩
            have s10 := s8.trans s9
            have hd9 := s9 _ _ hd8
            have hn9 := s9 _ _ hn8
            have hw9 := hw8.mono s9
            have hl9 := hl8.mono s9
            have ha9 := ha8.mono s9
            have hr9 := hr8.mono s9
            refine ⟨_, rfl, _, rfl, r, d, es, skey (L.step x.1 y), rfl, rfl, hd9, hw9.keys, hr9.nk, by omega, ?_⟩
            rw [dnPut_new f2]
            have ntd : ∀ zs, H9 d ≠ some (.tup zs) := fun zs e => by rw [hd9] at e; cases e
            have s11 : Same H (upd H9 d (DN P w d (es ++ [(skey (L.step x.1 y), r, .ref wa)]))) := same_mut s10 nd
            have hdn : d ≠ n := by
              rintro rfl
              rw [hd9] at hn9
              cases hn9
            have hdA : (upd H9 d (DN P w d (es ++ [(skey (L.step x.1 y), r, .ref wa)]))) d = some (DN P w d (es ++ [(skey (L.step x.1 y), r, .ref wa)])) := upd_same
            have hnA : (upd H9 d (DN P w d (es ++ [(skey (L.step x.1 y), r, .ref wa)]))) n = some (.lst xs) := by rw [upd_ne hdn.symm]; exact hn9
            have hwA : WdsAt (upd H9 d (DN P w d (es ++ [(skey (L.step x.1 y), r, .ref wa)]))) (es ++ [(skey (L.step x.1 y), r, .ref wa)]) (W ++ [(L.step x.1 y, x.2 ++ [y])]) :=
              WdsAt.updX ntd (paired_snoc hw9 ⟨rfl, hr9, wa, rfl, by rw [hwa]; simp⟩)
            have hlA := hl9.updX (o := DN P w d (es ++ [(skey (L.step x.1 y), r, .ref wa)])) ntd
            have haA := ha9.updX (o := DN P w d (es ++ [(skey (L.step x.1 y), r, .ref wa)])) ntd
            have hrA := hr9.updX (o := DN P w d (es ++ [(skey (L.step x.1 y), r, .ref wa)])) ntd
            refine ⟨_, rfl, .inl ⟨rfl, _, .inl (.inl hnA)⟩, _, rfl, n, xs, .ref r, rfl, rfl, hnA, sz_lt (by omega), ?_⟩
            have ntn : ∀ zs, (upd H9 d (DN P w d (es ++ [(skey (L.step x.1 y), r, .ref wa)]))) n ≠ some (.tup zs) := fun zs e => by rw [hnA] at e; cases e
            exact ⟨same_mut s11 hn0, _, _, _, _, _, rfl, by rw [upd_ne hdn]; exact hdA, upd_same, hwA.updX ntn, LnAt.updX ntn (paired_snoc (y := (L.step x.1 y, x.2 ++ [y])) hlA ⟨r, rfl, hrA⟩), bg.new mvl.nd hy f1, haA.updX ntn⟩
        · show if (!(dnAt es (skey (L.step c.1 y))).isSome) = true then _ else _
          rw [f2]
          refine iteF ?_
          exact ⟨s7, W, es, xs, _, _, rfl, hd7, hn7, hw7, hl7, bg.old mvl.nd hy (f1 ▸ List.mem_map_of_mem f0), ha7⟩
      · obtain ⟨s6, W, es, xs, v, z, rfl, hd6, hn6, hw6, hl6, bg, ha6⟩ := h
        rw [List.length_map] at bg
        have hi2 : i < W.length := (List.getElem?_eq_some_iff.mp bg.at_).1
        refine ⟨_, rfl, _, _, rfl, rfl, _, ?_, s6, i + 1, W, es, xs, _, _, _, rfl, hd6, hn6, hw6, hl6, bg.fin mvl.few, hi2, rfl⟩
        omega
    · refine ifF (by omega) ?_
      have ei : i = W.length := by omega
      subst ei
      exact ⟨_, rfl, q d H' es W s' nd hd' hw' bf⟩
end
end Lk

set_option maxHeartbeats 4000000
namespace Lk
open PySem PySem.Spec PyProof.Rows L2
/-! ### walks, one inside another -/
section
variable {J : It} {n : Nat} {G : Hp → Prop} {Y : Nat → Hp → V → Hp → Prop} {P : Program} {w : World}
theorem it_by (wk : Walk J n G Y) {B : (Hp → Prop) → V → Hp → Prop} {Qd : Hp → Prop} {H0 : Hp} (Pv : Nat → Hp → Prop) (h0 : Pv 0 H0) (hG : ∀ i H, i ≤ n → Pv i H → G H)
    (hs : ∀ i x H H', i < n → Pv i H → Y i H x H' → B (Pv (i + 1)) x H') (hd : ∀ H, Pv n H → Qd H) :
    ∃ W : Nat → Nat → Hp → Prop, (∃ m, W 0 m H0) ∧ ∀ i m H, W i m H →
      (J.stop i H ∧ Qd H) ∨ (J.go i H ∧ ∃ Nx : Hp → Prop, (∀ H', Nx H' → ∃ m', m' < m ∧ W (i + 1) m' H') ∧ ∀ x H', J.yld i H x H' → B Nx x H') := by
  refine ⟨fun i m H => m = n - i ∧ i ≤ n ∧ Pv i H, ⟨n, by simp, Nat.zero_le _, h0⟩, ?_⟩
  rintro i m H ⟨rfl, hi, p⟩
  have q := hG i H hi p
  by_cases hlt : i < n
  · refine .inr ⟨wk.goes i H hlt q, Pv (i + 1), fun H' p' => ⟨n - (i + 1), by omega, rfl, hlt, p'⟩, fun x H' y => hs i x H H' hlt p (wk.yields i H x H' hlt q y)⟩
  · have e : i = n := by omega
    subst e
    exact .inl ⟨wk.stops H q, hd H p⟩
theorem it_byD (wk : Walk J n G Y) {B : (Hp → Prop) → V → Hp → Prop} {Qd : Hp → Prop} {H1 : Hp} {D : Addr} (o : HO) (em : Emp P w D o) (Pv : Nat → Hp → Prop) (h0 : Pv 0 (upd H1 D o)) (hG : ∀ i H, i ≤ n → Pv i H → G H)
    (hs : ∀ i x H H', i < n → Pv i H → Y i H x H' → B (Pv (i + 1)) x H') (hd : ∀ H, Pv n H → Qd H) :
    ∃ W : Nat → Nat → Hp → Prop, (∃ m o, Emp P w D o ∧ W 0 m (upd H1 D o)) ∧ ∀ i m H, W i m H →
      (J.stop i H ∧ Qd H) ∨ (J.go i H ∧ ∃ Nx : Hp → Prop, (∀ H', Nx H' → ∃ m', m' < m ∧ W (i + 1) m' H') ∧ ∀ x H', J.yld i H x H' → B Nx x H') := by
  refine ⟨fun i m H => m = n - i ∧ i ≤ n ∧ Pv i H, ⟨n, o, em, by simp, Nat.zero_le _, h0⟩, ?_⟩
  rintro i m H ⟨rfl, hi, p⟩
  have q := hG i H hi p
  by_cases hlt : i < n
  · refine .inr ⟨wk.goes i H hlt q, Pv (i + 1), fun H' p' => ⟨n - (i + 1), by omega, rfl, hlt, p'⟩, fun x H' y => hs i x H H' hlt p (wk.yields i H x H' hlt q y)⟩
  · have e : i = n := by omega
    subst e
    exact .inl ⟨wk.stops H q, hd H p⟩
theorem walk_itemsN {d : Addr} {o : Obj} {es : DnE} : Walk (ItN P w d o es) es.length (fun H => H d = some (.frz o (DN P w d es))) (YPair (fun i => es[i]?.map fun e => .ref e.2.1) (fun i => es[i]?.map fun e => e.2.2)) := by
  refine ⟨fun _ _ hi q => ⟨q, hi⟩, fun _ q => ⟨q, Nat.le_refl _⟩, fun i H x H' _ _ y => ?_⟩
  obtain ⟨T, k, a, v, h1, h2, h3, h4⟩ := y
  exact ⟨T, .ref a, v, h2, h3, h4, by simp [h1], by simp [h1]⟩
end
/-- a dict of pairs, by its keys -/
def MetAt (H : Hp) (es : DnE) (S : List (Str × Str)) : Prop := Paired (fun (e : NestedKey × Addr × V) (x : Str × Str) => e.1 = pkey x.1 x.2 ∧ H e.2.1 = some (.tup [.str x.1, .str x.2])) es S
theorem MetAt.keep {H H' : Hp} (k : ∀ a xs, H a = some (.tup xs) → H' a = some (.tup xs)) {es : DnE} {S : List (Str × Str)} (h : MetAt H es S) : MetAt H' es S := by
  induction h with
  | nil => exact .nil
  | cons h _ ih => exact .cons ⟨h.1, k _ _ h.2⟩ ih
theorem MetAt.keys {H : Hp} {es : DnE} {S : List (Str × Str)} (h : MetAt H es S) : dnKeys H es := by
  induction h with
  | nil => intro p hp; cases hp
  | cons h _ ih =>
    intro p hp
    rcases List.mem_cons.mp hp with rfl | hp
    · rw [h.1]
      exact pk_at h.2
    · exact ih p hp
theorem MetAt.has {H : Hp} {es : DnE} {S : List (Str × Str)} (h : MetAt H es S) (m y : Str) : (dnAt es (pkey m y)).isSome = decide ((m, y) ∈ S) := by
  induction h with
  | nil => rfl
  | @cons e x _ _ h _ ih =>
    unfold dnAt at ih ⊢
    rw [List.find?_cons]
    by_cases q : x = (m, y)
    · rw [decide_eq_true (by rw [h.1, q]), decide_eq_true (by rw [q]; exact List.mem_cons_self)]
      rfl
    · have e1 : decide (e.1 = pkey m y) = false := decide_eq_false fun z => q (by rw [h.1] at z; obtain ⟨z1, z2⟩ := pkey_inj z; exact Prod.ext z1 z2)
      rw [e1]
      show (Option.map _ _).isSome = _
      rw [ih, Bool.eq_iff_iff]
      simp only [decide_eq_true_eq, List.mem_cons]
      constructor
      · exact .inr
      · rintro (z | z)
        · exact absurd z.symm q
        · exact z
theorem MetAt.mapv {H : Hp} {es : DnE} {S : List (Str × Str)} (k : NestedKey) (v : V) (h : MetAt H es S) : MetAt H (es.map fun x => if x.1 = k then (x.1, x.2.1, v) else x) S := by
  induction h with
  | nil => exact .nil
  | cons h _ ih =>
    refine .cons ?_ ih
    show (if _ then _ else _ : NestedKey × Addr × V).1 = _ ∧ H (if _ then _ else _ : NestedKey × Addr × V).2.1 = _
    split
    · exact h
    · exact h
theorem MetAt.put {H : Hp} {es : DnE} {S : List (Str × Str)} {m y : Str} {a : Addr} {v : V} (h : MetAt H es S) (ha : H a = some (.tup [.str m, .str y])) : MetAt H (dnPut es (pkey m y) a v) (if (m, y) ∈ S then S else S ++ [(m, y)]) := by
  unfold dnPut
  rw [h.has m y]
  by_cases q : (m, y) ∈ S
  · rw [if_pos (by simpa using q), if_pos q]
    exact h.mapv _ _
  · rw [if_neg (by simpa using q), if_neg q]
    exact paired_snoc h ⟨rfl, ha⟩
def Ends (L : Pl) (ls : List Str) (m y : Str) : Prop := ∃ u : List Str, (∀ z ∈ u, z ∈ ls) ∧ L.endM (L.run L.init u) y = m
open Classical in
noncomputable def pfM (L : Pl) (ls : List Str) (m : Str) (ys : List Str) : List (Str × Str) := (ys.filter fun y => decide (Ends L ls m y)).map fun y => (m, y)
theorem pf_t {L : Pl} {ls : List Str} {m y : Str} {ys : List Str} (h : Ends L ls m y) : pfM L ls m (ys ++ [y]) = pfM L ls m ys ++ [(m, y)] := by
  simp [pfM, h]
theorem pf_f {L : Pl} {ls : List Str} {m y : Str} {ys : List Str} (h : ¬ Ends L ls m y) : pfM L ls m (ys ++ [y]) = pfM L ls m ys := by
  simp [pfM, h]
noncomputable def endPrs (L : Pl) (ls : List Str) : List (Str × Str) := L.moves.flatMap fun m => pfM L ls m ls
theorem mem_endPrs {L : Pl} {ls : List Str} {m y : Str} : (m, y) ∈ endPrs L ls ↔ m ∈ L.moves ∧ y ∈ ls ∧ Ends L ls m y := by
  unfold endPrs pfM
  simp only [List.mem_flatMap, List.mem_map, List.mem_filter, decide_eq_true_eq, Prod.mk.injEq]
  constructor
  · rintro ⟨m', h1, y', ⟨h2, h3⟩, rfl, rfl⟩
    exact ⟨h1, h2, h3⟩
  · rintro ⟨h1, h2, h3⟩
    exact ⟨m, h1, y, ⟨h2, h3⟩, rfl, rfl⟩
def PrsAt (H : Hp) (xs : List V) (ps : List (Str × Str)) : Prop := Paired (fun (v : V) (x : Str × Str) => ∃ a, v = .ref a ∧ H a = some (.tup [.str x.1, .str x.2])) xs ps
theorem PrsAt.mono {H H' : Hp} (s : Same H H') {xs : List V} {ps : List (Str × Str)} (h : PrsAt H xs ps) : PrsAt H' xs ps := by
  induction h with
  | nil => exact .nil
  | cons h _ ih =>
    obtain ⟨a, h1, h2⟩ := h
    exact .cons ⟨a, h1, s _ _ h2⟩ ih
theorem PrsAt.updX {H : Hp} {d : Addr} {o : HO} {xs : List V} {ps : List (Str × Str)} (hd : ∀ xs, H d ≠ some (.tup xs)) (h : PrsAt H xs ps) : PrsAt (upd H d o) xs ps := by
  induction h with
  | nil => exact .nil
  | cons h _ ih =>
    obtain ⟨a, h1, h2⟩ := h
    exact .cons ⟨a, h1, by rw [upd_ne (by rintro rfl; exact hd _ h2)]; exact h2⟩ ih
def spNeedAmong : Sp := fun vs H Q _ => ∃ (m : Str) (a : Addr) (ms : List Str), vs = [.str m, .ref a] ∧ Lt H a (ms.map V.str) ∧ m ∈ ms ∧ Q .non H
def spEndings (cP : Addr) : Sp := fun vs H Q _ => ∃ (p l : Addr) (L : Pl) (ls : List Str), vs = [.ref p, .ref l] ∧ PlAt cP H p L ∧ L.Ok ∧ L.Small ∧ Lt H l (ls.map V.str) ∧ Mv ls ∧ ∀ q H' xs, Same H H' → H q = none → H' q = some (.lst xs) → PrsAt H' xs (endPrs L ls) → Q (.ref q) H'
def spBrought (cP : Addr) : Sp := fun vs H Q _ => ∃ (p l : Addr) (L : Pl) (ls : List Str) (m y : Str), vs = [.ref p, .ref l, .str m, .str y] ∧ PlAt cP H p L ∧ L.Ok ∧ L.Small ∧ Lt H l (ls.map V.str) ∧ Mv ls ∧ m ∈ L.moves ∧ y ∈ ls ∧
  (∀ (q b : Addr) (H' : Hp) (u : List Str), Same H H' → H' q = some (.tup [.str "row", .ref b]) → H' b = some (.tup (u.map V.str)) → (∀ z ∈ u, z ∈ ls) → u.length ≤ 208 → L.endM (L.run L.init u) y = m → (∀ v : List Str, (∀ z ∈ v, z ∈ ls) → L.endM (L.run L.init v) y = m → code ls u ≤ code ls v) → Q (.ref q) H') ∧
  (¬ Ends L ls m y → ∀ (q b : Addr) (H' : Hp) (zs : List (Addr × Sd)), Same H H' → H' q = some (.tup [.str "never", .ref b]) → H' b = some (.tup (zs.map fun z => .ref z.1)) → (∀ z ∈ zs, SdAt H' z.1 z.2) → zs.length ≤ 208 → (∀ s, s ∈ zs.map (·.2) ↔ ∃ v : List Str, (∀ z ∈ v, z ∈ ls) ∧ L.run L.init v = s) → Q (.ref q) H')
section
variable {P : Program} {w : World} {K : PySem.W.Frag} {mg : Str → Option Value} {base : Heap} {cP cG cT : Addr} {f : Addr} {fd : FuncData} (T : Txt K w mg cP cG cT)
include T
theorem ok_need_among (F : FnP K "need_among" "need_among" s_need_among f fd) : FnOk P w K mg base CX0 1 f fd ["thing", "moves"] spNeedAmong := by
  refine okN F sc_need_among (fun vs H Q E h => ?_) (fun cdv A outer s H vs Q E hr h => ?_)
  · obtain ⟨m, a, ms, rfl, _⟩ := h
    rfl
  · obtain ⟨m, a, ms, rfl, ha, hm, q⟩ := h
    refine ⟨_, (pss_one (ps_if (PW.pt (pw_or (pt_not (pt_val (pe_callB call_isi (by rfl) T.isinstance_ b_isinstance (pa_cons (pv 0) (pa_cons (ty_str T) pa_nil))))) (pw_or1 (pt_cmpR (notInS K) (pv 0) (pv 1) rfl)))) (pss_one ps_never) pss_nil)), ?_⟩
    refine ⟨_, rfl, _, _, _, _, true, rfl, .ty _, .base (.str _), by exact kit_ty (by decide +kernel), true, rfl, ?_⟩
    refine iteF ?_
    refine ⟨_, rfl, _, rfl, a, _, rfl, ha.sq, rfl, flat_strs ms, _, rfl, ?_⟩
    show if (!inV (.str m) (ms.map V.str)) = true then _ else _
    rw [in_strs]
    exact ifNF hm q
theorem ok_endings {C_need_player : Cal P w K mg base "need_player" 1 ["thing"] (spNeedPlayer cP)} {C_need_moves : Cal P w K mg base "need_moves" 3 ["thing"] spNeedMoves} {K_Gait : Mak P w K mg base cG "Gait" 3 ["self", "player"] (spGait cP cG)}
    {M_words : Mth P w K mg base cG "words" 6 ["self", "letters"] (spWords P w cP cG)} {M_end : Mth P w K mg base cG "end" 7 ["self", "stand", "letter"] (spEnd cP cG)} {M_moves : Mth P w K mg base cP "moves" 1 ["self"] (spMoves cP)}
    (F : FnP K "endings" "endings" s_endings f fd) : FnOk P w K mg base CX0 8 f fd ["player", "others"] (spEndings cP) := by
  refine okN F sc_endings (fun vs H Q E h => ?_) (fun cdv A outer s H vs Q E hr h => ?_)
  · obtain ⟨p, l, L, ls, rfl, _⟩ := h
    rfl
  · obtain ⟨p, l, L, ls, rfl, hp, ok, sm, hl, mv, q⟩ := h
    refine ⟨_, (pss_cons (ps_expr (pe_cal C_need_player hr (pa_cons (pv 0) pa_nil)))
      (pss_cons (ps_expr (pe_cal C_need_moves hr (pa_cons (pv 1) pa_nil)))
      (pss_cons (ps_set (i := 2) sc_endings.nd rfl (Or.inr rfl) (pe_mak K_Gait hr (pa_cons (pv 0) pa_nil)))
      (pss_cons (ps_set (i := 3) sc_endings.nd rfl (Or.inl rfl) (pe_callTy (call_list_dn rfl) (by rfl) T.list_ b_list (pa_cons (pe_mth T.clG M_words hr (pv 2) (pa_cons (pv 1) pa_nil)) pa_nil)))
      (pss_cons (ps_set (i := 4) sc_endings.nd rfl (Or.inr rfl) (pe_dcN2 (hu16 hr) (own := [("stand", 5), ("yours", 6)]) (vs1 := [6]) rfl sc_endings.nd (pi_sq (pv 3)) (blkOk_by (own := [("stand", 5), ("yours", 6)]) (N := ["player", "others", "gait", "stands", "met", "stand", "yours", "mine"]) (sc := defScope s_endings) (by decide +kernel)) (by decide) (fun _ _ _ _ _ => pg_name (i := 5) sc_endings.nd rfl (Or.inl rfl)) (fun _ _ _ _ _ => pts_nil) (fun _ _ _ _ _ => (pi_sq (pv 1))) (fun _ _ _ _ _ => pg_name (i := 6) sc_endings.nd rfl (Or.inl rfl)) (fun _ _ _ _ _ => pts_nil) (fun _ _ _ _ _ => (pe_tup (pa_cons (pe_mth T.clG M_end hr (pv 2) (pa_cons (pv 5) (pa_cons (pv 6) pa_nil))) (pa_cons (pv 6) pa_nil)))) (fun _ _ _ _ _ => pe_bl)))
      (pss_one (ps_ret (pe_lc2 (own := [("mine", 7), ("yours", 6)]) (vs1 := [6]) rfl sc_endings.nd (pi_sq (pe_mth0 T.clP M_moves hr (pv 0))) (blkOk_by (own := [("mine", 7), ("yours", 6)]) (N := ["player", "others", "gait", "stands", "met", "stand", "yours", "mine"]) (sc := defScope s_endings) (by decide +kernel)) (by decide) (fun _ _ _ _ _ => pg_name (i := 7) sc_endings.nd rfl (Or.inl rfl)) (fun _ _ _ _ _ => pts_nil) (fun _ _ _ _ _ => (pi_sq (pv 1))) (fun _ _ _ _ _ => pg_name (i := 6) sc_endings.nd rfl (Or.inl rfl)) (fun _ _ _ _ _ => pts_one (pt_cmp (pc_ninP P w (hu16 hr) (pe_tup (pa_cons (pv 7) (pa_cons (pv 6) pa_nil))) (pv 4)) rfl)) (fun _ _ _ _ _ => (pe_tup (pa_cons (pv 7) (pa_cons (pv 6) pa_nil)))))))))))), ?_⟩
    refine ⟨_, rfl, p, L, rfl, hp, ?_⟩
    refine ⟨_, rfl, l, ls, rfl, hl, mv, fun H1 s1 => ?_⟩
    refine ⟨_, rfl, fun g dg ng ndg neg => ?_⟩
    have s2 : Same H1 (upd (upd H1 dg (.own g)) g (.ins cG dg [])) := (same_new ndg).trans (same_new (by rw [upd_ne neg.symm]; exact ng))
    refine ⟨g, dg, p, L, rfl, upd_same, (hp.mono s1).mono s2, ok.len, fun H2 z2 hg2 => ⟨rfl, ?_⟩⟩
    have s3 : Same H H2 := fun c u e => z2 c u (ne_of_none (s1 _ _ e) ng) (s2 _ _ (s1 _ _ e))
    clear s2 z2
    obtain ⟨dx, p', m', h1, h2, h3⟩ := hg2.ex
    refine ⟨_, rfl, g, _, _, rfl, h1, rfl, _, rfl, g, l, L, ls, rfl, hg2, ok, sm, hl.mono s3, mv, fun d H3 es W s4 nd hd hw bf => ?_⟩
    refine ⟨d, es, rfl, .inl hd, fun st nst => ?_⟩
    have s5 := s4.trans (same_new (o := .lst (es.map fun x => V.ref x.2.1)) nst)
    have hw5 := hw.mono (same_new (o := .lst (es.map fun x => V.ref x.2.1)) nst)
    have hst : (upd H3 st (.lst (es.map fun x => V.ref x.2.1))) st = some (.lst (es.map fun x => V.ref x.2.1)) := upd_same
    generalize upd H3 st (.lst (es.map fun x => V.ref x.2.1)) = H5 at s5 hw5 hst
    have hg5 := hg2.mono s5
    have s6 := s3.trans s5
    have hWl := Nat.le_trans bf.len (bound_le sm)
    have hel := paired_len hw5
    have hl6 := hl.mono s6
    have htake : ∀ (xs : List V) (i : Nat), (xs.length) = W.length → True := fun _ _ _ => trivial
    refine ⟨_, rfl, st, _, rfl, .inl hst, fun J hJ D hD => ?_⟩
    refine it_byD hJ (DN P w D []) (.inr rfl) (fun i H' => Same H5 H' ∧ ∃ es' S, H' D = some (DN P w D es') ∧ MetAt H' es' S ∧ S.length ≤ 4 * i ∧ ∀ m y, (m, y) ∈ S ↔ ∃ j c, j < i ∧ W[j]? = some c ∧ y ∈ ls ∧ L.endM c.1 y = m)
      ⟨same_new hD, [], [], upd_same, .nil, Nat.le_refl _, fun m y => ⟨fun z => (by cases z), fun ⟨j, c, z, _⟩ => (by omega)⟩⟩ (fun i H' hi h => same_of h.1 (.inl hst)) (fun i x H9 H6 hi h y => ?_) (fun H6 h => ?_)
    · obtain ⟨s7, es', S, hD6, hM, hSl, hS⟩ := h
      obtain ⟨rfl, hx⟩ := y
      rw [List.getElem?_map] at hx
      obtain ⟨e, he, rfl⟩ := Option.map_eq_some_iff.mp hx
      have hiW : i < W.length := by
        have := (List.getElem?_eq_some_iff.mp he).1
        omega
      obtain ⟨c, hc⟩ : ∃ c, W[i]? = some c := ⟨_, List.getElem?_eq_getElem hiW⟩
      obtain ⟨e', he', k1, k2, _⟩ := paired_get hw5 hc
      rw [he] at he'
      cases he'
      have hcm : c ∈ W := List.mem_of_getElem? hc
      refine ⟨rfl, yesT ?_⟩
      refine ⟨_, rfl, l, _, rfl, hl6.mono s7, fun J1 hJ1 => ?_⟩
      refine it_by hJ1 (fun k H' => Same H5 H' ∧ ∃ es' S, H' D = some (DN P w D es') ∧ MetAt H' es' S ∧ S.length ≤ 4 * i + k ∧ ∀ m y, (m, y) ∈ S ↔ (∃ j c, j < i ∧ W[j]? = some c ∧ y ∈ ls ∧ L.endM c.1 y = m) ∨ (y ∈ ls.take k ∧ L.endM c.1 y = m))
        ⟨s7, es', S, hD6, hM, hSl, fun m y => by rw [hS]; simp⟩ (fun k H' hk h => (same_of h.1 hl6).trans (same_of s7 hl6).symm) (fun k x HA H7 hk h y => ?_) (fun H7 h => ?_)
      · obtain ⟨s8, es2, S2, hD8, hM8, hSl8, hS8⟩ := h
        obtain ⟨rfl, hx⟩ := y
        rw [List.getElem?_map] at hx
        obtain ⟨y, hy, rfl⟩ := Option.map_eq_some_iff.mp hx
        have hk4 : k < 4 := by
          have := (List.getElem?_eq_some_iff.mp hy).1
          have := mv.few
          omega
        refine ⟨rfl, yesT ?_⟩
        have hg8 := hg5.mono s8
        obtain ⟨dx8, p8, m8, h81, _⟩ := hg8.ex
        refine ⟨_, rfl, g, _, _, rfl, h81, rfl, _, rfl, _, rfl, g, e.2.1, L, c.1, y, rfl, hg8, ok, k2.mono s8, bf.ok c hcm, fun H8 s9 => ?_⟩
        have s10 := s8.trans s9
        refine ⟨_, rfl, (by show 2 ≤ sizeLine; decide), fun t nt => ?_⟩
        have hDt : D ≠ t := ne_of_none (s9 _ _ hD8) nt
        have sN := same_new (o := .tup [.str (L.endM c.1 y), .str y]) nt
        have htt : (upd H8 t (.tup [.str (L.endM c.1 y), .str y])) t = some (.tup [.str (L.endM c.1 y), .str y]) := upd_same
        have hDn := sN _ _ (s9 _ _ hD8)
        have hMn := hM8.keep fun a xs e => sN _ _ (s9 _ _ e)
        have s11 := s10.trans sN
        generalize upd H8 t (.tup [.str (L.endM c.1 y), .str y]) = H9 at sN htt hDn hMn s11
        have hel2 := paired_len hMn
        refine .inr ⟨t, es2, pkey (L.endM c.1 y) y, rfl, hDn, hMn.keys, pk_at htt, by omega, ?_⟩
        have ntD : ∀ zs, H9 D ≠ some (.tup zs) := fun zs e => by rw [hDn] at e; cases e
        refine ⟨same_mut s11 hD, _, _, upd_same, (hMn.put htt).keep fun a xs e => by rw [upd_ne (by rintro rfl; exact ntD _ e)]; exact e, ?_, fun m y' => ?_⟩
        · split
          · omega
          · simp
            omega
        · have e1 : ((m, y') ∈ if (L.endM c.1 y, y) ∈ S2 then S2 else S2 ++ [(L.endM c.1 y, y)]) ↔ (m, y') ∈ S2 ∨ (m, y') = (L.endM c.1 y, y) := by
            split
            · constructor
              · exact .inl
              · rintro (z | z)
                · exact z
                · rw [z]; assumption
            · simp
          rw [e1, hS8, List.take_add_one, hy, List.mem_append]
          constructor
          · rintro ((z | z) | z)
            · exact .inl z
            · exact .inr ⟨.inl z.1, z.2⟩
            · obtain ⟨rfl, rfl⟩ := Prod.mk.inj z
              exact .inr ⟨.inr (by simp), rfl⟩
          · rintro (z | ⟨z | z, z2⟩)
            · exact .inl (.inl z)
            · exact .inl (.inr ⟨z, z2⟩)
            · have z : y' = y := by simpa using z
              subst z
              exact .inr (by rw [z2])
      · obtain ⟨s8, es2, S2, hD8, hM8, hSl8, hS8⟩ := h
        rw [List.length_map] at hSl8 hS8
        have hf := mv.few
        refine ⟨s8, es2, S2, hD8, hM8, by omega, fun m y => ?_⟩
        rw [hS8, List.take_length]
        constructor
        · rintro (⟨j, c', z1, z2⟩ | ⟨z1, z2⟩)
          · exact ⟨j, c', by omega, z2⟩
          · exact ⟨i, c, by omega, hc, z1, z2⟩
        · rintro ⟨j, c', z1, z2, z3, z4⟩
          by_cases ej : j = i
          · subst ej
            rw [hc] at z2
            cases z2
            exact .inr ⟨z3, z4⟩
          · exact .inl ⟨j, c', by omega, z2, z3, z4⟩
    · obtain ⟨s7, es', S, hD6, hM, hSl, hS⟩ := h
      have hS' : ∀ m y, (m, y) ∈ S ↔ y ∈ ls ∧ Ends L ls m y := fun m y => by
        rw [hS]
        constructor
        · rintro ⟨j, c, z1, z2, z3, z4⟩
          refine ⟨z3, c.2, (bf.lead c (List.mem_of_getElem? z2)).2, ?_⟩
          rw [(bf.lead c (List.mem_of_getElem? z2)).1]
          exact z4
        · rintro ⟨z3, u, hu, z4⟩
          obtain ⟨z, hz, e1, _⟩ := bf.all u hu
          obtain ⟨j, hj⟩ := List.mem_iff_getElem?.mp hz
          refine ⟨j, z, ?_, hj, z3, by rw [e1]; exact z4⟩
          have := (List.getElem?_eq_some_iff.mp hj).1
          simp
          omega
      have s8 := s6.trans s7
      have hp8 := (hp.mono s1)
      have hpF := hp.mono s8
      obtain ⟨dy, pa, pb, pc, pd, pxs, g1, g2, _⟩ := hpF.ex
      refine ⟨_, rfl, p, _, _, rfl, g1, rfl, p, L, rfl, hpF, fun m1 hm1 => ?_⟩
      refine ⟨m1, _, rfl, .inr hm1, fun J2 hJ2 D2 hD2 => ?_⟩
      have hlF := hl.mono s8
      refine it_by hJ2 (fun i H' => Same H6 H' ∧ ∃ xs, H' D2 = some (.lst xs) ∧ PrsAt H' xs ((L.moves.take i).flatMap fun m => pfM L ls m ls) ∧ xs.length ≤ 4 * i) ⟨same_new hD2, [], upd_same, .nil, Nat.le_refl _⟩ (fun i H' hi h => same_of h.1 (.inr hm1)) (fun i x H9 H7 hi h y => ?_) (fun H7 h => ?_)
      · obtain ⟨s9, xs, hx9, hp9, hl9⟩ := h
        obtain ⟨rfl, hx⟩ := y
        rw [List.getElem?_map] at hx
        obtain ⟨m, hm, rfl⟩ := Option.map_eq_some_iff.mp hx
        refine ⟨rfl, yesT ?_⟩
        refine ⟨_, rfl, l, _, rfl, hlF.mono s9, fun J3 hJ3 => ?_⟩
        refine it_by hJ3 (fun k H' => Same H6 H' ∧ ∃ xs, H' D2 = some (.lst xs) ∧ PrsAt H' xs (((L.moves.take i).flatMap fun m => pfM L ls m ls) ++ pfM L ls m (ls.take k)) ∧ xs.length ≤ 4 * i + k)
          ⟨s9, xs, hx9, by simpa [pfM] using hp9, by omega⟩ (fun k H' hk h => (same_of h.1 hlF).trans (same_of s9 hlF).symm) (fun k x HA H8 hk h y => ?_) (fun H8 h => ?_)
        · obtain ⟨s10, xs2, hx10, hp10, hl10⟩ := h
          obtain ⟨rfl, hx⟩ := y
          rw [List.getElem?_map] at hx
          obtain ⟨y, hy, rfl⟩ := Option.map_eq_some_iff.mp hx
          have hk4 : k < 4 := by
            have := (List.getElem?_eq_some_iff.mp hy).1
            have := mv.few
            omega
          have hi4 : i < 4 := by
            have := (List.getElem?_eq_some_iff.mp hm).1
            have := ok.mv.few
            omega
          refine ⟨rfl, ?_⟩
          refine ⟨_, rfl, _, rfl, (by show 2 ≤ sizeLine; decide), fun t nt => ?_⟩
          have sN := same_new (o := .tup [.str m, .str y]) nt
          have htt : (upd H8 t (.tup [.str m, .str y])) t = some (.tup [.str m, .str y]) := upd_same
          have hDn := sN _ _ (s10 _ _ hD6)
          have hMn := hM.keep fun a xs e => sN _ _ (s10 _ _ e)
          have hx11 := sN _ _ hx10
          have hp11 := hp10.mono sN
          have s11 := s10.trans sN
          generalize upd H8 t (.tup [.str m, .str y]) = H9 at sN htt hDn hMn s11 hx11 hp11
          refine ⟨_, rfl, t, D, es', pkey m y, rfl, rfl, .inl hDn, hMn.keys, pk_at htt, _, rfl, ?_⟩
          show if (dnAt es' (pkey m y)).isSome = true then _ else _
          rw [hMn.has]
          have eT : ls.take (k + 1) = ls.take k ++ [y] := by rw [List.take_add_one, hy]; rfl
          by_cases hE : Ends L ls m y
          · refine ifT ((hS' m y).mpr ⟨List.mem_of_getElem? hy, hE⟩) ?_
            refine ⟨_, rfl, _, rfl, (by show 2 ≤ sizeLine; decide), fun t2 nt2 => ?_⟩
            have sM := same_new (o := .tup [.str m, .str y]) nt2
            refine ⟨xs2, sM _ _ hx11, sz_lt (by omega), same_mut (s11.trans sM) hD2, _, upd_same, ?_, ?_⟩
            · have eP : pfM L ls m (ls.take (k + 1)) = pfM L ls m (ls.take k) ++ [(m, y)] := by
                rw [eT]
                exact pf_t hE
              rw [eP, ← List.append_assoc]
              have ntx : ∀ zs, (upd H9 t2 (.tup [.str m, .str y])) D2 ≠ some (.tup zs) := fun zs e => by rw [sM _ _ hx11] at e; cases e
              exact PrsAt.updX ntx (paired_snoc (hp11.mono sM) ⟨t2, rfl, upd_same⟩)
            · simp
              omega
          · refine ifF (fun z => hE ((hS' m y).mp z).2) ?_
            refine ⟨s11, xs2, hx11, ?_, by omega⟩
            have eP : pfM L ls m (ls.take (k + 1)) = pfM L ls m (ls.take k) := by
              rw [eT]
              exact pf_f hE
            rw [eP]
            exact hp11
        · obtain ⟨s10, xs2, hx10, hp10, hl10⟩ := h
          rw [List.length_map] at hp10 hl10
          rw [List.take_length] at hp10
          have hf := mv.few
          refine ⟨s10, xs2, hx10, ?_, by omega⟩
          rw [List.take_add_one, hm, List.flatMap_append]
          simpa using hp10
      · obtain ⟨s9, xs, hx9, hp9, hl9⟩ := h
        refine q D2 H7 xs (s8.trans s9) (none_of s8 hD2) hx9 ?_
        rw [List.take_of_length_le (by simp)] at hp9
        exact hp9
end
end Lk

set_option maxHeartbeats 4000000
namespace Lk
open PySem PySem.Spec PyProof.Rows L2
theorem keepTup {H : Hp} {d : Addr} {o u : HO} (hd : H d = some o) (ho : ∀ xs, o ≠ .tup xs) : ∀ a xs, H a = some (.tup xs) → (upd H d u) a = some (.tup xs) := fun a xs e => by
  rw [upd_ne (by rintro rfl; rw [hd] at e; exact ho _ (Option.some.inj e))]
  exact e
theorem WdsAt.keep {H H' : Hp} (k : ∀ a xs, H a = some (.tup xs) → H' a = some (.tup xs)) {es : DnE} {W : List Wd} (h : WdsAt H es W) : WdsAt H' es W := by
  induction h with
  | nil => exact .nil
  | cons h _ ih =>
    obtain ⟨h1, ⟨b1, h2, h2'⟩, b, h3, h4⟩ := h
    exact .cons ⟨h1, ⟨b1, k _ _ h2, k _ _ h2'⟩, b, h3, k _ _ h4⟩ ih
theorem wds_sd {H : Hp} {es : DnE} {W : List Wd} (h : WdsAt H es W) : Paired (fun (e : NestedKey × Addr × V) (x : Sd) => SdAt H e.2.1 x) es (W.map (·.1)) := by
  induction h with
  | nil => exact .nil
  | cons h _ ih => exact .cons h.2.1 ih
section
variable {P : Program} {w : World} {K : PySem.W.Frag} {mg : Str → Option Value} {base : Heap} {cP cG cT : Addr} {f : Addr} {fd : FuncData} (T : Txt K w mg cP cG cT)
include T
theorem ok_brought {C_need_player : Cal P w K mg base "need_player" 1 ["thing"] (spNeedPlayer cP)} {C_need_moves : Cal P w K mg base "need_moves" 3 ["thing"] spNeedMoves} {C_need_among : Cal P w K mg base "need_among" 1 ["thing", "moves"] spNeedAmong} {K_Gait : Mak P w K mg base cG "Gait" 3 ["self", "player"] (spGait cP cG)}
    {M_words : Mth P w K mg base cG "words" 6 ["self", "letters"] (spWords P w cP cG)} {M_end : Mth P w K mg base cG "end" 7 ["self", "stand", "letter"] (spEnd cP cG)} {M_moves : Mth P w K mg base cP "moves" 1 ["self"] (spMoves cP)}
    (F : FnP K "brought" "brought" s_brought f fd) : FnOk P w K mg base CX0 8 f fd ["player", "others", "mine", "yours"] (spBrought cP) := by
  refine okN F sc_brought (fun vs H Q E h => ?_) (fun cdv A outer s H vs Q E hr h => ?_)
  · obtain ⟨p, l, L, ls, m, y, rfl, _⟩ := h
    rfl
  · obtain ⟨p, l, L, ls, m, y, rfl, hp, ok, sm, hl, mv, hm, hy, q, qn⟩ := h
    refine ⟨_, (pss_cons (ps_expr (pe_cal C_need_player hr (pa_cons (pv 0) pa_nil)))
      (pss_cons (ps_expr (pe_cal C_need_moves hr (pa_cons (pv 1) pa_nil)))
      (pss_cons (ps_expr (pe_cal C_need_among hr (pa_cons (pv 2) (pa_cons (pe_mth0 T.clP M_moves hr (pv 0)) pa_nil))))
      (pss_cons (ps_expr (pe_cal C_need_among hr (pa_cons (pv 3) (pa_cons (pv 1) pa_nil))))
      (pss_cons (ps_set (i := 4) sc_brought.nd rfl (Or.inl rfl) (pe_mak K_Gait hr (pa_cons (pv 0) pa_nil)))
      (pss_cons (ps_set (i := 5) sc_brought.nd rfl (Or.inl rfl) (pe_mth T.clG M_words hr (pv 4) (pa_cons (pv 1) pa_nil)))
      (pss_cons (ps_lock (ps_for PassesOwn.never rfl (pi_itemsN (pv 5)) (pgT K 2 rfl (pgs_cons (pg_name (i := 6) sc_brought.nd rfl (Or.inl rfl)) (pgs_cons (pg_name (i := 7) sc_brought.nd rfl (Or.inl rfl)) pgs_nil))) (pss_one (ps_if (pt_cmpR op_eq (pe_mth T.clG M_end hr (pv 4) (pa_cons (pv 6) (pa_cons (pv 3) pa_nil))) (pv 2) (nomark _)) (pss_one (ps_ret (pe_tup (pa_cons pe_str (pa_cons (pv 7) pa_nil))))) pss_nil))))
      (pss_one (ps_ret (pe_tup (pa_cons pe_str (pa_cons (pe_callTy tupA (by rfl) T.tuple_ b_tuple (pa_cons (pe_callB (srt_dn P w (hu16 hr)) (by rfl) T.sorted_ b_sorted (pa_cons (pv 5) pa_nil)) pa_nil)) pa_nil)))))))))))), ?_⟩
    refine ⟨_, rfl, p, L, rfl, hp, ?_⟩
    refine ⟨_, rfl, l, ls, rfl, hl, mv, fun H1 s1 => ?_⟩
    have hp1 := hp.mono s1
    obtain ⟨dy, pa, pb, pc, pd, pxs, g1, g2, _⟩ := hp1.ex
    refine ⟨_, rfl, _, rfl, p, _, _, rfl, g1, rfl, p, L, rfl, hp1, fun m1 hm1 => ?_⟩
    refine ⟨m, m1, L.moves, rfl, .inr hm1, hm, ?_⟩
    refine ⟨_, rfl, _, rfl, y, l, ls, rfl, hl.mono s1, hy, ?_⟩
    refine ⟨_, rfl, fun g dg ng ndg neg => ?_⟩
    have s2 : Same H1 (upd (upd H1 dg (.own g)) g (.ins cG dg [])) := (same_new ndg).trans (same_new (by rw [upd_ne neg.symm]; exact ng))
    refine ⟨g, dg, p, L, rfl, upd_same, hp1.mono s2, ok.len, fun H2 z2 hg2 => ⟨rfl, ?_⟩⟩
    have s3 : Same H H2 := fun c u e => z2 c u (ne_of_none (s1 _ _ e) ng) (s2 _ _ (s1 _ _ e))
    clear s2 z2
    obtain ⟨dx, p', m', h1, h2, h3⟩ := hg2.ex
    refine ⟨_, rfl, g, _, _, rfl, h1, rfl, _, rfl, g, l, L, ls, rfl, hg2, ok, sm, hl.mono s3, mv, fun d H3 es W s4 nd hd hw bf => ?_⟩
    refine ⟨d, _, hd, trivial, fun od => ?_⟩
    have nDN : ∀ xs, DN P w d es ≠ .tup xs := fun xs e => by unfold DN at e; cases e
    have sF : ∀ c u, c ≠ d → H3 c = some u → (upd H3 d (.frz od (DN P w d es))) c = some u := fun c u n e => by rw [upd_ne n]; exact e
    have hwF : WdsAt (upd H3 d (.frz od (DN P w d es))) es W := hw.keep (keepTup hd nDN)
    have hg3 := hg2.mono s4
    have hsF : Same H (upd H3 d (.frz od (DN P w d es))) := same_mut (s3.trans s4) (none_of s3 nd)
    have hgF : GaAt cP cG (upd H3 d (.frz od (DN P w d es))) g L := hg2.mono (same_mut s4 nd)
    have hdF : (upd H3 d (.frz od (DN P w d es))) d = some (.frz od (DN P w d es)) := upd_same
    refine ⟨_, rfl, d, od, es, rfl, hdF, ?_⟩
    have hel := paired_len hwF
    refine for_it walk_itemsN (fun i σ H' => Same (upd H3 d (.frz od (DN P w d es))) H' ∧ (∃ u v, σ = [some (.ref p), some (.ref l), some (.str m), some (.str y), some (.ref g), some (.ref d), u, v]) ∧ ∀ j c, j < i → W[j]? = some c → L.endM c.1 y ≠ m)
      ⟨fun _ _ e => e, ⟨_, _, rfl⟩, fun j c hj => by omega⟩ (fun i σ H' hi h => h.1 _ _ hdF) (fun i x σ H4 H9 hi h yy => ?_) (fun σ H4 h => ?_)
    · obtain ⟨s5, ⟨u, v, rfl⟩, hno⟩ := h
      obtain ⟨t, u1, v1, rfl, nt, rfl, e1, e2⟩ := yy
      simp only [Option.map_eq_some_iff] at e1 e2
      obtain ⟨e, he, rfl⟩ := e1
      obtain ⟨e', he', rfl⟩ := e2
      rw [he] at he'
      cases he'
      have hiW : i < W.length := by
        have := (List.getElem?_eq_some_iff.mp he).1
        omega
      obtain ⟨c, hc⟩ : ∃ c, W[i]? = some c := ⟨_, List.getElem?_eq_getElem hiW⟩
      obtain ⟨e', he', k1, k2, b, k3, k4⟩ := paired_get hwF hc
      rw [he] at he'
      cases he'
      have hcm : c ∈ W := List.mem_of_getElem? hc
      have s6 := s5.trans (same_new (o := .tup [.ref e.2.1, e.2.2]) nt)
      refine ⟨t, _, rfl, .inl (.inl upd_same), rfl, _, _, rfl, _, _, rfl, rfl, ?_⟩
      have hg6 := hgF.mono s6
      obtain ⟨dx6, p6, m6, h61, _⟩ := hg6.ex
      refine ⟨_, rfl, g, _, _, rfl, h61, rfl, _, rfl, _, rfl, g, e.2.1, L, c.1, y, rfl, hg6, ok, k2.mono s6, bf.ok c hcm, fun H7 s7 => ?_⟩
      have s7 := s6.trans s7
      refine ⟨_, rfl, rfl, _, rfl, ?_⟩
      by_cases hEm : L.endM c.1 y = m
      · refine ifT (congrArg V.str hEm) ?_
        refine ⟨_, rfl, (by show 2 ≤ sizeLine; decide), fun r nr => ?_⟩
        have s8 := s7.trans (same_new (o := .tup [.str "row", e.2.2]) nr)
        have hr8 : (upd H7 r (.tup [.str "row", e.2.2])) r = some (.tup [.str "row", e.2.2]) := upd_same
        refine ⟨s8 _ _ hdF, ?_⟩
        have ntF : ∀ xs, HO.frz od (DN P w d es) ≠ .tup xs := fun xs z => by cases z
        refine q r b _ c.2 (fun a u0 e0 => ?_) ?_ ?_ (bf.lead c hcm).2 (Nat.le_trans (bf.b.wl i c hc) (Nat.le_trans (Nat.le_of_lt (List.getElem?_eq_some_iff.mp hc).1) (Nat.le_trans bf.len (bound_le sm)))) ?_ (fun v hv hve => ?_)
        · have hne : a ≠ d := ne_of_none e0 (none_of s3 nd)
          rw [upd_ne hne]
          exact s8 _ _ (hsF _ _ e0)
        · rw [← k3]
          exact keepTup (s8 _ _ hdF) ntF _ _ hr8
        · exact keepTup (s8 _ _ hdF) ntF _ _ (s8 _ _ k4)
        · rw [(bf.lead c hcm).1]
          exact hEm
        · obtain ⟨z, hz, ez, lz⟩ := bf.all v hv
          obtain ⟨j, hj⟩ := List.mem_iff_getElem?.mp hz
          have hij : i ≤ j := by
            by_cases h : j < i
            · exact absurd (by rw [ez]; exact hve) (hno j z h hj)
            · omega
          by_cases eij : i = j
          · subst eij
            rw [hc] at hj
            cases hj
            exact lz
          · obtain ⟨q1, q2⟩ := List.getElem?_eq_some_iff.mp hc
            obtain ⟨r1, r2⟩ := List.getElem?_eq_some_iff.mp hj
            have := (List.pairwise_iff_getElem.mp bf.so) i j q1 r1 (by omega)
            rw [q2, r2] at this
            omega
      · refine ifF (str_ne hEm) ?_
        refine ⟨s7, ⟨_, _, rfl⟩, fun j c' hj hc' => ?_⟩
        by_cases ej : j = i
        · subst ej
          rw [hc] at hc'
          cases hc'
          exact hEm
        · exact hno j c' (by omega) hc'
    · obtain ⟨s5, ⟨u, v, rfl⟩, hno⟩ := h
      have hE : ¬ Ends L ls m y := by
        rintro ⟨w', hw', hwe⟩
        obtain ⟨z, hz, ez, lz⟩ := bf.all w' hw'
        obtain ⟨j, hj⟩ := List.mem_iff_getElem?.mp hz
        have := (List.getElem?_eq_some_iff.mp hj).1
        exact absurd (by rw [ez]; exact hwe) (hno j z (by omega) hj)
      refine ⟨s5 _ _ hdF, ?_⟩
      have ntF : ∀ xs, HO.frz od (DN P w d es) ≠ .tup xs := fun xs z => by cases z
      have s6 : Same H (upd H4 d (DN P w d es)) := fun a u e0 => by
        rw [upd_ne (ne_of_none e0 (none_of s3 nd))]
        exact s5 _ _ (hsF _ _ e0)
      have hw6 : WdsAt (upd H4 d (DN P w d es)) es W := (hwF.mono s5).keep (keepTup (s5 _ _ hdF) ntF)
      have hd6 : (upd H4 d (DN P w d es)) d = some (DN P w d es) := upd_same
      generalize upd H4 d (DN P w d es) = H6 at s6 hw6 hd6
      have hs : Paired (fun (e : NestedKey × Addr × V) (x : Sd) => SdAt H6 e.2.1 x) es (W.map (·.1)) := wds_sd hw6
      have hel6 := paired_len hw6
      refine ⟨_, rfl, d, es, W.map (·.1), rfl, .inl hd6, hs, fun zs p pm np => ⟨p, _, rfl, .inl upd_same, fun p2 H7 s7 hp7 => ⟨(by show 2 ≤ sizeLine; decide), fun r nr => ?_⟩⟩⟩
      have s8 := (same_new (o := .lst (zs.map fun z => V.ref z.1)) np).trans (s7.trans (same_new (o := .tup [.str "never", .ref p2]) nr))
      refine qn hE r p2 _ zs (s6.trans s8) upd_same (same_new nr _ _ hp7) (fun z hz => ?_) ?_ (fun x => ?_)
      · obtain ⟨j, hj⟩ := List.mem_iff_getElem?.mp (pm.mem_iff.mp hz)
        rw [List.getElem?_zip_eq_some] at hj
        obtain ⟨j1, j2⟩ := hj
        rw [List.getElem?_map] at j1
        obtain ⟨e, je, e1⟩ := Option.map_eq_some_iff.mp j1
        obtain ⟨e', je', k⟩ := paired_get hs j2
        rw [je] at je'
        cases je'
        rw [← e1]
        exact SdAt.mono s8 k
      · rw [pm.length_eq, List.length_zip, List.length_map, List.length_map]
        have := Nat.le_trans bf.len (bound_le sm)
        omega
      · rw [(pm.map (·.2)).mem_iff]
        have em : ((es.map fun e => e.2.1).zip (W.map (·.1))).map (·.2) = W.map (·.1) := List.map_snd_zip (by rw [List.length_map, List.length_map]; omega)
        rw [em]
        constructor
        · intro h
          obtain ⟨c, hc, rfl⟩ := List.mem_map.mp h
          exact ⟨c.2, (bf.lead c hc).2, (bf.lead c hc).1⟩
        · rintro ⟨v, hv, rfl⟩
          obtain ⟨z, hz, ez, _⟩ := bf.all v hv
          rw [← ez]
          exact List.mem_map_of_mem hz
end
end Lk

set_option maxHeartbeats 4000000
namespace Lk
open PySem PySem.Spec PyProof.Rows L2
/-! ### some who meet: the plain law -/
/-- alike on what they look at -/
def Agr (L : Pl) (t u : Nat → Bool) : Prop := ∀ i ∈ L.marks, t i = u i
theorem hold_agr {L : Pl} (ok : RowsOk L.rows) {t u : Nat → Bool} (h : Agr L t u) {ring : List Str} : ∀ i, i ∈ L.cone → hold L.rows t ring i = hold L.rows u ring i := by
  intro i
  induction i using Nat.strongRecOn with
  | _ i ih =>
    intro hi
    obtain ⟨r, hr, hc⟩ := cone_closed ok i hi
    rw [hold_eq ok hr, hold_eq ok hr]
    have ho := ok i r hr
    cases r with
    | fl => rfl
    | ds k m => rfl
    | ng j =>
      have ho : j < i := ho
      simp only [Rw.val]
      rw [ih j ho (hc j (by simp [Rw.refs]))]
    | cj j l =>
      have ho : j < i ∧ l < i := ho
      simp only [Rw.val]
      rw [ih j ho.1 (hc j (by simp [Rw.refs])), ih l ho.2 (hc l (by simp [Rw.refs]))]
    | dj j l =>
      have ho : j < i ∧ l < i := ho
      simp only [Rw.val]
      rw [ih j ho.1 (hc j (by simp [Rw.refs])), ih l ho.2 (hc l (by simp [Rw.refs]))]
    | sh k j =>
      simp only [Rw.val]
      refine h i (mem_marks.mpr ⟨hi, ?_⟩)
      unfold shAt
      rw [hr]
      rfl
theorem pick_cone {L : Pl} (ok : L.Ok) {i : Nat} (h : i ∈ L.picks) : i ∈ L.cone := mem_cone.mpr ⟨(ok.pk i h).1, .pick h⟩
theorem pickMv_congr {g h : Nat → Bool} : ∀ (ms : List Str) (ps : List Nat), (∀ i ∈ ps, g i = h i) → ((ms.zip ps).find? fun x => g x.2) = (ms.zip ps).find? fun x => h x.2
  | [], _, _ => by simp
  | _ :: _, [], _ => by simp
  | m :: ms, p :: ps, e => by
    rw [List.zip_cons_cons, List.find?_cons, List.find?_cons, e p (by simp), pickMv_congr ms ps fun i hi => e i (List.mem_cons_of_mem _ hi)]
theorem does_agr {L : Pl} (ok : L.Ok) {t u : Nat → Bool} (h : Agr L t u) : L.does t = L.does u := by
  unfold Pl.does pickMv
  rw [pickMv_congr L.moves L.picks fun i hi => hold_agr ok.rows h i (pick_cone ok hi)]
theorem lev_high' {L : Pl} {i : Nat} (h : i ∈ L.marks) : levAt L.rows i ≤ L.high := by
  unfold Pl.high
  have key : ∀ (ls : List Nat) (a x : Nat), (x ∈ ls ∨ x ≤ a) → x ≤ ls.foldl max a := by
    intro ls
    induction ls with
    | nil => intro a x h; exact h.resolve_left fun z => nomatch z
    | cons y r ih =>
      intro a x h
      rw [List.foldl_cons]
      refine ih _ x ?_
      rcases h with h | h
      · rcases List.mem_cons.mp h with rfl | h
        · exact .inr (Nat.le_max_right _ _)
        · exact .inl h
      · exact .inr (Nat.le_trans h (Nat.le_max_left _ _))
  exact key _ _ _ (.inl (List.mem_map_of_mem h))
theorem later_agr {L : Pl} (ok : L.Ok) {t u : Nat → Bool} (h : Agr L t u) {n m : Nat} (hn : L.high ≤ n ∨ n = m) (hm : L.high ≤ m ∨ n = m) {ring : List Str} : Agr L (L.later t n ring) (L.later u m ring) := fun i hi => by
  obtain ⟨k, j, hr, e1, e2⟩ := sh_row hi
  obtain ⟨r, hr2, hc⟩ := cone_closed ok.rows i (mem_marks.mp hi).1
  rw [hr] at hr2
  cases hr2
  have hj := hc j (by simp [Rw.refs])
  have hk := lev_high' hi
  unfold Pl.later
  rw [h i hi, e2, hold_agr ok.rows h j hj]
  have : decide (n < levAt L.rows i) = decide (m < levAt L.rows i) := by
    rcases hn with hn | rfl
    · rcases hm with hm | rfl
      · rw [decide_eq_false (by omega), decide_eq_false (by omega)]
      · rfl
    · rfl
  rw [this]
def rot (ms : List Str) (s : Nat) : List Str := ms.drop s ++ ms.take s
/-- what each one does -/
noncomputable def Dn (Ls : List Pl) (M : Nat → Nat → Bool) : List Str := Ls.mapIdx fun s L => L.does (M s)
/-- the truths of each one's showns, level by level -/
noncomputable def Met (Ls : List Pl) : Nat → Nat → Nat → Bool
  | 0, _, _ => true
  | n + 1, s, i => ((Ls[s]?).map fun L => L.later (Met Ls n s) n (rot (Dn Ls (Met Ls n)) s) i).getD true
noncomputable def done (Ls : List Pl) (n : Nat) : List Str := Dn Ls (Met Ls n)
theorem met_succ {Ls : List Pl} {s : Nat} {L : Pl} (h : Ls[s]? = some L) (n : Nat) : Met Ls (n + 1) s = L.later (Met Ls n s) n (rot (done Ls n) s) := by
  funext i
  show ((Ls[s]?).map _).getD true = _
  rw [h]
  rfl
/-- all of them stay from here on -/
def AgrAll (Ls : List Pl) (M N : Nat → Nat → Bool) : Prop := ∀ s L, Ls[s]? = some L → Agr L (M s) (N s)
theorem dn_agr {Ls : List Pl} (ok : ∀ L ∈ Ls, L.Ok) {M N : Nat → Nat → Bool} (h : AgrAll Ls M N) : Dn Ls M = Dn Ls N := by
  refine List.ext_getElem? fun s => ?_
  unfold Dn
  rw [List.getElem?_mapIdx, List.getElem?_mapIdx]
  cases e : Ls[s]? with
  | none => rfl
  | some L => exact congrArg some (does_agr (ok L (List.mem_of_getElem? e)) (h s L e))
theorem stays {Ls : List Pl} (ok : ∀ L ∈ Ls, L.Ok) {n : Nat} (hn : ∀ L ∈ Ls, L.high ≤ n) (h : AgrAll Ls (Met Ls n) (Met Ls (n + 1))) : ∀ k, AgrAll Ls (Met Ls n) (Met Ls (n + k)) ∧ done Ls (n + k) = done Ls n
  | 0 => ⟨fun _ _ _ _ _ => rfl, rfl⟩
  | k + 1 => by
    obtain ⟨ih1, ih2⟩ := stays ok hn h k
    have e : AgrAll Ls (Met Ls n) (Met Ls (n + (k + 1))) := fun s L hs i hi => by
      have hL := List.mem_of_getElem? hs
      rw [h s L hs i hi, met_succ hs n]
      show _ = Met Ls ((n + k) + 1) s i
      rw [met_succ hs (n + k), ih2]
      exact later_agr (ok L hL) (ih1 s L hs) (.inl (hn L hL)) (.inl (Nat.le_trans (hn L hL) (Nat.le_add_right _ _))) i hi
    exact ⟨e, (dn_agr ok e).symm⟩
/-- the showns' truths can only fall -/
noncomputable def muM (Ls : List Pl) (M : Nat → Nat → Bool) : Nat := (Ls.mapIdx fun s L => cnt (L.marks.map (M s))).sum
theorem sum_le : ∀ {xs ys : List Nat}, xs.length = ys.length → (∀ (i x y : Nat), xs[i]? = some x → ys[i]? = some y → x ≤ y) → xs.sum ≤ ys.sum
  | [], [], _, _ => Nat.le_refl _
  | x :: xs, y :: ys, hl, h => by
    have := sum_le (xs := xs) (ys := ys) (by simpa using hl) fun i a b h1 h2 => h (i + 1) a b h1 h2
    have := h 0 x y rfl rfl
    simp only [List.sum_cons]
    omega
theorem sum_lt : ∀ {xs ys : List Nat}, xs.length = ys.length → (∀ (i x y : Nat), xs[i]? = some x → ys[i]? = some y → x ≤ y) → (∃ (i x y : Nat), xs[i]? = some x ∧ ys[i]? = some y ∧ x < y) → xs.sum < ys.sum
  | [], [], _, _, h => by
    obtain ⟨i, x, y, h, _⟩ := h
    simp at h
  | x :: xs, y :: ys, hl, h, ⟨i, a, b, h1, h2, h3⟩ => by
    have hle := fun i a b h1 h2 => h (i + 1) a b h1 h2
    have h0 := h 0 x y rfl rfl
    simp only [List.sum_cons]
    cases i with
    | zero =>
      cases h1
      cases h2
      have := sum_le (xs := xs) (ys := ys) (by simpa using hl) hle
      omega
    | succ i =>
      have := sum_lt (xs := xs) (ys := ys) (by simpa using hl) hle ⟨i, a, b, h1, h2, h3⟩
      omega
theorem met_falls {Ls : List Pl} {s : Nat} {L : Pl} (h : Ls[s]? = some L) (n i : Nat) (hi : Met Ls (n + 1) s i = true) : Met Ls n s i = true := by
  rw [met_succ h] at hi
  exact (Bool.and_eq_true_iff.mp hi).1
theorem mu_fall {Ls : List Pl} {n : Nat} (h : ¬ AgrAll Ls (Met Ls n) (Met Ls (n + 1))) : muM Ls (Met Ls (n + 1)) < muM Ls (Met Ls n) := by
  unfold AgrAll at h
  have hle : ∀ (i x y : Nat), (Ls.mapIdx fun s L => cnt (L.marks.map (Met Ls (n + 1) s)))[i]? = some x → (Ls.mapIdx fun s L => cnt (L.marks.map (Met Ls n s)))[i]? = some y → x ≤ y := fun i x y h1 h2 => by
    rw [List.getElem?_mapIdx] at h1 h2
    obtain ⟨L, e1, rfl⟩ := Option.map_eq_some_iff.mp h1
    rw [e1] at h2
    cases h2
    exact cnt_le _ _ (fun j hj => met_falls e1 n j hj) _
  refine sum_lt (by simp) hle ?_
  have hex : ∃ s L, Ls[s]? = some L ∧ ¬ Agr L (Met Ls n s) (Met Ls (n + 1) s) := by
    refine Classical.byContradiction fun z => h fun s L hs => Classical.byContradiction fun y => z ⟨s, L, hs, y⟩
  obtain ⟨s, L, hs, hn⟩ := hex
  refine ⟨s, _, _, by rw [List.getElem?_mapIdx, hs]; rfl, by rw [List.getElem?_mapIdx, hs]; rfl, ?_⟩
  refine cnt_lt _ _ (fun j hj => met_falls hs n j hj) _ fun e => hn fun i hi => ?_
  exact (List.map_inj_left.mp e i hi).symm
theorem mu_le_all {Ls : List Pl} {M : Nat → Nat → Bool} : ∀ {b : Nat}, (∀ L ∈ Ls, L.marks.length ≤ b) → muM Ls M ≤ Ls.length * b := fun {b} h => by
  unfold muM
  have : ∀ (xs : List Nat), (∀ x ∈ xs, x ≤ b) → xs.sum ≤ xs.length * b := by
    intro xs
    induction xs with
    | nil => intro _; simp
    | cons x r ih =>
      intro h
      have := ih fun y hy => h y (List.mem_cons_of_mem _ hy)
      have := h x (by simp)
      rw [List.sum_cons, List.length_cons, Nat.add_mul]
      omega
  have h2 := this (Ls.mapIdx fun s L => cnt (L.marks.map (M s))) fun x hx => by
    obtain ⟨i, hi⟩ := List.mem_iff_getElem?.mp hx
    rw [List.getElem?_mapIdx] at hi
    obtain ⟨L, e1, rfl⟩ := Option.map_eq_some_iff.mp hi
    exact Nat.le_trans (cnt_len _) (by rw [List.length_map]; exact h L (List.mem_of_getElem? e1))
  rwa [List.length_mapIdx] at h2
/-! two of them: the first is led on by the other one's moves -/
theorem done_two (L R : Pl) (n : Nat) : done [L, R] n = [L.does (Met [L, R] n 0), R.does (Met [L, R] n 1)] := by
  simp [done, Dn]
noncomputable def ltr (L R : Pl) (n : Nat) : Str := R.does (Met [L, R] n 1)
theorem tr_of {L : Pl} {t : Nat → Bool} {s : Nat} : Agr L (L.tr (s, L.marks.map t)) t := fun i hi => by
  unfold Pl.tr
  have nd := marks_nd L
  generalize L.marks = ms at hi nd
  induction ms with
  | nil => cases hi
  | cons x r ih =>
    rw [List.nodup_cons] at nd
    show (List.lookup i ((x :: r).zip (t x :: r.map t))).getD false = _
    rw [List.zip_cons_cons, List.lookup_cons]
    by_cases e : i = x
    · subst e
      simp
    · rw [show (i == x) = false from beq_eq_false_iff_ne.mpr e]
      exact ih ((List.mem_cons.mp hi).resolve_left e) nd.2
/-- the first one's stand in the meeting -/
theorem met_stand {L R : Pl} (ok : L.Ok) : ∀ n, L.run L.init ((List.range n).map (ltr L R)) = (min n L.high, L.marks.map (Met [L, R] n 0))
  | 0 => by
    have e : L.marks.map (Met [L, R] 0 0) = List.replicate L.marks.length true := by
      rw [show Met [L, R] 0 0 = fun _ => true from rfl, List.map_const']
    rw [e, Nat.zero_min]
    rfl
  | n + 1 => by
    have ih := met_stand (L := L) (R := R) ok n
    rw [List.range_succ, List.map_append, List.map_cons, List.map_nil, run_snoc, ih]
    have ag := tr_of (L := L) (t := Met [L, R] n 0) (s := min n L.high)
    have em : L.mvs (min n L.high, L.marks.map (Met [L, R] n 0)) = L.does (Met [L, R] n 0) := does_agr ok ag
    unfold Pl.step
    rw [em]
    refine Prod.ext (show min (min n L.high + 1) L.high = min (n + 1) L.high by omega) ?_
    show L.marks.map _ = L.marks.map _
    refine List.map_congr_left fun i hi => ?_
    rw [met_succ (show ([L, R] : List Pl)[0]? = some L from rfl) n, done_two]
    show L.later _ (min n L.high) [L.does (Met [L, R] n 0), ltr L R n] i = L.later (Met [L, R] n 0) n [L.does (Met [L, R] n 0), R.does (Met [L, R] n 1)] i
    by_cases hn : n ≤ L.high
    · rw [Nat.min_eq_left hn]
      exact later_agr ok ag (.inr rfl) (.inr rfl) i hi
    · rw [Nat.min_eq_right (by omega)]
      exact later_agr ok ag (.inl (Nat.le_refl _)) (.inl (by omega)) i hi
/-- where they stay, the first one's pair is one that its letters bring about -/
theorem met_end {L R : Pl} (okL : L.Ok) (okR : R.Ok) {n : Nat} (hn : L.high ≤ n) (hr : R.high ≤ n) (h : AgrAll [L, R] (Met [L, R] n) (Met [L, R] (n + 1))) :
    L.endM (L.run L.init ((List.range n).map (ltr L R))) (ltr L R n) = L.does (Met [L, R] n 0) := by
  have ok : ∀ Q ∈ [L, R], Q.Ok := fun Q hQ => by
    rcases List.mem_cons.mp hQ with rfl | hQ
    · exact okL
    · rw [List.mem_singleton.mp hQ]; exact okR
  have es := met_stand (R := R) okL n
  have es2 := met_stand (R := R) okL (n + 1)
  rw [List.range_succ, List.map_append, List.map_cons, List.map_nil, run_snoc, es] at es2
  have ag := h 0 L rfl
  have eq : (min (n + 1) L.high, L.marks.map (Met [L, R] (n + 1) 0)) = (min n L.high, L.marks.map (Met [L, R] n 0)) :=
    Prod.ext (show min (n + 1) L.high = min n L.high by omega) (show L.marks.map _ = L.marks.map _ from List.map_congr_left fun i hi => (ag i hi).symm)
  rw [eq] at es2
  have hrest : L.rest (min n L.high, L.marks.map (Met [L, R] n 0)) (ltr L R n) = true := by
    unfold Pl.rest
    rw [decide_eq_true es2, decide_eq_true (show min n L.high = L.high by omega)]
    rfl
  have sok : Sd.Ok L (min n L.high, L.marks.map (Met [L, R] n 0)) := ⟨Nat.min_le_right _ _, by simp⟩
  rw [es]
  unfold Pl.endM
  rw [endS_rest sok hrest]
  exact does_agr okL tr_of
end Lk

set_option maxHeartbeats 4000000
namespace Lk
open PySem PySem.Spec PyProof.Rows L2
/-! ### some who meet: the program's defs -/
structure TxM (K : PySem.W.Frag) (w : World) (mg : Str → Option Value) (cM cS cF : Addr) : Prop where
  MOST_SEATS : ∃ t, mg "MOST_SEATS" = some (.int 4 t)
  MOST_LETTERS : ∃ t, mg "MOST_LETTERS" = some (.int 99 t)
  HIGHEST : ∃ t, mg "HIGHEST" = some (.int 1000000000 t)
  Meeting : mg "Meeting" = some (.ref cM)
  Sheet : mg "Sheet" = some (.ref cS)
  clM : Cls K cM
  clS : Cls K cS
  naM : ∀ f ∈ (["sitting", "high", "lines", "by_level"] : List Str), NoAttr K cM f
  naS : ∀ f ∈ (["put_down"] : List Str), NoAttr K cS f
section
variable {X : Cx} {cM cS cF : Addr} {pos : Pos} (TM : TxM X.K X.w X.mg cM cS cF)
include TM
theorem gl_MOST_SEATS (hg : Gl X "MOST_SEATS" := by rfl) : PE X (.Name "MOST_SEATS" pos) (tC (.int 4)) := gl_int TM.MOST_SEATS hg (by decide)
theorem gl_HIGHEST (hg : Gl X "HIGHEST" := by rfl) : PE X (.Name "HIGHEST" pos) (tC (.int 1000000000)) := gl_int TM.HIGHEST hg (by decide)
theorem gl_MOST_LETTERS (hg : Gl X "MOST_LETTERS" := by rfl) : PE X (.Name "MOST_LETTERS" pos) (tC (.int 99)) := gl_int TM.MOST_LETTERS hg (by decide)
end
theorem isiK {X : Cx} (K : PySem.W.Frag) (h : X.K = K := by rfl) : CallR X (.builtin "isinstance") (rIsi K) := h ▸ call_isi
/-- a tuple's slice, one way -/
theorem slT1 {X : Cx} : SlR X (fun x lo hi H Q => ∃ a xs, x = .ref a ∧ H a = some (.tup xs) ∧ ∀ p H', Same H H' → H' p = some (.tup (cutV xs lo hi)) → Q (.ref p) H') := by
  intro pins s σ H x v vl vu lo hi sl Q I rx hs pl pu ⟨a, xs, ex, hx, q⟩
  subst ex
  refine sl_tupA pins s σ H _ v vl vu lo hi sl Q I rx hs pl pu ⟨a, xs, rfl, .inl (.inl hx), fun hw => q a H (fun _ _ e => e) ?_, fun _ p np => q p _ (same_new np) upd_same⟩
  have : cutV xs lo hi = xs := by
    unfold cutV
    rw [hw.1, hw.2]
    simp
  rw [this]
  exact hx
theorem cut_dn (xs : List V) (k : Nat) : cutV xs (some (k : Int)) none = xs.drop k := by
  unfold cutV
  rw [HT.sIx_nat, HT.sIx_none]
  rcases Nat.le_total k xs.length with h | h
  · rw [Nat.min_eq_left h, List.take_of_length_le (by rw [List.length_drop]; omega)]
  · rw [Nat.min_eq_right h, List.drop_length, List.drop_eq_nil_of_le h]
    simp
theorem cut_up (xs : List V) (k : Nat) : cutV xs none (some (k : Int)) = xs.take k := by
  unfold cutV
  rw [HT.sIx_nat, HT.sIx_none, List.drop_zero, Nat.sub_zero]
  rcases Nat.le_total k xs.length with h | h
  · rw [Nat.min_eq_left h]
  · rw [Nat.min_eq_right h, List.take_length, List.take_of_length_le h]
noncomputable def nxt (Ls : List Pl) (M : Nat → Nat → Bool) (n : Nat) (s i : Nat) : Bool := ((Ls[s]?).map fun L => L.later (M s) n (rot (Dn Ls M) s) i).getD true
theorem met_nxt (Ls : List Pl) (n : Nat) : Met Ls (n + 1) = nxt Ls (Met Ls n) n := rfl
theorem range_mapIdx {α β : Type} : ∀ (xs : List α) (g : Nat → α → β), (List.range xs.length).filterMap (fun i => (xs[i]?).map (g i)) = xs.mapIdx g
  | [], _ => rfl
  | x :: r, g => by
    rw [List.length_cons, List.range_succ_eq_map, List.filterMap_cons, List.filterMap_map, List.mapIdx_cons]
    show g 0 x :: _ = _
    refine congrArg (g 0 x :: ·) ?_
    rw [← range_mapIdx r fun i => g (i + 1)]
    rfl
structure PlsAt (cP : Addr) (H : Hp) (xs : List V) (Ls : List Pl) : Prop where
  len : xs.length = Ls.length
  at_ : ∀ (s : Nat) (L : Pl), Ls[s]? = some L → ∃ p, xs[s]? = some (.ref p) ∧ PlAt cP H p L
theorem PlsAt.mono {cP : Addr} {H H' : Hp} {xs : List V} {Ls : List Pl} (s : Same H H') (h : PlsAt cP H xs Ls) : PlsAt cP H' xs Ls :=
  ⟨h.len, fun k L e => let ⟨p, h1, h2⟩ := h.at_ k L e; ⟨p, h1, h2.mono s⟩⟩
theorem PlsAt.get {cP : Addr} {H : Hp} {xs : List V} {Ls : List Pl} (h : PlsAt cP H xs Ls) {s : Nat} {x : V} (e : xs[s]? = some x) : ∃ L p, Ls[s]? = some L ∧ x = .ref p ∧ PlAt cP H p L := by
  have hs := (List.getElem?_eq_some_iff.mp e).1
  have hs : s < Ls.length := h.len ▸ hs
  obtain ⟨p, h1, h2⟩ := h.at_ s _ (List.getElem?_eq_getElem hs)
  rw [e] at h1
  cases h1
  exact ⟨_, p, List.getElem?_eq_getElem hs, rfl, h2⟩
structure TrsAt (H : Hp) (ts : List V) (Ls : List Pl) (M : Nat → Nat → Bool) : Prop where
  len : ts.length = Ls.length
  at_ : ∀ (s : Nat) (L : Pl), Ls[s]? = some L → ∃ d, ts[s]? = some (.ref d) ∧ H d = some (.dK (trE L (M s)))
theorem TrsAt.mono {H H' : Hp} {ts : List V} {Ls : List Pl} {M : Nat → Nat → Bool} (s : Same H H') (h : TrsAt H ts Ls M) : TrsAt H' ts Ls M :=
  ⟨h.len, fun k L e => let ⟨p, h1, h2⟩ := h.at_ k L e; ⟨p, h1, s _ _ h2⟩⟩
theorem TrsAt.get {H : Hp} {ts : List V} {Ls : List Pl} {M : Nat → Nat → Bool} (h : TrsAt H ts Ls M) {s : Nat} {x : V} (e : ts[s]? = some x) : ∃ L d, Ls[s]? = some L ∧ x = .ref d ∧ H d = some (.dK (trE L (M s))) := by
  have hs := (List.getElem?_eq_some_iff.mp e).1
  have hs : s < Ls.length := h.len ▸ hs
  obtain ⟨p, h1, h2⟩ := h.at_ s _ (List.getElem?_eq_getElem hs)
  rw [e] at h1
  cases h1
  exact ⟨_, p, List.getElem?_eq_getElem hs, rfl, h2⟩
def spNeedPlayers (cP : Addr) : Sp := fun vs H Q _ => ∃ (a : Addr) (xs : List V) (Ls : List Pl), vs = [.ref a] ∧ Lt H a xs ∧ PlsAt cP H xs Ls ∧ 1 ≤ Ls.length ∧ Ls.length ≤ 4 ∧ ∀ H', Same H H' → Q .non H'
def spRing : Sp := fun vs H Q _ => ∃ (a : Addr) (ms : List Str) (n : Nat), vs = [.ref a, nV n] ∧ H a = some (.tup (ms.map V.str)) ∧ ms.length ≤ 4 ∧ ∀ q H', Same H H' → H' q = some (.tup ((rot ms n).map V.str)) → Q (.ref q) H'
def spFirstT (cP : Addr) : Sp := fun vs H Q _ => ∃ p L, vs = [.ref p] ∧ PlAt cP H p L ∧ L.rows.length ≤ 120 ∧ ∀ d H', Same H H' → H d = none → H' d = some (.dK (trE L fun _ => true)) → Q (.ref d) H'
def spDoneBy (cP : Addr) : Sp := fun vs H Q _ => ∃ (a t : Addr) (xs ts : List V) (Ls : List Pl) (M : Nat → Nat → Bool), vs = [.ref a, .ref t] ∧ Lt H a xs ∧ PlsAt cP H xs Ls ∧ (∀ L ∈ Ls, L.Ok) ∧ Ls.length ≤ 4 ∧ H t = some (.lst ts) ∧ TrsAt H ts Ls M ∧
  ∀ q H', Same H H' → H' q = some (.tup ((Dn Ls M).map V.str)) → Q (.ref q) H'
def spLedAll (cP : Addr) : Sp := fun vs H Q _ => ∃ (a t : Addr) (xs ts : List V) (Ls : List Pl) (M : Nat → Nat → Bool) (n : Nat), vs = [.ref a, .ref t, nV n] ∧ Lt H a xs ∧ PlsAt cP H xs Ls ∧ (∀ L ∈ Ls, L.Ok) ∧ Ls.length ≤ 4 ∧ H t = some (.lst ts) ∧ TrsAt H ts Ls M ∧
  ∀ q H' zs, Same H H' → H q = none → H' q = some (.lst zs) → TrsAt H' zs Ls (nxt Ls M n) → Q (.ref q) H'
def spLine : Sp := fun vs H Q _ => ∃ (t : Addr) (ts : List V) (Ls : List Pl) (M : Nat → Nat → Bool), vs = [.ref t] ∧ H t = some (.lst ts) ∧ TrsAt H ts Ls M ∧ Ls.length ≤ 4 ∧ ∀ q H', Same H H' → Q (.ref q) H'
section
variable {P : Program} {w : World} {K : PySem.W.Frag} {mg : Str → Option Value} {base : Heap} {cP cG cT cM cS cF : Addr} {f : Addr} {fd : FuncData} (T : Txt K w mg cP cG cT) (TM : TxM K w mg cM cS cF)
include T TM
theorem ok_need_players {C_is_list : Cal P w K mg base "is_list" 1 ["thing"] spIsList} (F : FnP K "need_players" "need_players" s_need_players f fd) : FnOk P w K mg base CX0 2 f fd ["thing"] (spNeedPlayers cP) := by
  refine okN F sc_need_players (fun vs H Q E h => ?_) (fun cdv A outer s H vs Q E hr h => ?_)
  · obtain ⟨a, xs, Ls, rfl, _⟩ := h
    rfl
  · obtain ⟨a, xs, Ls, rfl, ha, hp, h1, h4, q⟩ := h
    have hl := hp.len
    refine ⟨_, (pss_cons (ps_if (PW.pt (pw_or (pt_not (pt_val (pe_cal C_is_list hr (pa_cons (pv 0) pa_nil)))) (pw_or1 (pt_not (pt_chain op_le op_le pe_int (pe_callB (lenS K) (by rfl) T.len_ b_len (pa_cons (pv 0) pa_nil)) (gl_MOST_SEATS TM)))))) (pss_one ps_never) pss_nil)
      (pss_one (ps_if (pt_not (pt_val (pe_callB (allS K rfl) (by rfl) T.all_ b_all (pa_cons (pe_lc (own := [("one", 1)]) rfl sc_need_players.nd (pi_sq (pv 0)) (blkOk_by (own := [("one", 1)]) (N := ["thing", "one"]) (sc := defScope s_need_players) (by decide +kernel)) (fun _ _ _ _ _ => pg_name (i := 1) sc_need_players.nd rfl (Or.inl rfl)) (fun _ _ _ _ _ => pts_nil) (fun _ _ _ _ _ => (pe_callB (isiK K) (by rfl) T.isinstance_ b_isinstance (pa_cons (pv 1) (pa_cons (gl_Player T) pa_nil))))) pa_nil)))) (pss_one ps_never) pss_nil))), ?_⟩
    refine ⟨_, rfl, a, xs, rfl, ha, fun H1 s1 => ⟨true, rfl, ?_⟩⟩
    refine iteF ?_
    have ha1 := ha.mono s1
    refine ⟨_, rfl, a, _, rfl, ha1.sq, _, _, rfl, rfl, true, congrArg V.bl (decide_eq_true (by omega)), ?_⟩
    refine iteT ?_
    refine ⟨_, _, rfl, rfl, true, congrArg V.bl (decide_eq_true (by omega)), ?_⟩
    refine iteF ?_
    refine ⟨_, rfl, a, _, rfl, ha1, fun J hJ D hD => ?_⟩
    refine lcW_fm hJ (fun _ => some (.bl true)) hD (by omega) (fun H2 s2 => same_of s2 ha1) (fun i x H2 H' hi s2 y K1 K0 k1 k0 => ?_) (fun H2 s2 e => ?_)
    · obtain ⟨rfl, hx⟩ := y
      refine ⟨rfl, yesT ?_⟩
      obtain ⟨L, p, hL, rfl, hpl⟩ := (hp.mono (s1.trans s2)).get hx
      obtain ⟨dx, a1, b1, c1, d1, xs1, g1, _⟩ := hpl.ex
      refine ⟨_, rfl, _, _, _, _, true, rfl, .own _, .base (.ins g1 T.clP T.isP.1 T.isP.2.1 T.isP.2.2.1 T.isP.2.2.2.1), T.isP.2.2.2.2, k1 _ _ rfl (fun _ _ e => e)⟩
    · refine ⟨D, List.replicate xs.length true, rfl, .inl (.inl ?_), ?_⟩
      · rw [e, rep_bl]
        simp [List.filterMap_eq_map, List.map_const']
      · rw [all_rep]
        refine ⟨true, rfl, ?_⟩
        refine iteF ?_
        exact q _ (s1.trans s2)
theorem ok_ring_of (F : FnP K "ring_of" "ring_of" s_ring_of f fd) : FnOk P w K mg base CX0 1 f fd ["moves", "seat"] spRing := by
  refine okN F sc_ring_of (fun vs H Q E h => ?_) (fun cdv A outer s H vs Q E hr h => ?_)
  · obtain ⟨a, ms, n, rfl, _⟩ := h
    rfl
  · obtain ⟨a, ms, n, rfl, ha, h4, q⟩ := h
    refine ⟨_, (pss_one (ps_ret (pe_op catT (pe_callTy tupA (by rfl) T.tuple_ b_tuple (pa_cons (pe_slice slT1 (pv 0) (po_some (pv 1)) po_none) pa_nil)) (pe_callTy tupA (by rfl) T.tuple_ b_tuple (pa_cons (pe_slice slT1 (pv 0) po_none (po_some (pv 1))) pa_nil))))), ?_⟩
    refine ⟨_, rfl, _, rfl, _, rfl, a, _, rfl, ha, fun p H1 s1 hp1 => ⟨p, _, rfl, .inr hp1, fun p2 H2 s2 hp2 => ?_⟩⟩
    refine ⟨_, rfl, _, rfl, _, rfl, a, _, rfl, s2 _ _ (s1 _ _ ha), fun p3 H3 s3 hp3 => ⟨p3, _, rfl, .inr hp3, fun p4 H4 s4 hp4 => ?_⟩⟩
    refine ⟨p2, p4, _, _, rfl, rfl, s4 _ _ (s3 _ _ hp2), hp4, ?_, fun p5 H5 s5 hp5 => q p5 H5 ((((s1.trans s2).trans s3).trans s4).trans s5) ?_⟩
    · rw [cut_dn, cut_up, List.length_drop, List.length_take, List.length_map]
      exact sz_le (by omega)
    · rw [hp5, cut_dn, cut_up, ← List.map_drop, ← List.map_take, ← List.map_append]
      rfl
theorem ok_first_truths {M_showns : Mth P w K mg base cP "showns" 1 ["self"] (spShowns cP)} (F : FnP K "first_truths" "first_truths" s_first_truths f fd) : FnOk P w K mg base CX0 2 f fd ["player"] (spFirstT cP) := by
  refine okN F sc_first_truths (fun vs H Q E h => ?_) (fun cdv A outer s H vs Q E hr h => ?_)
  · obtain ⟨p, L, rfl, _⟩ := h
    rfl
  · obtain ⟨p, L, rfl, hp, hl, q⟩ := h
    obtain ⟨dx, a1, b1, c1, d1, xs1, g1, _⟩ := hp.ex
    refine ⟨_, (pss_one (ps_ret (pe_dcN (hu16 hr) (own := [("at", 1)]) rfl sc_first_truths.nd (pi_sq (pe_mth0 T.clP M_showns hr (pv 0))) (blkOk_by (own := [("at", 1)]) (N := ["player", "at"]) (sc := defScope s_first_truths) (by decide +kernel)) (fun _ _ _ _ _ => pg_name (i := 1) sc_first_truths.nd rfl (Or.inl rfl)) (fun _ _ _ _ _ => pts_nil) (fun _ _ _ _ _ => (pv 1)) (fun _ _ _ _ _ => pe_bl)))), ?_⟩
    refine ⟨_, rfl, p, _, _, rfl, g1, rfl, p, L, rfl, hp, hl, fun m H1 s1 nm hm => ?_⟩
    refine ⟨m, _, rfl, .inl hm, fun J hJ D hD => ?_⟩
    have hml := marks_len L hl
    refine dcN_it hJ (.dK []) (.inl rfl) (fun i H' => Same H1 H' ∧ H' D = some (.dK ((L.marks.take i).map fun i => (kN i, V.bl true)))) ⟨same_new hD, upd_same⟩ (fun i H' hi h => same_of h.1 (.inl hm)) (fun i x H9 H2 hi h y => ?_) (fun H2 h => ?_)
    · obtain ⟨rfl, hx⟩ := y
      obtain ⟨s2, hd⟩ := h
      rw [List.getElem?_map] at hx
      obtain ⟨j, hj, rfl⟩ := Option.map_eq_some_iff.mp hx
      refine ⟨rfl, yesT ?_⟩
      have hln : (L.marks.take i).length ≤ 120 := Nat.le_trans (List.length_take_le' _ _) hml
      refine ⟨_, rfl, .inl ⟨_, kN j, rfl, hd, by rw [List.length_map]; exact sz_lt (by omega), same_mut s2 hD, ?_⟩⟩
      rw [upd_same, List.take_add_one, hj]
      show some (HO.dK _) = some (HO.dK (((L.marks.take i) ++ [j]).map fun i => (kN i, V.bl true)))
      rw [List.map_append]
      refine congrArg (fun z => some (HO.dK z)) (putK_new _ ?_)
      have hnot : j ∉ L.marks.take i := fun hm => by
        obtain ⟨k, hk⟩ := List.mem_iff_getElem?.mp hm
        have hkl := (List.getElem?_eq_some_iff.mp hk).1
        rw [List.length_take] at hkl
        rw [List.getElem?_take, if_pos (by omega)] at hk
        obtain ⟨q1, q2⟩ := List.getElem?_eq_some_iff.mp hk
        obtain ⟨p1, p2⟩ := List.getElem?_eq_some_iff.mp hj
        have := (List.pairwise_iff_getElem.mp (marks_sorted L)) k i q1 p1 (by omega)
        omega
      generalize L.marks.take i = ms at hnot
      clear hd hln
      induction ms with
      | nil => rfl
      | cons x r ih =>
        have hx : x ≠ j := fun e => hnot (by simp [e])
        have ih := ih fun hm => hnot (List.mem_cons_of_mem _ hm)
        unfold valV at ih ⊢
        rw [List.map_cons, List.find?_cons, decide_eq_false (fun e => hx (by have e : (kN x : Key) = kN j := e; unfold kN at e; injection e with e; omega))]
        exact ih
    · obtain ⟨s2, hd⟩ := h
      rw [List.take_of_length_le (by simp)] at hd
      exact q D H2 (s1.trans s2) (none_of s1 hD) hd
theorem ok_done_by {C_move_of : Cal P w K mg base "move_of" 3 ["player", "truths"] (spMoveOf cP)} (F : FnP K "done_by" "done_by" s_done_by f fd) : FnOk P w K mg base CX0 4 f fd ["players", "truths"] (spDoneBy cP) := by
  refine okN F sc_done_by (fun vs H Q E h => ?_) (fun cdv A outer s H vs Q E hr h => ?_)
  · obtain ⟨a, t, xs, ts, Ls, M, rfl, _⟩ := h
    rfl
  · obtain ⟨a, t, xs, ts, Ls, M, rfl, ha, hp, ok, h4, ht, hts, q⟩ := h
    have hl := hp.len
    have hl2 := hts.len
    refine ⟨_, (pss_one (ps_ret (pe_callTy tupA (by rfl) T.tuple_ b_tuple (pa_cons (pe_lc (own := [("player", 2), ("some", 3)]) rfl sc_done_by.nd (pi_zip2 K (by rfl) T.zip_ (pa_cons (pv 0) (pa_cons (pv 1) pa_nil))) (blkOk_by (own := [("player", 2), ("some", 3)]) (N := ["players", "truths", "player", "some"]) (sc := defScope s_done_by) (by decide +kernel)) (fun _ _ _ _ _ => pgT K 2 rfl (pgs_cons (pg_name (i := 2) sc_done_by.nd rfl (Or.inl rfl)) (pgs_cons (pg_name (i := 3) sc_done_by.nd rfl (Or.inl rfl)) pgs_nil))) (fun _ _ _ _ _ => pts_nil) (fun _ _ _ _ _ => (pe_cal C_move_of hr (pa_cons (pv 2) (pa_cons (pv 3) pa_nil))))) pa_nil)))), ?_⟩
    refine ⟨_, rfl, _, rfl, a, t, xs, ts, rfl, ha.sq, .inl (.inl (.inl ht)), fun J hJ D hD => ?_⟩
    refine lcW_fm hJ (fun i => (Ls[i]?).map fun L => .str (L.does (M i))) hD (by omega) (fun H2 s2 => ⟨same_of s2 ha, same_of s2 (.inl ht)⟩) (fun i x H9 H2 hi s2 y K1 K0 k1 k0 => ?_) (fun H2 s2 e => ?_)
    · obtain ⟨T1, x1, x2, rfl, nT, rfl, e1, e2⟩ := y
      obtain ⟨L, p, hL, rfl, hpl⟩ := (hp.mono s2).get e1
      obtain ⟨L', d, hL', rfl, hd⟩ := (hts.mono s2).get e2
      rw [hL] at hL'
      cases hL'
      have s3 := same_new (o := .tup [.ref p, .ref d]) nT
      refine ⟨T1, _, rfl, .inl (.inl upd_same), rfl, _, _, rfl, _, _, rfl, rfl, rfl, yesT ?_⟩
      exact ⟨_, rfl, _, rfl, p, d, L, M i, rfl, hpl.mono s3, ok L (List.mem_of_getElem? hL), .inl (s3 _ _ hd), fun H4 s4 => k1 _ _ (by rw [hL]; rfl) (s3.trans s4)⟩
    · have en : min xs.length ts.length = Ls.length := by omega
      rw [en] at e
      have e2 : (List.range Ls.length).filterMap (fun i => (Ls[i]?).map fun L => V.str (L.does (M i))) = (Dn Ls M).map V.str := by
        rw [range_mapIdx Ls fun i L => V.str (L.does (M i))]
        unfold Dn
        refine List.ext_getElem? fun i => ?_
        rw [List.getElem?_map, List.getElem?_mapIdx, List.getElem?_mapIdx, Option.map_map]
        rfl
      rw [e2] at e
      exact ⟨D, _, rfl, .inl e, fun p H3 s3 hp3 => q p H3 (s2.trans s3) hp3⟩
theorem ok_led_all {C_done_by : Cal P w K mg base "done_by" 4 ["players", "truths"] (spDoneBy cP)} {C_led_truths : Cal P w K mg base "led_truths" 3 ["rows", "wanted", "truths", "level", "ring"] spLed} {C_ring_of : Cal P w K mg base "ring_of" 1 ["moves", "seat"] spRing} {M_rows : Mth P w K mg base cP "rows" 1 ["self"] (spRows cP)}
    (F : FnP K "led_all" "led_all" s_led_all f fd) : FnOk P w K mg base CX0 5 f fd ["players", "truths", "level"] (spLedAll cP) := by
  refine okN F sc_led_all (fun vs H Q E h => ?_) (fun cdv A outer s H vs Q E hr h => ?_)
  · obtain ⟨a, t, xs, ts, Ls, M, n, rfl, _⟩ := h
    rfl
  · obtain ⟨a, t, xs, ts, Ls, M, n, rfl, ha, hp, ok, h4, ht, hts, q⟩ := h
    have hl := hp.len
    have hl2 := hts.len
    refine ⟨_, (pss_cons (ps_set (i := 3) sc_led_all.nd rfl (Or.inl rfl) (pe_cal C_done_by hr (pa_cons (pv 0) (pa_cons (pv 1) pa_nil))))
      (pss_cons (ps_set (i := 4) sc_led_all.nd rfl (Or.inl rfl) (pe_lst pa_nil))
      (pss_cons (ps_for PassesOwn.never rfl (pi_enumS (by rfl) T.enumerate_ (pa_cons (pv 0) pa_nil)) (pgT K 2 rfl (pgs_cons (pg_name (i := 5) sc_led_all.nd rfl (Or.inl rfl)) (pgs_cons (pg_name (i := 6) sc_led_all.nd rfl (Or.inl rfl)) pgs_nil))) (pss_one (ps_expr (pe_bm PySem.F.plainAttrs_list PySem.F.slot_list_append PySem.F.type_list_append mt_append (pv 4) (pa_cons (pe_cal C_led_truths hr (pa_cons (pe_mth0 T.clP M_rows hr (pv 6)) (pa_cons (fldK K (pv 6) rfl) (pa_cons (pe_ix (ixL K) (pv 1) (pv 5) (fun _ _ => rfl)) (pa_cons (pv 2) (pa_cons (pe_cal C_ring_of hr (pa_cons (pv 3) (pa_cons (pv 5) pa_nil))) pa_nil)))))) pa_nil)))))
      (pss_one (ps_ret (pv 4)))))), ?_⟩
    refine ⟨_, rfl, _, rfl, a, t, xs, ts, Ls, M, rfl, ha, hp, ok, h4, ht, hts, fun dn H1 s1 hdn => ?_⟩
    refine ⟨(by show 0 ≤ sizeLine; decide), fun z nz => ?_⟩
    have s2 := s1.trans (same_new (o := .lst []) nz)
    have hz2 : (upd H1 z (.lst [])) z = some (.lst []) := upd_same
    have hdn2 := same_new (o := .lst []) nz _ _ hdn
    have nz0 := none_of s1 nz
    generalize upd H1 z (.lst []) = H2 at s2 hz2 hdn2
    refine ⟨_, rfl, a, xs, rfl, ha.mono s2, fun J hJ => ?_⟩
    refine for_it hJ (fun k σ H' => Same H H' ∧ H' dn = some (.tup ((Dn Ls M).map V.str)) ∧ (∃ u v, σ = [some (.ref a), some (.ref t), some (nV n), some (.ref dn), some (.ref z), u, v]) ∧ ∃ zs, H' z = some (.lst zs) ∧ TrsAt H' zs (Ls.take k) (nxt Ls M n))
      ⟨s2, hdn2, ⟨_, _, rfl⟩, [], hz2, ⟨rfl, fun s L e => by simp at e⟩⟩ (fun k σ H' hk h => (same_of h.1 ha).trans (same_of s2 ha).symm) (fun k x σ H9 H6 hk h y => ?_) (fun σ H6 h => ?_)
    · obtain ⟨s3, hdn3, ⟨u, v, rfl⟩, zs, hz3, hzs3⟩ := h
      obtain ⟨T1, x1, x2, rfl, nT, rfl, e1, e2⟩ := y
      cases e1
      obtain ⟨L, p, hL, rfl, hpl⟩ := (hp.mono s3).get e2
      obtain ⟨d, hd', hd⟩ := (hts.mono s3).at_ k L hL
      have sN := same_new (o := .tup [nV k, .ref p]) nT
      refine ⟨T1, _, rfl, .inl (.inl upd_same), rfl, _, _, rfl, _, _, rfl, rfl, ?_⟩
      obtain ⟨dx, pa, pb, pc, pd, pxs, g1, g2, g3, g4, g5, g6⟩ := hpl.ex
      refine ⟨_, rfl, .inl ⟨rfl, _, .inl (.inl (sN _ _ hz3))⟩, ?_⟩
      have hplN := hpl.mono sN
      refine ⟨_, rfl, p, _, _, rfl, sN _ _ g1, rfl, p, L, rfl, hplN, fun ra rxs hra hrxs => ?_⟩
      refine ⟨_, rfl, p, _, _, _, _, rfl, sN _ _ g1, T.clP, T.naP _ (by simp), rfl, ?_⟩
      refine ⟨_, rfl, _, rfl, t, ts, _, _, rfl, rfl, .inl (.inl (sN _ _ (s3 _ _ ht))), atI_nat hd', ?_⟩
      refine ⟨_, rfl, _, rfl, _, rfl, dn, Dn Ls M, k, rfl, sN _ _ hdn3, by rw [Dn, List.length_mapIdx]; exact h4, fun rg H4 s4 hrg => ?_⟩
      have sN4 := sN.trans s4
      have okL := ok L (List.mem_of_getElem? hL)
      refine ⟨ra, pd, d, rg, n, rxs, L, M k, rot (Dn Ls M) k, rfl, s4 _ _ hra, hrxs.mono s4, okL, sN4 _ _ g6, sN4 _ _ hd, hrg, fun e H5 s5 ne he => ?_⟩
      have sN5 := sN4.trans s5
      have hz5 := sN5 _ _ hz3
      have hzl : zs.length = k := by rw [hzs3.len, List.length_take]; omega
      refine ⟨z, zs, _, rfl, rfl, hz5, by rw [hzl]; exact sz_lt (by omega), ?_⟩
      refine ⟨same_mut (s3.trans sN5) nz0, ?_, ⟨_, _, rfl⟩, zs ++ [.ref e], upd_same, ?_⟩
      · have : dn ≠ z := fun e => by rw [e, hz3] at hdn3; cases hdn3
        rw [upd_ne this]
        exact sN5 _ _ hdn3
      · refine ⟨by rw [List.length_append, hzl, List.length_take]; simp; omega, fun s L' e' => ?_⟩
        have hez : e ≠ z := fun q => by rw [q, s4 _ _ (sN _ _ hz3)] at ne; cases ne
        rcases Nat.lt_or_ge s k with h | h
        · rw [List.getElem?_take, if_pos (by omega)] at e'
          obtain ⟨d', q1, q2⟩ := hzs3.at_ s L' (by rw [List.getElem?_take, if_pos h]; exact e')
          refine ⟨d', by rw [List.getElem?_append_left (by omega)]; exact q1, ?_⟩
          have : d' ≠ z := fun e => by rw [e, hz3] at q2; cases q2
          rw [upd_ne this]
          exact sN5 _ _ q2
        · rw [List.getElem?_take] at e'
          have hs : s = k := by
            split at e'
            · omega
            · cases e'
          subst hs
          rw [if_pos (by omega), hL] at e'
          cases e'
          refine ⟨e, by rw [List.getElem?_append_right (by omega), hzl, Nat.sub_self]; rfl, ?_⟩
          rw [upd_ne hez, he]
          unfold nxt
          rw [hL]
          rfl
    · obtain ⟨s3, hdn3, ⟨u, v, rfl⟩, zs, hz3, hzs3⟩ := h
      rw [hl, List.take_length] at hzs3
      exact ⟨_, rfl, q z H6 zs s3 nz0 hz3 hzs3⟩
theorem ok_line_of (F : FnP K "line_of" "line_of" s_line_of f fd) : FnOk P w K mg base CX0 1 f fd ["truths"] spLine := by
  refine okN F sc_line_of (fun vs H Q E h => ?_) (fun cdv A outer s H vs Q E hr h => ?_)
  · obtain ⟨t, ts, Ls, M, rfl, _⟩ := h
    rfl
  · obtain ⟨t, ts, Ls, M, rfl, ht, hts, h4, q⟩ := h
    have hl2 := hts.len
    refine ⟨_, (pss_one (ps_ret (pe_callTy tupA (by rfl) T.tuple_ b_tuple (pa_cons (pe_lc (own := [("some", 1)]) rfl sc_line_of.nd (pi_sq (pv 0)) (blkOk_by (own := [("some", 1)]) (N := ["truths", "some"]) (sc := defScope s_line_of) (by decide +kernel)) (fun _ _ _ _ _ => pg_name (i := 1) sc_line_of.nd rfl (Or.inl rfl)) (fun _ _ _ _ _ => pts_nil) (fun _ _ _ _ _ => (pe_tupVals (by rfl) T.tuple_ (pv 1)))) pa_nil)))), ?_⟩
    refine ⟨_, rfl, t, ts, rfl, .inl ht, fun J hJ D hD => ?_⟩
    refine it_by hJ (fun i H' => Same H H' ∧ ∃ zs, H' D = some (.lst zs) ∧ zs.length ≤ i) ⟨same_new hD, [], upd_same, Nat.le_refl _⟩ (fun i H' hi h => same_of h.1 (.inl ht)) (fun i x H9 H2 hi h y => ?_) (fun H2 h => ?_)
    · obtain ⟨s2, zs, hz, hzl⟩ := h
      obtain ⟨rfl, hx⟩ := y
      obtain ⟨L, d, hL, rfl, hd⟩ := (hts.mono s2).get hx
      refine ⟨rfl, yesT ⟨_, rfl, d, _, rfl, hd, fun p np => ?_⟩⟩
      have sN := same_new (o := .tup ((trE L (M i)).map (·.2))) np
      exact ⟨zs, sN _ _ hz, sz_lt (by omega), same_mut (s2.trans sN) hD, _, upd_same, by simp; omega⟩
    · obtain ⟨s2, zs, hz, hzl⟩ := h
      exact ⟨D, zs, rfl, .inl hz, fun p H3 s3 _ => q p H3 (s2.trans s3)⟩
end
end Lk

set_option maxHeartbeats 4000000
namespace Lk
open PySem PySem.Spec PyProof.Rows L2
/-! ### the class Meeting -/
def del (x : Addr) (H : Hp) : Hp := fun a => if a = x then none else H a
theorem sx_del {x : Addr} {H : Hp} : SameX x H (del x H) := fun a u n e => by unfold del; rw [if_neg n]; exact e
theorem del_x {x : Addr} {H : Hp} : del x H x = none := by unfold del; rw [if_pos rfl]
theorem del_same {x : Addr} {H : Hp} : Same (del x H) H := fun a u e => by
  unfold del at e
  by_cases h : a = x
  · rw [if_pos h] at e; cases e
  · rw [if_neg h] at e; exact e
theorem of_del {x : Addr} {H H' : Hp} (h : Same (del x H) H') : SameX x H H' := fun a u n e => h a u (by unfold del; rw [if_neg n]; exact e)
theorem PlsAt.monoX {cP : Addr} {H H' : Hp} {x C dx : Addr} {fs : List (Str × V)} {xs : List V} {Ls : List Pl} (s : SameX x H H') (hx : H x = some (.ins C dx fs)) (hf : fs.length < 4) (h : PlsAt cP H xs Ls) : PlsAt cP H' xs Ls :=
  ⟨h.len, fun k L e => let ⟨p, h1, h2⟩ := h.at_ k L e; ⟨p, h1, h2.monoX s hx hf⟩⟩
theorem TrsAt.upd {H : Hp} {ts : List V} {Ls : List Pl} {M : Nat → Nat → Bool} {p : Addr} {o : HO} (hp : ∀ kvs, H p ≠ some (.dK kvs)) (h : TrsAt H ts Ls M) : TrsAt (upd H p o) ts Ls M :=
  ⟨h.len, fun k L e => let ⟨d, h1, h2⟩ := h.at_ k L e; ⟨d, h1, by rw [upd_ne (by rintro rfl; exact hp _ h2)]; exact h2⟩⟩
noncomputable def trB (L : Pl) (t : Nat → Bool) : List (Int × Bool) := L.marks.map fun (i : Nat) => ((i : Int), t i)
theorem trE_bkv (L : Pl) (t : Nat → Bool) : trE L t = bKv (trB L t) := by
  unfold trE bKv trB
  rw [List.map_map]
  rfl
noncomputable def trsB (Ls : List Pl) (M : Nat → Nat → Bool) : List (List (Int × Bool)) := Ls.mapIdx fun s L => trB L (M s)
theorem paired_of {α β : Type} {R : α → β → Prop} : ∀ {xs : List α} {ys : List β}, xs.length = ys.length → (∀ (i : Nat) (x : α) (y : β), xs[i]? = some x → ys[i]? = some y → R x y) → Paired R xs ys
  | [], [], _, _ => .nil
  | x :: xs, y :: ys, hl, h => .cons (h 0 x y rfl rfl) (paired_of (by simpa using hl) fun i a b h1 h2 => h (i + 1) a b h1 h2)
theorem TrsAt.bd {H : Hp} {ts : List V} {Ls : List Pl} {M : Nat → Nat → Bool} (h : TrsAt H ts Ls M) : BdAll H ts (trsB Ls M) := by
  refine paired_of (by unfold trsB; rw [List.length_mapIdx]; exact h.len) fun i x y h1 h2 => ?_
  obtain ⟨L, d, hL, rfl, hd⟩ := h.get h1
  unfold trsB at h2
  rw [List.getElem?_mapIdx, hL] at h2
  cases h2
  exact ⟨d, rfl, .inl (by rw [hd, trE_bkv])⟩
theorem trsB_keys (Ls : List Pl) (M N : Nat → Nat → Bool) : (trsB Ls M).map (fun r => r.map (·.1)) = (trsB Ls N).map fun r => r.map (·.1) := by
  refine List.ext_getElem? fun i => ?_
  unfold trsB
  rw [List.getElem?_map, List.getElem?_map, List.getElem?_mapIdx, List.getElem?_mapIdx]
  cases Ls[i]? with
  | none => rfl
  | some L =>
    show some ((trB L (M i)).map (·.1)) = some ((trB L (N i)).map (·.1))
    unfold trB
    rw [List.map_map, List.map_map]
    rfl
theorem trsB_nd {Ls : List Pl} {M : Nat → Nat → Bool} : ∀ r ∈ trsB Ls M, (r.map (·.1)).Nodup := fun r hr => by
  obtain ⟨i, hi⟩ := List.mem_iff_getElem?.mp hr
  unfold trsB at hi
  rw [List.getElem?_mapIdx] at hi
  obtain ⟨L, _, rfl⟩ := Option.map_eq_some_iff.mp hi
  unfold trB
  rw [List.map_map]
  have nd := marks_nd L
  exact (List.pairwise_map.mpr (nd.imp fun {a b} h (e : ((a : Nat) : Int) = ((b : Nat) : Int)) => h (by omega)))
theorem trsB_eq {Ls : List Pl} {M N : Nat → Nat → Bool} : trsB Ls M = trsB Ls N ↔ AgrAll Ls N M := by
  constructor
  · intro h s L hs i hi
    have := congrArg (fun z => z[s]?) h
    unfold trsB at this
    simp only [List.getElem?_mapIdx, hs, Option.map_some] at this
    have := Option.some.inj this
    unfold trB at this
    have := List.map_inj_left.mp this i hi
    exact (congrArg Prod.snd this).symm
  · intro h
    refine List.ext_getElem? fun s => ?_
    unfold trsB
    rw [List.getElem?_mapIdx, List.getElem?_mapIdx]
    cases hs : Ls[s]? with
    | none => rfl
    | some L =>
      show some _ = some _
      unfold trB
      exact congrArg some (List.map_congr_left fun i hi => by rw [h s L hs i hi])
theorem mu_mono {Ls : List Pl} {n : Nat} : muM Ls (Met Ls (n + 1)) ≤ muM Ls (Met Ls n) := by
  refine sum_le (by simp) fun i x y h1 h2 => ?_
  rw [List.getElem?_mapIdx] at h1 h2
  obtain ⟨L, e1, rfl⟩ := Option.map_eq_some_iff.mp h1
  rw [e1] at h2
  cases h2
  exact cnt_le _ _ (fun j hj => met_falls e1 n j hj) _
theorem TrsAt.snoc {H : Hp} {zs : List V} {Ls : List Pl} {M : Nat → Nat → Bool} {k : Nat} {L : Pl} {e : Addr} (h : TrsAt H zs (Ls.take k) M) (hL : Ls[k]? = some L) (he : H e = some (.dK (trE L (M k)))) : TrsAt H (zs ++ [.ref e]) (Ls.take (k + 1)) M := by
  have hk := (List.getElem?_eq_some_iff.mp hL).1
  have hzl : zs.length = k := by rw [h.len, List.length_take]; omega
  refine ⟨by rw [List.length_append, hzl, List.length_take]; simp; omega, fun s L' e' => ?_⟩
  rw [List.getElem?_take] at e'
  rcases Nat.lt_or_ge s k with q | q
  · rw [if_pos (by omega)] at e'
    obtain ⟨d', q1, q2⟩ := h.at_ s L' (by rw [List.getElem?_take, if_pos q]; exact e')
    exact ⟨d', by rw [List.getElem?_append_left (by omega)]; exact q1, q2⟩
  · have hs : s = k := by
      split at e'
      · omega
      · cases e'
    subst hs
    rw [if_pos (by omega), hL] at e'
    cases e'
    exact ⟨e, by rw [List.getElem?_append_right (by omega), hzl, Nat.sub_self]; rfl, he⟩
theorem while_pure {c : TT} {tb : TS} {D : L2.Ends} {σ : L2.St} {H : Hp} (W : Nat → L2.St → Hp → Prop) (h0 : ∃ m, W m σ H)
    (h : ∀ m σ H, W m σ H → ∃ b : Bool, (∀ Q : Bool → Hp → Prop, Q b H → c σ H Q) ∧ (b = true → tb { D with nx := fun σ' H' => ∃ m', m' < m ∧ W m' σ' H', ct := fun σ' H' => ∃ m', m' < m ∧ W m' σ' H', bk := D.nx } σ H) ∧ (b = false → D.nx σ H)) : tWhile c tb D σ H := by
  refine ⟨W, h0, fun m σ H hw => ?_⟩
  obtain ⟨b, h1, h2, h3⟩ := h m σ H hw
  refine h1 _ ?_
  cases b with
  | true => exact ⟨_, fun _ _ z => z, h2 rfl⟩
  | false => exact h3 rfl
/-- each level's moves on the heap -/
structure DnAt (H : Hp) (ys : List V) (Ls : List Pl) (n : Nat) : Prop where
  len : ys.length = n + 1
  at_ : ∀ j, j ≤ n → ∃ r, ys[j]? = some (.ref r) ∧ H r = some (.tup ((done Ls j).map V.str))
theorem DnAt.mono {H H' : Hp} {ys : List V} {Ls : List Pl} {n : Nat} (s : Same H H') (h : DnAt H ys Ls n) : DnAt H' ys Ls n :=
  ⟨h.len, fun j hj => let ⟨r, h1, h2⟩ := h.at_ j hj; ⟨r, h1, s _ _ h2⟩⟩
theorem DnAt.upd {H : Hp} {ys : List V} {Ls : List Pl} {n : Nat} {p : Addr} {o : HO} (hp : ∀ zs, H p ≠ some (.tup zs)) (h : DnAt H ys Ls n) : DnAt (upd H p o) ys Ls n :=
  ⟨h.len, fun j hj => let ⟨r, h1, h2⟩ := h.at_ j hj; ⟨r, h1, by rw [upd_ne (by rintro rfl; exact hp _ h2)]; exact h2⟩⟩
theorem DnAt.snoc {H : Hp} {ys : List V} {Ls : List Pl} {n : Nat} {r : Addr} (h : DnAt H ys Ls n) (hr : H r = some (.tup ((done Ls (n + 1)).map V.str))) : DnAt H (ys ++ [.ref r]) Ls (n + 1) := by
  have hl := h.len
  refine ⟨by rw [List.length_append, hl]; rfl, fun j hj => ?_⟩
  rcases Nat.lt_or_ge n j with q | q
  · have : j = n + 1 := by omega
    subst this
    exact ⟨r, by rw [List.getElem?_append_right (by omega), hl, Nat.sub_self]; rfl, hr⟩
  · obtain ⟨r', h1, h2⟩ := h.at_ j q
    exact ⟨r', by rw [List.getElem?_append_left (by omega)]; exact h1, h2⟩
structure MtAt (cM : Addr) (H : Hp) (x : Addr) (Ls : List Pl) (n : Nat) : Prop where
  ex : ∃ dx si ln bl hi ys, H x = some (.ins cM dx [("sitting", .ref si), ("high", nV hi), ("lines", .ref ln), ("by_level", .ref bl)]) ∧ H bl = some (.lst ys) ∧ DnAt H ys Ls n ∧ ∃ lns, H ln = some (.lst lns) ∧ lns.length = n + 1
  hi : ∀ L ∈ Ls, L.high ≤ n
  st : AgrAll Ls (Met Ls n) (Met Ls (n + 1))
  nb : ∀ h, (∀ L ∈ Ls, L.high ≤ h) → n ≤ h + muM Ls (Met Ls 0)
theorem MtAt.mono {cM : Addr} {H H' : Hp} {x : Addr} {Ls : List Pl} {n : Nat} (s : Same H H') (h : MtAt cM H x Ls n) : MtAt cM H' x Ls n :=
  ⟨let ⟨dx, si, ln, bl, hi, ys, h1, h2, h3, lns, h4, h5⟩ := h.ex; ⟨dx, si, ln, bl, hi, ys, s _ _ h1, s _ _ h2, h3.mono s, lns, s _ _ h4, h5⟩, h.hi, h.st, h.nb⟩
def spMeeting (cP cM : Addr) : Sp := fun vs H Q _ => ∃ (x dx a : Addr) (xs : List V) (Ls : List Pl), vs = [.ref x, .ref a] ∧ H x = some (.ins cM dx []) ∧ Lt H a xs ∧ PlsAt cP H xs Ls ∧ (∀ L ∈ Ls, L.Ok) ∧ 1 ≤ Ls.length ∧ Ls.length ≤ 4 ∧ (∀ L ∈ Ls, L.high ≤ 1000) ∧
  ∀ H' n, SameX x H H' → MtAt cM H' x Ls n → Q .non H'
def spLast (cM : Addr) : Sp := fun vs H Q _ => ∃ x Ls n, vs = [.ref x] ∧ MtAt cM H x Ls n ∧ ∀ q, H q = some (.tup ((done Ls n).map V.str)) → Q (.ref q) H
section
variable {P : Program} {w : World} {K : PySem.W.Frag} {mg : Str → Option Value} {base : Heap} {cP cG cT cM cS cF : Addr} {f : Addr} {fd : FuncData} (T : Txt K w mg cP cG cT) (TM : TxM K w mg cM cS cF)
include T TM
theorem ok_Meeting {C_need_players : Cal P w K mg base "need_players" 2 ["thing"] (spNeedPlayers cP)} {M_top : Mth P w K mg base cP "top" 2 ["self"] (spTop cP)} {C_first_truths : Cal P w K mg base "first_truths" 2 ["player"] (spFirstT cP)} {C_line_of : Cal P w K mg base "line_of" 1 ["truths"] spLine}
    {C_done_by : Cal P w K mg base "done_by" 4 ["players", "truths"] (spDoneBy cP)} {C_led_all : Cal P w K mg base "led_all" 5 ["players", "truths", "level"] (spLedAll cP)}
    (F : FnP K "__init__" "Meeting.__init__" s_Meeting___init__ f fd) : FnOk P w K mg base CX0 6 f fd ["self", "players"] (spMeeting cP cM) := by
  refine okN F sc_Meeting___init (fun vs H Q E h => ?_) (fun cdv A outer s H vs Q E hr h => ?_)
  · obtain ⟨x, dx, a, xs, Ls, rfl, _⟩ := h
    rfl
  · obtain ⟨x, dx, a, xs, Ls, rfl, hx, ha, hp, ok, h1, h4, hh, q⟩ := h
    have hl := hp.len
    have okl : ∀ L ∈ Ls, L.rows.length ≤ 120 := fun L hL => (ok L hL).len
    have ha0 := ha.monoX (sx_del (x := x)) hx
    have hp0 := hp.monoX (sx_del (x := x)) hx (by decide)
    have b0 := del_same (x := x) (H := H)
    have nx0 := del_x (x := x) (H := H)
    have q : ∀ H' n, Same (del x H) H' → MtAt cM H' x Ls n → Q .non H' := fun H' n s => q H' n (of_del s)
    refine ⟨_, (pss_cons (ps_expr (pe_cal C_need_players hr (pa_cons (pv 1) pa_nil)))
      (pss_cons (ps_fld (pv 0) (pe_callTy tupA (by rfl) T.tuple_ b_tuple (pa_cons (pv 1) pa_nil)) rfl)
      (pss_cons (ps_fld (pv 0) (pe_callB (maxS K rfl) (by rfl) T.max_ b_max (pa_cons (pe_lc (own := [("player", 5)]) rfl sc_Meeting___init.nd (pi_sq (pv 1)) (blkOk_by (own := [("player", 5)]) (N := ["self", "players", "level", "truths", "later", "player"]) (sc := defScope s_Meeting___init__) (by decide +kernel)) (fun _ _ _ _ _ => pg_name (i := 5) sc_Meeting___init.nd rfl (Or.inl rfl)) (fun _ _ _ _ _ => pts_nil) (fun _ _ _ _ _ => (pe_mth0 T.clP M_top hr (pv 5)))) pa_nil)) rfl)
      (pss_cons (ps_par (i := 2) (j := 3) (by rfl) sc_Meeting___init.nd rfl rfl (by decide) rfl rfl (pa_cons pe_int (pa_cons (pe_lc (own := [("player", 5)]) rfl sc_Meeting___init.nd (pi_sq (pv 1)) (blkOk_by (own := [("player", 5)]) (N := ["self", "players", "level", "truths", "later", "player"]) (sc := defScope s_Meeting___init__) (by decide +kernel)) (fun _ _ _ _ _ => pg_name (i := 5) sc_Meeting___init.nd rfl (Or.inl rfl)) (fun _ _ _ _ _ => pts_nil) (fun _ _ _ _ _ => (pe_cal C_first_truths hr (pa_cons (pv 5) pa_nil)))) pa_nil)) (by rfl))
      (pss_cons (ps_fld (pv 0) (pe_lst (pa_cons (pe_cal C_line_of hr (pa_cons (pv 3) pa_nil)) pa_nil)) rfl)
      (pss_cons (ps_fld (pv 0) (pe_lst (pa_cons (pe_cal C_done_by hr (pa_cons (pv 1) (pa_cons (pv 3) pa_nil))) pa_nil)) rfl)
      (pss_cons (ps_set (i := 4) sc_Meeting___init.nd rfl (Or.inl rfl) (pe_cal C_led_all hr (pa_cons (pv 1) (pa_cons (pv 3) (pa_cons pe_int pa_nil)))))
      (pss_one (ps_while PassesOwn.never (PW.pt (pw_or (pt_cmpR op_lt (pv 2) (fldK K (pv 0) rfl) (nomark _)) (pw_or1 (pt_cmpR (op_neBd (hu16 hr)) (pv 4) (pv 3) (nomark _))))) (pss_cons (ps_par (i := 2) (j := 3) (by rfl) sc_Meeting___init.nd rfl rfl (by decide) rfl rfl (pa_cons (pe_op op_add (pv 2) pe_int) (pa_cons (pv 4) pa_nil)) (by rfl))
      (pss_cons (ps_expr (pe_bm PySem.F.plainAttrs_list PySem.F.slot_list_append PySem.F.type_list_append mt_append (fldK K (pv 0) rfl) (pa_cons (pe_cal C_line_of hr (pa_cons (pv 3) pa_nil)) pa_nil)))
      (pss_cons (ps_expr (pe_bm PySem.F.plainAttrs_list PySem.F.slot_list_append PySem.F.type_list_append mt_append (fldK K (pv 0) rfl) (pa_cons (pe_cal C_done_by hr (pa_cons (pv 1) (pa_cons (pv 3) pa_nil))) pa_nil)))
      (pss_one (ps_set (i := 4) sc_Meeting___init.nd rfl (Or.inl rfl) (pe_cal C_led_all hr (pa_cons (pv 1) (pa_cons (pv 3) (pa_cons (pv 2) pa_nil)))))))))))))))))), ?_⟩
    refine ⟨_, rfl, a, xs, Ls, rfl, ha, hp, h1, h4, fun H1 s1 => ?_⟩
    have hx1 := s1 _ _ hx
    have b1 := b0.trans s1
    clear ha hp hx b0 s1
    generalize del x H = H0 at ha0 hp0 b1 nx0 q
    refine ⟨_, rfl, a, xs, rfl, ha0.mono b1, fun si H2 s2 hsi => ?_⟩
    refine ⟨_, rfl, x, _, _, _, rfl, s2 _ _ hx1, TM.clM, TM.naM _ (by simp), by decide, ?_⟩
    have e2 : putF "sitting" (.ref si) [] = ([("sitting", V.ref si)] : List (Str × V)) := by rfl
    rw [e2]
    have b3 : Same H0 (upd H2 x (.ins cM dx [("sitting", .ref si)])) := same_mut (b1.trans s2) nx0
    have hx3 : (upd H2 x (.ins cM dx [("sitting", .ref si)])) x = some (.ins cM dx [("sitting", .ref si)]) := upd_same
    generalize upd H2 x (.ins cM dx [("sitting", .ref si)]) = H3 at b3 hx3
    clear e2 hsi s2 hx1 b1
    refine ⟨_, rfl, a, xs, rfl, ha0.mono b3, fun J hJ D hD => ?_⟩
    refine lcW_fm hJ (fun i => (Ls[i]?).map fun L => nV L.high) hD (by omega) (fun H4 s4 => same_of s4 (ha0.mono b3)) (fun i x' H9 H4 hi s4 y K1 K0 k1 k0 => ?_) (fun H4 s4 e => ?_)
    · obtain ⟨rfl, hx'⟩ := y
      obtain ⟨L, p, hL, rfl, hpl⟩ := (hp0.mono (b3.trans s4)).get hx'
      obtain ⟨dy, pa, pb, pc, pd, pxs, g1, _⟩ := hpl.ex
      refine ⟨rfl, yesT ?_⟩
      exact ⟨_, rfl, p, _, _, rfl, g1, rfl, p, L, rfl, hpl, okl L (List.mem_of_getElem? hL), fun H5 s5 => k1 _ _ (by rw [hL]; rfl) s5⟩
    have e2 : (List.range xs.length).filterMap (fun i => (Ls[i]?).map fun L => nV L.high) = (Ls.map fun L => ((L.high : Nat) : Int)).map V.int := by
      rw [hl, range_mapIdx Ls fun _ L => nV L.high]
      refine List.ext_getElem? fun i => ?_
      rw [List.getElem?_mapIdx, List.getElem?_map, List.getElem?_map]
      cases Ls[i]? <;> rfl
    rw [e2] at e
    refine ⟨D, _, rfl, .inl (.inl e), by rw [List.length_map]; omega, fun m hm hmx => ?_⟩
    obtain ⟨Lm, hLm, rfl⟩ := List.mem_map.mp hm
    have hhi : ∀ L ∈ Ls, L.high ≤ Lm.high := fun L hL => by
      have := hmx _ (List.mem_map_of_mem (f := fun L : Pl => ((L.high : Nat) : Int)) hL)
      omega
    have h1000 := hh Lm hLm
    have hhx : ∀ h, (∀ L ∈ Ls, L.high ≤ h) → Lm.high ≤ h := fun h hh => hh Lm hLm
    generalize Lm.high = hi at hhi h1000 hhx
    have hx4 := s4 _ _ hx3
    have b4 := b3.trans s4
    refine ⟨_, rfl, x, _, _, _, rfl, hx4, TM.clM, TM.naM _ (by simp), by simp, ?_⟩
    have e3 : putF "high" (nV hi) [("sitting", V.ref si)] = ([("sitting", V.ref si), ("high", nV hi)] : List (Str × V)) := by rfl
    rw [e3]
    have b5 : Same H0 (upd H4 x (.ins cM dx [("sitting", .ref si), ("high", nV hi)])) := same_mut b4 nx0
    have hx5 : (upd H4 x (.ins cM dx [("sitting", .ref si), ("high", nV hi)])) x = some (.ins cM dx [("sitting", .ref si), ("high", nV hi)]) := upd_same
    generalize upd H4 x (.ins cM dx [("sitting", .ref si), ("high", nV hi)]) = H5 at b5 hx5
    clear e3 hx4 b4 hm hmx e e2 s4 hx3 b3 hJ hD
    refine ⟨_, rfl, a, xs, rfl, ha0.mono b5, fun J hJ D hD => ?_⟩
    refine it_by hJ (fun i H' => Same H5 H' ∧ ∃ zs, H' D = some (.lst zs) ∧ TrsAt H' zs (Ls.take i) (Met Ls 0)) ⟨same_new hD, [], upd_same, ⟨rfl, fun s L e => by simp at e⟩⟩ (fun i H' hi h => same_of h.1 (ha0.mono b5)) (fun i x' H9 H6 hi h y => ?_) (fun H6 h => ?_)
    · obtain ⟨s6, zs, hz, hzs⟩ := h
      obtain ⟨rfl, hx'⟩ := y
      obtain ⟨L, p, hL, rfl, hpl⟩ := (hp0.mono (b5.trans s6)).get hx'
      refine ⟨rfl, yesT ⟨_, rfl, p, L, rfl, hpl, okl L (List.mem_of_getElem? hL), fun d H7 s7 nd hd => ?_⟩⟩
      have hzl : zs.length ≤ 4 := by rw [hzs.len, List.length_take]; omega
      refine ⟨zs, s7 _ _ hz, sz_lt (by omega), same_mut (s6.trans s7) hD, _, upd_same, ?_⟩
      refine ((hzs.mono s7).snoc hL hd).upd fun kvs e => ?_
      rw [s7 _ _ hz] at e
      cases e
    obtain ⟨s6, zs, hz, hzs⟩ := h
    rw [hl, List.take_length] at hzs
    have b6 := b5.trans s6
    have hx6 := s6 _ _ hx5
    have nD0 := none_of b5 hD
    clear s6 hx5 b5 hJ hD
    refine ⟨_, _, rfl, _, rfl, D, zs, Ls, _, rfl, hz, hzs, h4, fun l1 H7 s7 => ?_⟩
    have hx7 := s7 _ _ hx6
    have b7 := b6.trans s7
    refine ⟨(by show 1 ≤ sizeLine; decide), fun ln nln => ?_⟩
    have hln : (upd H7 ln (.lst [.ref l1])) ln = some (.lst [.ref l1]) := upd_same
    have s8 : Same H7 (upd H7 ln (.lst [.ref l1])) := same_new nln
    have nln0 := none_of b7 nln
    have neD : D ≠ ln := ne_of_none (s7 _ _ hz) nln
    generalize upd H7 ln (.lst [.ref l1]) = H8 at hln s8
    have hz8 := s8 _ _ (s7 _ _ hz)
    have hzs8 := (hzs.mono s7).mono s8
    have b8 := b7.trans s8
    have hx8 := s8 _ _ hx7
    clear hz hzs s7 s8 hx7 b7 hx6 b6 nln
    refine ⟨_, rfl, x, _, _, _, rfl, hx8, TM.clM, TM.naM _ (by simp), by simp, ?_⟩
    have e4 : putF "lines" (.ref ln) [("sitting", V.ref si), ("high", nV hi)] = ([("sitting", V.ref si), ("high", nV hi), ("lines", .ref ln)] : List (Str × V)) := by rfl
    rw [e4]
    have b9 : Same H0 (upd H8 x (.ins cM dx [("sitting", .ref si), ("high", nV hi), ("lines", .ref ln)])) := same_mut b8 nx0
    have hx9 : (upd H8 x (.ins cM dx [("sitting", .ref si), ("high", nV hi), ("lines", .ref ln)])) x = some (.ins cM dx [("sitting", .ref si), ("high", nV hi), ("lines", .ref ln)]) := upd_same
    have hz9 : (upd H8 x (.ins cM dx [("sitting", .ref si), ("high", nV hi), ("lines", .ref ln)])) D = some (.lst zs) := by rw [upd_ne (ne_x hx8 hz8 (by simp))]; exact hz8
    have hln9 : (upd H8 x (.ins cM dx [("sitting", .ref si), ("high", nV hi), ("lines", .ref ln)])) ln = some (.lst [.ref l1]) := by rw [upd_ne (ne_x hx8 hln (by simp))]; exact hln
    have hzs9 := hzs8.upd (p := x) (o := .ins cM dx [("sitting", .ref si), ("high", nV hi), ("lines", .ref ln)]) fun kvs e => by rw [hx8] at e; cases e
    generalize upd H8 x (.ins cM dx [("sitting", .ref si), ("high", nV hi), ("lines", .ref ln)]) = H9 at b9 hx9 hz9 hln9 hzs9
    clear e4 b8 hx8 hz8 hln hzs8
    refine ⟨_, rfl, _, rfl, a, D, xs, zs, Ls, _, rfl, ha0.mono b9, hp0.mono b9, ok, h4, hz9, hzs9, fun r0 HA sA hr0 => ?_⟩
    refine ⟨(by show 1 ≤ sizeLine; decide), fun bl nbl => ?_⟩
    have bA := b9.trans sA
    have hbl : (upd HA bl (.lst [.ref r0])) bl = some (.lst [.ref r0]) := upd_same
    have sB : Same HA (upd HA bl (.lst [.ref r0])) := same_new nbl
    have nbl0 := none_of bA nbl
    have neD2 : D ≠ bl := ne_of_none (sA _ _ hz9) nbl
    have neL : ln ≠ bl := ne_of_none (sA _ _ hln9) nbl
    generalize upd HA bl (.lst [.ref r0]) = HB at hbl sB
    have sAB := sA.trans sB
    have hzB := sAB _ _ hz9
    have hlnB := sAB _ _ hln9
    have hzsB := hzs9.mono sAB
    have hxB := sAB _ _ hx9
    have bB := b9.trans sAB
    have hr0B := sB _ _ hr0
    clear hz9 hln9 hzs9 hx9 b9 sAB sB sA hr0 bA nbl
    refine ⟨_, rfl, x, _, _, _, rfl, hxB, TM.clM, TM.naM _ (by simp), by simp, ?_⟩
    have e5 : putF "by_level" (.ref bl) [("sitting", V.ref si), ("high", nV hi), ("lines", .ref ln)] = ([("sitting", V.ref si), ("high", nV hi), ("lines", .ref ln), ("by_level", .ref bl)] : List (Str × V)) := by rfl
    rw [e5]
    generalize hfs : ([("sitting", V.ref si), ("high", nV hi), ("lines", .ref ln), ("by_level", .ref bl)] : List (Str × V)) = fs
    have bC : Same H0 (upd HB x (.ins cM dx fs)) := same_mut bB nx0
    have hxC : (upd HB x (.ins cM dx fs)) x = some (.ins cM dx fs) := upd_same
    have hzC : (upd HB x (.ins cM dx fs)) D = some (.lst zs) := by rw [upd_ne (ne_x hxB hzB (by simp))]; exact hzB
    have hlnC : (upd HB x (.ins cM dx fs)) ln = some (.lst [.ref l1]) := by rw [upd_ne (ne_x hxB hlnB (by simp))]; exact hlnB
    have hblC : (upd HB x (.ins cM dx fs)) bl = some (.lst [.ref r0]) := by rw [upd_ne (ne_x hxB hbl (by simp))]; exact hbl
    have hrC : (upd HB x (.ins cM dx fs)) r0 = some (.tup ((done Ls 0).map V.str)) := by rw [upd_ne (ne_x hxB hr0B (by simp))]; exact hr0B
    have hzsC := hzsB.upd (p := x) (o := .ins cM dx fs) fun kvs e => by rw [hxB] at e; cases e
    generalize upd HB x (.ins cM dx fs) = HC at bC hxC hzC hlnC hblC hrC hzsC
    clear e5 bB hxB hzB hlnB hbl hr0B hzsB
    refine ⟨_, rfl, _, rfl, a, D, xs, zs, Ls, _, 0, rfl, ha0.mono bC, hp0.mono bC, ok, h4, hzC, hzsC, fun lt HD zs2 sD nlt hlt hzs2 => ?_⟩
    have neT1 : lt ≠ ln := fun e => by rw [e, hlnC] at nlt; cases nlt
    have neT2 : lt ≠ bl := fun e => by rw [e, hblC] at nlt; cases nlt
    have hmu : muM Ls (Met Ls 0) ≤ 480 := Nat.le_trans (mu_le_all fun L hL => marks_len L (okl L hL)) (by omega)
    refine while_pure (fun m σ H' => ∃ (n : Nat) (t1 t2 : Addr) (z1 z2 lns ys : List V) (u : Option V), σ = [some (.ref x), some (.ref a), some (nV n), some (.ref t1), some (.ref t2), u] ∧ m = (hi - n) + muM Ls (Met Ls n) ∧ n + m ≤ hi + muM Ls (Met Ls 0) ∧ Same H0 H' ∧ H' x = some (.ins cM dx fs) ∧
      H' ln = some (.lst lns) ∧ lns.length = n + 1 ∧ H' bl = some (.lst ys) ∧ DnAt H' ys Ls n ∧ H' t1 = some (.lst z1) ∧ TrsAt H' z1 Ls (Met Ls n) ∧ H' t2 = some (.lst z2) ∧ TrsAt H' z2 Ls (Met Ls (n + 1)) ∧ t1 ≠ ln ∧ t1 ≠ bl ∧ t2 ≠ ln ∧ t2 ≠ bl)
      ⟨_, 0, D, lt, zs, zs2, _, _, _, rfl, rfl, by omega, bC.trans sD, sD _ _ hxC, sD _ _ hlnC, rfl, sD _ _ hblC, ⟨rfl, fun j hj => ⟨r0, by rw [Nat.le_zero.mp hj]; rfl, by rw [Nat.le_zero.mp hj]; exact sD _ _ hrC⟩⟩, sD _ _ hzC, hzsC.mono sD, hlt, hzs2, neD, neD2, neT1, neT2⟩ ?_
    clear hlt hzs2 nlt hrC hblC hlnC hzC hxC hzsC sD bC neT1 neT2 neD neD2
    rintro m σ H1 ⟨n, t1, t2, z1, z2, lns, ys, u, rfl, hm, hnm, b1, hx1, hln1, hlnl, hbl1, hdn1, ht1, hz1, ht2, hz2, n1, n2, n3, n4⟩
    have hx1' := hx1
    rw [← hfs] at hx1'
    refine ⟨decide (n < hi) || !decide (trsB Ls (Met Ls (n + 1)) = trsB Ls (Met Ls n)), fun Q0 q0 => ?_, fun eb => ?_, fun eb => ?_⟩
    · by_cases hn : n < hi
      · refine ⟨_, rfl, _, rfl, x, _, _, _, _, rfl, hx1', TM.clM, TM.naM _ (by simp), rfl, _, _, rfl, rfl, true, congrArg V.bl (decide_eq_true (by omega)), ?_⟩
        refine iteT ?_
        rw [decide_eq_true hn, Bool.true_or] at q0
        exact q0
      · refine ⟨_, rfl, _, rfl, x, _, _, _, _, rfl, hx1', TM.clM, TM.naM _ (by simp), rfl, _, _, rfl, rfl, false, congrArg V.bl (decide_eq_false (by omega)), ?_⟩
        refine iteF ?_
        rw [decide_eq_false hn, Bool.false_or] at q0
        exact ⟨_, rfl, _, rfl, t2, t1, z2, z1, _, _, rfl, rfl, ht2, ht1, hz2.bd, hz1.bd, trsB_keys _ _ _, trsB_nd, _, rfl, q0⟩
    · have hdec : n + 1 + ((hi - (n + 1)) + muM Ls (Met Ls (n + 1))) ≤ hi + muM Ls (Met Ls 0) ∧ (hi - (n + 1)) + muM Ls (Met Ls (n + 1)) < m := by
        rcases Bool.or_eq_true_iff.mp eb with e | e
        · have := of_decide_eq_true e
          have := mu_mono (Ls := Ls) (n := n)
          omega
        · have e : decide (trsB Ls (Met Ls (n + 1)) = trsB Ls (Met Ls n)) = false := by rw [Bool.not_eq_true'] at e; exact e
          have := mu_fall (Ls := Ls) (n := n) fun h => of_decide_eq_false e (trsB_eq.mpr h)
          omega
      refine ⟨_, rfl, _, _, rfl, rfl, _, rfl, _, _, rfl, ?_⟩
      refine ⟨_, rfl, x, _, _, _, _, rfl, hx1', TM.clM, TM.naM _ (by simp), rfl, .inl ⟨rfl, _, .inl (.inl hln1)⟩, _, rfl, t2, z2, Ls, _, rfl, ht2, hz2, h4, fun l2 H2 s2 => ?_⟩
      refine ⟨ln, lns, _, rfl, rfl, s2 _ _ hln1, sz_lt (by omega), ?_⟩
      have b2 := b1.trans s2
      have b3 : Same H0 (upd H2 ln (.lst (lns ++ [.ref l2]))) := same_mut b2 nln0
      have hxl : x ≠ ln := fun e => by rw [e, hln1] at hx1; cases hx1
      have hxb : x ≠ bl := fun e => by rw [e, hbl1] at hx1; cases hx1
      have hx3 : (upd H2 ln (.lst (lns ++ [.ref l2]))) x = some (.ins cM dx fs) := by rw [upd_ne hxl]; exact s2 _ _ hx1
      have hln3 : (upd H2 ln (.lst (lns ++ [.ref l2]))) ln = some (.lst (lns ++ [.ref l2])) := upd_same
      have hbl3 : (upd H2 ln (.lst (lns ++ [.ref l2]))) bl = some (.lst ys) := by rw [upd_ne neL.symm]; exact s2 _ _ hbl1
      have ht3 : (upd H2 ln (.lst (lns ++ [.ref l2]))) t2 = some (.lst z2) := by rw [upd_ne n3]; exact s2 _ _ ht2
      have hz3 := (hz2.mono s2).upd (p := ln) (o := .lst (lns ++ [.ref l2])) fun kvs e => by rw [s2 _ _ hln1] at e; cases e
      have hdn3 := (hdn1.mono s2).upd (p := ln) (o := .lst (lns ++ [.ref l2])) fun kvs e => by rw [s2 _ _ hln1] at e; cases e
      generalize upd H2 ln (.lst (lns ++ [.ref l2])) = H3 at b3 hx3 hln3 hbl3 ht3 hz3 hdn3
      clear b2 s2 hz2 ht2 hz1 ht1 hdn1 hbl1 hln1 hx1 b1 hx1'
      have hx3' := hx3
      rw [← hfs] at hx3'
      refine ⟨_, rfl, x, _, _, _, _, rfl, hx3', TM.clM, TM.naM _ (by simp), rfl, .inl ⟨rfl, _, .inl (.inl hbl3)⟩, _, rfl, _, rfl, a, t2, xs, z2, Ls, _, rfl, ha0.mono b3, hp0.mono b3, ok, h4, ht3, hz3, fun r H4 s4 hr4 => ?_⟩
      refine ⟨bl, ys, _, rfl, rfl, s4 _ _ hbl3, sz_lt (by have := hdn3.len; omega), ?_⟩
      have b4 := b3.trans s4
      have b5 : Same H0 (upd H4 bl (.lst (ys ++ [.ref r]))) := same_mut b4 nbl0
      have hx5 : (upd H4 bl (.lst (ys ++ [.ref r]))) x = some (.ins cM dx fs) := by rw [upd_ne hxb]; exact s4 _ _ hx3
      have hbl5 : (upd H4 bl (.lst (ys ++ [.ref r]))) bl = some (.lst (ys ++ [.ref r])) := upd_same
      have hln5 : (upd H4 bl (.lst (ys ++ [.ref r]))) ln = some (.lst (lns ++ [.ref l2])) := by rw [upd_ne neL]; exact s4 _ _ hln3
      have ht5 : (upd H4 bl (.lst (ys ++ [.ref r]))) t2 = some (.lst z2) := by rw [upd_ne n4]; exact s4 _ _ ht3
      have hz5 := (hz3.mono s4).upd (p := bl) (o := .lst (ys ++ [.ref r])) fun kvs e => by rw [s4 _ _ hbl3] at e; cases e
      have hdn5 := ((hdn3.mono s4).snoc hr4).upd (p := bl) (o := .lst (ys ++ [.ref r])) fun kvs e => by rw [s4 _ _ hbl3] at e; cases e
      generalize upd H4 bl (.lst (ys ++ [.ref r])) = H5 at b5 hx5 hbl5 hln5 ht5 hz5 hdn5
      clear b4 s4 hr4 hz3 ht3 hdn3 hbl3 hln3 hx3 hx3' b3
      refine ⟨_, rfl, _, rfl, _, rfl, a, t2, xs, z2, Ls, _, n + 1, rfl, ha0.mono b5, hp0.mono b5, ok, h4, ht5, hz5, fun t3 H6 z3 s6 nt3 ht6 hz6 => ?_⟩
      have m1 : t3 ≠ ln := fun e => by rw [e, hln5] at nt3; cases nt3
      have m2 : t3 ≠ bl := fun e => by rw [e, hbl5] at nt3; cases nt3
      exact ⟨_, hdec.2, n + 1, t2, t3, z2, z3, lns ++ [.ref l2], ys ++ [.ref r], _, rfl, rfl, hdec.1, b5.trans s6, s6 _ _ hx5, s6 _ _ hln5, by rw [List.length_append, hlnl]; rfl, s6 _ _ hbl5, hdn5.mono s6, s6 _ _ ht5, hz5.mono s6, ht6, hz6, n3, n4, m1, m2⟩
    · obtain ⟨e1, e2⟩ := Bool.or_eq_false_iff.mp eb
      have e1 := of_decide_eq_false e1
      have e2 : decide (trsB Ls (Met Ls (n + 1)) = trsB Ls (Met Ls n)) = true := by
        rw [Bool.not_eq_false'] at e2
        exact e2
      refine q H1 n b1 ⟨⟨dx, si, ln, bl, hi, ys, by rw [hx1, ← hfs], hbl1, hdn1, lns, hln1, hlnl⟩, fun L hL => Nat.le_trans (hhi L hL) (by omega), trsB_eq.mp (of_decide_eq_true e2), fun h hh => by have := hhx h hh; omega⟩
theorem ok_last (F : FnP K "last" "Meeting.last" s_Meeting_last f fd) : FnOk P w K mg base CX0 1 f fd ["self"] (spLast cM) := by
  refine okN F sc_Meeting_last (fun vs H Q E h => ?_) (fun cdv A outer s H vs Q E hr h => ?_)
  · obtain ⟨x, Ls, n, rfl, _⟩ := h
    rfl
  · obtain ⟨x, Ls, n, rfl, hm, q⟩ := h
    obtain ⟨dx, si, ln, bl, hi, ys, h1, h2, h3, _⟩ := hm.ex
    obtain ⟨r, h4, h5⟩ := h3.at_ n (Nat.le_refl _)
    refine ⟨_, (pss_one (ps_ret (pe_ix (ixL K) (fldK K (pv 0) rfl) (pe_un un_neg pe_int) (fun _ _ => rfl)))), ?_⟩
    refine ⟨_, rfl, x, _, _, _, _, rfl, h1, TM.clM, TM.naM _ (by simp), rfl, _, rfl, bl, ys, -1, .ref r, rfl, rfl, .inl (.inl h2), ?_, q r h5⟩
    have hl := h3.len
    have : (((ys.length : Nat) : Int) + -1).toNat = n := by omega
    unfold atI ixN
    rw [if_neg (by decide), if_pos (by omega)]
    show ys[((-1 : Int) + ((ys.length : Nat) : Int)).toNat]? = _
    rw [Int.add_comm, this]
    exact h4
end
end Lk

set_option maxHeartbeats 4000000
namespace Lk
open PySem PySem.Spec PyProof.Rows L2
/-! ### the player that does given letters: the plain law -/
theorem rowsOk_snoc {rs : List Rw} {r : Rw} (h : RowsOk rs) (hr : r.ok rs.length) : RowsOk (rs ++ [r]) := fun i q e => by
  rcases Nat.lt_trichotomy i rs.length with hi | hi | hi
  · rw [List.getElem?_append_left hi] at e
    exact h i q e
  · subst hi
    rw [List.getElem?_append_right (Nat.le_refl _), Nat.sub_self] at e
    cases e
    exact hr
  · rw [List.getElem?_eq_none (by simp; omega)] at e
    cases e
theorem hold_app {rs : List Rw} {r : Rw} (h : RowsOk rs) (hr : r.ok rs.length) {tr : Nat → Bool} {ring : List Str} : ∀ i, i < rs.length → hold (rs ++ [r]) tr ring i = hold rs tr ring i := by
  intro i
  induction i using Nat.strongRecOn with
  | _ i ih =>
    intro hi
    have e : rs[i]? = some rs[i] := List.getElem?_eq_getElem hi
    have e2 : (rs ++ [r])[i]? = some rs[i] := by rw [List.getElem?_append_left hi]; exact e
    rw [hold_eq (rowsOk_snoc h hr) e2, hold_eq h e]
    exact Rw.val_congr (h i _ e) i fun j hj => ih j hj (by omega)
theorem hold_put {rs : List Rw} {r : Rw} (h : RowsOk rs) (hr : r.ok rs.length) {tr : Nat → Bool} {ring : List Str} : hold (rs ++ [r]) tr ring rs.length = r.val tr ring (hold rs tr ring) rs.length := by
  rw [hold_eq (r := r) (rowsOk_snoc h hr) (by rw [List.getElem?_append_right (Nat.le_refl _), Nat.sub_self]; rfl)]
  exact Rw.val_congr hr _ fun j hj => hold_app h hr j hj
/-- levels: the rows that a sheet starts with -/
def lvRows : Nat → List Rw
  | 0 => [.fl, .ng 0]
  | n + 1 => lvRows n ++ [.sh n 0] ++ [.cj (3 * n + 1) (3 * n + 2)] ++ [.ng (3 * n + 2)]
theorem lv_len : ∀ n, (lvRows n).length = 3 * n + 2
  | 0 => rfl
  | n + 1 => by
    show (lvRows n ++ _ ++ _ ++ _).length = _
    simp only [List.length_append, lv_len n, List.length_singleton]
    omega
/-- a shown row's truth at a level -/
def tO (m i : Nat) : Bool := decide (m ≤ (i - 2) / 3)
structure Sh (rs : List Rw) : Prop where
  ok : RowsOk rs
  dn : ∀ i, i < rs.length → (downs rs)[i]? = some true
  sh : ∀ (i k j : Nat), rs[i]? = some (.sh k j) → i = 3 * k + 2 ∧ j = 0
  fl : rs[0]? = some .fl
theorem Sh.put {rs : List Rw} (h : Sh rs) {r : Rw} (hr : r.ok rs.length) (hd : ∀ k m, r ≠ .ds k m) (hs : ∀ k j, r = .sh k j → rs.length = 3 * k + 2 ∧ j = 0) : Sh (rs ++ [r]) := by
  have hp : 0 < rs.length := (List.getElem?_eq_some_iff.mp h.fl).1
  refine ⟨rowsOk_snoc h.ok hr, fun i hi => ?_, fun i k j e => ?_, by rw [List.getElem?_append_left hp]; exact h.fl⟩
  · rw [downs_snoc]
    have hl := downs_len rs
    rcases Nat.lt_or_ge i rs.length with q | q
    · rw [List.getElem?_append_left (by omega)]
      exact h.dn i q
    · have : i = rs.length := by simp at hi; omega
      subst this
      rw [List.getElem?_append_right (by omega), hl, Nat.sub_self]
      have key : ∀ j, j < rs.length → (downs rs).getD j false = true := fun j hj => by rw [List.getD_eq_getElem?_getD, h.dn j hj]; rfl
      refine congrArg some ?_
      cases r with
      | fl => rfl
      | ds k m => exact absurd rfl (hd k m)
      | ng j => exact key j hr
      | cj j l => show ((downs rs).getD j false && (downs rs).getD l false) = true; rw [key j hr.1, key l hr.2]; rfl
      | dj j l => show ((downs rs).getD j false && (downs rs).getD l false) = true; rw [key j hr.1, key l hr.2]; rfl
      | sh k j => rfl
  · rcases Nat.lt_trichotomy i rs.length with q | q | q
    · rw [List.getElem?_append_left q] at e
      exact h.sh i k j e
    · subst q
      rw [List.getElem?_append_right (Nat.le_refl _), Nat.sub_self] at e
      cases e
      exact hs k j rfl
    · rw [List.getElem?_eq_none (by simp; omega)] at e
      cases e
theorem lv_sh : ∀ n, n ≤ 100 → Sh (lvRows n)
  | 0, _ => by
    have h0 : Sh [.fl] := ⟨fun i r e => by cases i with | zero => cases e; trivial | succ i => simp at e, fun i hi => by have : i = 0 := (by simpa using hi); rw [this]; rfl, fun i k j e => by cases i with | zero => cases e | succ i => simp at e, rfl⟩
    exact h0.put (r := .ng 0) (show 0 < 1 by decide) (fun _ _ e => by cases e) (fun _ _ e => by cases e)
  | n + 1, hn => by
    have ih := lv_sh n (by omega)
    have hl := lv_len n
    refine ((ih.put (r := .sh n 0) ⟨by omega, by omega⟩ (fun _ _ e => by cases e) fun k j e => ?_).put (r := .cj (3 * n + 1) (3 * n + 2)) ⟨?_, ?_⟩ (fun _ _ e => by cases e) (fun _ _ e => by cases e)).put (r := .ng (3 * n + 2)) ?_ (fun _ _ e => by cases e) (fun _ _ e => by cases e)
    · cases e
      exact ⟨hl, rfl⟩
    · simp only [List.length_append, hl, List.length_singleton]; omega
    · simp only [List.length_append, hl, List.length_singleton]; omega
    · show _ < _
      simp only [List.length_append, hl, List.length_singleton]; omega
theorem lv_hold (m : Nat) : ∀ n, n ≤ 100 → hold (lvRows n) (tO m) [] 0 = false ∧ (∀ k, k ≤ n → hold (lvRows n) (tO m) [] (3 * k + 1) = decide (k ≤ m)) ∧ ∀ k, k < n → hold (lvRows n) (tO m) [] (3 * k + 3) = decide (m = k)
  | 0, _ => by
    refine ⟨rfl, fun k hk => ?_, fun k hk => by omega⟩
    have : k = 0 := by omega
    subst this
    rw [decide_eq_true (by omega)]
    rfl
  | n + 1, hn => by
    have s0 := lv_sh n (by omega)
    obtain ⟨h0, h1, h2⟩ := lv_hold m n (by omega)
    have hl := lv_len n
    have o1 : (Rw.sh n 0).ok (lvRows n).length := ⟨by omega, by omega⟩
    have s1 := s0.put o1 (fun _ _ e => by cases e) fun k j e => by cases e; exact ⟨hl, rfl⟩
    have l1 : (lvRows n ++ [Rw.sh n 0]).length = 3 * n + 3 := by simp only [List.length_append, hl, List.length_singleton]
    have o2 : (Rw.cj (3 * n + 1) (3 * n + 2)).ok (lvRows n ++ [Rw.sh n 0]).length := ⟨by omega, by omega⟩
    have s2 := s1.put o2 (fun _ _ e => by cases e) (fun _ _ e => by cases e)
    have l2 : (lvRows n ++ [Rw.sh n 0] ++ [Rw.cj (3 * n + 1) (3 * n + 2)]).length = 3 * n + 4 := by rw [List.length_append, l1]; rfl
    have o3 : (Rw.ng (3 * n + 2)).ok (lvRows n ++ [Rw.sh n 0] ++ [Rw.cj (3 * n + 1) (3 * n + 2)]).length := by show _ < _; omega
    have low : ∀ i, i < 3 * n + 2 → hold (lvRows (n + 1)) (tO m) [] i = hold (lvRows n) (tO m) [] i := fun i hi => by
      show hold (lvRows n ++ _ ++ _ ++ _) (tO m) [] i = _
      rw [hold_app s2.ok o3 i (by omega), hold_app s1.ok o2 i (by omega), hold_app s0.ok o1 i (by omega)]
    have e0 : hold (lvRows n ++ [Rw.sh n 0]) (tO m) [] (3 * n + 2) = decide (m ≤ n) := by
      have := hold_put (tr := tO m) (ring := []) s0.ok o1
      rw [hl] at this
      rw [this]
      show tO m (3 * n + 2) = _
      unfold tO
      rw [show (3 * n + 2 - 2) / 3 = n by omega]
    refine ⟨by rw [low 0 (by omega)]; exact h0, fun k hk => ?_, fun k hk => ?_⟩
    · rcases Nat.lt_or_ge n k with q | q
      · have : k = n + 1 := by omega
        subst this
        have := hold_put (tr := tO m) (ring := []) s2.ok o3
        rw [l2] at this
        show hold (lvRows n ++ _ ++ _ ++ _) (tO m) [] (3 * (n + 1) + 1) = _
        rw [show 3 * (n + 1) + 1 = 3 * n + 4 by omega, this]
        show (!hold (lvRows n ++ [Rw.sh n 0] ++ [Rw.cj (3 * n + 1) (3 * n + 2)]) (tO m) [] (3 * n + 2)) = _
        rw [hold_app s1.ok o2 _ (by omega), e0]
        by_cases hm : m ≤ n
        · rw [decide_eq_true hm, decide_eq_false (by omega)]; rfl
        · rw [decide_eq_false hm, decide_eq_true (by omega)]; rfl
      · rw [low _ (by omega)]
        exact h1 k q
    · rcases Nat.lt_or_ge k n with q | q
      · rw [low _ (by omega)]
        exact h2 k q
      · have : k = n := by omega
        subst this
        show hold (lvRows k ++ _ ++ _ ++ _) (tO m) [] (3 * k + 3) = _
        rw [hold_app s2.ok o3 _ (by omega)]
        have := hold_put (tr := tO m) (ring := []) s1.ok o2
        rw [l1] at this
        rw [this]
        show (hold (lvRows k ++ [Rw.sh k 0]) (tO m) [] (3 * k + 1) && hold (lvRows k ++ [Rw.sh k 0]) (tO m) [] (3 * k + 2)) = _
        rw [e0, hold_app s0.ok o1 _ (by omega), h1 k (Nat.le_refl _)]
        by_cases hm : m = k
        · subst hm
          rw [decide_eq_true (Nat.le_refl _), decide_eq_true rfl]; rfl
        · rw [decide_eq_false hm]
          rcases Nat.lt_or_gt_of_ne hm with q | q
          · rw [decide_eq_false (show ¬ k ≤ m by omega)]; rfl
          · rw [decide_eq_false (show ¬ m ≤ k by omega), Bool.and_false]
/-- any of some: a chain of ors -/
def anyRows (rs : List Rw) (f : Nat) : List Nat → List Rw × Nat
  | [] => (rs, f)
  | a :: r => anyRows (rs ++ [.dj f a]) rs.length r
def anyOf (rs : List Rw) : List Nat → List Rw × Nat
  | [] => (rs, 0)
  | f :: r => anyRows rs f r
/-- a sheet grown by what puts no new showns -/
structure Grow (rs rs' : List Rw) (k : Nat) : Prop where
  sh : Sh rs'
  le : rs.length ≤ rs'.length
  few : rs'.length ≤ rs.length + k
  same : ∀ m i, i < rs.length → hold rs' (tO m) [] i = hold rs (tO m) [] i
theorem Grow.trans {a b c : List Rw} {k l : Nat} (h : Grow a b k) (g : Grow b c l) : Grow a c (k + l) :=
  ⟨g.sh, Nat.le_trans h.le g.le, by have := h.few; have := g.few; omega, fun m i hi => by rw [g.same m i (Nat.lt_of_lt_of_le hi h.le), h.same m i hi]⟩
theorem anyRows_ok : ∀ (some : List Nat) (rs : List Rw) (f : Nat), Sh rs → f < rs.length → (∀ a ∈ some, a < rs.length) →
    Grow rs (anyRows rs f some).1 some.length ∧ (anyRows rs f some).2 < (anyRows rs f some).1.length ∧ ∀ m, hold (anyRows rs f some).1 (tO m) [] (anyRows rs f some).2 = (hold rs (tO m) [] f || some.any fun a => hold rs (tO m) [] a)
  | [], rs, f, h, hf, _ => ⟨⟨h, Nat.le_refl _, Nat.le_refl _, fun _ _ _ => rfl⟩, hf, fun m => by simp [anyRows]⟩
  | a :: r, rs, f, h, hf, ha => by
    have ha0 := ha a (by simp)
    have ho : (Rw.dj f a).ok rs.length := ⟨hf, ha0⟩
    have h1 := h.put ho (fun _ _ e => by cases e) (fun _ _ e => by cases e)
    obtain ⟨g1, g2, g3⟩ := anyRows_ok r (rs ++ [.dj f a]) rs.length h1 (by simp) fun b hb => by have := ha b (List.mem_cons_of_mem _ hb); simp; omega
    have g0 : Grow rs (rs ++ [.dj f a]) 1 := ⟨h1, by simp, by simp, fun m i hi => hold_app h.ok ho i hi⟩
    refine ⟨?_, g2, fun m => ?_⟩
    · have := g0.trans g1
      rw [show 1 + r.length = (a :: r).length by simp; omega] at this
      exact this
    · show hold (anyRows (rs ++ [.dj f a]) rs.length r).1 (tO m) [] (anyRows (rs ++ [.dj f a]) rs.length r).2 = _
      rw [g3 m, hold_put h.ok ho, List.any_cons]
      show ((hold rs (tO m) [] f || hold rs (tO m) [] a) || _) = _
      rw [Bool.or_assoc]
      refine congrArg (fun z => (hold rs (tO m) [] f || (hold rs (tO m) [] a || z))) ?_
      rw [Bool.eq_iff_iff, List.any_eq_true, List.any_eq_true]
      constructor
      · rintro ⟨b, hb, e⟩
        exact ⟨b, hb, by rw [← hold_app h.ok ho b (ha b (List.mem_cons_of_mem _ hb))]; exact e⟩
      · rintro ⟨b, hb, e⟩
        exact ⟨b, hb, by rw [hold_app h.ok ho b (ha b (List.mem_cons_of_mem _ hb))]; exact e⟩
theorem anyOf_ok (some : List Nat) (rs : List Rw) (h : Sh rs) (ha : ∀ a ∈ some, a < rs.length) :
    Grow rs (anyOf rs some).1 some.length ∧ (anyOf rs some).2 < (anyOf rs some).1.length ∧ ∀ m, hold (anyOf rs some).1 (tO m) [] (anyOf rs some).2 = some.any fun a => hold rs (tO m) [] a := by
  cases some with
  | nil =>
    refine ⟨⟨h, Nat.le_refl _, Nat.le_refl _, fun _ _ _ => rfl⟩, (List.getElem?_eq_some_iff.mp h.fl).1, fun m => ?_⟩
    show hold rs (tO m) [] 0 = false
    rw [hold_eq h.ok h.fl]
    rfl
  | cons f r =>
    obtain ⟨g1, g2, g3⟩ := anyRows_ok r rs f h (ha f (by simp)) fun b hb => ha b (List.mem_cons_of_mem _ hb)
    refine ⟨⟨g1.sh, g1.le, Nat.le_trans g1.few (by simp), g1.same⟩, g2, fun m => ?_⟩
    rw [List.any_cons]
    exact g3 m
/-- the letter at a level -/
def lt (u : List Str) (y : Str) (m : Nat) : Str := (u[m]?).getD y
def someAt (u : List Str) (y z : Str) : List Nat := ((List.range u.length).filterMap fun k => if u[k]? = some z then some (3 * k + 3) else none) ++ (if y = z then [3 * u.length + 1] else [])
theorem someAt_mem {u : List Str} {y z : Str} {a : Nat} : a ∈ someAt u y z ↔ (∃ k, k < u.length ∧ u[k]? = some z ∧ a = 3 * k + 3) ∨ (y = z ∧ a = 3 * u.length + 1) := by
  unfold someAt
  rw [List.mem_append, List.mem_filterMap]
  constructor
  · rintro (⟨k, hk, e⟩ | h)
    · by_cases q : u[k]? = some z
      · rw [if_pos q] at e
        cases e
        exact .inl ⟨k, List.mem_range.mp hk, q, rfl⟩
      · rw [if_neg q] at e
        cases e
    · by_cases q : y = z
      · rw [if_pos q] at h
        exact .inr ⟨q, by simpa using h⟩
      · rw [if_neg q] at h
        cases h
  · rintro (⟨k, hk, e, rfl⟩ | ⟨rfl, rfl⟩)
    · exact .inl ⟨k, List.mem_range.mpr hk, by rw [if_pos e]⟩
    · exact .inr (by rw [if_pos rfl]; simp)
theorem someAt_len (u : List Str) (y z : Str) : (someAt u y z).length ≤ u.length + 1 := by
  unfold someAt
  rw [List.length_append]
  have h1 : ((List.range u.length).filterMap fun k => if u[k]? = some z then some (3 * k + 3) else none).length ≤ u.length := Nat.le_trans (List.length_filterMap_le _ _) (by simp)
  have h2 : (if y = z then [3 * u.length + 1] else []).length ≤ 1 := by split <;> simp
  omega
theorem someAt_any {rs : List Rw} {u : List Str} {y z : Str} {m : Nat} (h1 : ∀ k, k < u.length → hold rs (tO m) [] (3 * k + 3) = decide (m = k)) (h2 : hold rs (tO m) [] (3 * u.length + 1) = decide (u.length ≤ m)) :
    ((someAt u y z).any fun a => hold rs (tO m) [] a) = decide (lt u y m = z) := by
  rw [Bool.eq_iff_iff, List.any_eq_true, decide_eq_true_eq]
  unfold lt
  constructor
  · rintro ⟨a, ha, e⟩
    rcases someAt_mem.mp ha with ⟨k, hk, q, rfl⟩ | ⟨q, rfl⟩
    · rw [h1 k hk, decide_eq_true_eq] at e
      subst e
      rw [q]
      rfl
    · rw [h2, decide_eq_true_eq] at e
      rw [List.getElem?_eq_none e]
      exact q
  · intro e
    rcases Nat.lt_or_ge m u.length with q | q
    · rw [List.getElem?_eq_getElem q] at e
      refine ⟨3 * m + 3, someAt_mem.mpr (.inl ⟨m, q, by rw [List.getElem?_eq_getElem q]; exact congrArg some e, rfl⟩), ?_⟩
      rw [h1 m q]
      exact decide_eq_true rfl
    · rw [List.getElem?_eq_none q] at e
      refine ⟨3 * u.length + 1, someAt_mem.mpr (.inr ⟨e, rfl⟩), ?_⟩
      rw [h2]
      exact decide_eq_true q
def oppRows (u : List Str) (y : Str) : List Str → List Rw → List Nat → List Rw × List Nat
  | [], rs, ch => (rs, ch)
  | z :: r, rs, ch => oppRows u y r (anyOf rs (someAt u y z)).1 (ch ++ [(anyOf rs (someAt u y z)).2])
/-- what is known of a choice of the sheet -/
def Cho (u : List Str) (y : Str) (rs : List Rw) (z : Str) (i : Nat) : Prop := i < rs.length ∧ ∀ m, hold rs (tO m) [] i = decide (lt u y m = z)
theorem Cho.grow {u : List Str} {y z : Str} {rs rs' : List Rw} {i k : Nat} (h : Cho u y rs z i) (g : Grow rs rs' k) : Cho u y rs' z i := ⟨Nat.lt_of_lt_of_le h.1 g.le, fun m => by rw [g.same m i h.1, h.2 m]⟩
theorem paired_imp {α β : Type} {R S : α → β → Prop} {xs : List α} {ys : List β} (h : Paired R xs ys) (f : ∀ x y, R x y → S x y) : Paired S xs ys := by
  induction h with
  | nil => exact .nil
  | cons h _ ih => exact .cons (f _ _ h) ih
theorem oppRows_ok {u : List Str} {y : Str} (hu : u.length ≤ 100) : ∀ (zs : List Str) (rs : List Rw) (ch : List Nat) (done : List Str) (k : Nat), Grow (lvRows u.length) rs k → Paired (Cho u y rs) done ch →
    Grow (lvRows u.length) (oppRows u y zs rs ch).1 (k + zs.length * (u.length + 1)) ∧ Paired (Cho u y (oppRows u y zs rs ch).1) (done ++ zs) (oppRows u y zs rs ch).2
  | [], rs, ch, done, k, g, p => by
    rw [List.append_nil]
    exact ⟨⟨g.sh, g.le, Nat.le_trans g.few (by simp), g.same⟩, p⟩
  | z :: r, rs, ch, done, k, g, p => by
    have hl := lv_len u.length
    have hle := g.le
    obtain ⟨a1, a2, a3⟩ := anyOf_ok (someAt u y z) rs g.sh fun a ha => by
      rcases someAt_mem.mp ha with ⟨k, hk, _, rfl⟩ | ⟨_, rfl⟩ <;> omega
    have hsl := someAt_len u y z
    have g2 := g.trans a1
    have c : Cho u y (anyOf rs (someAt u y z)).1 z (anyOf rs (someAt u y z)).2 := ⟨a2, fun m => by
      obtain ⟨v0, v1, v2⟩ := lv_hold m u.length hu
      rw [a3 m]
      exact someAt_any (fun k hk => by rw [g.same m _ (by omega), v2 k hk]) (by rw [g.same m _ (by omega), v1 _ (Nat.le_refl _)])⟩
    obtain ⟨r1, r2⟩ := oppRows_ok hu r (anyOf rs (someAt u y z)).1 (ch ++ [(anyOf rs (someAt u y z)).2]) (done ++ [z]) _ g2 (paired_snoc (paired_imp p fun _ _ h => h.grow a1) c)
    rw [List.append_assoc] at r2
    refine ⟨⟨r1.sh, r1.le, Nat.le_trans r1.few ?_, r1.same⟩, r2⟩
    rw [List.length_cons, Nat.add_mul]
    omega
def opp (ls u : List Str) (y : Str) : Pl := ⟨ls, (oppRows u y ls.dropLast (lvRows u.length) []).1, (oppRows u y ls.dropLast (lvRows u.length) []).2⟩
theorem opp_inv {ls u : List Str} {y : Str} (hu : u.length ≤ 100) : Grow (lvRows u.length) (opp ls u y).rows (ls.dropLast.length * (u.length + 1)) ∧ Paired (Cho u y (opp ls u y).rows) ls.dropLast (opp ls u y).picks := by
  have h := oppRows_ok (y := y) hu ls.dropLast (lvRows u.length) [] [] 0 ⟨lv_sh _ hu, Nat.le_refl _, Nat.le_refl _, fun _ _ _ => rfl⟩ .nil
  rw [Nat.zero_add] at h
  exact h
theorem opp_okG {ls u : List Str} {y : Str} (mv : Mv ls) (hu : u.length ≤ 100) (hb : 3 * u.length + 2 + ls.dropLast.length * (u.length + 1) ≤ 120) : (opp ls u y).Ok := by
  obtain ⟨g, p⟩ := opp_inv (ls := ls) (y := y) (u := u) hu
  refine ⟨mv, g.sh.ok, ?_, ?_, fun i hi => ?_⟩
  · have h1 := g.few
    have h2 := lv_len u.length
    omega
  · have := paired_len p
    rw [List.length_dropLast] at this
    have := mv.pos
    show (opp ls u y).picks.length + 1 = ls.length
    omega
  · obtain ⟨j, hj⟩ := List.mem_iff_getElem?.mp hi
    obtain ⟨z, _, c⟩ := paired_get p hj
    exact ⟨c.1, g.sh.dn i c.1⟩
theorem opp_ok {ls u : List Str} {y : Str} (mv : Mv ls) (hu : u.length ≤ 16) : (opp ls u y).Ok := by
  refine opp_okG mv (by omega) ?_
  have h3 : ls.dropLast.length ≤ 3 := by rw [List.length_dropLast]; have := mv.few; omega
  have h4 : ls.dropLast.length * (u.length + 1) ≤ 3 * 17 := Nat.mul_le_mul h3 (by omega)
  omega
theorem find_cho {u : List Str} {y : Str} {rs : List Rw} (m : Nat) : ∀ (zs : List Str) (ps : List Nat) (l : Str), Paired (Cho u y rs) zs ps → ((((zs ++ [l]).zip ps).find? fun x => hold rs (tO m) [] x.2).map (·.1)).getD l = if lt u y m ∈ zs then lt u y m else l
  | _, _, l, .nil => by simp
  | z :: zs, i :: ps, l, .cons h t => by
    rw [List.cons_append, List.zip_cons_cons, List.find?_cons]
    have ih := find_cho m zs ps l t
    by_cases e : lt u y m = z
    · rw [show hold rs (tO m) [] (z, i).2 = true by rw [h.2 m]; exact decide_eq_true e]
      rw [if_pos (by rw [e]; exact List.mem_cons_self)]
      exact e.symm
    · rw [show hold rs (tO m) [] (z, i).2 = false by rw [h.2 m]; exact decide_eq_false e]
      show ((List.find? _ _).map _).getD l = _
      rw [ih]
      by_cases q : lt u y m ∈ zs
      · rw [if_pos q, if_pos (List.mem_cons_of_mem _ q)]
      · rw [if_neg q, if_neg fun z => (List.mem_cons.mp z).elim e q]
theorem opp_does {ls u : List Str} {y : Str} (mv : Mv ls) (hu : u.length ≤ 100) (hl : ∀ z ∈ u, z ∈ ls) (hy : y ∈ ls) (m : Nat) : (opp ls u y).does (tO m) = lt u y m := by
  obtain ⟨g, p⟩ := opp_inv (ls := ls) (y := y) (u := u) hu
  have hne : ls ≠ [] := fun e => by have := mv.pos; rw [e] at this; simp at this
  have hls := List.dropLast_concat_getLast hne
  have hm : lt u y m ∈ ls := by
    unfold lt
    rcases Nat.lt_or_ge m u.length with q | q
    · rw [List.getElem?_eq_getElem q]
      exact hl _ (List.getElem_mem q)
    · rw [List.getElem?_eq_none q]
      exact hy
  unfold Pl.does pickMv
  show ((((ls.zip (opp ls u y).picks).find? _).map (·.1)).getD (ls.getLastD "")) = _
  have eL : ls.getLastD "" = ls.getLast hne := by rw [List.getLastD_eq_getLast?, List.getLast?_eq_some_getLast hne]; rfl
  have e := find_cho m ls.dropLast (opp ls u y).picks (ls.getLast hne) p
  rw [hls] at e
  rw [eL, e]
  by_cases q : lt u y m ∈ ls.dropLast
  · rw [if_pos q]
  · rw [if_neg q]
    rw [← hls] at hm
    rcases List.mem_append.mp hm with h | h
    · exact absurd h q
    · exact (List.mem_singleton.mp h).symm
/-- in any meeting, its truths -/
theorem opp_met {ls u : List Str} {y : Str} (hu : u.length ≤ 100) {Ls : List Pl} {s : Nat} (hs : Ls[s]? = some (opp ls u y)) : ∀ n, Agr (opp ls u y) (Met Ls n s) (tO n)
  | 0 => fun i _ => by show true = _; unfold tO; rw [decide_eq_true (Nat.zero_le _)]
  | n + 1 => fun i hi => by
    obtain ⟨g, _⟩ := opp_inv (ls := ls) (y := y) (u := u) hu
    obtain ⟨k, j, hr, e1, e2⟩ := sh_row hi
    obtain ⟨f1, f2⟩ := g.sh.sh i k j hr
    rw [met_succ hs n]
    unfold Pl.later
    rw [opp_met hu hs n i hi, e1, e2, f2, hold_eq g.sh.ok g.sh.fl]
    show (tO n i && (decide (n < k) || false)) = _
    unfold tO
    rw [show (i - 2) / 3 = k by omega, Bool.or_false]
    by_cases q : n < k
    · rw [decide_eq_true q, decide_eq_true (show n + 1 ≤ k by omega), decide_eq_true (show n ≤ k by omega)]; rfl
    · rw [decide_eq_false q, decide_eq_false (show ¬ n + 1 ≤ k by omega), Bool.and_false]
theorem opp_ltr {ls u : List Str} {y : Str} (mv : Mv ls) (okR : (opp ls u y).Ok) (hu : u.length ≤ 100) (hl : ∀ z ∈ u, z ∈ ls) (hy : y ∈ ls) (L : Pl) (n : Nat) : ltr L (opp ls u y) n = lt u y n := by
  unfold ltr
  rw [does_agr okR (opp_met hu (show ([L, opp ls u y] : List Pl)[1]? = some _ from rfl) n)]
  exact opp_does mv hu hl hy n
theorem step_rest {L : Pl} {s : Sd} {y : Str} (h : L.rest s y = true) : L.step s y = s := of_decide_eq_true (Bool.and_eq_true_iff.mp h).2
theorem endM_step {L : Pl} {s : Sd} (ok : Sd.Ok L s) (y : Str) : L.endM (L.step s y) y = L.endM s y := by
  unfold Pl.endM
  cases h : L.rest s y with
  | true => rw [step_rest h]
  | false => rw [endS_step ok h]
theorem endM_more {L : Pl} {u : List Str} {y : Str} : ∀ k, L.endM (L.run L.init (u ++ List.replicate k y)) y = L.endM (L.run L.init u) y
  | 0 => by simp
  | k + 1 => by
    rw [List.replicate_succ', ← List.append_assoc, run_snoc, endM_step (run_ok (init_ok L)), endM_more k]
theorem range_lt (u : List Str) (y : Str) : ∀ k, (List.range (u.length + k)).map (lt u y) = u ++ List.replicate k y
  | 0 => by
    refine List.ext_getElem? fun i => ?_
    rw [List.getElem?_map, Nat.add_zero, List.replicate_zero, List.append_nil]
    rcases Nat.lt_or_ge i u.length with q | q
    · rw [List.getElem?_range q, List.getElem?_eq_getElem q]
      show some (lt u y i) = _
      unfold lt
      rw [List.getElem?_eq_getElem q]
      rfl
    · rw [List.getElem?_eq_none (by simpa using q), List.getElem?_eq_none q]
      rfl
  | k + 1 => by
    rw [← Nat.add_assoc, List.range_succ, List.map_append, range_lt u y k, List.replicate_succ', List.append_assoc]
    refine congrArg (fun z => u ++ (List.replicate k y ++ z)) ?_
    show [lt u y (u.length + k)] = [y]
    unfold lt
    rw [List.getElem?_eq_none (by omega)]
    rfl
/-- the meeting's last moves -/
theorem opp_lastG {L : Pl} (okL : L.Ok) {ls u : List Str} {y : Str} (mv : Mv ls) (okR : (opp ls u y).Ok) (hu : u.length ≤ 100) (hl : ∀ z ∈ u, z ∈ ls) (hy : y ∈ ls) {n : Nat} (hn : ∀ P ∈ [L, opp ls u y], P.high ≤ n) (h : AgrAll [L, opp ls u y] (Met [L, opp ls u y] n) (Met [L, opp ls u y] (n + 1))) :
    done [L, opp ls u y] n = [L.endM (L.run L.init u) y, y] := by
  have ok : ∀ Q ∈ [L, opp ls u y], Q.Ok := fun Q hQ => by
    rcases List.mem_cons.mp hQ with rfl | hQ
    · exact okL
    · rw [List.mem_singleton.mp hQ]; exact okR
  have st := stays ok hn h
  obtain ⟨_, d1⟩ := st u.length
  have a1 := (st u.length).1
  have a2 := (st (u.length + 1)).1
  rw [← d1, done_two]
  have hN : ∀ P ∈ [L, opp ls u y], P.high ≤ n + u.length := fun P hP => Nat.le_trans (hn P hP) (Nat.le_add_right _ _)
  have ha : AgrAll [L, opp ls u y] (Met [L, opp ls u y] (n + u.length)) (Met [L, opp ls u y] (n + u.length + 1)) := fun s P hs i hi => by
    rw [← a1 s P hs i hi]
    exact a2 s P hs i hi
  have e := met_end okL okR (hN L (by simp)) (hN _ (by simp)) ha
  have el : ∀ k, ltr L (opp ls u y) k = lt u y k := opp_ltr mv okR hu hl hy L
  rw [show (List.range (n + u.length)).map (ltr L (opp ls u y)) = (List.range (u.length + n)).map (lt u y) by rw [Nat.add_comm]; exact List.map_congr_left fun k _ => el k, range_lt, el] at e
  have ey : lt u y (n + u.length) = y := by unfold lt; rw [List.getElem?_eq_none (by omega)]; rfl
  rw [ey, endM_more] at e
  rw [e]
  have := el (n + u.length)
  rw [ey] at this
  unfold ltr at this
  rw [this]
theorem opp_last {L : Pl} (okL : L.Ok) {ls u : List Str} {y : Str} (mv : Mv ls) (hu : u.length ≤ 16) (hl : ∀ z ∈ u, z ∈ ls) (hy : y ∈ ls) {n : Nat} (hn : ∀ P ∈ [L, opp ls u y], P.high ≤ n) (h : AgrAll [L, opp ls u y] (Met [L, opp ls u y] n) (Met [L, opp ls u y] (n + 1))) :
    done [L, opp ls u y] n = [L.endM (L.run L.init u) y, y] := opp_lastG okL mv (opp_ok mv hu) (by omega) hl hy hn h
/-! two of them, the other way round -/
theorem met_swap (L R : Pl) : ∀ n, Met [R, L] n 1 = Met [L, R] n 0 ∧ Met [R, L] n 0 = Met [L, R] n 1
  | 0 => ⟨rfl, rfl⟩
  | n + 1 => by
    obtain ⟨h1, h2⟩ := met_swap L R n
    refine ⟨?_, ?_⟩
    · rw [met_succ (show ([R, L] : List Pl)[1]? = some L from rfl), met_succ (show ([L, R] : List Pl)[0]? = some L from rfl), done_two, done_two, h1, h2]
      rfl
    · rw [met_succ (show ([R, L] : List Pl)[0]? = some R from rfl), met_succ (show ([L, R] : List Pl)[1]? = some R from rfl), done_two, done_two, h1, h2]
      rfl
theorem done_swap (L R : Pl) (n : Nat) (a b : Str) (h : done [L, R] n = [a, b]) : done [R, L] n = [b, a] := by
  rw [done_two] at h
  injection h with h1 h
  injection h with h2 _
  rw [done_two, (met_swap L R n).1, (met_swap L R n).2, h1, h2]
theorem agr_swap {L R : Pl} {n m : Nat} (h : AgrAll [R, L] (Met [R, L] n) (Met [R, L] m)) : AgrAll [L, R] (Met [L, R] n) (Met [L, R] m) := fun s P hs i hi => by
  match s, hs with
  | 0, hs =>
    have := h 1 P hs i hi
    rw [(met_swap L R n).1, (met_swap L R m).1] at this
    exact this
  | 1, hs =>
    have := h 0 P hs i hi
    rw [(met_swap L R n).2, (met_swap L R m).2] at this
    exact this
  | s + 2, hs => simp at hs
/-- a word no longer than the way down, that leads to the same -/
theorem short_word {L : Pl} : ∀ (u : List Str), ∃ v : List Str, (∀ z ∈ v, z ∈ u) ∧ L.run L.init v = L.run L.init u ∧ v.length + L.mu (L.run L.init v) ≤ L.mu L.init := by
  refine fun u => snoc_ind (p := fun u => ∃ v : List Str, (∀ z ∈ v, z ∈ u) ∧ L.run L.init v = L.run L.init u ∧ v.length + L.mu (L.run L.init v) ≤ L.mu L.init) ⟨[], by simp, rfl, by simp [Pl.run]⟩ (fun u y ih => ?_) u
  obtain ⟨v, h1, h2, h3⟩ := ih
  by_cases q : L.rest (L.run L.init u) y = true
  · refine ⟨v, fun z hz => List.mem_append_left _ (h1 z hz), ?_, h3⟩
    rw [run_snoc, step_rest q, h2]
  · refine ⟨v ++ [y], fun z hz => ?_, by rw [run_snoc, run_snoc, h2], ?_⟩
    · rcases List.mem_append.mp hz with h | h
      · exact List.mem_append_left _ (h1 z h)
      · exact List.mem_append_right _ h
    · have := mu_lt (L := L) (run_ok (ys := u) (init_ok L)) (y := y) (Bool.eq_false_iff.mpr q)
      rw [run_snoc, List.length_append]
      rw [h2] at h3 ⊢
      simp only [List.length_singleton]
      omega
theorem least_short {L : Pl} (sm : L.Small) {ls u : List Str} {y m : Str} (h4 : ls.length ≤ 4) (hu : ∀ z ∈ u, z ∈ ls) (e : L.endM (L.run L.init u) y = m) (hm : ∀ v : List Str, (∀ z ∈ v, z ∈ ls) → L.endM (L.run L.init v) y = m → code ls u ≤ code ls v) : u.length ≤ 16 := by
  obtain ⟨v, h1, h2, h3⟩ := short_word (L := L) u
  have hv : ∀ z ∈ v, z ∈ ls := fun z hz => hu z (h1 z hz)
  have := code_len h4 hv (hm v hv (by rw [h2]; exact e))
  have := mu_le (init_ok L)
  have := sm.1
  have := sm.2
  omega
/-! the first one's way alone, led on by letters -/
noncomputable def Fc (L : Pl) (x : Nat → Str) : Nat → Nat → Bool
  | 0 => fun _ => true
  | n + 1 => L.later (Fc L x n) n [L.does (Fc L x n), x n]
theorem fc_stand {L : Pl} (ok : L.Ok) (x : Nat → Str) : ∀ n, L.run L.init ((List.range n).map x) = (min n L.high, L.marks.map (Fc L x n))
  | 0 => by
    have e : L.marks.map (Fc L x 0) = List.replicate L.marks.length true := by
      rw [show Fc L x 0 = fun _ => true from rfl, List.map_const']
    rw [e, Nat.zero_min]
    rfl
  | n + 1 => by
    have ih := fc_stand ok x n
    rw [List.range_succ, List.map_append, List.map_cons, List.map_nil, run_snoc, ih]
    have ag := tr_of (L := L) (t := Fc L x n) (s := min n L.high)
    have em : L.mvs (min n L.high, L.marks.map (Fc L x n)) = L.does (Fc L x n) := does_agr ok ag
    unfold Pl.step
    rw [em]
    refine Prod.ext (show min (min n L.high + 1) L.high = min (n + 1) L.high by omega) ?_
    show L.marks.map _ = L.marks.map _
    refine List.map_congr_left fun i hi => ?_
    show L.later _ (min n L.high) [L.does (Fc L x n), x n] i = L.later (Fc L x n) n [L.does (Fc L x n), x n] i
    by_cases hn : n ≤ L.high
    · rw [Nat.min_eq_left hn]
      exact later_agr ok ag (.inr rfl) (.inr rfl) i hi
    · rw [Nat.min_eq_right (by omega)]
      exact later_agr ok ag (.inl (Nat.le_refl _)) (.inl (by omega)) i hi
theorem fc_end {L : Pl} (ok : L.Ok) {u : List Str} {y : Str} {n : Nat} (hn : L.high ≤ n) (hu : u.length ≤ n) (h : Agr L (Fc L (lt u y) n) (Fc L (lt u y) (n + 1))) : L.does (Fc L (lt u y) n) = L.endM (L.run L.init u) y := by
  have es := fc_stand ok (lt u y) n
  have es2 := fc_stand ok (lt u y) (n + 1)
  rw [List.range_succ, List.map_append, List.map_cons, List.map_nil, run_snoc, es] at es2
  have ey : lt u y n = y := by unfold lt; rw [List.getElem?_eq_none (by omega)]; rfl
  rw [ey] at es2
  have eq : (min (n + 1) L.high, L.marks.map (Fc L (lt u y) (n + 1))) = (min n L.high, L.marks.map (Fc L (lt u y) n)) :=
    Prod.ext (show min (n + 1) L.high = min n L.high by omega) (show L.marks.map _ = L.marks.map _ from List.map_congr_left fun i hi => (h i hi).symm)
  rw [eq] at es2
  have hrest : L.rest (min n L.high, L.marks.map (Fc L (lt u y) n)) y = true := by
    unfold Pl.rest
    rw [decide_eq_true es2, decide_eq_true (show min n L.high = L.high by omega)]
    rfl
  have sok : Sd.Ok L (min n L.high, L.marks.map (Fc L (lt u y) n)) := ⟨Nat.min_le_right _ _, by simp⟩
  have hk := range_lt u y (n - u.length)
  rw [show u.length + (n - u.length) = n by omega] at hk
  have e2 := endM_more (L := L) (u := u) (y := y) (n - u.length)
  rw [← hk, es] at e2
  rw [← e2]
  unfold Pl.endM
  rw [endS_rest sok hrest]
  exact (does_agr ok tr_of).symm
theorem pick_memB {ms : List Str} {ps : List Nat} {h : Nat → Bool} (hp : 1 ≤ ms.length) : pickMv ms ps h ∈ ms := by
  unfold pickMv
  cases e : (ms.zip ps).find? fun x => h x.2 with
  | none =>
    show ms.getLastD "" ∈ ms
    have hne : ms ≠ [] := fun e => by rw [e] at hp; simp at hp
    rw [List.getLastD_eq_getLast?, List.getLast?_eq_some_getLast hne]
    exact List.getLast_mem hne
  | some x => exact (List.of_mem_zip (List.mem_of_find?_eq_some e)).1
theorem endM_memB {L : Pl} (ok : L.Ok) (s : Sd) (y : Str) : L.endM s y ∈ L.moves := pick_memB ok.mv.pos
end Lk

set_option maxHeartbeats 4000000
namespace Lk
open PySem PySem.Spec PyProof.Rows L2
/-! ### the class Sheet and opponent -/
def SheetAt (cS : Addr) (H : Hp) (x l : Addr) (rs : List Rw) : Prop := ∃ dx xs, H x = some (.ins cS dx [("put_down", .ref l)]) ∧ H l = some (.lst xs) ∧ RowsAt H xs rs
theorem SheetAt.mono {cS : Addr} {H H' : Hp} {x l : Addr} {rs : List Rw} (s : Same H H') (h : SheetAt cS H x l rs) : SheetAt cS H' x l rs :=
  let ⟨dx, xs, h1, h2, h3⟩ := h; ⟨dx, xs, s _ _ h1, s _ _ h2, h3.mono s⟩
theorem RowsAt.monoL {H H' : Hp} {l : Addr} {zs xs : List V} {rs : List Rw} (s : SameX l H H') (hx : H l = some (.lst zs)) (h : RowsAt H xs rs) : RowsAt H' xs rs := by
  induction h with
  | nil => exact .nil
  | cons h _ ih =>
    obtain ⟨a, e, h⟩ := h
    exact .cons ⟨a, e, s _ _ (ne_x hx h (by simp)) h⟩ ih
theorem same_X {H0 H H' : Hp} {l : Addr} (h : Same H0 H) (s : SameX l H H') (n : H0 l = none) : Same H0 H' := fun a u e => s a u (by rintro rfl; rw [n] at e; cases e) (h a u e)
theorem SheetAt.lst {cS : Addr} {H : Hp} {x l : Addr} {rs : List Rw} (h : SheetAt cS H x l rs) : ∃ xs, H l = some (.lst xs) ∧ xs.length = rs.length := let ⟨_, xs, _, h2, h3⟩ := h; ⟨xs, h2, h3.len⟩
theorem pe_mak0 {X : Cx} {x : Str} {j k : Nat} {ps : List Str} {sp : Sp} {p pos : Pos} {C : Addr} (F : Mak X.prog X.w X.K X.mg X.base C x j ps sp) (hr : Room k X.A) (hjk : j + 1 ≤ k := by decide) (hg : Gl X x := by rfl) (hdb : (x == ("__debug__" : Str)) = false := by decide) :
    PE X (.Call (.Name x p) [] [] pos) (tMake C sp [] E0 tNil) := by
  obtain ⟨f, fd, h1, h2, h3⟩ := F.ex
  exact pe_make0 h1 h3 (hr.mono hjk) hg F.gl h2 .nil pass0 hdb
theorem sc_ints (ns : List Nat) : (ns.map nV).all scalV = true := by
  rw [List.all_eq_true]
  intro x hx
  obtain ⟨y, _, rfl⟩ := List.mem_map.mp hx
  rfl
theorem shl_sc (xs : List V) (h : xs.all scalV = true) : SeqAt.shaped (.list (xs.map vD)) = true := by
  obtain ⟨h1, h2⟩ := shp_all xs h
  simp [SeqAt.shaped, PyData.canLay0, PyData.depth, h1, h2]
theorem same_mutX {l : Addr} {H H' : Hp} {D : Addr} {o : HO} (s : SameX l H H') (n : H D = none) : SameX l H (upd H' D o) := fun a u ne e => by
  rw [upd_ne (by rintro rfl; rw [n] at e; cases e)]
  exact s a u ne e
theorem SheetAt.updL {cS : Addr} {H : Hp} {x l d : Addr} {rs : List Rw} {zs : List V} {o : HO} (h : SheetAt cS H x l rs) (hd : H d = some (.lst zs)) (ne : d ≠ l) : SheetAt cS (upd H d o) x l rs := by
  obtain ⟨dx, xs, h1, h2, h3⟩ := h
  exact ⟨dx, xs, by rw [upd_ne (ne_x hd h1 (by simp))]; exact h1, by rw [upd_ne ne.symm]; exact h2, h3.monoL (sameX_upd (x := d)) hd⟩
theorem cut_lastS (xs : List V) : cutV xs none (some (-1)) = xs.dropLast := by
  unfold cutV
  show (xs.drop 0).take ((-1 + (xs.length : Int)).toNat - 0) = _
  rw [List.drop_zero, Nat.sub_zero, List.dropLast_eq_take]
  congr 1
  omega
theorem anyRows_snoc : ∀ (xs : List Nat) (rs : List Rw) (f a : Nat), anyRows rs f (xs ++ [a]) = ((anyRows rs f xs).1 ++ [.dj (anyRows rs f xs).2 a], (anyRows rs f xs).1.length)
  | [], _, _, _ => rfl
  | x :: r, rs, f, a => anyRows_snoc r (rs ++ [.dj f x]) rs.length a
theorem oppRows_snoc (u : List Str) (y : Str) : ∀ (zs : List Str) (z : Str) (rs : List Rw) (ch : List Nat), oppRows u y (zs ++ [z]) rs ch = ((anyOf (oppRows u y zs rs ch).1 (someAt u y z)).1, (oppRows u y zs rs ch).2 ++ [(anyOf (oppRows u y zs rs ch).1 (someAt u y z)).2])
  | [], _, _, _ => rfl
  | x :: r, z, rs, ch => oppRows_snoc u y r z (anyOf rs (someAt u y x)).1 (ch ++ [(anyOf rs (someAt u y x)).2])
theorem fmc {α β : Type} {f g : α → Option β} : ∀ {l : List α}, (∀ x ∈ l, f x = g x) → l.filterMap f = l.filterMap g
  | [], _ => rfl
  | x :: r, h => by
    rw [List.filterMap_cons, List.filterMap_cons, h x (by simp), fmc fun z hz => h z (List.mem_cons_of_mem _ hz)]
theorem rep_int (i : V) (c : Bool) : (List.replicate (if c = true then (1 : Int) else 0).toNat [i]).flatten = if c = true then [i] else [] := by cases c <;> rfl
theorem anyRows_len : ∀ (xs : List Nat) (rs : List Rw) (f : Nat), (anyRows rs f xs).1.length = rs.length + xs.length
  | [], _, _ => rfl
  | x :: r, rs, f => by
    show (anyRows (rs ++ [.dj f x]) rs.length r).1.length = _
    rw [anyRows_len r]
    simp
    omega
def spNeedLetters : Sp := fun vs H Q _ => ∃ (u : Addr) (us : List Str) (y : Str) (k : V), vs = [.ref u, .str y, k] ∧ Lt H u (us.map V.str) ∧ us.length ≤ 1000 ∧ (∀ z ∈ us ++ [y], isMv z) ∧ (k = .non ∨ ∃ (a : Addr) (ls : List Str), k = .ref a ∧ Lt H a (ls.map V.str) ∧ ∀ z ∈ us ++ [y], z ∈ ls) ∧ ∀ H', Same H H' → Q .non H'
def spSheet (cS : Addr) : Sp := fun vs H Q _ => ∃ x dx, vs = [.ref x] ∧ H x = some (.ins cS dx []) ∧ ∀ H' l, SameX x H H' → H l = none → SheetAt cS H' x l [.fl] → Q .non H'
def spPut (cS : Addr) : Sp := fun vs H Q _ => ∃ x l ra rs r, vs = [.ref x, .ref ra] ∧ SheetAt cS H x l rs ∧ H ra = some (.tup (Rw.vs r)) ∧ rs.length ≤ 1000 ∧ ∀ H', SameX l H H' → SheetAt cS H' x l (rs ++ [r]) → Q (nV rs.length) H'
def spAnyOf (cS : Addr) : Sp := fun vs H Q _ => ∃ x l s rs sm, vs = [.ref x, .ref s] ∧ SheetAt cS H x l rs ∧ H s = some (.lst (List.map nV sm)) ∧ s ≠ l ∧ rs.length ≤ 500 ∧ sm.length ≤ 100 ∧ ∀ H', SameX l H H' → SheetAt cS H' x l (anyOf rs sm).1 → Q (nV (anyOf rs sm).2) H'
def spLevels (cS : Addr) : Sp := fun vs H Q _ => ∃ x l n, vs = [.ref x, nV n] ∧ SheetAt cS H x l [.fl] ∧ n ≤ 99 ∧ ∀ q fa H', SameX l H H' → SheetAt cS H' x l (lvRows n) → fa ≠ l → H fa = none → H' fa = some (.lst ((List.range n).map fun k => nV (3 * k + 3))) → H' q = some (.tup [.ref fa, nV (3 * n + 1)]) → Q (.ref q) H'
def spOpp (cP : Addr) : Sp := fun vs H Q _ => ∃ (a u : Addr) (ls us : List Str) (y : Str), vs = [.ref a, .ref u, .str y] ∧ Lt H a (ls.map V.str) ∧ Mv ls ∧ Lt H u (us.map V.str) ∧ us.length ≤ 39 ∧ 3 * us.length + 2 + ls.dropLast.length * (us.length + 1) ≤ 120 ∧ (∀ z ∈ us, z ∈ ls) ∧ y ∈ ls ∧ ∀ p H', Same H H' → PlAt cP H' p (opp ls us y) → Q (.ref p) H'
section
variable {P : Program} {w : World} {K : PySem.W.Frag} {mg : Str → Option Value} {base : Heap} {cP cG cT cM cS cF : Addr} {f : Addr} {fd : FuncData} (T : Txt K w mg cP cG cT) (TM : TxM K w mg cM cS cF)
include T TM
theorem ok_need_letters {C_is_list : Cal P w K mg base "is_list" 1 ["thing"] spIsList} {C_is_move : Cal P w K mg base "is_move" 1 ["thing"] spIsMove} (F : FnP K "need_letters" "need_letters" s_need_letters f fd) : FnOk P w K mg base CX0 2 f fd ["letters", "tail", "known"] spNeedLetters := by
  refine okN F sc_need_letters (fun vs H Q E h => ?_) (fun cdv A outer s H vs Q E hr h => ?_)
  · obtain ⟨u, us, y, k, rfl, _⟩ := h
    rfl
  · obtain ⟨u, us, y, k, rfl, hu, hl, hm, hk, q⟩ := h
    refine ⟨_, (pss_cons (ps_if (pt_not (pt_val (pe_cal C_is_list hr (pa_cons (pv 0) pa_nil)))) (pss_one ps_never) pss_nil)
      (pss_one (ps_for PassesOwn.never rfl (pi_enumS (by rfl) T.enumerate_ (pa_cons (pe_op op_cat (pe_callTy (lstS K) (by rfl) T.list_ b_list (pa_cons (pv 0) pa_nil)) (pe_lst (pa_cons (pv 1) pa_nil))) pa_nil)) (pgT K 2 rfl (pgs_cons (pg_name (i := 3) sc_need_letters.nd rfl (Or.inl rfl)) (pgs_cons (pg_name (i := 4) sc_need_letters.nd rfl (Or.inl rfl)) pgs_nil))) (pss_one (ps_if (PW.pt (pw_or (pt_not (pt_val (pe_cal C_is_move hr (pa_cons (pv 4) pa_nil)))) (pw_or1 (PW.pt (pw_and (pt_cmpR op_notN (pv 2) pe_non (nomark _)) (pw_and1 (pt_cmpR (notInS K) (pv 4) (pv 2) rfl))))))) (pss_one ps_never) pss_nil))))), ?_⟩
    refine ⟨_, rfl, u, _, rfl, hu, fun H1 s1 => ⟨true, rfl, ?_⟩⟩
    refine iteF ?_
    have hu1 := hu.mono s1
    refine ⟨_, rfl, u, _, rfl, hu1.sq, fun c nc => ?_⟩
    have s2 := s1.trans (same_new (o := .lst (us.map V.str)) nc)
    have hc : (upd H1 c (.lst (us.map V.str))) c = some (.lst (us.map V.str)) := upd_same
    generalize upd H1 c (.lst (us.map V.str)) = H2 at s2 hc
    refine ⟨_, rfl, (by show 1 ≤ sizeLine; decide), fun t nt => ?_⟩
    have s3 := s2.trans (same_new (o := .lst [.str y]) nt)
    have hc3 := same_new (o := .lst [.str y]) nt _ _ hc
    have ht : (upd H2 t (.lst [.str y])) t = some (.lst [.str y]) := upd_same
    generalize upd H2 t (.lst [.str y]) = H3 at s3 hc3 ht
    refine ⟨c, t, _, _, rfl, rfl, hc3, ht, sz_le (by simp; omega), fun d nd => ?_⟩
    have ez : (us.map V.str ++ [V.str y]) = (us ++ [y]).map V.str := by simp
    rw [ez]
    have s4 := s3.trans (same_new (o := .lst ((us ++ [y]).map V.str)) nd)
    have hd : (upd H3 d (.lst ((us ++ [y]).map V.str))) d = some (.lst ((us ++ [y]).map V.str)) := upd_same
    generalize upd H3 d (.lst ((us ++ [y]).map V.str)) = H4 at s4 hd
    refine ⟨d, _, rfl, .inl hd, fun J hJ => ?_⟩
    refine for_it hJ (fun i σ H' => Same H4 H' ∧ ∃ a b, σ = [some (.ref u), some (.str y), some k, a, b]) ⟨fun _ _ e => e, _, _, rfl⟩ (fun i σ H' hi h => same_of h.1 (.inl hd)) (fun i x σ H9 H5 hi h yy => ?_) (fun σ H5 h => ?_)
    · obtain ⟨s5, a0, b0, rfl⟩ := h
      obtain ⟨T1, x1, x2, rfl, nT, rfl, e1, e2⟩ := yy
      simp only [List.getElem?_map] at e2
      obtain ⟨z, hz, rfl⟩ := Option.map_eq_some_iff.mp e2
      cases e1
      have hzm := List.mem_of_getElem? hz
      have s6 := s5.trans (same_new (o := .tup [nV i, .str z]) nT)
      refine ⟨T1, _, rfl, .inl (.inl upd_same), rfl, _, _, rfl, _, _, rfl, rfl, ?_⟩
      refine ⟨_, rfl, z, rfl, hm z hzm, fun H6 s7 => ⟨true, rfl, ?_⟩⟩
      refine iteF ?_
      have s8 := s6.trans s7
      rcases hk with rfl | ⟨a, ls, rfl, ha, hin⟩
      · refine ⟨_, rfl, rfl, _, rfl, ?_⟩
        refine iteF ?_
        refine iteF ?_
        exact ⟨s8, _, _, rfl⟩
      · refine ⟨_, rfl, rfl, _, rfl, ?_⟩
        refine iteT ?_
        refine ⟨_, rfl, _, rfl, a, _, rfl, (ha.mono (s4.trans s8)).sq, rfl, flat_strs ls, _, rfl, ?_⟩
        rw [in_strs, decide_eq_true (hin z hzm)]
        refine iteF ?_
        exact ⟨s8, _, _, rfl⟩
    · obtain ⟨s5, a0, b0, rfl⟩ := h
      exact q _ (s4.trans s5)
theorem ok_Sheet (F : FnP K "__init__" "Sheet.__init__" s_Sheet___init__ f fd) : FnOk P w K mg base CX0 1 f fd ["self"] (spSheet cS) := by
  refine okN F sc_Sheet___init (fun vs H Q E h => ?_) (fun cdv A outer s H vs Q E hr h => ?_)
  · obtain ⟨x, dx, rfl, _⟩ := h
    rfl
  · obtain ⟨x, dx, rfl, hx, q⟩ := h
    refine ⟨_, (pss_one (ps_fld (pv 0) (pe_lst (pa_cons (pe_tup (pa_cons pe_str pa_nil)) pa_nil)) rfl)), ?_⟩
    refine ⟨(by show 1 ≤ sizeLine; decide), fun r nr => ?_⟩
    have s1 := same_new (o := .tup [.str "false"]) nr
    have hr1 : (upd H r (.tup [.str "false"])) r = some (.tup [.str "false"]) := upd_same
    generalize upd H r (.tup [.str "false"]) = H1 at s1 hr1
    refine ⟨(by show 1 ≤ sizeLine; decide), fun l nl => ?_⟩
    have s2 := s1.trans (same_new (o := .lst [.ref r]) nl)
    have hr2 := same_new (o := .lst [.ref r]) nl _ _ hr1
    have hl2 : (upd H1 l (.lst [.ref r])) l = some (.lst [.ref r]) := upd_same
    have nl0 := none_of s1 nl
    generalize upd H1 l (.lst [.ref r]) = H2 at s2 hr2 hl2
    have hx2 := s2 _ _ hx
    refine ⟨_, rfl, x, _, _, _, rfl, hx2, TM.clS, TM.naS _ (by simp), by decide, ?_⟩
    refine q _ l ((sx s2).trans sameX_upd) nl0 ⟨dx, [.ref r], upd_same, ?_, .cons ⟨r, rfl, ?_⟩ .nil⟩
    · rw [upd_ne (ne_x hx2 hl2 (by simp))]
      exact hl2
    · rw [upd_ne (ne_x hx2 hr2 (by simp))]
      exact hr2
theorem ok_put (F : FnP K "put" "Sheet.put" s_Sheet_put f fd) : FnOk P w K mg base CX0 1 f fd ["self", "row"] (spPut cS) := by
  refine okN F sc_Sheet_put (fun vs H Q E h => ?_) (fun cdv A outer s H vs Q E hr h => ?_)
  · obtain ⟨x, l, ra, rs, r, rfl, _⟩ := h
    rfl
  · obtain ⟨x, l, ra, rs, r, rfl, hs, hra, hl, q⟩ := h
    obtain ⟨dx, xs, h1, h2, h3⟩ := hs
    have hxl := h3.len
    refine ⟨_, (pss_cons (ps_expr (pe_bm PySem.F.plainAttrs_list PySem.F.slot_list_append PySem.F.type_list_append mt_append (fldK K (pv 0) rfl) (pa_cons (pv 1) pa_nil)))
      (pss_one (ps_ret (pe_op op_sub (pe_callB (lenS K) (by rfl) T.len_ b_len (pa_cons (fldK K (pv 0) rfl) pa_nil)) pe_int)))), ?_⟩
    refine ⟨_, rfl, x, _, _, _, _, rfl, h1, TM.clS, TM.naS _ (by simp), rfl, .inl ⟨rfl, _, .inl (.inl h2)⟩, _, rfl, l, xs, _, rfl, rfl, h2, sz_lt (by omega), ?_⟩
    have z1 : SameX l H (upd H l (.lst (xs ++ [.ref ra]))) := sameX_upd
    have hl1 : (upd H l (.lst (xs ++ [.ref ra]))) l = some (.lst (xs ++ [.ref ra])) := upd_same
    have h11 := z1 _ _ (ne_x h2 h1 (by simp)) h1
    have hr1 : RowsAt (upd H l (.lst (xs ++ [.ref ra]))) (xs ++ [.ref ra]) (rs ++ [r]) := paired_snoc (h3.monoL z1 h2) ⟨ra, rfl, z1 _ _ (ne_x h2 hra (by simp)) hra⟩
    generalize upd H l (.lst (xs ++ [.ref ra])) = H1 at z1 hl1 h11 hr1
    refine ⟨_, rfl, x, _, _, _, _, rfl, h11, TM.clS, TM.naS _ (by simp), rfl, l, _, rfl, .inl (.inl (.inl hl1)), _, _, rfl, rfl, ?_⟩
    have e : ((((xs ++ [V.ref ra]).length : Nat) : Int) - 1) = ((rs.length : Nat) : Int) := by rw [List.length_append, List.length_singleton]; omega
    have q := q H1 z1 ⟨dx, _, h11, hl1, hr1⟩
    unfold nV at q
    rw [← e] at q
    exact q
theorem ok_any_of {M_put : Mth P w K mg base cS "put" 1 ["self", "row"] (spPut cS)} (F : FnP K "any_of" "Sheet.any_of" s_Sheet_any_of f fd) : FnOk P w K mg base CX0 2 f fd ["self", "some"] (spAnyOf cS) := by
  refine okN F sc_Sheet_any_of (fun vs H Q E h => ?_) (fun cdv A outer s H vs Q E hr h => ?_)
  · obtain ⟨x, l, s, rs, sm, rfl, _⟩ := h
    rfl
  · obtain ⟨x, l, s, rs, sm, rfl, hs, hm, hsl, hl, hsm, q⟩ := h
    refine ⟨_, (pss_cons (ps_if (pt_cmpR (op_eqD hr.units) (pv 1) (pe_lst pa_nil) (nomark _)) (pss_one (ps_ret pe_int)) pss_nil)
      (pss_cons (ps_asg (pv 1) (pg_star (n := 2) (i := 1) rfl (pgs_cons (pg_name (i := 2) sc_Sheet_any_of.nd rfl (Or.inl rfl)) (pgs_star (pg_name (i := 3) sc_Sheet_any_of.nd rfl (Or.inl rfl)) pgs_nil))))
      (pss_cons (ps_for PassesOwn.never rfl (pi_sq (pv 3)) (pg_name (i := 4) sc_Sheet_any_of.nd rfl (Or.inl rfl)) (pss_one (ps_set (i := 2) sc_Sheet_any_of.nd rfl (Or.inl rfl) (pe_mth TM.clS M_put hr (pv 0) (pa_cons (pe_tup (pa_cons pe_str (pa_cons (pv 2) (pa_cons (pv 4) pa_nil)))) pa_nil)))))
      (pss_one (ps_ret (pv 2)))))), ?_⟩
    refine ⟨_, rfl, (by show 0 ≤ sizeLine; decide), fun e0 ne0 => ?_⟩
    have s1 := same_new (o := .lst []) ne0
    have h0 : (upd H e0 (.lst [])) e0 = some (.lst []) := upd_same
    have hs1 := hs.mono s1
    have hm1 := s1 _ _ hm
    generalize upd H e0 (.lst []) = H1 at s1 h0 hs1 hm1
    refine ⟨_, .list [], .lst (.inl (.inl hm1)) (dp_all _ (sc_ints sm)), .lst (.inl (.inl h0)) .nil, shl_sc _ (sc_ints sm), shl_sc [] rfl, ?_⟩
    have nl : H l ≠ none := fun e => by obtain ⟨_, h, _⟩ := hs.lst; rw [e] at h; cases h
    cases sm with
    | nil =>
      refine ⟨true, by simp [PyData.eqv, PyData.eqvAll], ?_⟩
      refine iteT ?_
      exact q H1 (sx s1) hs1
    | cons f0 r =>
      refine ⟨false, by simp [PyData.eqv, PyData.eqvAll], ?_⟩
      refine iteF ?_
      refine ⟨_, rfl, s, _, rfl, .inl (.inl (.inl hm1)), by simp, by simp at hsm ⊢; omega, fun D nD => ?_⟩
      have eD : ((((f0 :: r).map nV).drop 1).take (((f0 :: r).map nV).length + 1 - 2)) = r.map nV := by simp [List.take_of_length_le]
      have eT : ((f0 :: r).map nV).take 1 ++ [V.ref D] ++ (((f0 :: r).map nV).drop 1).drop (((f0 :: r).map nV).length + 1 - 2) = [nV f0, .ref D] := by simp
      rw [eD, eT]
      have s2 := s1.trans (same_new (o := .lst (r.map nV)) nD)
      have hs2 := hs1.mono (same_new (o := .lst (r.map nV)) nD)
      have hD2 : (upd H1 D (.lst (r.map nV))) D = some (.lst (r.map nV)) := upd_same
      have nDl : D ≠ l := fun e => by obtain ⟨_, h, _⟩ := hs1.lst; rw [e, h] at nD; cases nD
      generalize upd H1 D (.lst (r.map nV)) = H2 at s2 hs2 hD2
      refine ⟨nV f0, _, rfl, _, _, rfl, rfl, ?_⟩
      refine ⟨_, rfl, D, _, rfl, .inl hD2, fun J hJ => ?_⟩
      refine for_it hJ (fun k σ H' => SameX l H H' ∧ H' D = some (.lst (r.map nV)) ∧ SheetAt cS H' x l (anyRows rs f0 (r.take k)).1 ∧ ∃ u, σ = [some (.ref x), some (.ref s), some (nV (anyRows rs f0 (r.take k)).2), some (.ref D), u])
        ⟨sx s2, hD2, hs2, _, rfl⟩ (fun k σ H' hk h => h.2.1.trans hD2.symm) (fun k x' σ H9 H6 hk h y => ?_) (fun σ H6 h => ?_)
      · obtain ⟨z, hD3, hs3, u, rfl⟩ := h
        obtain ⟨rfl, hx'⟩ := y
        rw [List.getElem?_map] at hx'
        obtain ⟨a, ha, rfl⟩ := Option.map_eq_some_iff.mp hx'
        have hkr : k < r.length := (List.getElem?_eq_some_iff.mp ha).1
        have hlen := anyRows_len (r.take k) rs f0
        rw [List.length_take, Nat.min_eq_left (by omega)] at hlen
        have hrl : r.length ≤ 100 := by simp at hsm; omega
        have esn := anyRows_snoc (r.take k) rs f0 a
        rw [show r.take k ++ [a] = r.take (k + 1) by rw [List.take_add_one, ha]; rfl] at esn
        obtain ⟨dx, xs, h1, h2, h3⟩ := id hs3
        refine ⟨_, rfl, x, _, _, rfl, h1, rfl, _, rfl, _, rfl, (by show 3 ≤ sizeLine; decide), fun ra nra => ?_⟩
        have s4 := same_new (o := .tup [.str "or", nV (anyRows rs f0 (r.take k)).2, nV a]) nra
        refine ⟨x, l, ra, (anyRows rs f0 (r.take k)).1, .dj (anyRows rs f0 (r.take k)).2 a, rfl, hs3.mono s4, upd_same, by omega, fun H7 z7 hs7 => ?_⟩
        refine ⟨(z.trans (sx s4)).trans z7, z7 _ _ nDl (s4 _ _ hD3), by rw [esn]; exact hs7, some (nV a), ?_⟩
        rw [esn]
        rfl
      · obtain ⟨z, hD3, hs3, u, rfl⟩ := h
        rw [List.take_of_length_le (by simp)] at hs3 ⊢
        exact ⟨_, rfl, q H6 z hs3⟩
theorem ok_levels {M_put : Mth P w K mg base cS "put" 1 ["self", "row"] (spPut cS)} (F : FnP K "levels" "Sheet.levels" s_Sheet_levels f fd) : FnOk P w K mg base CX0 2 f fd ["self", "many"] (spLevels cS) := by
  refine okN F sc_Sheet_levels (fun vs H Q E h => ?_) (fun cdv A outer s H vs Q E hr h => ?_)
  · obtain ⟨x, l, n, rfl, _⟩ := h
    rfl
  · obtain ⟨x, l, n, rfl, hs, hl, q⟩ := h
    refine ⟨_, (pss_cons (ps_par (i := 2) (j := 3) (by rfl) sc_Sheet_levels.nd rfl rfl (by decide) rfl rfl (pa_cons (pe_lst pa_nil) (pa_cons (pe_mth TM.clS M_put hr (pv 0) (pa_cons (pe_tup (pa_cons pe_str (pa_cons pe_int pa_nil))) pa_nil)) pa_nil)) (by rfl))
      (pss_cons (ps_for PassesOwn.never rfl (pi_range1 rfl T.range_ (pa_cons (pv 1) pa_nil)) (pg_name (i := 4) sc_Sheet_levels.nd rfl (Or.inl rfl)) (pss_cons (ps_set (i := 5) sc_Sheet_levels.nd rfl (Or.inl rfl) (pe_mth TM.clS M_put hr (pv 0) (pa_cons (pe_tup (pa_cons pe_str (pa_cons (pv 4) (pa_cons pe_int pa_nil)))) pa_nil)))
      (pss_cons (ps_expr (pe_bm PySem.F.plainAttrs_list PySem.F.slot_list_append PySem.F.type_list_append mt_append (pv 2) (pa_cons (pe_mth TM.clS M_put hr (pv 0) (pa_cons (pe_tup (pa_cons pe_str (pa_cons (pv 3) (pa_cons (pv 5) pa_nil)))) pa_nil)) pa_nil)))
      (pss_one (ps_set (i := 3) sc_Sheet_levels.nd rfl (Or.inl rfl) (pe_mth TM.clS M_put hr (pv 0) (pa_cons (pe_tup (pa_cons pe_str (pa_cons (pv 5) pa_nil))) pa_nil)))))))
      (pss_one (ps_ret (pe_tup (pa_cons (pv 2) (pa_cons (pv 3) pa_nil))))))), ?_⟩
    refine ⟨(by show 0 ≤ sizeLine; decide), fun fa nfa => ?_⟩
    have s1 := same_new (o := .lst []) nfa
    have hfa : (upd H fa (.lst [])) fa = some (.lst []) := upd_same
    have hs1 := hs.mono s1
    have nfl : fa ≠ l := fun e => by obtain ⟨_, h, _⟩ := hs.lst; rw [e, h] at nfa; cases nfa
    generalize upd H fa (.lst []) = H1 at s1 hfa hs1
    obtain ⟨dx, xs, h1, h2, h3⟩ := id hs1
    refine ⟨_, rfl, x, _, _, rfl, h1, rfl, (by show 2 ≤ sizeLine; decide), fun r0 nr0 => ?_⟩
    have s2 := same_new (o := .tup [.str "not", nV 0]) nr0
    refine ⟨x, l, r0, [.fl], .ng 0, rfl, hs1.mono s2, upd_same, by decide, fun H3 z3 hs3 => ?_⟩
    have hfa3 := z3 _ _ nfl (s2 _ _ hfa)
    have z3 := (sx (x := l) (s1.trans s2)).trans z3
    clear hs1 h1 h2 h3 s2 nr0 s1 hfa
    refine ⟨_, _, rfl, ?_⟩
    refine ⟨_, rfl, n, rfl, by omega, by omega, ?_⟩
    refine for_it (walk_range (lo := 0) (n := n)) (fun k σ H' => SameX l H H' ∧ SheetAt cS H' x l (lvRows k) ∧ H' fa = some (.lst ((List.range k).map fun k => nV (3 * k + 3))) ∧ ∃ u v, σ = [some (.ref x), some (nV n), some (.ref fa), some (nV (3 * k + 1)), u, v])
      ⟨z3, hs3, hfa3, _, _, rfl⟩ (fun k σ H' hk h => trivial) (fun k x' σ H9 H6 hk h y => ?_) (fun σ H6 h => ?_)
    · obtain ⟨z, hs4, hfa4, u, v, rfl⟩ := h
      obtain ⟨rfl, hx'⟩ := y
      have hx' : x' = nV k := by
        rw [hx']
        show V.int (0 + (k : Int)) = _
        rw [Int.zero_add]
      subst hx'
      have l0 := lv_len k
      have l1 : (lvRows k ++ [Rw.sh k 0]).length = 3 * k + 3 := by rw [List.length_append, l0]; rfl
      have l2 : (lvRows k ++ [Rw.sh k 0] ++ [Rw.cj (3 * k + 1) (3 * k + 2)]).length = 3 * k + 4 := by rw [List.length_append, l1]; rfl
      obtain ⟨dx4, xs4, h1, _, _⟩ := id hs4
      refine ⟨_, rfl, x, _, _, rfl, h1, rfl, _, rfl, (by show 3 ≤ sizeLine; decide), fun r1 nr1 => ?_⟩
      have s5 := same_new (o := .tup [.str "shown", nV k, nV 0]) nr1
      refine ⟨x, l, r1, lvRows k, .sh k 0, rfl, hs4.mono s5, upd_same, by omega, fun H7 z7 hs7 => ?_⟩
      have hfa7 := z7 _ _ nfl (s5 _ _ hfa4)
      have z7 := (z.trans (sx s5)).trans z7
      rw [l0]
      obtain ⟨dx7, xs7, h17, _, _⟩ := id hs7
      refine ⟨_, rfl, .inl ⟨rfl, _, .inl (.inl hfa7)⟩, _, rfl, x, _, _, rfl, h17, rfl, _, rfl, _, rfl, (by show 3 ≤ sizeLine; decide), fun r2 nr2 => ?_⟩
      have s8 := same_new (o := .tup [.str "and", nV (3 * k + 1), nV (3 * k + 2)]) nr2
      refine ⟨x, l, r2, lvRows k ++ [.sh k 0], .cj (3 * k + 1) (3 * k + 2), rfl, hs7.mono s8, upd_same, by omega, fun H9 z9 hs9 => ?_⟩
      have hfa9 := z9 _ _ nfl (s8 _ _ hfa7)
      have z9 := (z7.trans (sx s8)).trans z9
      rw [l1]
      refine ⟨fa, _, _, rfl, rfl, hfa9, sz_lt (by simp; omega), ?_⟩
      have eF : ((List.range k).map fun k => nV (3 * k + 3)) ++ [nV (3 * k + 3)] = (List.range (k + 1)).map fun k => nV (3 * k + 3) := by rw [List.range_succ, List.map_append]; rfl
      rw [eF]
      have hsA := hs9.updL (o := .lst ((List.range (k + 1)).map fun k => nV (3 * k + 3))) hfa9 nfl
      have zA := same_mutX (o := .lst ((List.range (k + 1)).map fun k => nV (3 * k + 3))) z9 nfa
      have hfaA : (upd H9 fa (.lst ((List.range (k + 1)).map fun k => nV (3 * k + 3)))) fa = some (.lst ((List.range (k + 1)).map fun k => nV (3 * k + 3))) := upd_same
      generalize upd H9 fa (.lst ((List.range (k + 1)).map fun k => nV (3 * k + 3))) = HA at hsA zA hfaA
      obtain ⟨dxA, xsA, h1A, _, _⟩ := id hsA
      refine ⟨_, rfl, x, _, _, rfl, h1A, rfl, _, rfl, (by show 2 ≤ sizeLine; decide), fun r3 nr3 => ?_⟩
      have sB := same_new (o := .tup [.str "not", nV (3 * k + 2)]) nr3
      refine ⟨x, l, r3, lvRows k ++ [.sh k 0] ++ [.cj (3 * k + 1) (3 * k + 2)], .ng (3 * k + 2), rfl, hsA.mono sB, upd_same, by omega, fun HC zC hsC => ?_⟩
      rw [l2]
      exact ⟨(zA.trans (sx sB)).trans zC, hsC, zC _ _ nfl (sB _ _ hfaA), _, _, rfl⟩
    · obtain ⟨z, hs4, hfa4, u, v, rfl⟩ := h
      refine ⟨_, rfl, _, rfl, (by show 2 ≤ sizeLine; decide), fun p np => ?_⟩
      have sN := same_new (o := .tup [.ref fa, nV (3 * n + 1)]) np
      exact q p fa _ (z.trans (sx sN)) (hs4.mono sN) nfl nfa (sN _ _ hfa4) upd_same
theorem ok_opponent {C_need_moves : Cal P w K mg base "need_moves" 3 ["thing"] spNeedMoves} {C_need_letters : Cal P w K mg base "need_letters" 2 ["letters", "tail", "known"] spNeedLetters} {K_Sheet : Mak P w K mg base cS "Sheet" 1 ["self"] (spSheet cS)} {M_levels : Mth P w K mg base cS "levels" 2 ["self", "many"] (spLevels cS)}
    {M_any_of : Mth P w K mg base cS "any_of" 2 ["self", "some"] (spAnyOf cS)} {K_Player : Mak P w K mg base cP "Player" 4 ["self", "moves", "rows", "chosen"] (spPlayer cP)}
    (F : FnP K "opponent" "opponent" s_opponent f fd) : FnOk P w K mg base CX0 6 f fd ["moves", "letters", "tail"] (spOpp cP) := by
  refine okN F sc_opponent (fun vs H Q E h => ?_) (fun cdv A outer s H vs Q E hr h => ?_)
  · obtain ⟨a, u, ls, us, y, rfl, _⟩ := h
    rfl
  · obtain ⟨a, u, ls, us, y, rfl, ha, mv, hu, hul, hbb, hsub, hy, q⟩ := h
    refine ⟨_, (pss_cons (ps_expr (pe_cal C_need_moves hr (pa_cons (pv 0) pa_nil)))
      (pss_cons (ps_expr (pe_cal C_need_letters hr (pa_cons (pv 1) (pa_cons (pv 2) (pa_cons (pv 0) pa_nil)))))
      (pss_cons (ps_if (pt_cmpR op_gt (pe_callB (lenS K) (by rfl) T.len_ b_len (pa_cons (pv 1) pa_nil)) (gl_MOST_LETTERS TM) (nomark _)) (pss_one ps_never) pss_nil)
      (pss_cons (ps_par (i := 3) (j := 4) (by rfl) sc_opponent.nd rfl rfl (by decide) rfl rfl (pa_cons (pe_mak0 K_Sheet hr) (pa_cons (pe_lst pa_nil) pa_nil)) (by rfl))
      (pss_cons (ps_asg (pe_mth TM.clS M_levels hr (pv 3) (pa_cons (pe_callB (lenS K) (by rfl) T.len_ b_len (pa_cons (pv 1) pa_nil)) pa_nil)) (pgT K 2 rfl (pgs_cons (pg_name (i := 5) sc_opponent.nd rfl (Or.inl rfl)) (pgs_cons (pg_name (i := 6) sc_opponent.nd rfl (Or.inl rfl)) pgs_nil))))
      (pss_cons (ps_for PassesOwn.never rfl (pi_sq (pe_slice (slL K) (pe_callTy (lstS K) (by rfl) T.list_ b_list (pa_cons (pv 0) pa_nil)) po_none (po_some (pe_un un_neg pe_int)))) (pg_name (i := 7) sc_opponent.nd rfl (Or.inr rfl)) (pss_cons (ps_setLc (i := 8) (own := [("at", 9), ("letter", 10)]) rfl sc_opponent.nd rfl rfl (sw_true rfl rfl rfl (by decide +kernel)) (pi_zip2 K (by rfl) T.zip_ (pa_cons (pv 5) (pa_cons (pv 1) pa_nil))) (blkOk_by (own := [("at", 9), ("letter", 10)]) (N := ["moves", "letters", "tail", "sheet", "chosen", "at_levels", "behind_all", "move", "some", "at", "letter"]) (sc := defScope s_opponent) (by decide +kernel)) (fun _ _ _ _ _ => pgT K 2 rfl (pgs_cons (pg_name (i := 9) sc_opponent.nd rfl (Or.inl rfl)) (pgs_cons (pg_name (i := 10) sc_opponent.nd rfl (Or.inl rfl)) pgs_nil))) (fun _ _ _ _ _ => pts_one (pt_cmpR op_eq (pv 10) (pv 7) (nomark _))) (fun _ _ _ _ _ => (pv 9)))
      (pss_one (ps_expr (pe_bm PySem.F.plainAttrs_list PySem.F.slot_list_append PySem.F.type_list_append mt_append (pv 4) (pa_cons (pe_mth TM.clS M_any_of hr (pv 3) (pa_cons (pe_op op_cat (pv 8) (pe_op op_rep (pe_lst (pa_cons (pv 6) pa_nil)) (pe_callTy call_int1 (by rfl) T.int_ b_int (pa_cons (pe_cmpR op_eq (pv 2) (pv 7) (nomark _)) pa_nil)))) pa_nil)) pa_nil))))))
      (pss_one (ps_ret (pe_mak K_Player hr (pa_cons (pv 0) (pa_cons (fldK K (pv 3) rfl) (pa_cons (pv 4) pa_nil)))))))))))), ?_⟩
    refine ⟨_, rfl, a, ls, rfl, ha, mv, fun H1 s1 => ?_⟩
    have hin : ∀ z ∈ us ++ [y], z ∈ ls := fun z hz => (List.mem_append.mp hz).elim (hsub z) fun h => (List.mem_singleton.mp h) ▸ hy
    refine ⟨_, rfl, _, rfl, _, rfl, u, us, y, .ref a, rfl, hu.mono s1, by omega, fun z hz => mv.mv z (hin z hz), .inr ⟨a, ls, rfl, ha.mono s1, hin⟩, fun H2 s2 => ?_⟩
    have s2 := s1.trans s2
    refine ⟨_, rfl, u, _, rfl, (hu.mono s2).sq, _, _, rfl, rfl, false, congrArg V.bl (decide_eq_false (by rw [List.length_map]; omega)), ?_⟩
    refine iteF ?_
    intro x dx nx ndx ne
    have s3 : Same H2 (upd (upd H2 dx (.own x)) x (.ins cS dx [])) := (same_new ndx).trans (same_new (by rw [upd_ne ne.symm]; exact nx))
    refine ⟨x, dx, rfl, upd_same, fun H4 l z4 nl4 hs4 => ⟨rfl, ?_⟩⟩
    have s4 : Same H2 H4 := fun c u e => z4 c u (ne_of_none e nx) (s3 _ _ e)
    have nl : H l = none := none_of (s2.trans s3) nl4
    have s4 := s2.trans s4
    clear z4 nl4 s3 ndx ne nx s2 s1
    refine ⟨(by show 0 ≤ sizeLine; decide), fun ch nch => ?_⟩
    have nch0 := none_of s4 nch
    have ncl : ch ≠ l := fun e => by obtain ⟨_, h, _⟩ := hs4.lst; rw [e, h] at nch; cases nch
    have s5 := s4.trans (same_new (o := .lst []) nch)
    have hs5 := hs4.mono (same_new (o := .lst []) nch)
    have hch5 : (upd H4 ch (.lst [])) ch = some (.lst []) := upd_same
    generalize upd H4 ch (.lst []) = H5 at s5 hs5 hch5
    refine ⟨_, _, rfl, ?_⟩
    obtain ⟨dx5, xs5, h5, _, _⟩ := id hs5
    refine ⟨_, rfl, x, _, _, rfl, h5, rfl, _, rfl, u, _, rfl, (hu.mono s5).sq, x, l, us.length, by rw [List.length_map]; rfl, hs5, by omega, fun q0 fa H6 z6 hs6 nfl nfa hfa6 hq6 => ?_⟩
    have hch6 := z6 _ _ ncl hch5
    have nfc : fa ≠ ch := fun e => by rw [e, hch5] at nfa; cases nfa
    have s6 := same_X s5 z6 nl
    refine ⟨q0, _, rfl, .inl (.inl hq6), rfl, _, _, rfl, _, _, rfl, rfl, ?_⟩
    clear hq6 z6 hs5 h5 hch5 s5 hs4 s4
    refine ⟨_, rfl, a, _, rfl, (ha.mono s6).sq, fun c nc => ?_⟩
    have s7 := s6.trans (same_new (o := .lst (ls.map V.str)) nc)
    have hs7 := hs6.mono (same_new (o := .lst (ls.map V.str)) nc)
    have hch7 := same_new (o := .lst (ls.map V.str)) nc _ _ hch6
    have hfa7 := same_new (o := .lst (ls.map V.str)) nc _ _ hfa6
    have hc7 : (upd H6 c (.lst (ls.map V.str))) c = some (.lst (ls.map V.str)) := upd_same
    generalize upd H6 c (.lst (ls.map V.str)) = H7 at s7 hs7 hch7 hfa7 hc7
    clear s6 hs6 hch6 hfa6 nc
    refine ⟨_, rfl, _, rfl, c, _, rfl, .inl (.inl hc7), fun c2 nc2 => ?_⟩
    have e1 : cutV (ls.map V.str) none (some (-1)) = ls.dropLast.map V.str := by rw [cut_lastS, List.map_dropLast]
    show (fun H' => _) (upd H7 c2 (.lst (cutV (ls.map V.str) none (some (-1)))))
    rw [e1]
    have s8 := s7.trans (same_new (o := .lst (ls.dropLast.map V.str)) nc2)
    have hs8 := hs7.mono (same_new (o := .lst (ls.dropLast.map V.str)) nc2)
    have hch8 := same_new (o := .lst (ls.dropLast.map V.str)) nc2 _ _ hch7
    have hfa8 := same_new (o := .lst (ls.dropLast.map V.str)) nc2 _ _ hfa7
    have hc8 : (upd H7 c2 (.lst (ls.dropLast.map V.str))) c2 = some (.lst (ls.dropLast.map V.str)) := upd_same
    have n2l : c2 ≠ l := fun e => by obtain ⟨_, h, _⟩ := hs7.lst; rw [e, h] at nc2; cases nc2
    have n2c : c2 ≠ ch := fun e => by rw [e, hch7] at nc2; cases nc2
    generalize upd H7 c2 (.lst (ls.dropLast.map V.str)) = H8 at s8 hs8 hch8 hfa8 hc8 ⊢
    clear s7 hs7 hch7 hfa7 hc7 nc2
    refine ⟨c2, _, rfl, .inl hc8, fun J hJ => ?_⟩
    refine for_it hJ (fun k σ H' => Same H H' ∧ SheetAt cS H' x l (oppRows us y (ls.dropLast.take k) (lvRows us.length) []).1 ∧ H' fa = some (.lst ((List.range us.length).map fun k => nV (3 * k + 3))) ∧ H' c2 = some (.lst (ls.dropLast.map V.str)) ∧
        H' ch = some (.lst ((oppRows us y (ls.dropLast.take k) (lvRows us.length) []).2.map nV)) ∧ ∃ v1 v2 v3 v4, σ = [some (.ref a), some (.ref u), some (.str y), some (.ref x), some (.ref ch), some (.ref fa), some (nV (3 * us.length + 1)), v1, v2, v3, v4])
      ⟨s8, hs8, hfa8, hc8, hch8, _, _, _, _, rfl⟩ (fun k σ H' hk h => h.2.2.2.1.trans hc8.symm) (fun k x' σ H9 HA hk h yy => ?_) (fun σ H9 h => ?_)
    · obtain ⟨s9, hs9, hfa9, hc9, hch9, v1, v2, v3, v4, rfl⟩ := h
      obtain ⟨rfl, hx'⟩ := yy
      rw [List.getElem?_map] at hx'
      obtain ⟨z, hz, rfl⟩ := Option.map_eq_some_iff.mp hx'
      have hu9 := hu.mono s9
      obtain ⟨g, pd⟩ := oppRows_ok (y := y) (u := us) (by omega) (ls.dropLast.take k) (lvRows us.length) [] [] 0 ⟨lv_sh _ (by omega), Nat.le_refl _, Nat.le_refl _, fun _ _ _ => rfl⟩ .nil
      have hpl := paired_len pd
      have esn := oppRows_snoc us y (ls.dropLast.take k) z (lvRows us.length) []
      rw [show ls.dropLast.take k ++ [z] = ls.dropLast.take (k + 1) by rw [List.take_add_one, hz]; rfl] at esn
      rw [esn]
      have hk3 : (ls.dropLast.take k).length ≤ 3 := by rw [List.length_take, List.length_dropLast]; have := mv.few; omega
      have hrl : (oppRows us y (ls.dropLast.take k) (lvRows us.length) []).1.length ≤ 200 := by
        have h1 := g.few
        have h2 := lv_len us.length
        have h4 : (ls.dropLast.take k).length * (us.length + 1) ≤ ls.dropLast.length * (us.length + 1) := Nat.mul_le_mul_right _ (List.length_take_le' _ _)
        omega
      have hpl2 : (oppRows us y (ls.dropLast.take k) (lvRows us.length) []).2.length ≤ 3 := by
        simp only [List.nil_append] at hpl
        omega
      generalize oppRows us y (ls.dropLast.take k) (lvRows us.length) [] = or at hs9 hch9 hrl hpl2 ⊢
      clear esn g pd hpl
      refine ⟨_, rfl, _, rfl, fa, u, _, _, rfl, .inl (.inl (.inl hfa9)), hu9.sq, fun J1 hJ1 D hD => ?_⟩
      refine lcW_fm hJ1 (fun i => (us[i]?).bind fun q => if q = z then some (nV (3 * i + 3)) else none) hD (by simp; omega) (fun HB sB => ⟨same_of sB (.inl hfa9), same_of sB hu9⟩) (fun i x' H9' HB hi sB yy K1 K0 k1 k0 => ?_) (fun HB sB e => ?_)
      · obtain ⟨T1, x1, x2, rfl, nT, rfl, e1, e2⟩ := yy
        simp only [List.getElem?_map] at e1 e2
        obtain ⟨i', hi', rfl⟩ := Option.map_eq_some_iff.mp e1
        obtain ⟨q, hq, rfl⟩ := Option.map_eq_some_iff.mp e2
        have hil : i < us.length := (List.getElem?_eq_some_iff.mp hq).1
        rw [List.getElem?_range hil] at hi'
        cases hi'
        refine ⟨T1, _, rfl, .inl (.inl upd_same), rfl, _, _, rfl, _, _, rfl, rfl, rfl, ?_⟩
        refine ⟨_, rfl, _, rfl, rfl, _, rfl, ?_⟩
        show if decide (V.str q = V.str z) = true then _ else _
        by_cases e : q = z
        · rw [decide_eq_true (congrArg V.str e)]
          refine iteT ?_
          exact ⟨_, rfl, k1 _ _ (by rw [hq]; exact if_pos e) (same_new nT)⟩
        · rw [decide_eq_false fun h => e (by injection h)]
          refine iteF ?_
          exact k0 _ (by rw [hq]; exact if_neg e) (same_new nT)
      · have eL : (List.range (min ((List.range us.length).map fun k => nV (3 * k + 3)).length (us.map V.str).length)).filterMap (fun i => (us[i]?).bind fun q => if q = z then some (nV (3 * i + 3)) else none)
            = ((List.range us.length).filterMap fun k => if us[k]? = some z then some (3 * k + 3) else none).map nV := by
          rw [List.length_map, List.length_map, List.length_range, Nat.min_self, List.map_filterMap]
          refine fmc fun i hi => ?_
          have hil := List.mem_range.mp hi
          show ((us[i]?).bind fun q => if q = z then some (nV (3 * i + 3)) else none) = Option.map nV (if us[i]? = some z then some (3 * i + 3) else none)
          rw [List.getElem?_eq_getElem hil]
          show (if us[i] = z then some (nV (3 * i + 3)) else none) = _
          by_cases e : us[i] = z
          · rw [if_pos e, if_pos (congrArg some e)]
            rfl
          · rw [if_neg e, if_neg fun h => e (Option.some.inj h)]
            rfl
        rw [eL] at e
        have hal : ((List.range us.length).filterMap fun k => if us[k]? = some z then some (3 * k + 3) else none).length ≤ us.length := Nat.le_trans (List.length_filterMap_le _ _) (by simp)
        have es : someAt us y z = ((List.range us.length).filterMap fun k => if us[k]? = some z then some (3 * k + 3) else none) ++ (if y = z then [3 * us.length + 1] else []) := rfl
        have hsl := someAt_len us y z
        generalize ((List.range us.length).filterMap fun k => if us[k]? = some z then some (3 * k + 3) else none) = A at e hal es
        have sB' := s9.trans sB
        have hsB := hs9.mono sB
        have hfaB := sB _ _ hfa9
        have hcB := sB _ _ hc9
        have hchB := sB _ _ hch9
        obtain ⟨dxB, xsB, hB1, hB2, hB3⟩ := id hsB
        refine ⟨_, rfl, .inl ⟨rfl, _, .inl (.inl hchB)⟩, _, rfl, x, _, _, rfl, hB1, rfl, _, rfl, _, rfl, (by show 1 ≤ sizeLine; decide), fun t1 nt1 => ?_⟩
        have s1 := same_new (o := .lst [nV (3 * us.length + 1)]) nt1
        have ht1 : (upd HB t1 (.lst [nV (3 * us.length + 1)])) t1 = some (.lst [nV (3 * us.length + 1)]) := upd_same
        generalize upd HB t1 (.lst [nV (3 * us.length + 1)]) = HC at s1 ht1
        refine ⟨_, rfl, _, rfl, rfl, .inr ⟨_, rfl, ?_⟩⟩
        have eB : (if decide (V.str y = V.str z) = true then [nV (3 * us.length + 1)] else []) = (if y = z then [3 * us.length + 1] else []).map nV := by
          by_cases h : y = z
          · rw [if_pos h, if_pos (decide_eq_true (congrArg V.str h))]; rfl
          · rw [if_neg h, if_neg (by rw [decide_eq_false fun q => h (by injection q)]; exact fun q => nomatch q)]; rfl
        have hbl : (if y = z then [3 * us.length + 1] else []).length ≤ 1 := by split <;> simp
        generalize (if y = z then [3 * us.length + 1] else []) = B at eB hbl es
        generalize decide (V.str y = V.str z) = cc at eB
        refine ⟨t1, _, _, rfl, rfl, ht1, by cases cc <;> decide, by cases cc <;> decide, by cases cc <;> exact sz_le (by simp), fun t2 nt2 => ?_⟩
        rw [rep_int, eB]
        have s2 := s1.trans (same_new (o := .lst (B.map nV)) nt2)
        have ht2 : (upd HC t2 (.lst (B.map nV))) t2 = some (.lst (B.map nV)) := upd_same
        generalize upd HC t2 (.lst (B.map nV)) = HD at s2 ht2
        refine ⟨D, t2, _, _, rfl, rfl, s2 _ _ e, ht2, sz_le (by rw [List.length_map, List.length_map]; omega), fun t3 nt3 => ?_⟩
        rw [← List.map_append, ← es]
        have s3 := s2.trans (same_new (o := .lst ((someAt us y z).map nV)) nt3)
        have ht3 : (upd HD t3 (.lst ((someAt us y z).map nV))) t3 = some (.lst ((someAt us y z).map nV)) := upd_same
        have n3l : t3 ≠ l := fun e => by rw [e, s2 _ _ hB2] at nt3; cases nt3
        generalize upd HD t3 (.lst ((someAt us y z).map nV)) = HE at s3 ht3
        refine ⟨x, l, t3, or.1, someAt us y z, rfl, hsB.mono s3, ht3, n3l, by omega, by omega, fun HF zF hsF => ?_⟩
        have hchF := zF _ _ ncl (s3 _ _ hchB)
        have hfaF := zF _ _ nfl (s3 _ _ hfaB)
        have hcF := zF _ _ n2l (s3 _ _ hcB)
        have sF := same_X (sB'.trans s3) zF nl
        refine ⟨ch, _, _, rfl, rfl, hchF, sz_lt (by rw [List.length_map]; omega), ?_⟩
        have eP : or.2.map nV ++ [nV (anyOf or.1 (someAt us y z)).2] = (or.2 ++ [(anyOf or.1 (someAt us y z)).2]).map nV := by simp
        rw [eP]
        exact ⟨same_mut sF nch0, hsF.updL hchF ncl, by rw [upd_ne nfc]; exact hfaF, by rw [upd_ne n2c]; exact hcF, upd_same, _, _, _, _, rfl⟩
    · obtain ⟨s9, hs9, hfa9, hc9, hch9, v1, v2, v3, v4, rfl⟩ := h
      rw [List.take_of_length_le (by simp)] at hs9 hch9
      obtain ⟨dx9, xs9, h91, h92, h93⟩ := hs9
      refine ⟨_, rfl, _, rfl, x, _, _, _, _, rfl, h91, TM.clS, TM.naS _ (by simp), rfl, _, rfl, fun p dp np ndp nep => ?_⟩
      have sP : Same H9 (upd (upd H9 dp (.own p)) p (.ins cP dp [])) := (same_new ndp).trans (same_new (by rw [upd_ne nep.symm]; exact np))
      refine ⟨p, dp, a, l, ch, xs9, opp ls us y, rfl, upd_same, (ha.mono s9).mono sP, .inl (sP _ _ h92), h93.mono sP, .inl (sP _ _ hch9), opp_okG mv (by omega) hbb, fun HA zA hpA _ => ⟨rfl, ?_⟩⟩
      exact q p HA (fun c o e => zA c o (ne_of_none (s9 _ _ e) np) (sP _ _ (s9 _ _ e))) hpA
end
end Lk

set_option maxHeartbeats 4000000
namespace Lk
open PySem PySem.Spec PyProof.Rows L2
/-! ### == of two dicts from numbers to truths; Faced; shows_never -/
def rEqBd : R2 := fun x y H Q => ∃ a b r t, x = .ref a ∧ y = .ref b ∧ H a = some (.dK (bKv r)) ∧ H b = some (.dK (bKv t)) ∧ r.map (·.1) = t.map (·.1) ∧ (r.map (·.1)).Nodup ∧ Q (.bl (decide (r = t))) H
theorem op_eqBd {X : Cx} (hu : X.A.units + 16 < cLine) : OpR X (compareOp .Eq) rEqBd := by
  intro pins s σ H x y v u Q I rx ry h
  obtain ⟨a, b, r, t, rfl, rfl, h1, h2, hk, nd, q⟩ := h
  cases rx
  cases ry
  obtain ⟨_, l1, vs1, k1, D1⟩ := dk_rd I.hok (.inl h1)
  obtain ⟨_, l2, vs2, k2, D2⟩ := dk_rd I.hok (.inl h2)
  have e1 := bkv_vals k1
  have e2 := bkv_vals k2
  subst e1 e2
  refine PySem.W.eq_dictsT (n := 0) (e := fun k => decide (lkB r k = lkB t k)) l1 l2 D1 D2 (fun k v y hm hv => ?_) (by omega) ?_
  · obtain ⟨⟨i, b⟩, hq, e⟩ := List.mem_map.mp hm
    cases e
    rw [lkB_val] at hv
    obtain ⟨c, hc, rfl⟩ := Option.map_eq_some_iff.mp hv
    have hb := lk_mem nd hq
    show PySem.W.EqTree X.prog X.w s 0 (.bool b) (.bool c) (decide (r.lookup i = t.lookup i))
    rw [hb, hc]
    have e : decide (some b = some c) = (b == c) := by cases b <;> cases c <;> rfl
    rw [e]
    exact .leaf fun A _ => SeqAt.EqAt.bool_bool b c
  · have er : (((r.map fun q => ((Sum.inl q.1 : Key), Value.bool q.2)).length == (t.map fun q => ((Sum.inl q.1 : Key), Value.bool q.2)).length) &&
        (r.map fun q => ((Sum.inl q.1 : Key), Value.bool q.2)).all fun p => (valueAt (t.map fun q => ((Sum.inl q.1 : Key), Value.bool q.2)) p.1).isSome && decide (lkB r p.1 = lkB t p.1)) = decide (r = t) := by
      have hl : r.length = t.length := by simpa using congrArg List.length hk
      rw [List.length_map, List.length_map, hl, beq_self_eq_true, Bool.true_and, Bool.eq_iff_iff, List.all_eq_true, decide_eq_true_eq]
      constructor
      · intro h
        refine lk_ext hk nd fun q hq => ?_
        have := (Bool.and_eq_true_iff.mp (h _ (List.mem_map_of_mem hq))).2
        exact of_decide_eq_true this
      · rintro rfl p hp
        obtain ⟨q, hq, rfl⟩ := List.mem_map.mp hp
        rw [lkB_val, lk_mem nd (i := q.1) (b := q.2) hq]
        simp
    rw [er]
    exact ⟨.bl (decide (r = t)), H, I, rfl, q⟩
theorem trB_eq {L : Pl} {t u : Nat → Bool} : trB L t = trB L u ↔ Agr L u t := by
  unfold trB
  constructor
  · intro h i hi
    exact (congrArg Prod.snd (List.map_inj_left.mp h i hi)).symm
  · intro h
    exact List.map_congr_left fun i hi => by rw [h i hi]
theorem trB_nd {L : Pl} {t : Nat → Bool} : ((trB L t).map (·.1)).Nodup := by
  unfold trB
  rw [List.map_map]
  have nd := marks_nd L
  exact (List.pairwise_map.mpr (nd.imp fun {a b} h (e : ((a : Nat) : Int) = ((b : Nat) : Int)) => h (by omega)))
theorem trB_keys (L : Pl) (t u : Nat → Bool) : (trB L t).map (·.1) = (trB L u).map (·.1) := by
  unfold trB
  rw [List.map_map, List.map_map]
  rfl
theorem dnAt_iff (es : DnE) (k : NestedKey) : (dnAt es k).isSome = true ↔ ∃ x ∈ es, x.1 = k := by
  unfold dnAt
  rw [Option.isSome_map, List.find?_isSome]
  constructor
  · rintro ⟨x, h1, h2⟩
    exact ⟨x, h1, of_decide_eq_true h2⟩
  · rintro ⟨x, h1, h2⟩
    exact ⟨x, h1, decide_eq_true h2⟩
theorem dnAt_put (es : DnE) (k k' : NestedKey) (a : Addr) (v : V) : (dnAt (dnPut es k a v) k').isSome = (decide (k' = k) || (dnAt es k').isSome) := by
  rw [Bool.eq_iff_iff, dnAt_iff, Bool.or_eq_true_iff, decide_eq_true_eq, dnAt_iff]
  unfold dnPut
  by_cases h : (dnAt es k).isSome = true
  · rw [if_pos h]
    obtain ⟨z, hz, ez⟩ := (dnAt_iff es k).mp h
    constructor
    · rintro ⟨x, hx, e⟩
      obtain ⟨y, hy, e1⟩ := List.mem_map.mp hx
      refine .inr ⟨y, hy, ?_⟩
      rw [← e, ← e1]
      split <;> rfl
    · rintro (e | ⟨x, hx, e⟩)
      · refine ⟨_, List.mem_map_of_mem hz, ?_⟩
        rw [e, ← ez]
        split <;> rfl
      · refine ⟨_, List.mem_map_of_mem hx, ?_⟩
        rw [← e]
        split <;> rfl
  · rw [if_neg h]
    constructor
    · rintro ⟨x, hx, e⟩
      rcases List.mem_append.mp hx with q | q
      · exact .inr ⟨x, q, e⟩
      · rw [List.mem_singleton.mp q] at e
        exact .inl e.symm
    · rintro (e | ⟨x, hx, e⟩)
      · exact ⟨(k, a, v), by simp, e.symm⟩
      · exact ⟨x, List.mem_append_left _ hx, e⟩
def KsAt (H : Hp) (es : DnE) (S : List Sd) : Prop := (∀ e ∈ es, ∃ s, e.1 = skey s ∧ SdAt H e.2.1 s) ∧ ∀ s, (dnAt es (skey s)).isSome = decide (s ∈ S)
theorem KsAt.keys {H : Hp} {es : DnE} {S : List Sd} (h : KsAt H es S) : dnKeys H es := fun p hp => by
  obtain ⟨s, e, hs⟩ := h.1 p hp
  rw [e]
  exact hs.nk
theorem KsAt.mono {H H' : Hp} {es : DnE} {S : List Sd} (s : Same H H') (h : KsAt H es S) : KsAt H' es S := ⟨fun e he => let ⟨x, h1, h2⟩ := h.1 e he; ⟨x, h1, h2.mono s⟩, h.2⟩
theorem KsAt.updX {H : Hp} {d : Addr} {o : HO} {es : DnE} {S : List Sd} (hd : ∀ xs, H d ≠ some (.tup xs)) (h : KsAt H es S) : KsAt (upd H d o) es S := ⟨fun e he => let ⟨x, h1, h2⟩ := h.1 e he; ⟨x, h1, h2.updX hd⟩, h.2⟩
theorem KsAt.put {H : Hp} {es : DnE} {S : List Sd} {a : Addr} {s : Sd} {v : V} (h : KsAt H es S) (ha : SdAt H a s) : KsAt H (dnPut es (skey s) a v) (S ++ [s]) := by
  refine ⟨fun e he => ?_, fun t => ?_⟩
  · unfold dnPut at he
    split at he
    · obtain ⟨x, hx, e1⟩ := List.mem_map.mp he
      rw [← e1]
      split
      · exact h.1 x hx
      · exact h.1 x hx
    · rcases List.mem_append.mp he with q | q
      · exact h.1 e q
      · rw [List.mem_singleton.mp q]
        exact ⟨s, rfl, ha⟩
  · rw [dnAt_put, h.2, Bool.eq_iff_iff, Bool.or_eq_true_iff, decide_eq_true_eq, decide_eq_true_eq, decide_eq_true_eq, List.mem_append, List.mem_singleton]
    constructor
    · rintro (e | e)
      · exact .inr (skey_inj e)
      · exact .inl e
    · rintro (e | e)
      · exact .inr e
      · exact .inl (by rw [e])
theorem eval_to {te : TE} {σ : L2.St} {H : Hp} {Q : V → Hp → Prop} (v : V) (h : ∀ Q : V → Hp → Prop, Q v H → te σ H Q) (k : Q v H) : te σ H Q := h Q k
def spIsStand (cP cG : Addr) : Sp := fun vs H Q _ => ∃ g a L s, vs = [.ref g, .ref a] ∧ GaAt cP cG H g L ∧ L.rows.length ≤ 120 ∧ SdAt H a s ∧ Sd.Ok L s ∧ ∀ H', Same H H' → Q (.bl true) H'
def spShowsNever (cP : Addr) : Sp := fun vs H Q _ => ∃ (p l z : Addr) (L : Pl) (ls : List Str) (m y : Str) (zs : List (Addr × Sd)), vs = [.ref p, .ref l, .str m, .str y, .ref z] ∧ PlAt cP H p L ∧ L.Ok ∧ L.Small ∧ Lt H l (ls.map V.str) ∧ Mv ls ∧ m ∈ L.moves ∧ y ∈ ls ∧
  H z = some (.tup (zs.map fun z => .ref z.1)) ∧ (∀ z ∈ zs, SdAt H z.1 z.2 ∧ Sd.Ok L z.2) ∧ zs.length ≤ 208 ∧
  ((zs = [] ∧ ∀ H', Same H H' → Q (.bl false) H') ∨
   (L.init ∈ zs.map (·.2) ∧ (∀ s ∈ zs.map (·.2), ∀ x ∈ ls, L.step s x ∈ zs.map (·.2)) ∧ (∀ s ∈ zs.map (·.2), L.mvs s = m → L.rest s y = false) ∧ ∀ H', Same H H' → Q (.bl true) H'))
section
variable {P : Program} {w : World} {K : PySem.W.Frag} {mg : Str → Option Value} {base : Heap} {cP cG cT cM cS cF : Addr} {f : Addr} {fd : FuncData} (T : Txt K w mg cP cG cT) (TM : TxM K w mg cM cS cF)
include T TM
omit TM in
theorem ok_is_stand {C_is_number : Cal P w K mg base "is_number" 1 ["thing", "low", "high"] spIsNumber} (F : FnP K "is_stand" "Gait.is_stand" s_Gait_is_stand f fd) : FnOk P w K mg base CX0 2 f fd ["self", "thing"] (spIsStand cP cG) := by
  refine okN F sc_Gait_is_stand (fun vs H Q E h => ?_) (fun cdv A outer s H vs Q E hr h => ?_)
  · obtain ⟨g, a, L, s, rfl, _⟩ := h
    rfl
  · obtain ⟨g, a, L, st, rfl, hg, hl, ha, hs, q⟩ := h
    obtain ⟨dx, p, m, h1, h2, h3⟩ := hg.ex
    obtain ⟨b, ha, hb⟩ := ha
    refine ⟨_, (pss_cons (ps_if (PW.pt (pw_or (pt_not (pt_val (pe_callB call_isi (by rfl) T.isinstance_ b_isinstance (pa_cons (pv 1) (pa_cons (ty_tuple T) pa_nil))))) (pw_or (pt_cmpR op_ne (pe_callB (lenS K) (by rfl) T.len_ b_len (pa_cons (pv 1) pa_nil)) pe_int (nomark _)) (pw_or1 (pt_not (pt_val (pe_cal C_is_number hr (pa_cons (pe_ix (ixT K) (pv 1) pe_int (fun _ _ => rfl)) (pa_cons pe_int (pa_cons (fldK K (pv 0) rfl) pa_nil)))))))))) (pss_one (ps_ret pe_bl)) pss_nil)
      (pss_cons (ps_if (PW.pt (pw_or (pt_not (pt_val (pe_callB call_isi (by rfl) T.isinstance_ b_isinstance (pa_cons (pe_ix (ixT K) (pv 1) pe_int (fun _ _ => rfl)) (pa_cons (ty_tuple T) pa_nil))))) (pw_or1 (pt_cmpR op_ne (pe_callB (lenS K) (by rfl) T.len_ b_len (pa_cons (pe_ix (ixT K) (pv 1) pe_int (fun _ _ => rfl)) pa_nil)) (pe_callB (lenS K) (by rfl) T.len_ b_len (pa_cons (fldK K (pv 0) rfl) pa_nil)) (nomark _))))) (pss_one (ps_ret pe_bl)) pss_nil)
      (pss_one (ps_ret (pe_callB (allS K rfl) (by rfl) T.all_ b_all (pa_cons (pe_lc (own := [("one", 2)]) rfl sc_Gait_is_stand.nd (pi_sq (pe_ix (ixT K) (pv 1) pe_int (fun _ _ => rfl))) (blkOk_by (own := [("one", 2)]) (N := ["self", "thing", "one"]) (sc := defScope s_Gait_is_stand) (by decide +kernel)) (fun _ _ _ _ _ => pg_name (i := 2) sc_Gait_is_stand.nd rfl (Or.inl rfl)) (fun _ _ _ _ _ => pts_nil) (fun _ _ _ _ _ => (pe_callB (isiK K) (by rfl) T.isinstance_ b_isinstance (pa_cons (pv 2) (pa_cons (ty_bool T) pa_nil))))) pa_nil)))))), ?_⟩
    refine ⟨_, rfl, _, _, _, _, true, rfl, .ty _, .base (.tup ha), by exact kit_ty (by decide +kernel), true, rfl, ?_⟩
    refine iteF ?_
    refine ⟨_, rfl, a, _, rfl, .inr (.inl (.inl ha)), rfl, _, rfl, ?_⟩
    refine ifNF rfl ?_
    refine ⟨_, rfl, a, _, 0, nV st.1, rfl, rfl, .inl (.inl ha), atI_nat (j := 0) rfl, _, rfl, g, _, _, _, _, rfl, h1, T.clG, T.naG _ (by simp), rfl, _, _, _, rfl, true, ?_, ?_⟩
    · rw [decide_eq_true (by omega), decide_eq_true (by have := hs.1; omega)]
      rfl
    refine iteF ?_
    refine ⟨_, rfl, a, _, 1, .ref b, rfl, rfl, .inl (.inl ha), atI_nat (j := 1) rfl, _, _, _, _, true, rfl, .ty _, .base (.tup hb), by exact kit_ty (by decide +kernel), true, rfl, ?_⟩
    refine iteF ?_
    refine ⟨_, rfl, a, _, 1, .ref b, rfl, rfl, .inl (.inl ha), atI_nat (j := 1) rfl, b, _, rfl, .inr (.inl (.inl hb)), _, rfl, g, _, _, _, _, rfl, h1, T.clG, T.naG _ (by simp), rfl, m, _, rfl, .inl (.inl (.inl h3)), rfl, _, rfl, ?_⟩
    refine ifNF (by rw [List.length_map, List.length_map, hs.2]) ?_
    have hml := marks_len L hl
    have hsl := hs.2
    refine ⟨_, rfl, a, _, 1, .ref b, rfl, rfl, .inl (.inl ha), atI_nat (j := 1) rfl, b, _, rfl, .inr hb, fun J hJ D hD => ?_⟩
    refine lcW_fm hJ (fun _ => some (.bl true)) hD (by rw [List.length_map]; omega) (fun H2 s2 => same_of s2 (.inr hb)) (fun i x H2 H' hi s2 y K1 K0 k1 k0 => ?_) (fun H2 s2 e => ?_)
    · obtain ⟨rfl, hx⟩ := y
      rw [List.getElem?_map] at hx
      obtain ⟨c, hc, rfl⟩ := Option.map_eq_some_iff.mp hx
      refine ⟨rfl, yesT ?_⟩
      exact ⟨_, rfl, _, _, _, _, true, rfl, .ty _, .base (.bl _), by exact kit_ty (by decide +kernel), k1 _ _ rfl (fun _ _ e => e)⟩
    · refine ⟨D, List.replicate st.2.length true, rfl, .inl (.inl ?_), ?_⟩
      · rw [e, rep_bl]
        simp [List.filterMap_eq_map, List.map_const']
      · rw [all_rep]
        exact q _ s2
omit TM in
theorem ok_shows_never {C_need_player : Cal P w K mg base "need_player" 1 ["thing"] (spNeedPlayer cP)} {C_need_moves : Cal P w K mg base "need_moves" 3 ["thing"] spNeedMoves} {C_need_among : Cal P w K mg base "need_among" 1 ["thing", "moves"] spNeedAmong} {M_moves : Mth P w K mg base cP "moves" 1 ["self"] (spMoves cP)}
    {K_Gait : Mak P w K mg base cG "Gait" 3 ["self", "player"] (spGait cP cG)} {M_is_stand : Mth P w K mg base cG "is_stand" 2 ["self", "thing"] (spIsStand cP cG)} {M_first : Mth P w K mg base cG "first" 1 ["self"] (spFirst cP cG)} {M_behind : Mth P w K mg base cG "behind" 5 ["self", "stand", "letter"] (spBehind cP cG)}
    {M_move : Mth P w K mg base cG "move" 4 ["self", "stand"] (spMove cP cG)} {M_rests : Mth P w K mg base cG "rests" 6 ["self", "stand", "letter"] (spRests cP cG)}
    (F : FnP K "shows_never" "shows_never" s_shows_never f fd) : FnOk P w K mg base CX0 7 f fd ["player", "others", "mine", "yours", "stands"] (spShowsNever cP) := by
  refine okN F sc_shows_never (fun vs H Q E h => ?_) (fun cdv A outer s H vs Q E hr h => ?_)
  · obtain ⟨p, l, z, L, ls, m, y, zs, rfl, _⟩ := h
    rfl
  · obtain ⟨p, l, z, L, ls, m, y, zs, rfl, hp, ok, sm, hl, mv, hm, hy, hz, hzs, hzl, q⟩ := h
    refine ⟨_, (pss_cons (ps_expr (pe_cal C_need_player hr (pa_cons (pv 0) pa_nil)))
      (pss_cons (ps_expr (pe_cal C_need_moves hr (pa_cons (pv 1) pa_nil)))
      (pss_cons (ps_expr (pe_cal C_need_among hr (pa_cons (pv 2) (pa_cons (pe_mth0 T.clP M_moves hr (pv 0)) pa_nil))))
      (pss_cons (ps_expr (pe_cal C_need_among hr (pa_cons (pv 3) (pa_cons (pv 1) pa_nil))))
      (pss_cons (ps_set (i := 5) sc_shows_never.nd rfl (Or.inr rfl) (pe_mak K_Gait hr (pa_cons (pv 0) pa_nil)))
      (pss_cons (ps_if (PW.pt (pw_or (pt_not (pt_val (pe_callB call_isi (by rfl) T.isinstance_ b_isinstance (pa_cons (pv 4) (pa_cons (ty_tuple T) pa_nil))))) (pw_or1 (pt_not (pt_val (pe_callB (allS K rfl) (by rfl) T.all_ b_all (pa_cons (pe_lc (own := [("stand", 6)]) rfl sc_shows_never.nd (pi_sq (pv 4)) (blkOk_by (own := [("stand", 6)]) (N := ["player", "others", "mine", "yours", "stands", "gait", "stand", "known", "letter"]) (sc := defScope s_shows_never) (by decide +kernel)) (fun _ _ _ _ _ => pg_name (i := 6) sc_shows_never.nd rfl (Or.inl rfl)) (fun _ _ _ _ _ => pts_nil) (fun _ _ _ _ _ => (pe_mth T.clG M_is_stand hr (pv 5) (pa_cons (pv 6) pa_nil)))) pa_nil))))))) (pss_one (ps_ret pe_bl)) pss_nil)
      (pss_cons (ps_set (i := 7) sc_shows_never.nd rfl (Or.inr rfl) (pe_dcN (hu16 hr) (own := [("stand", 6)]) rfl sc_shows_never.nd (pi_sq (pv 4)) (blkOk_by (own := [("stand", 6)]) (N := ["player", "others", "mine", "yours", "stands", "gait", "stand", "known", "letter"]) (sc := defScope s_shows_never) (by decide +kernel)) (fun _ _ _ _ _ => pg_name (i := 6) sc_shows_never.nd rfl (Or.inl rfl)) (fun _ _ _ _ _ => pts_nil) (fun _ _ _ _ _ => (pv 6)) (fun _ _ _ _ _ => pe_bl)))
      (pss_cons (ps_if (pt_cmp (pc_nnotin (hu16 hr) (pe_mth0 T.clG M_first hr (pv 5)) (pv 7)) rfl) (pss_one (ps_ret pe_bl)) pss_nil)
      (pss_cons (ps_for PassesOwn.never rfl (pi_sq (pv 4)) (pg_name (i := 6) sc_shows_never.nd rfl (Or.inr rfl)) (pss_cons (ps_if (pt_not (pt_val (pe_callB (allS K rfl) (by rfl) T.all_ b_all (pa_cons (pe_lc (own := [("letter", 8)]) rfl sc_shows_never.nd (pi_sq (pv 1)) (blkOk_by (own := [("letter", 8)]) (N := ["player", "others", "mine", "yours", "stands", "gait", "stand", "known", "letter"]) (sc := defScope s_shows_never) (by decide +kernel)) (fun _ _ _ _ _ => pg_name (i := 8) sc_shows_never.nd rfl (Or.inl rfl)) (fun _ _ _ _ _ => pts_nil) (fun _ _ _ _ _ => (pe_cmp (pc_ninP P w (hu16 hr) (pe_mth T.clG M_behind hr (pv 5) (pa_cons (pv 6) (pa_cons (pv 8) pa_nil))) (pv 7)) rfl))) pa_nil)))) (pss_one (ps_ret pe_bl)) pss_nil)
      (pss_one (ps_if (PW.pt (pw_and (pt_cmpR op_eq (pe_mth T.clG M_move hr (pv 5) (pa_cons (pv 6) pa_nil)) (pv 2) (nomark _)) (pw_and1 (pt_val (pe_mth T.clG M_rests hr (pv 5) (pa_cons (pv 6) (pa_cons (pv 3) pa_nil))))))) (pss_one (ps_ret pe_bl)) pss_nil))))
      (pss_one (ps_ret pe_bl))))))))))), ?_⟩
    refine ⟨_, rfl, p, L, rfl, hp, ?_⟩
    refine ⟨_, rfl, l, ls, rfl, hl, mv, fun H1 s1 => ?_⟩
    have hp1 := hp.mono s1
    obtain ⟨dp, pa, pb, pc, pd, pxs, g1, _⟩ := hp1.ex
    refine ⟨_, rfl, _, rfl, p, _, _, rfl, g1, rfl, p, L, rfl, hp1, fun ma hma => ⟨m, ma, L.moves, rfl, .inr hma, hm, ?_⟩⟩
    refine ⟨_, rfl, _, rfl, y, l, ls, rfl, hl.mono s1, hy, ?_⟩
    refine ⟨_, rfl, fun g dg ng ndg neg => ?_⟩
    have s2 : Same H1 (upd (upd H1 dg (.own g)) g (.ins cG dg [])) := (same_new ndg).trans (same_new (by rw [upd_ne neg.symm]; exact ng))
    refine ⟨g, dg, p, L, rfl, upd_same, hp1.mono s2, ok.len, fun H2 z2 hg2 => ⟨rfl, ?_⟩⟩
    have s3 : Same H H2 := fun c u e => z2 c u (ne_of_none (s1 _ _ e) ng) (s2 _ _ (s1 _ _ e))
    clear s2 z2 g1 hp1 neg ndg ng s1 hma
    obtain ⟨dx, p', m', h1, h2, h3⟩ := hg2.ex
    have hz2 := s3 _ _ hz
    have hzs2 : ∀ z ∈ zs, SdAt H2 z.1 z.2 ∧ Sd.Ok L z.2 := fun z hz => ⟨(hzs z hz).1.mono s3, (hzs z hz).2⟩
    refine ⟨_, rfl, _, _, _, _, true, rfl, .ty _, .base (.tup hz2), by exact kit_ty (by decide +kernel), true, rfl, ?_⟩
    refine iteF ?_
    refine ⟨_, rfl, z, _, rfl, .inr hz2, fun J hJ D hD => ?_⟩
    refine lcW_fm hJ (fun _ => some (.bl true)) hD (by rw [List.length_map]; omega) (fun H4 s4 => same_of s4 (.inr hz2)) (fun i x H9 H4 hi s4 yy K1 K0 k1 k0 => ?_) (fun H4 s4 e => ?_)
    · obtain ⟨rfl, hx⟩ := yy
      rw [List.getElem?_map] at hx
      obtain ⟨c, hc, rfl⟩ := Option.map_eq_some_iff.mp hx
      have hcs := hzs2 c (List.mem_of_getElem? hc)
      refine ⟨rfl, yesT ?_⟩
      exact ⟨_, rfl, g, _, _, rfl, s4 _ _ h1, rfl, _, rfl, g, c.1, L, c.2, rfl, hg2.mono s4, ok.len, hcs.1.mono s4, hcs.2, fun H5 s5 => k1 _ _ rfl s5⟩
    refine ⟨D, List.replicate zs.length true, rfl, .inl (.inl ?_), ?_⟩
    · rw [e, rep_bl]
      simp [List.filterMap_eq_map, List.map_const']
    rw [all_rep]
    refine ⟨true, rfl, ?_⟩
    refine iteF ?_
    have hz4 := s4 _ _ hz2
    have hzs4 : ∀ z ∈ zs, SdAt H4 z.1 z.2 ∧ Sd.Ok L z.2 := fun z hz => ⟨(hzs2 z hz).1.mono s4, (hzs2 z hz).2⟩
    have hg4 := hg2.mono s4
    have h14 := s4 _ _ h1
    have s4 := s3.trans s4
    clear hzs2 hz2 s3 h1 h2 h3 hg2 e hD hJ
    refine ⟨_, rfl, z, _, rfl, .inr hz4, fun J hJ D hD => ?_⟩
    refine dcN_it hJ (DN P w D []) (.inr rfl) (fun i H' => Same H4 H' ∧ ∃ es', H' D = some (DN P w D es') ∧ KsAt H' es' ((zs.take i).map (·.2)) ∧ es'.length ≤ i)
      ⟨same_new hD, [], upd_same, ⟨fun e he => (by cases he), fun t => (by simp [dnAt])⟩, Nat.le_refl _⟩ (fun i H' hi h => same_of h.1 (.inr hz4)) (fun i x H9 H5 hi h yy => ?_) (fun H5 h => ?_)
    · obtain ⟨s5, es', hD5, hk, hel⟩ := h
      obtain ⟨rfl, hx⟩ := yy
      rw [List.getElem?_map] at hx
      obtain ⟨c, hc, rfl⟩ := Option.map_eq_some_iff.mp hx
      have hcs := (hzs4 c (List.mem_of_getElem? hc)).1.mono s5
      rw [List.length_map] at hi
      refine ⟨rfl, yesT ?_⟩
      refine ⟨_, rfl, .inr ⟨c.1, es', skey c.2, rfl, hD5, hk.keys, hcs.nk, by omega, ?_⟩⟩
      have ntd : ∀ zs, H5 D ≠ some (.tup zs) := fun zs e => by rw [hD5] at e; cases e
      refine ⟨same_mut s5 hD, _, upd_same, ?_, Nat.le_trans (dnPut_len _ _ _ _) (by omega)⟩
      rw [show (zs.take (i + 1)).map (·.2) = (zs.take i).map (·.2) ++ [c.2] by rw [List.take_add_one, hc, List.map_append]; rfl]
      exact (hk.put hcs).updX ntd
    obtain ⟨s5, es, hD5, hk, hel⟩ := h
    rw [List.take_of_length_le (by simp)] at hk
    have hz5 := s5 _ _ hz4
    have hzs5 : ∀ z ∈ zs, SdAt H5 z.1 z.2 ∧ Sd.Ok L z.2 := fun z hz => ⟨(hzs4 z hz).1.mono s5, (hzs4 z hz).2⟩
    have hg5 := hg4.mono s5
    have h15 := s5 _ _ h14
    have s5 := s4.trans s5
    clear hzs4 hz4 s4 h14 hg4 hD hJ
    refine ⟨_, rfl, g, _, _, rfl, h15, rfl, g, L, rfl, hg5, ok.len, fun fa H6 s6 hfa => ?_⟩
    have hD6 := s6 _ _ hD5
    have hk6 := hk.mono s6
    have hz6 := s6 _ _ hz5
    have hzs6 : ∀ z ∈ zs, SdAt H6 z.1 z.2 ∧ Sd.Ok L z.2 := fun z hz => ⟨(hzs5 z hz).1.mono s6, (hzs5 z hz).2⟩
    have hg6 := hg5.mono s6
    have h16 := s6 _ _ h15
    have s6 := s5.trans s6
    clear hzs5 hz5 s5 h15 hg5 hD5 hk
    refine ⟨_, rfl, fa, D, es, skey L.init, rfl, rfl, .inl hD6, hk6.keys, hfa.nk, _, rfl, ?_⟩
    show if (!(dnAt es (skey L.init)).isSome) = true then _ else _
    rw [hk6.2]
    rcases q with ⟨rfl, q⟩ | ⟨q1, q2, q3, q⟩
    · refine ifNT (fun h => by cases h) ?_
      exact q _ s6
    refine ifNF q1 ?_
    refine ⟨_, rfl, z, _, rfl, .inr hz6, fun J hJ => ?_⟩
    refine for_it hJ (fun i σ H' => Same H6 H' ∧ ∃ u v, σ = [some (.ref p), some (.ref l), some (.str m), some (.str y), some (.ref z), some (.ref g), u, some (.ref D), v]) ⟨fun _ _ e => e, _, _, rfl⟩ (fun i σ H' hi h => same_of h.1 (.inr hz6)) (fun i x σ H9 H7 hi h yy => ?_) (fun σ H7 h => ?_)
    · obtain ⟨s7, u, v, rfl⟩ := h
      obtain ⟨rfl, hx⟩ := yy
      rw [List.getElem?_map] at hx
      obtain ⟨c, hc, rfl⟩ := Option.map_eq_some_iff.mp hx
      have hcm := List.mem_of_getElem? hc
      have hcs := hzs6 c hcm
      have hc2 : c.2 ∈ zs.map (·.2) := List.mem_map_of_mem hcm
      refine ⟨_, rfl, l, _, rfl, hl.mono (s6.trans s7), fun J1 hJ1 D1 hD1 => ?_⟩
      refine lcW_fm hJ1 (fun _ => some (.bl true)) hD1 (by rw [List.length_map]; have := mv.few; omega) (fun H8 s8 => same_of s8 (hl.mono (s6.trans s7))) (fun i x H9' H8 hi s8 yy K1 K0 k1 k0 => ?_) (fun H8 s8 e => ?_)
      · obtain ⟨rfl, hx⟩ := yy
        rw [List.getElem?_map] at hx
        obtain ⟨t, ht, rfl⟩ := Option.map_eq_some_iff.mp hx
        have s9 := s7.trans s8
        refine ⟨rfl, yesT ?_⟩
        refine ⟨_, rfl, g, _, _, rfl, s9 _ _ h16, rfl, _, rfl, _, rfl, g, c.1, L, c.2, t, rfl, hg6.mono s9, ok, hcs.1.mono s9, hcs.2.2, fun r HA sA hrA => ?_⟩
        have sB := s9.trans sA
        refine ⟨_, rfl, r, D, es, skey (L.step c.2 t), rfl, rfl, .inl (sB _ _ hD6), (hk6.mono sB).keys, hrA.nk, ?_⟩
        show K1 (V.bl (dnAt es (skey (L.step c.2 t))).isSome) _
        rw [hk6.2, decide_eq_true (q2 _ hc2 t (List.mem_of_getElem? ht))]
        exact k1 _ _ rfl sA
      · refine ⟨D1, List.replicate ls.length true, rfl, .inl (.inl ?_), ?_⟩
        · rw [e, rep_bl]
          simp [List.filterMap_eq_map, List.map_const']
        rw [all_rep]
        refine ⟨true, rfl, ?_⟩
        refine iteF ?_
        have s9 := s7.trans s8
        refine ⟨_, rfl, g, _, _, rfl, s9 _ _ h16, rfl, _, rfl, g, c.1, L, c.2, rfl, hg6.mono s9, ok, hcs.1.mono s9, hcs.2.2, fun HA sA => ?_⟩
        have sB := s9.trans sA
        refine ⟨_, rfl, rfl, _, rfl, ?_⟩
        show if decide (V.str (L.mvs c.2) = V.str m) = true then _ else _
        by_cases hmm : L.mvs c.2 = m
        · refine ifT (congrArg V.str hmm) ?_
          refine ⟨_, rfl, g, _, _, rfl, sB _ _ h16, rfl, _, rfl, _, rfl, g, c.1, L, c.2, y, rfl, hg6.mono sB, ok, hcs.1.mono sB, hcs.2.2, fun HC sC => ?_⟩
          rw [q3 _ hc2 hmm]
          refine ⟨false, rfl, ?_⟩
          refine iteF ?_
          exact ⟨sB.trans sC, _, _, rfl⟩
        · refine ifF (fun h => hmm (by injection h)) ?_
          refine iteF ?_
          exact ⟨sB, _, _, rfl⟩
    · obtain ⟨s7, u, v, rfl⟩ := h
      exact q _ (s6.trans s7)
end
end Lk

set_option maxHeartbeats 4000000
namespace Lk
open PySem PySem.Spec PyProof.Rows L2
/-! ### the draw of a state -/
/-- the heap without the draw's two lists -/
def cut (d c : Addr) (H : Hp) : Hp := fun a => if a = d ∨ a = c then none else H a
theorem cut_same {d c : Addr} {H : Hp} : Same (cut d c H) H := fun a u e => by
  unfold cut at e
  split at e
  · cases e
  · exact e
theorem cut_mono {d c : Addr} {H H' : Hp} (s : Same H H') : Same (cut d c H) (cut d c H') := fun a u e => by
  unfold cut at e ⊢
  split at e
  · cases e
  · rename_i h
    rw [if_neg h]
    exact s _ _ e
theorem cut_at {d c a : Addr} {H : Hp} {u : HO} (h : H a = some u) (h1 : a ≠ d) (h2 : a ≠ c) : cut d c H a = some u := by
  unfold cut
  rw [if_neg (by simp [h1, h2])]
  exact h
theorem cut_upd {d c p : Addr} {H : Hp} {o : HO} (h : p = d ∨ p = c) : Same (cut d c H) (cut d c (upd H p o)) := fun a u e => by
  unfold cut at e ⊢
  split at e
  · cases e
  · rename_i hn
    rw [if_neg hn, upd_ne (by rintro rfl; exact hn h)]
    exact e
/-- a list of one's own, changed -/
theorem cut_mut {d c p : Addr} {H0 H1 : Hp} {o : HO} (s : Same (cut d c H0) (cut d c H1)) (h : H0 p = none) : Same (cut d c H0) (cut d c (upd H1 p o)) := fun a u e => by
  have hne : a ≠ p := by
    rintro rfl
    have := cut_same _ _ e
    rw [h] at this
    cases this
  have := s _ _ e
  unfold cut at this ⊢
  split at this
  · cases this
  · rename_i hn
    rw [if_neg hn, upd_ne hne]
    exact this
structure Dw (d c : Addr) (H : Hp) : Prop where
  ne : d ≠ c
  ex : ∃ (cells : List Int) (i m : Int), H d = some (.lst [.ref c, .int i, .int m]) ∧ H c = some (.lst (cells.map V.int)) ∧ 0 < cells.length ∧ cells.length ≤ 1000 ∧ (∀ x ∈ cells, 0 ≤ x) ∧ 0 ≤ i ∧ 0 ≤ m ∧ m < 2147483647
theorem Dw.mono {d c : Addr} {H H' : Hp} (h : Dw d c H) (s : Same H H') : Dw d c H' := by
  obtain ⟨ne, cells, i, m, h1, h2, h3⟩ := h
  exact ⟨ne, cells, i, m, s _ _ h1, s _ _ h2, h3⟩
theorem Dw.upd {d c p : Addr} {H : Hp} {o : HO} (h : Dw d c H) (h1 : p ≠ d) (h2 : p ≠ c) : Dw d c (upd H p o) := by
  obtain ⟨ne, cells, i, m, g1, g2, g3⟩ := h
  exact ⟨ne, cells, i, m, by rw [upd_ne h1.symm]; exact g1, by rw [upd_ne h2.symm]; exact g2, g3⟩
theorem Dw.nd {d c p : Addr} {H : Hp} (h : Dw d c H) (np : H p = none) : p ≠ d ∧ p ≠ c := by
  obtain ⟨ne, cells, i, m, g1, g2, g3⟩ := h
  exact ⟨(by rintro rfl; rw [np] at g1; cases g1), (by rintro rfl; rw [np] at g2; cases g2)⟩
/-- a new thing stands outside the draw -/
theorem Dw.new {d c p : Addr} {H : Hp} {o : HO} (h : Dw d c H) (np : H p = none) : (cut d c (L2.upd H p o)) p = some o := by
  obtain ⟨h1, h2⟩ := h.nd np
  exact cut_at upd_same h1 h2
theorem sqL_same {K : PySem.W.Frag} {H H' : Hp} {a : Addr} {xs : List V} (s : Same H H') (h : SqL K H a xs) : SqL K H' a xs := h.elim (fun r => .inl (same_rd s r)) .inr
def spState (K : PySem.W.Frag) : Sp := fun vs H Q _ => ∃ (a : Addr) (ns : List Int), vs = [.ref a] ∧ SqL K H a (ns.map V.int) ∧ ns.length ≤ 1000 ∧ ∀ d c H', Same H H' → Dw d c H' → H d = none → H c = none → Q (.ref d) H'
def spDraw : Sp := fun vs H Q _ => ∃ (d c : Addr) (z : Int), vs = [.ref d, .int z] ∧ Dw d c H ∧ 0 < z ∧ z < 1073741824 ∧ ∀ (r : Int) H', 0 ≤ r → r < z → Dw d c H' → Same (cut d c H) (cut d c H') → Q (.int r) H'
section
variable {P : Program} {w : World} {K : PySem.W.Frag} {mg : Str → Option Value} {base : Heap} {cP cG cT : Addr} {f : Addr} {fd : FuncData} (T : Txt K w mg cP cG cT)
include T
theorem ok_law_state (F : FnP K "_law_state" "_law_state" s_law_state f fd) : FnOk P w K mg base CX0 1 f fd ["script"] (spState K) := by
  refine okN F sc_law_state (fun vs H Q E h => ?_) (fun cdv A outer s H vs Q E hr h => ?_)
  · obtain ⟨a, ns, rfl, _⟩ := h
    rfl
  · obtain ⟨a, ns, rfl, ha, hl, q⟩ := h
    refine ⟨_, (pss_cons (ps_setLc (i := 1) (own := [("cell", 2)]) rfl sc_law_state.nd rfl rfl (sw_true rfl rfl rfl (by decide +kernel)) (pi_list (pv 0)) (blkOk_by (own := [("cell", 2)]) (N := ["script", "cells", "cell"]) (sc := defScope s_law_state) (by decide +kernel)) (fun _ _ _ _ _ => pg_name (i := 2) sc_law_state.nd rfl (Or.inl rfl)) (fun _ _ _ _ _ => pts_nil) (fun _ _ _ _ _ => (pe_callB call_abs (by rfl) T.abs_ b_abs (pa_cons (pv 2) pa_nil))))
      (pss_cons (ps_if (pt_cmpR (op_eqD hr.units) (pv 1) (pe_lst pa_nil) (nomark _)) (pss_one (ps_set (i := 1) sc_law_state.nd rfl (Or.inl rfl) (pe_lst (pa_cons pe_int pa_nil)))) pss_nil)
      (pss_one (ps_ret (pe_lst (pa_cons (pv 1) (pa_cons pe_int (pa_cons pe_int pa_nil)))))))), ?_⟩
    refine ⟨_, rfl, a, rfl, ⟨_, ha⟩, fun D hD => ?_⟩
    refine lcW_fm (walk_list (xs := ns.map V.int)) (fun i => (ns[i]?).map fun n => .int (if n < 0 then -n else n)) hD (by rw [List.length_map]; omega) (fun H2 s2 => sqL_same s2 ha) (fun i x H9 H2 hi s2 yy K1 K0 k1 k0 => ?_) (fun H2 s2 e => ?_)
    · obtain ⟨rfl, hx⟩ := yy
      rw [List.getElem?_map] at hx
      obtain ⟨n, hn, rfl⟩ := Option.map_eq_some_iff.mp hx
      refine ⟨rfl, yesT ?_⟩
      exact ⟨_, rfl, n, rfl, k1 _ _ (by rw [hn]; rfl) (fun _ _ e => e)⟩
    · rw [List.length_map, range_mapA] at e
      have e2 : ((ns).map fun n => V.int (if n < 0 then -n else n)) = ((ns).map fun n => if n < 0 then -n else n).map V.int := by rw [List.map_map]; rfl
      rw [e2] at e
      have sB := s2
      have hlen : ((ns).map fun n => if n < 0 then -n else n).length ≤ 1000 := by
        rw [List.length_map]
        omega
      have hpos : ∀ x ∈ ((ns).map fun n => if n < 0 then -n else n), 0 ≤ x := fun x hx => by
        obtain ⟨n, _, rfl⟩ := List.mem_map.mp hx
        split <;> omega
      generalize ((ns).map fun n => if n < 0 then -n else n) = cells at e hlen hpos
      refine ⟨_, rfl, (by show 0 ≤ sizeLine; decide), fun l nl => ?_⟩
      have sC := same_new (o := .lst []) nl
      have sc : (cells.map V.int).all scalV = true := by
        rw [List.all_eq_true]
        intro x hx
        obtain ⟨y, _, rfl⟩ := List.mem_map.mp hx
        rfl
      have shl : ∀ xs : List V, xs.all scalV = true → SeqAt.shaped (.list (xs.map vD)) = true := fun xs h => by
        obtain ⟨h1, h2⟩ := shp_all xs h
        simp [SeqAt.shaped, PyData.canLay0, PyData.depth, h1, h2]
      refine ⟨_, .list [], .lst (.inl (.inl (sC _ _ e))) (dp_all _ sc), .lst (.inl (.inl upd_same)) .nil, shl _ sc, shl [] rfl, ?_⟩
      have hn1 : H D = none := hD
      cases cells with
      | nil =>
        refine ⟨true, by simp [PyData.eqv, PyData.eqvAll], ?_⟩
        refine iteT ?_
        refine ⟨(by show 1 ≤ sizeLine; decide), fun l2 nl2 => ?_⟩
        have sD := sC.trans (same_new (o := .lst [.int 1]) nl2)
        refine ⟨_, rfl, (by show 3 ≤ sizeLine; decide), fun r nr => ?_⟩
        refine q r l2 _ ((sB.trans sD).trans (same_new nr)) ⟨(ne_of_none upd_same nr).symm, [1], 0, 1, upd_same, same_new nr _ _ upd_same, by decide, by decide, by decide, by decide, by decide, by decide⟩ (none_of (sB.trans sD) nr) (none_of (sB.trans sC) nl2)
      | cons c0 cs =>
        refine ⟨false, by simp [PyData.eqv, PyData.eqvAll], ?_⟩
        refine iteF ?_
        refine ⟨_, rfl, (by show 3 ≤ sizeLine; decide), fun r nr => ?_⟩
        have eD := sC _ _ e
        exact q r D _ ((sB.trans sC).trans (same_new nr)) ⟨(ne_of_none eD nr).symm, c0 :: cs, 0, 1, upd_same, same_new nr _ _ eD, by simp, hlen, hpos, by decide, by decide, by decide⟩ (none_of (sB.trans sC) nr) hn1
theorem ok_law_draw (F : FnP K "_law_draw" "_law_draw" s_law_draw f fd) : FnOk P w K mg base CX0 1 f fd ["state", "many"] spDraw := by
  refine okN F sc_law_draw (fun vs H Q E h => ?_) (fun cdv A outer s H vs Q E hr h => ?_)
  · obtain ⟨d, c, z, rfl, _⟩ := h
    rfl
  · obtain ⟨d, c, z, rfl, hd, z0, z1, q⟩ := h
    obtain ⟨hne, cells, i, m, h1, h2, l1, l2, hc, hi, hm, hm2⟩ := hd
    refine ⟨_, (pss_cons (ps_set (i := 2) sc_law_draw.nd rfl (Or.inl rfl) (pe_op op_modN (pe_ix (ixL K) (pv 0) pe_int (fun _ _ => rfl)) (pe_callB (lenS K) (by rfl) T.len_ b_len (pa_cons (pe_ix (ixL K) (pv 0) pe_int (fun _ _ => rfl)) pa_nil))))
      (pss_cons (ps_set (i := 3) sc_law_draw.nd rfl (Or.inl rfl) (pe_ix (ixL K) (pe_ix (ixL K) (pv 0) pe_int (fun _ _ => rfl)) (pv 2) (fun _ _ => rfl)))
      (pss_cons (ps_if (pt_cmpR op_ge (pv 3) (pe_op op_pow pe_int pe_int) (nomark _)) (pss_cons (ps_asg (pe_op op_fdivN (pv 3) (pv 1)) (pg_sub (pe_ix (ixL K) (pv 0) pe_int (fun _ _ => rfl)) (pv 2) L2.set_list))
      (pss_one (ps_ret (pe_op op_modN (pv 3) (pv 1))))) pss_nil)
      (pss_cons (ps_asg (pe_op op_add (pe_ix (ixL K) (pv 0) pe_int (fun _ _ => rfl)) pe_int) (pg_sub (pv 0) pe_int L2.set_list))
      (pss_cons (ps_asg (pe_op op_modN (pe_op op_add (pe_op op_add (pe_op op_mul (pe_ix (ixL K) (pv 0) pe_int (fun _ _ => rfl)) pe_int) (pv 3)) pe_int) pe_int) (pg_sub (pv 0) pe_int L2.set_list))
      (pss_one (ps_ret (pe_op op_modN (pe_op op_fdivN (pe_op op_modN (pe_op op_mul (pe_ix (ixL K) (pv 0) pe_int (fun _ _ => rfl)) (pe_ix (ixL K) (pv 0) pe_int (fun _ _ => rfl))) pe_int) pe_int) (pv 1))))))))), ?_⟩
    refine ⟨_, rfl, d, _, _, .int i, rfl, rfl, .inl (.inl h1), atI_nat (j := 1) rfl, _, rfl, d, _, _, .ref c, rfl, rfl, .inl (.inl h1), atI_nat (j := 0) rfl, c, _, rfl, .inl (.inl (.inl h2)), _, _, rfl, rfl, by rw [List.length_map]; omega, ?_⟩
    rw [List.length_map]
    have hL : (0 : Int) < ((cells.length : Nat) : Int) := by omega
    have k0 : 0 ≤ i.fmod ((cells.length : Nat) : Int) := Int.fmod_nonneg_of_pos _ hL
    have k1 : i.fmod ((cells.length : Nat) : Int) < ((cells.length : Nat) : Int) := Int.fmod_lt_of_pos _ hL
    obtain ⟨j, hj⟩ : ∃ j : Nat, i.fmod ((cells.length : Nat) : Int) = (j : Int) := ⟨_, (Int.toNat_of_nonneg k0).symm⟩
    rw [hj] at k1
    show gName 2 (V.int (i.fmod ((cells.length : Nat) : Int))) _ H _
    rw [hj]
    have hjl : j < cells.length := by omega
    have hcj : (cells.map V.int)[j]? = some (.int cells[j]) := by rw [List.getElem?_map, List.getElem?_eq_getElem hjl]; rfl
    have hc0 := hc _ (List.getElem_mem hjl)
    refine ⟨_, rfl, d, _, _, .ref c, rfl, rfl, .inl (.inl h1), atI_nat (j := 0) rfl, _, rfl, c, _, _, .int cells[j], rfl, rfl, .inl (.inl h2), atI_nat hcj, ?_⟩
    refine ⟨_, rfl, _, _, rfl, rfl, ⟨by decide, by decide, by decide⟩, _, _, rfl, rfl, _, rfl, ?_⟩
    have hne' : c ≠ d := hne.symm
    by_cases hb : (10 : Int) ^ (18 : Int).toNat ≤ cells[j]
    · refine ifT hb ?_
      refine ⟨_, rfl, _, rfl, _, _, rfl, rfl, ⟨by omega, by omega⟩, ?_⟩
      refine ⟨_, rfl, d, _, _, .ref c, rfl, rfl, .inl (.inl h1), atI_nat (j := 0) rfl, _, rfl, c, _, _, j, rfl, rfl, h2, ?_, ?_⟩
      · unfold ixN
        simp
        omega
      refine ⟨_, rfl, _, rfl, _, _, rfl, rfl, by omega, ?_⟩
      have e1 : (cells.map V.int).set j (.int (cells[j].fdiv z)) = (cells.set j (cells[j].fdiv z)).map V.int := by rw [List.map_set]
      rw [e1]
      refine q _ _ (Int.fmod_nonneg_of_pos _ z0) (Int.fmod_lt_of_pos _ z0) ⟨hne, cells.set j (cells[j].fdiv z), i, m, by rw [upd_ne hne]; exact h1, upd_same, by simpa using l1, by simpa using l2, fun x hx => ?_, hi, hm, hm2⟩ (cut_upd (.inr rfl))
      rcases List.mem_or_eq_of_mem_set hx with h | h
      · exact hc x h
      · rw [h]
        exact Int.fdiv_nonneg hc0 (by omega)
    · refine ifF hb ?_
      refine ⟨_, rfl, d, _, _, .int i, rfl, rfl, .inl (.inl h1), atI_nat (j := 1) rfl, _, _, rfl, rfl, ?_⟩
      refine ⟨_, rfl, d, _, _, 1, rfl, rfl, h1, rfl, ?_⟩
      have g1 : (upd H d (.lst (([V.ref c, .int i, .int m]).set 1 (.int (i + 1))))) d = some (.lst [.ref c, .int (i + 1), .int m]) := upd_same
      have g2 : (upd H d (.lst (([V.ref c, .int i, .int m]).set 1 (.int (i + 1))))) c = some (.lst (cells.map V.int)) := by rw [upd_ne hne']; exact h2
      have g3 : Same (cut d c H) (cut d c (upd H d (.lst (([V.ref c, .int i, .int m]).set 1 (.int (i + 1)))))) := cut_upd (.inl rfl)
      generalize upd H d (.lst (([V.ref c, .int i, .int m]).set 1 (.int (i + 1)))) = H1 at g1 g2 g3
      refine ⟨_, rfl, d, _, _, .int m, rfl, rfl, .inl (.inl g1), atI_nat (j := 2) rfl, _, _, rfl, rfl, .inl ⟨by omega, by omega⟩, ?_⟩
      refine ⟨_, rfl, _, _, rfl, rfl, _, _, rfl, rfl, _, _, rfl, rfl, (show (2147483647 : Int) ≠ 0 by decide), ?_⟩
      have n0 := Int.fmod_nonneg_of_pos (m * 48271 + cells[j] + 12345) (show (0 : Int) < 2147483647 by decide)
      have n1 := Int.fmod_lt_of_pos (m * 48271 + cells[j] + 12345) (show (0 : Int) < 2147483647 by decide)
      show gSub (tVar 0) (tC (.int 2)) rSetL (V.int ((m * 48271 + cells[j] + 12345).fmod 2147483647)) _ H1 _
      generalize (m * 48271 + cells[j] + 12345).fmod 2147483647 = m' at n0 n1
      refine ⟨_, rfl, d, _, _, 2, rfl, rfl, g1, rfl, ?_⟩
      have k1' : (upd H1 d (.lst (([V.ref c, .int (i + 1), .int m]).set 2 (.int m')))) d = some (.lst [.ref c, .int (i + 1), .int m']) := upd_same
      have k2' : (upd H1 d (.lst (([V.ref c, .int (i + 1), .int m]).set 2 (.int m')))) c = some (.lst (cells.map V.int)) := by rw [upd_ne hne']; exact g2
      have k3' : Same (cut d c H) (cut d c (upd H1 d (.lst (([V.ref c, .int (i + 1), .int m]).set 2 (.int m'))))) := g3.trans (cut_upd (.inl rfl))
      generalize upd H1 d (.lst (([V.ref c, .int (i + 1), .int m]).set 2 (.int m'))) = H2 at k1' k2' k3'
      refine ⟨_, rfl, d, _, _, .int m', rfl, rfl, .inl (.inl k1'), atI_nat (j := 2) rfl, _, rfl, d, _, _, .int m', rfl, rfl, .inl (.inl k1'), atI_nat (j := 2) rfl, _, _, rfl, rfl, .inl ⟨by omega, by omega⟩, _, _, rfl, rfl, (show (2147483629 : Int) ≠ 0 by decide), _, _, rfl, rfl, ⟨by decide, by decide⟩, _, rfl, _, _, rfl, rfl, by omega, ?_⟩
      exact q _ _ (Int.fmod_nonneg_of_pos _ z0) (Int.fmod_lt_of_pos _ z0) ⟨hne, cells, i + 1, m', k1', k2', l1, l2, hc, by omega, n0, n1⟩ k3'
end
end Lk

set_option maxHeartbeats 4000000
namespace Lk
open PySem PySem.Spec PyProof.Rows L2
/-! ### names, own moves, signs -/
theorem keepC {d c a : Addr} {H H' : Hp} {u : HO} (s : Same (cut d c H) (cut d c H')) (h : H a = some u) (h1 : a ≠ d) (h2 : a ≠ c) : H' a = some u := cut_same _ _ (s _ _ (cut_at h h1 h2))
theorem sub_len {α : Type} [DecidableEq α] : ∀ {xs ys : List α}, xs.Nodup → (∀ x ∈ xs, x ∈ ys) → xs.length ≤ ys.length
  | [], _, _, _ => Nat.zero_le _
  | x :: r, ys, nd, h => by
    rw [List.nodup_cons] at nd
    have h1 := sub_len (ys := ys.erase x) nd.2 fun z hz => by
      have hne : z ≠ x := fun e => nd.1 (e ▸ hz)
      exact (List.mem_erase_of_ne hne).mpr (h z (List.mem_cons_of_mem _ hz))
    have hx := h x (by simp)
    rw [List.length_erase_of_mem hx] at h1
    have := List.length_pos_of_mem hx
    rw [List.length_cons]
    omega
def sgn (c : Nat) : Str := ⟨#[c]⟩
theorem cps_app (a b : Str) : (a ++ b).cps.toList = a.cps.toList ++ b.cps.toList := by
  show (a.cps ++ b.cps).toList = _
  simp
theorem len_cps (a : Str) : a.cps.toList.length = a.length := by simp [Str.length]
theorem sgn_inj {p : Str} {x y : Nat} (h : p ++ sgn x = p ++ sgn y) : x = y := by
  have := congrArg (fun z : Str => z.cps.toList) h
  simp only [cps_app] at this
  have := List.append_cancel_left this
  simpa [sgn] using this
theorem az_nd : az.cps.toList.Nodup := by decide +kernel
theorem join_cps (ys : List Str) : (Txt.join "" ys).cps.toList = (ys.map fun y => y.cps.toList).flatten := by
  rw [TL.join_eq]
  induction ys with
  | nil => rfl
  | cons x r ih =>
    cases r with
    | nil => simp [Str.join]
    | cons y q =>
      show (x ++ ("" : Str) ++ Str.join "" (y :: q)).cps.toList = _
      rw [cps_app, cps_app, ih]
      have e : ("" : Str).cps.toList = [] := by decide +kernel
      rw [e]
      simp
theorem isMv_of {z : Str} (h1 : 1 ≤ z.cps.toList.length) (h2 : z.cps.toList.length ≤ 8) (h3 : ∀ c ∈ z.cps.toList, c ∈ az.cps.toList) : isMv z := by
  rw [len_cps] at h1 h2
  exact ⟨h1, h2, h3⟩
theorem none_of_cut {d c p : Addr} {H H' : Hp} (s : Same (cut d c H) (cut d c H')) (np : H' p = none) (h1 : p ≠ d) (h2 : p ≠ c) : H p = none := by
  cases e : H p with
  | none => rfl
  | some u => rw [keepC s e h1 h2] at np; cases np
/-- an if without else: what follows, said once -/
theorem if_share {b : Bool} {D : L2.Ends} {t : TS} {σ : L2.St} {H : Hp} (C : L2.St → Hp → Prop) (hC : ∀ σ' H', C σ' H' → D.nx σ' H') (h1 : b = true → (∀ σ' H', C σ' H' → D.nx σ' H') → t D σ H) (h2 : b = false → C σ H) : if b = true then t D σ H else tNext D σ H := by
  cases b with
  | true => exact h1 rfl hC
  | false => exact hC σ H (h2 rfl)

def own8 : List Str := ["false", "does", "not", "and", "or", "shown", "moves", "choose"]
def nmA (j : Nat) : List Str := (List.range 8).map fun i => own8.getD ((j + 3 * i) % 8) ""
theorem nmA_ok : ∀ j ∈ List.range 26, (nmA j).Nodup ∧ ∀ m ∈ nmA j, isMv m := by
  unfold isMv
  decide +kernel
def ixB (j : Nat) : List Nat := (List.range 8).map fun i => az.cps.toList.getD ((j + 5 * i) % 26) 0
theorem ixB_ok : ∀ j ∈ List.range 26, (ixB j).Nodup ∧ ∀ k ∈ ixB j, k ∈ az.cps.toList := by decide +kernel
theorem sgns_ok : ∀ ws : List Str, (∀ z ∈ ws, ∃ k, z = sgn k ∧ k ∈ az.cps.toList) → (ws.map (·.length)).sum = ws.length ∧ ((ws.map fun y => y.cps.toList).flatten).length = ws.length ∧ ∀ x ∈ (ws.map fun y => y.cps.toList).flatten, x ∈ az.cps.toList := by
  intro ws
  induction ws with
  | nil => intro _; exact ⟨rfl, rfl, fun x hx => nomatch hx⟩
  | cons y r ih =>
    intro h
    obtain ⟨k', rfl, hk'⟩ := h y (by simp)
    obtain ⟨i1, i2, i3⟩ := ih fun z hz => h z (List.mem_cons_of_mem _ hz)
    refine ⟨?_, ?_, fun x hx => ?_⟩
    · rw [List.map_cons, List.sum_cons, i1]
      show 1 + r.length = r.length + 1
      omega
    · rw [List.map_cons, List.flatten_cons, List.length_append, i2]
      show 1 + r.length = r.length + 1
      omega
    · rw [List.map_cons, List.flatten_cons] at hx
      rcases List.mem_append.mp hx with hx | hx
      · have : x = k' := by simpa [sgn] using hx
        exact this ▸ hk'
      · exact i3 x hx
def nmB (b : Str) (j : Nat) : List Str := (ixB j).map fun k => b ++ sgn k
theorem nmB_ok {b : Str} (hb : b.cps.toList.length ≤ 7) (hm : ∀ x ∈ b.cps.toList, x ∈ az.cps.toList) {j : Nat} (hj : j < 26) : (nmB b j).Nodup ∧ ∀ m ∈ nmB b j, isMv m := by
  obtain ⟨h1, h2⟩ := ixB_ok j (List.mem_range.mpr hj)
  refine ⟨?_, fun m hm' => ?_⟩
  · unfold nmB
    rw [List.Nodup, List.pairwise_map]
    exact h1.imp fun {a b} h e => h (sgn_inj e)
  · obtain ⟨k, hk, rfl⟩ := List.mem_map.mp hm'
    refine isMv_of (by rw [cps_app]; simp [sgn]) (by rw [cps_app]; simp [sgn]; omega) fun x hx => ?_
    rw [cps_app] at hx
    rcases List.mem_append.mp hx with h | h
    · exact hm x h
    · have : x = k := by simpa [sgn] using h
      exact this ▸ h2 k hk
def spNames : Sp := fun vs H Q _ => ∃ (d c : Addr), vs = [.ref d, .int 8] ∧ Dw d c H ∧ ∀ l (pool : List Str) H', pool.length = 8 → pool.Nodup → (∀ m ∈ pool, isMv m) → Dw d c H' → Same (cut d c H) (cut d c H') → (cut d c H') l = some (.lst (pool.map V.str)) → H l = none → Q (.ref l) H'
def spOwn : Sp := fun vs H Q _ => ∃ (d c p : Addr) (pool : List Str), vs = [.ref d, .ref p] ∧ Dw d c H ∧ (cut d c H) p = some (.lst (pool.map V.str)) ∧ pool.length = 8 ∧ ∀ l (n : Nat) H', 1 ≤ n → n ≤ 4 → Dw d c H' → Same (cut d c H) (cut d c H') → (cut d c H') l = some (.lst ((pool.take n).map V.str)) → H l = none → Q (.ref l) H'
section
variable {P : Program} {w : World} {K : PySem.W.Frag} {mg : Str → Option Value} {base : Heap} {cP cG cT : Addr} {f : Addr} {fd : FuncData} (T : Txt K w mg cP cG cT)
include T
theorem ok_law_names {C_law_draw : Cal P w K mg base "_law_draw" 1 ["state", "many"] spDraw} (F : FnP K "_law_names" "_law_names" s_law_names f fd) : FnOk P w K mg base CX0 2 f fd ["state", "many"] spNames := by
  refine okN F sc_law_names (fun vs H Q E h => ?_) (fun cdv A outer s H vs Q E hr h => ?_)
  · obtain ⟨d, c, rfl, _⟩ := h
    rfl
  · obtain ⟨d, c, rfl, hd, q⟩ := h
    refine ⟨_, (pss_cons (ps_set (i := 2) sc_law_names.nd rfl (Or.inr rfl) (pe_lst (pa_cons pe_str (pa_cons pe_str (pa_cons pe_str (pa_cons pe_str (pa_cons pe_str (pa_cons pe_str (pa_cons pe_str (pa_cons pe_str pa_nil))))))))))
      (pss_cons (ps_asg (pe_tup (pa_cons pe_str (pa_cons (pe_cal C_law_draw hr (pa_cons (pv 0) (pa_cons pe_int pa_nil))) pa_nil))) (pgT K 2 rfl (pgs_cons (pg_name (i := 3) sc_law_names.nd rfl (Or.inr rfl)) (pgs_cons (pg_name (i := 4) sc_law_names.nd rfl (Or.inr rfl)) pgs_nil))))
      (pss_cons (ps_if (pt_cmpR op_eq (pe_cal C_law_draw hr (pa_cons (pv 0) (pa_cons pe_int pa_nil))) pe_int (nomark _)) (pss_one (ps_ret (pe_lc (own := [("k", 6)]) rfl sc_law_names.nd (pi_range1 rfl T.range_ (pa_cons (pv 1) pa_nil)) (blkOk_by (own := [("k", 6)]) (N := ["state", "many", "own", "alphabet", "lead", "base", "k"]) (sc := defScope s_law_names) (by decide +kernel)) (fun _ _ _ _ _ => pg_name (i := 6) sc_law_names.nd rfl (Or.inl rfl)) (fun _ _ _ _ _ => pts_nil) (fun _ _ _ _ _ => (pe_ix (ixL K) (pv 2) (pe_op op_modN (pe_op op_add (pv 4) (pe_op op_mul pe_int (pv 6))) pe_int) (fun _ _ => rfl)))))) pss_nil)
      (pss_cons (ps_set (i := 5) sc_law_names.nd rfl (Or.inr rfl) (pe_join pe_str (pe_lc (own := [("k", 6)]) rfl sc_law_names.nd (pi_range1 rfl T.range_ (pa_cons (pe_cal C_law_draw hr (pa_cons (pv 0) (pa_cons pe_int pa_nil))) pa_nil)) (blkOk_by (own := [("k", 6)]) (N := ["state", "many", "own", "alphabet", "lead", "base", "k"]) (sc := defScope s_law_names) (by decide +kernel)) (fun _ _ _ _ _ => pg_name (i := 6) sc_law_names.nd rfl (Or.inl rfl)) (fun _ _ _ _ _ => pts_nil) (fun _ _ _ _ _ => (pe_ix (ixS K) (pv 3) (pe_cal C_law_draw hr (pa_cons (pv 0) (pa_cons pe_int pa_nil))) (fun _ _ => rfl))))))
      (pss_one (ps_ret (pe_lc (own := [("k", 6)]) rfl sc_law_names.nd (pi_range1 rfl T.range_ (pa_cons (pv 1) pa_nil)) (blkOk_by (own := [("k", 6)]) (N := ["state", "many", "own", "alphabet", "lead", "base", "k"]) (sc := defScope s_law_names) (by decide +kernel)) (fun _ _ _ _ _ => pg_name (i := 6) sc_law_names.nd rfl (Or.inl rfl)) (fun _ _ _ _ _ => pts_nil) (fun _ _ _ _ _ => (pe_op op_add_str (pv 5) (pe_ix (ixS K) (pv 3) (pe_op op_modN (pe_op op_add (pv 4) (pe_op op_mul pe_int (pv 6))) pe_int) (fun _ _ => rfl))))))))))), ?_⟩
    refine ⟨(by show 8 ≤ sizeLine; decide), fun F0 nF => ?_⟩
    obtain ⟨fd1, fc1⟩ := hd.nd nF
    have sF := same_new (o := .lst (own8.map V.str)) nF
    have hF0 : (upd H F0 (.lst (own8.map V.str))) F0 = some (.lst (own8.map V.str)) := upd_same
    have hd1 := hd.mono sF
    show tSeq _ _ _ _ (upd H F0 (.lst (own8.map V.str)))
    generalize upd H F0 (.lst (own8.map V.str)) = H1 at sF hF0 hd1
    refine ⟨_, rfl, d, c, 26, rfl, hd1, by decide, by decide, fun r H2 r0 r1 hd2 s2 => ⟨(by show 2 ≤ sizeLine; decide), fun t nt => ?_⟩⟩
    obtain ⟨j, rfl⟩ : ∃ j : Nat, r = (j : Int) := ⟨_, (Int.toNat_of_nonneg r0).symm⟩
    have hj : j < 26 := by omega
    have hF2 := keepC s2 hF0 fd1 fc1
    have sT := same_new (o := .tup [.str az, nV j]) nt
    have hF3 := sT _ _ hF2
    have hd3 := hd2.mono sT
    have s3 := ((cut_mono (d := d) (c := c) sF).trans s2).trans (cut_mono sT)
    refine ⟨t, _, rfl, .inl (.inl upd_same), rfl, _, _, rfl, _, _, rfl, rfl, ?_⟩
    show tSeq _ _ _ _ (upd H2 t (.tup [.str az, nV j]))
    generalize upd H2 t (.tup [.str az, nV j]) = H3 at hF3 hd3 s3
    clear sT hF2 s2 hd2 r0 r1 nt sF hF0 hd1
    refine ⟨_, rfl, d, c, 4, rfl, hd3, by decide, by decide, fun r H4 r0 r1 hd4 s4 => ⟨rfl, _, rfl, ?_⟩⟩
    have hF4 := keepC s4 hF3 fd1 fc1
    have s4 := s3.trans s4
    by_cases hr1 : r = 1
    · subst hr1
      refine ifT rfl ?_
      refine ⟨_, rfl, 8, rfl, by decide, by decide, fun D nD => ?_⟩
      refine lcW_fm (walk_range (lo := 0) (n := 8)) (fun i => some (.str (own8.getD ((j + 3 * i) % 8) ""))) nD (by decide) (fun _ _ => trivial) (fun i x H9 H5 hi s5 y K1 K0 k1 k0 => ?_) (fun H5 s5 e => ?_)
      · obtain ⟨rfl, hx⟩ := y
        have hx : x = nV i := by
          rw [hx]
          show V.int (0 + (i : Int)) = _
          rw [Int.zero_add]
        subst hx
        refine ⟨rfl, yesT ?_⟩
        have hk : ((j : Int) + 3 * (i : Int)).fmod 8 = (((j + 3 * i) % 8 : Nat) : Int) := by
          rw [Int.fmod_eq_emod_of_nonneg _ (by decide)]
          omega
        have hk8 : (j + 3 * i) % 8 < own8.length := by show _ < 8; omega
        refine ⟨_, rfl, _, rfl, _, rfl, _, _, rfl, rfl, .inl ⟨by decide, by decide⟩, _, _, rfl, rfl, _, _, rfl, rfl, (show (8 : Int) ≠ 0 by decide), ?_⟩
        refine ⟨F0, _, _, .str (own8.getD ((j + 3 * i) % 8) ""), rfl, rfl, .inl (.inl (s5 _ _ hF4)), ?_, k1 _ _ rfl (fun _ _ e => e)⟩
        rw [hk]
        refine atI_nat ?_
        rw [List.getElem?_map, List.getElem?_eq_getElem hk8, List.getD_eq_getElem?_getD, List.getElem?_eq_getElem hk8]
        rfl
      · have eA : (List.range 8).filterMap (fun i => some (V.str (own8.getD ((j + 3 * i) % 8) ""))) = (nmA j).map V.str := by
          unfold nmA
          rw [List.map_map, List.filterMap_eq_map']
          rfl
        rw [eA] at e
        obtain ⟨n1, n2⟩ := nmA_ok j (List.mem_range.mpr hj)
        have hd5 := hd4.mono s5
        obtain ⟨h1, h2⟩ := hd4.nd nD
        exact q D (nmA j) H5 (by simp [nmA]) n1 n2 hd5 (s4.trans (cut_mono s5)) (cut_at e h1 h2) (none_of_cut s4 nD h1 h2)
    · refine ifF (fun h => hr1 (by injection h)) ?_
      refine ⟨⟨_, rfl⟩, _, rfl, d, c, 8, rfl, hd4, by decide, by decide, fun r2 H5 q0 q1 hd5 s5 => ⟨_, rfl, by omega, by omega, fun D nD => ?_⟩⟩
      have hF5 := keepC s5 hF4 fd1 fc1
      have s5 := s4.trans s5
      obtain ⟨hDd, hDc⟩ := hd5.nd nD
      refine it_by (walk_range (lo := 0) (n := r2.toNat)) (fun i H' => Dw d c H' ∧ Same (cut d c H) (cut d c H') ∧ ∃ ws : List Str, H' D = some (.lst (ws.map V.str)) ∧ ws.length = i ∧ ∀ z ∈ ws, ∃ k, z = sgn k ∧ k ∈ az.cps.toList)
        ⟨hd5.mono (same_new nD), s5.trans (cut_mono (same_new nD)), [], upd_same, rfl, fun z hz => nomatch hz⟩ (fun _ _ _ _ => trivial) (fun i x H9 H6 hi h y => ?_) (fun H6 h => ?_)
      · obtain ⟨hd6, s6, ws, hw6, wl, wm⟩ := h
        obtain ⟨rfl, hx⟩ := y
        refine ⟨rfl, yesT ?_⟩
        refine ⟨_, rfl, _, rfl, d, c, 26, rfl, hd6, by decide, by decide, fun r H7 z0 z1 hd7 s7 => ?_⟩
        obtain ⟨k, rfl⟩ : ∃ k : Nat, r = (k : Int) := ⟨_, (Int.toNat_of_nonneg z0).symm⟩
        have hk : k < az.cps.toList.length := by
          have : az.cps.toList.length = 26 := by decide +kernel
          omega
        have hw7 := keepC s7 hw6 hDd hDc
        refine .inr (.inr ⟨az, _, az.cps.toList[k], rfl, rfl, sz_le (by decide +kernel), atI_nat (List.getElem?_eq_getElem hk), ?_⟩)
        refine ⟨_, hw7, by rw [List.length_map]; exact sz_lt (by omega), hd7.upd hDd hDc, cut_mut (s6.trans s7) (none_of_cut s5 nD hDd hDc), ws ++ [sgn (az.cps.toList[k])], by rw [upd_same, List.map_append]; rfl, by simp [wl], fun z hz => ?_⟩
        rcases List.mem_append.mp hz with h | h
        · exact wm z h
        · exact ⟨_, List.mem_singleton.mp h, List.getElem_mem hk⟩
      · obtain ⟨hd6, s6, ws, hw6, wl, wm⟩ := h
        obtain ⟨i1, i2, i3⟩ := sgns_ok ws wm
        refine ⟨"", D, ws, rfl, rfl, .inl (.inl (.inl hw6)), ?_, ?_⟩
        · rw [i1]
          show ws.length + ws.length * 0 ≤ 16777216
          omega
        have b1 : (Txt.join "" ws).cps.toList.length ≤ 7 := by rw [join_cps, i2]; omega
        have b2 : ∀ x ∈ (Txt.join "" ws).cps.toList, x ∈ az.cps.toList := by rw [join_cps]; exact i3
        generalize Txt.join "" ws = b at b1 b2
        have b3 := len_cps b
        refine ⟨_, rfl, 8, rfl, by decide, by decide, fun D2 nD2 => ?_⟩
        refine lcW_fm (walk_range (lo := 0) (n := 8)) (fun i => some (.str (b ++ sgn (az.cps.toList.getD ((j + 5 * i) % 26) 0)))) nD2 (by decide) (fun _ _ => trivial) (fun i x H9 H7 hi s7 y K1 K0 k1 k0 => ?_) (fun H7 s7 e => ?_)
        · obtain ⟨rfl, hx⟩ := y
          have hx : x = nV i := by
            rw [hx]
            show V.int (0 + (i : Int)) = _
            rw [Int.zero_add]
          subst hx
          refine ⟨rfl, yesT ?_⟩
          have hk : ((j : Int) + 5 * (i : Int)).fmod 26 = (((j + 5 * i) % 26 : Nat) : Int) := by
            rw [Int.fmod_eq_emod_of_nonneg _ (by decide)]
            omega
          have hk8 : (j + 5 * i) % 26 < az.cps.toList.length := by
            have : az.cps.toList.length = 26 := by decide +kernel
            omega
          have eg : az.cps.toList.getD ((j + 5 * i) % 26) 0 = az.cps.toList[(j + 5 * i) % 26] := by rw [List.getD_eq_getElem?_getD, List.getElem?_eq_getElem hk8]; rfl
          refine ⟨_, rfl, _, rfl, _, rfl, _, rfl, _, _, rfl, rfl, .inl ⟨by decide, by decide⟩, _, _, rfl, rfl, _, _, rfl, rfl, (show (26 : Int) ≠ 0 by decide), ?_⟩
          refine .inr (.inr ⟨az, _, az.cps.toList[(j + 5 * i) % 26], rfl, rfl, sz_le (by decide +kernel), by rw [hk]; exact atI_nat (List.getElem?_eq_getElem hk8), ?_⟩)
          refine ⟨b, sgn (az.cps.toList[(j + 5 * i) % 26]), rfl, rfl, ?_, k1 _ _ (by rw [eg]) (fun _ _ e => e)⟩
          have : (sgn (az.cps.toList[(j + 5 * i) % 26])).length = 1 := rfl
          exact sz_le (by omega)
        · have eA : (List.range 8).filterMap (fun i => some (V.str (b ++ sgn (az.cps.toList.getD ((j + 5 * i) % 26) 0)))) = (nmB b j).map V.str := by
            unfold nmB ixB
            rw [List.map_map, List.map_map, List.filterMap_eq_map']
            rfl
          rw [eA] at e
          obtain ⟨n1, n2⟩ := nmB_ok b1 b2 hj
          have hd7 := hd6.mono s7
          obtain ⟨h1, h2⟩ := hd6.nd nD2
          exact q D2 (nmB b j) H7 (by simp [nmB, ixB]) n1 n2 hd7 (s6.trans (cut_mono s7)) (cut_at e h1 h2) (none_of_cut s6 nD2 h1 h2)
theorem ok_law_own {C_law_draw : Cal P w K mg base "_law_draw" 1 ["state", "many"] spDraw} (F : FnP K "_law_own" "_law_own" s_law_own f fd) : FnOk P w K mg base CX0 2 f fd ["state", "pool"] spOwn := by
  refine okN F sc_law_own (fun vs H Q E h => ?_) (fun cdv A outer s H vs Q E hr h => ?_)
  · obtain ⟨d, c, p, pool, rfl, _⟩ := h
    rfl
  · obtain ⟨d, c, p, pool, rfl, hd, hp, hl, q⟩ := h
    refine ⟨_, (pss_one (ps_ret (pe_slice (slL K) (pv 1) po_none (po_some (pe_ix (ixL K) (pe_lst (pa_cons pe_int (pa_cons pe_int (pa_cons pe_int (pa_cons pe_int (pa_cons pe_int (pa_cons pe_int pa_nil))))))) (pe_cal C_law_draw hr (pa_cons (pv 0) (pa_cons pe_int pa_nil))) (fun _ _ => rfl)))))), ?_⟩
    refine ⟨_, rfl, (by show 6 ≤ sizeLine; decide), fun F0 nF => ?_⟩
    obtain ⟨fd1, fc1⟩ := hd.nd nF
    have sF := same_new (o := .lst [.int 1, .int 2, .int 2, .int 3, .int 3, .int 4]) nF
    have hF0 : (upd H F0 (.lst [.int 1, .int 2, .int 2, .int 3, .int 3, .int 4])) F0 = some (.lst [.int 1, .int 2, .int 2, .int 3, .int 3, .int 4]) := upd_same
    have hd1 := hd.mono sF
    have hp1 := cut_mono (d := d) (c := c) sF _ _ hp
    generalize upd H F0 (.lst [.int 1, .int 2, .int 2, .int 3, .int 3, .int 4]) = H1 at sF hF0 hd1 hp1
    refine ⟨_, rfl, d, c, 6, rfl, hd1, by decide, by decide, fun r H2 r0 r1 hd2 s2 => ?_⟩
    obtain ⟨j, rfl⟩ : ∃ j : Nat, r = (j : Int) := ⟨_, (Int.toNat_of_nonneg r0).symm⟩
    have hj : j < 6 := by omega
    have hF2 := keepC s2 hF0 fd1 fc1
    have hp2 := s2 _ _ hp1
    obtain ⟨n, hn, n1, n4⟩ : ∃ n : Nat, ([V.int 1, .int 2, .int 2, .int 3, .int 3, .int 4] : List V)[j]? = some (nV n) ∧ 1 ≤ n ∧ n ≤ 4 := by
      match j, hj with
      | 0, _ => exact ⟨1, rfl, by decide, by decide⟩
      | 1, _ => exact ⟨2, rfl, by decide, by decide⟩
      | 2, _ => exact ⟨2, rfl, by decide, by decide⟩
      | 3, _ => exact ⟨3, rfl, by decide, by decide⟩
      | 4, _ => exact ⟨3, rfl, by decide, by decide⟩
      | 5, _ => exact ⟨4, rfl, by decide, by decide⟩
    refine ⟨F0, _, _, nV n, rfl, rfl, .inl (.inl hF2), atI_nat hn, _, rfl, p, _, rfl, .inl (.inl (cut_same _ _ hp2)), fun l nl => ?_⟩
    rw [cut_up, ← List.map_take]
    have sL := same_new (o := .lst ((pool.take n).map V.str)) nl
    have s3 := ((cut_mono (d := d) (c := c) sF).trans s2)
    obtain ⟨h1, h2⟩ := hd2.nd nl
    exact q l n _ n1 n4 (hd2.mono sL) (s3.trans (cut_mono sL)) (cut_at upd_same h1 h2) (none_of_cut s3 nl h1 h2)
end
end Lk

set_option maxHeartbeats 4000000
namespace Lk
open PySem PySem.Spec PyProof.Rows L2
/-! ### rows that a law draws -/
abbrev CS (d c : Addr) (H H' : Hp) : Prop := Same (cut d c H) (cut d c H')
structure Gd (rs : List Rw) (k : Nat) : Prop where
  ok : RowsOk rs
  fl : rs[0]? = some .fl
  sh : (rs.filter Rw.isSh).length ≤ k
  lv : ∀ r ∈ rs, r.lev ≤ 12
theorem Gd.put {rs : List Rw} {k k' : Nat} (h : Gd rs k) {r : Rw} (hr : r.ok rs.length) (hl : r.lev ≤ 12) (hk : k + (if r.isSh = true then 1 else 0) ≤ k') : Gd (rs ++ [r]) k' := by
  have hp : 0 < rs.length := (List.getElem?_eq_some_iff.mp h.fl).1
  refine ⟨rowsOk_snoc h.ok hr, by rw [List.getElem?_append_left hp]; exact h.fl, ?_, fun q hq => ?_⟩
  · rw [List.filter_append, List.length_append]
    have := h.sh
    have e : ([r].filter Rw.isSh).length = if r.isSh = true then 1 else 0 := by
      rw [List.filter_cons]
      cases r.isSh <;> rfl
    omega
  · rcases List.mem_append.mp hq with z | z
    · exact h.lv q z
    · rw [List.mem_singleton.mp z]
      exact hl
theorem RowsAt.cutL {d c l : Addr} {H : Hp} {o : HO} {zs xs : List V} {rs : List Rw} (hx : H l = some (.lst zs)) (h : RowsAt (cut d c H) xs rs) : RowsAt (cut d c (L2.upd H l o)) xs rs := by
  induction h with
  | nil => exact .nil
  | cons h _ ih =>
    obtain ⟨a, e, h⟩ := h
    refine .cons ⟨a, e, ?_⟩ ih
    have h1 := cut_same _ _ h
    have hne : a ≠ l := ne_x hx h1 (by simp)
    unfold cut at h ⊢
    split at h
    · cases h
    · rename_i hn
      rw [if_neg hn, upd_ne hne]
      exact h
def spSigns : Sp := fun vs H Q _ => ∃ (d c p : Addr) (ms : List Str) (M : Nat), vs = [.ref d, .ref p, nV M] ∧ Dw d c H ∧ (cut d c H) p = some (.lst (ms.map V.str)) ∧ 1 ≤ M ∧ M ≤ ms.length ∧ ms.length ≤ 4 ∧ ms.Nodup ∧ (∀ m ∈ ms, isMv m) ∧
  ∀ l (ls : List Str) H', Mv ls → ls.length ≤ M → (∀ z ∈ ls, z ∈ ms) → Dw d c H' → CS d c H H' → (cut d c H') l = some (.lst (ls.map V.str)) → H l = none → Q (.ref l) H'
def spAtoms : Sp := fun vs H Q _ => ∃ (d c s : Addr) (ws : List Str), vs = [.ref d, .ref s] ∧ Dw d c H ∧ (cut d c H) s = some (.lst (ws.map V.str)) ∧ 1 ≤ ws.length ∧ ws.length ≤ 20 ∧ (∀ m ∈ ws, isMv m) ∧
  ∀ l xs (rs : List Rw) H', Dw d c H' → CS d c H H' → H l = none → (cut d c H') l = some (.lst xs) → RowsAt (cut d c H') xs rs → Gd rs 0 → 3 ≤ rs.length → rs.length ≤ 5 → Q (.ref l) H'
def spAhead : Sp := fun vs H Q _ => ∃ (d c l : Addr) (xs : List V), vs = [.ref d, .ref l] ∧ Dw d c H ∧ (cut d c H) l = some (.lst xs) ∧ 1 ≤ xs.length ∧ xs.length ≤ 1000 ∧ ∀ (i : Nat) H', i < xs.length → Dw d c H' → CS d c H H' → Q (nV i) H'
def spMore : Sp := fun vs H Q _ => ∃ (d c l : Addr) (xs : List V), vs = [.ref d, .ref l] ∧ Dw d c H ∧ (cut d c H) l = some (.lst xs) ∧ 2 ≤ xs.length ∧ xs.length ≤ 1000 ∧
  ∀ q (r : Rw) H', r.ok xs.length → r.isSh = false → r.lev = 0 → Dw d c H' → CS d c H H' → (cut d c H') q = some (.tup r.vs) → Q (.ref q) H'
def spRowsL : Sp := fun vs H Q _ => ∃ (d c s : Addr) (ws : List Str) (b : Nat), vs = [.ref d, .ref s, nV b] ∧ Dw d c H ∧ (cut d c H) s = some (.lst (ws.map V.str)) ∧ 1 ≤ ws.length ∧ ws.length ≤ 20 ∧ (∀ m ∈ ws, isMv m) ∧ b ≤ 3 ∧
  ∀ l xs (rs : List Rw) H', Dw d c H' → CS d c H H' → H l = none → (cut d c H') l = some (.lst xs) → RowsAt (cut d c H') xs rs → Gd rs b → rs.length ≤ 5 + 3 * b → Q (.ref l) H'
theorem far8 {j : Nat} (hj : j < 8) : ∃ n : Nat, ([V.int 1, .int 1, .int 0, .int 1, .int 0, .int 2, .int 3, .int 1] : List V)[j]? = some (nV n) ∧ n ≤ 3 := by
  match j, hj with
  | 0, _ => exact ⟨1, rfl, by decide⟩
  | 1, _ => exact ⟨1, rfl, by decide⟩
  | 2, _ => exact ⟨0, rfl, by decide⟩
  | 3, _ => exact ⟨1, rfl, by decide⟩
  | 4, _ => exact ⟨0, rfl, by decide⟩
  | 5, _ => exact ⟨2, rfl, by decide⟩
  | 6, _ => exact ⟨3, rfl, by decide⟩
  | 7, _ => exact ⟨1, rfl, by decide⟩
theorem cut_put {d c a l : Addr} {H : Hp} {zs : List V} {xs : List V} {o : HO} (hl : H l = some (.lst zs)) (h : cut d c H a = some (.tup xs)) : cut d c (L2.upd H l o) a = some (.tup xs) := by
  have hne : a ≠ l := ne_x hl (cut_same _ _ h) (by simp)
  unfold cut at h ⊢
  split at h
  · cases h
  · rename_i hn
    rw [if_neg hn, upd_ne hne]
    exact h
theorem far9 {j : Nat} (hj : j < 8) {z : Nat} (hz : z ≤ 9) : ∃ n : Nat, ([V.int 0, .int 0, .int 0, .int 1, .int 1, .int 2, .int 3, nV z] : List V)[j]? = some (nV n) ∧ n ≤ 9 := by
  match j, hj with
  | 0, _ => exact ⟨0, rfl, by decide⟩
  | 1, _ => exact ⟨0, rfl, by decide⟩
  | 2, _ => exact ⟨0, rfl, by decide⟩
  | 3, _ => exact ⟨1, rfl, by decide⟩
  | 4, _ => exact ⟨1, rfl, by decide⟩
  | 5, _ => exact ⟨2, rfl, by decide⟩
  | 6, _ => exact ⟨3, rfl, by decide⟩
  | 7, _ => exact ⟨z, rfl, hz⟩
theorem erase_map {α β : Type} (f : α → β) : ∀ (l : List α) (k : Nat), (l.map f).eraseIdx k = (l.eraseIdx k).map f
  | [], _ => rfl
  | _ :: _, 0 => rfl
  | x :: r, k + 1 => congrArg (f x :: ·) (erase_map f r k)
theorem erase_perm {α : Type} : ∀ (l : List α) (k : Nat) (h : k < l.length), (l[k] :: l.eraseIdx k).Perm l
  | [], _, h => absurd h (by simp)
  | _ :: _, 0, _ => List.Perm.refl _
  | x :: r, k + 1, h => (List.Perm.swap x (r[k]'(by simpa using h)) (r.eraseIdx k)).trans (List.Perm.cons x (erase_perm r k (by simpa using h)))
section
variable {P : Program} {w : World} {K : PySem.W.Frag} {mg : Str → Option Value} {base : Heap} {cP cG cT : Addr} {f : Addr} {fd : FuncData} (T : Txt K w mg cP cG cT)
include T
theorem ok_law_atoms {C_law_draw : Cal P w K mg base "_law_draw" 1 ["state", "many"] spDraw} (F : FnP K "_law_atoms" "_law_atoms" s_law_atoms f fd) : FnOk P w K mg base CX0 2 f fd ["state", "some"] spAtoms := by
  refine okN F sc_law_atoms (fun vs H Q E h => ?_) (fun cdv A outer s H vs Q E hr h => ?_)
  · obtain ⟨d, c, s, ws, rfl, _⟩ := h
    rfl
  · obtain ⟨d, c, s, ws, rfl, hd, hs, w1, w2, wm, q⟩ := h
    refine ⟨_, (pss_cons (ps_set (i := 2) sc_law_atoms.nd rfl (Or.inl rfl) (pe_lst (pa_cons (pe_tup (pa_cons pe_str pa_nil)) pa_nil)))
      (pss_cons (ps_for PassesOwn.never rfl (pi_range1 rfl T.range_ (pa_cons (pe_op op_add pe_int (pe_cal C_law_draw hr (pa_cons (pv 0) (pa_cons pe_int pa_nil)))) pa_nil)) (pg_name (i := 3) sc_law_atoms.nd rfl (Or.inl rfl)) (pss_cons (ps_set (i := 4) sc_law_atoms.nd rfl (Or.inl rfl) (pe_ix (ixL K) (pe_lst (pa_cons pe_int (pa_cons pe_int (pa_cons pe_int (pa_cons pe_int (pa_cons pe_int (pa_cons pe_int (pa_cons pe_int (pa_cons pe_int pa_nil))))))))) (pe_op op_mul (pe_cal C_law_draw hr (pa_cons (pv 0) (pa_cons pe_int pa_nil))) (pe_callTy call_int1 (by rfl) T.int_ b_int (pa_cons (pe_cmpR op_gt (pv 3) pe_int (nomark _)) pa_nil))) (fun _ _ => rfl)))
      (pss_one (ps_expr (pe_bm PySem.F.plainAttrs_list PySem.F.slot_list_append PySem.F.type_list_append mt_append (pv 2) (pa_cons (pe_tup (pa_cons pe_str (pa_cons (pv 4) (pa_cons (pe_ix (ixL K) (pv 1) (pe_cal C_law_draw hr (pa_cons (pv 0) (pa_cons (pe_callB (lenS K) (by rfl) T.len_ b_len (pa_cons (pv 1) pa_nil)) pa_nil))) (fun _ _ => rfl)) pa_nil)))) pa_nil))))))
      (pss_one (ps_ret (pv 2))))), ?_⟩
    refine ⟨(by show 1 ≤ sizeLine; decide), fun a0 na0 => ?_⟩
    have s1 := same_new (o := .tup [.str "false"]) na0
    have ha0 := hd.new na0 (o := .tup [.str "false"])
    have hd1 := hd.mono s1
    have s1 := cut_mono (d := d) (c := c) s1
    generalize L2.upd H a0 (.tup [.str "false"]) = H1 at s1 ha0 hd1
    refine ⟨(by show 1 ≤ sizeLine; decide), fun l nl => ?_⟩
    obtain ⟨ld, lc⟩ := hd1.nd nl
    have nl0 := none_of_cut s1 nl ld lc
    have s2 := same_new (o := .lst [.ref a0]) nl
    have hl2 : (L2.upd H1 l (.lst [.ref a0])) l = some (.lst [.ref a0]) := upd_same
    have hd2 := hd1.mono s2
    have s2 := cut_mono (d := d) (c := c) s2
    have ha2 := s2 _ _ ha0
    have s2 := s1.trans s2
    show tSeq _ _ _ _ (L2.upd H1 l (.lst [.ref a0]))
    generalize L2.upd H1 l (.lst [.ref a0]) = H2 at s2 hl2 hd2 ha2
    clear s1 ha0 hd1 na0 nl
    refine ⟨_, rfl, d, c, 3, rfl, hd2, by decide, by decide, fun r H3 r0 r1 hd3 s3 => ⟨_, _, rfl, rfl, _, rfl, by omega, by omega, ?_⟩⟩
    have hl3 := keepC s3 hl2 ld lc
    have ha3 := s3 _ _ ha2
    have s3 := s2.trans s3
    refine for_it (walk_range (lo := 0) (n := (2 + r).toNat)) (fun i σ H' => Dw d c H' ∧ CS d c H H' ∧ (∃ u v, σ = [some (.ref d), some (.ref s), some (.ref l), u, v]) ∧ ∃ xs rs, H' l = some (.lst xs) ∧ RowsAt (cut d c H') xs rs ∧ Gd rs 0 ∧ rs.length = 1 + i)
      ⟨hd3, s3, ⟨_, _, rfl⟩, [.ref a0], [.fl], hl3, .cons ⟨a0, rfl, ha3⟩ .nil, ⟨fun i r e => by cases i with | zero => cases e; trivial | succ i => simp at e, rfl, by decide, fun r hr => by rw [List.mem_singleton.mp hr]; decide⟩, rfl⟩ (fun i σ H' hi h => trivial) (fun i x σ H9 H4 hi h y => ?_) (fun σ H4 h => ?_)
    · obtain ⟨hd4, s4, ⟨u, v, rfl⟩, xs, rs, hl4, hrs4, gd, hrl⟩ := h
      obtain ⟨rfl, hx⟩ := y
      have hx : x = nV i := by
        rw [hx]
        show V.int (0 + (i : Int)) = _
        rw [Int.zero_add]
      subst hx
      refine ⟨(by show 8 ≤ sizeLine; decide), fun F0 nF => ?_⟩
      obtain ⟨fd1, fc1⟩ := hd4.nd nF
      have sF := same_new (o := .lst [.int 1, .int 1, .int 0, .int 1, .int 0, .int 2, .int 3, .int 1]) nF
      have hF0 : (L2.upd H4 F0 (.lst [.int 1, .int 1, .int 0, .int 1, .int 0, .int 2, .int 3, .int 1])) F0 = some (.lst [.int 1, .int 1, .int 0, .int 1, .int 0, .int 2, .int 3, .int 1]) := upd_same
      have hd5 := hd4.mono sF
      have hl5 := sF _ _ hl4
      have sF := cut_mono (d := d) (c := c) sF
      generalize L2.upd H4 F0 (.lst [.int 1, .int 1, .int 0, .int 1, .int 0, .int 2, .int 3, .int 1]) = H5 at sF hF0 hd5 hl5
      refine ⟨_, rfl, d, c, 8, rfl, hd5, by decide, by decide, fun z H6 z0 z1 hd6 s6 => ?_⟩
      have hF6 := keepC s6 hF0 fd1 fc1
      have hl6 := keepC s6 hl5 ld lc
      have s6 := sF.trans s6
      have hrs6 := hrs4.mono s6
      have s6 := s4.trans s6
      refine ⟨_, rfl, _, _, rfl, rfl, .inr ⟨_, rfl, ?_⟩⟩
      generalize decide ((0 : Int) < ((i : Nat) : Int)) = bk
      obtain ⟨j, hj, hj8⟩ : ∃ j : Nat, z * (if bk = true then 1 else 0) = (j : Int) ∧ j < 8 := by
        cases bk with
        | true =>
          refine ⟨z.toNat, ?_, by omega⟩
          show z * 1 = _
          omega
        | false =>
          refine ⟨0, ?_, by omega⟩
          show z * 0 = _
          omega
      obtain ⟨n, hn, hn3⟩ := far8 hj8
      refine ⟨_, _, rfl, rfl, .inl ⟨by omega, by omega⟩, F0, _, _, nV n, rfl, rfl, .inl (.inl hF6), by rw [hj]; exact atI_nat hn, ?_⟩
      have hs6 := s6 _ _ hs
      refine ⟨_, rfl, .inl ⟨rfl, _, .inl (.inl hl6)⟩, _, rfl, _, rfl, _, rfl, _, rfl, s, _, rfl, .inl (.inl (.inl (cut_same _ _ hs6))), d, c, _, rfl, hd6, by rw [List.length_map]; omega, by rw [List.length_map]; omega, fun k H7 k0 k1 hd7 s7 => ?_⟩
      obtain ⟨k, rfl⟩ : ∃ k' : Nat, k = (k' : Int) := ⟨_, (Int.toNat_of_nonneg k0).symm⟩
      rw [List.length_map] at k1
      have hk : k < ws.length := by omega
      have hl7 := keepC s7 hl6 ld lc
      have hrs7 := hrs6.mono s7
      have s7 := s6.trans s7
      have hs7 := s7 _ _ hs
      refine ⟨s, _, _, .str ws[k], rfl, rfl, .inl (.inl (cut_same _ _ hs7)), atI_nat (by rw [List.getElem?_map, List.getElem?_eq_getElem hk]; rfl), (by show 3 ≤ sizeLine; decide), fun ra nra => ?_⟩
      have s8 := same_new (o := .tup [.str "does", nV n, .str ws[k]]) nra
      have ha8 := hd7.new nra (o := .tup [.str "does", nV n, .str ws[k]])
      have hl8 := s8 _ _ hl7
      have hd8 := hd7.mono s8
      have s8 := cut_mono (d := d) (c := c) s8
      have hrs8 := hrs7.mono s8
      have s8 := s7.trans s8
      generalize L2.upd H7 ra (.tup [.str "does", nV n, .str ws[k]]) = H8 at s8 ha8 hl8 hd8 hrs8
      have hxl := hrs8.len
      have hi' : i < 5 := by omega
      refine ⟨l, xs, _, rfl, rfl, hl8, sz_lt (by omega), ?_⟩
      have hrsA := hrs8.cutL (o := .lst (xs ++ [.ref ra])) hl8
      have haA : (cut d c (L2.upd H8 l (.lst (xs ++ [.ref ra])))) ra = some (.tup (Rw.vs (.ds n ws[k]))) := by
        have hne : ra ≠ l := ne_x hl8 (cut_same _ _ ha8) (by simp)
        unfold cut at ha8 ⊢
        split at ha8
        · cases ha8
        · rename_i hn
          rw [if_neg hn, upd_ne hne]
          exact ha8
      refine ⟨hd8.upd ld lc, cut_mut s8 nl0, ⟨_, _, rfl⟩, xs ++ [.ref ra], rs ++ [.ds n ws[k]], upd_same, paired_snoc hrsA ⟨ra, rfl, haA⟩, gd.put (r := .ds n ws[k]) ⟨hn3, wm _ (List.getElem_mem hk)⟩ (by show 0 ≤ 12; decide) (by show 0 + (if false = true then 1 else 0) ≤ 0; decide), by simp [hrl]; omega⟩
    · obtain ⟨hd4, s4, ⟨u, v, rfl⟩, xs, rs, hl4, hrs4, gd, hrl⟩ := h
      exact ⟨_, rfl, q l xs rs H4 hd4 s4 nl0 (cut_at hl4 ld lc) hrs4 gd (by omega) (by omega)⟩
theorem ok_law_ahead {C_law_draw : Cal P w K mg base "_law_draw" 1 ["state", "many"] spDraw} (F : FnP K "_law_ahead" "_law_ahead" s_law_ahead f fd) : FnOk P w K mg base CX0 2 f fd ["state", "rows"] spAhead := by
  refine okN F sc_law_ahead (fun vs H Q E h => ?_) (fun cdv A outer s H vs Q E hr h => ?_)
  · obtain ⟨d, c, l, xs, rfl, _⟩ := h
    rfl
  · obtain ⟨d, c, l, xs, rfl, hd, hl, x1, x2, q⟩ := h
    refine ⟨_, (pss_one (ps_ret (pe_ix (ixL K) (pe_lst (pa_cons (pe_op op_sub (pe_callB (lenS K) (by rfl) T.len_ b_len (pa_cons (pv 1) pa_nil)) pe_int) (pa_cons (pe_cal C_law_draw hr (pa_cons (pv 0) (pa_cons (pe_callB (lenS K) (by rfl) T.len_ b_len (pa_cons (pv 1) pa_nil)) pa_nil))) pa_nil))) (pe_cal C_law_draw hr (pa_cons (pv 0) (pa_cons pe_int pa_nil))) (fun _ _ => rfl)))), ?_⟩
    refine ⟨_, rfl, l, _, rfl, .inl (.inl (.inl (cut_same _ _ hl))), _, _, rfl, rfl, _, rfl, _, rfl, l, _, rfl, .inl (.inl (.inl (cut_same _ _ hl))), d, c, _, rfl, hd, by omega, by omega, fun k H1 k0 k1 hd1 s1 => ?_⟩
    refine ⟨(by show 2 ≤ sizeLine; decide), fun F0 nF => ?_⟩
    obtain ⟨fd1, fc1⟩ := hd1.nd nF
    have sF := same_new (o := .lst [.int ((xs.length : Int) - 1), .int k]) nF
    have hF0 : (L2.upd H1 F0 (.lst [.int ((xs.length : Int) - 1), .int k])) F0 = some (.lst [.int ((xs.length : Int) - 1), .int k]) := upd_same
    have hd2 := hd1.mono sF
    have sF := s1.trans (cut_mono (d := d) (c := c) sF)
    generalize L2.upd H1 F0 (.lst [.int ((xs.length : Int) - 1), .int k]) = H2 at sF hF0 hd2
    refine ⟨_, rfl, d, c, 2, rfl, hd2, by decide, by decide, fun r H3 r0 r1 hd3 s3 => ?_⟩
    have hF3 := keepC s3 hF0 fd1 fc1
    have s3 := sF.trans s3
    obtain ⟨i, hi, e⟩ : ∃ i : Nat, i < xs.length ∧ atI ([.int ((xs.length : Int) - 1), .int k] : List V) r = some (nV i) := by
      rcases (show r = 0 ∨ r = 1 by omega) with rfl | rfl
      · refine ⟨xs.length - 1, by omega, ?_⟩
        have : ((xs.length : Int) - 1) = ((xs.length - 1 : Nat) : Int) := by omega
        rw [this]
        exact atI_nat (j := 0) rfl
      · refine ⟨k.toNat, by omega, ?_⟩
        have : k = ((k.toNat : Nat) : Int) := by omega
        rw [this]
        exact atI_nat (j := 1) rfl
    exact ⟨F0, _, _, _, rfl, rfl, .inl (.inl hF3), e, q i H3 hi hd3 s3⟩
theorem ok_law_more {C_law_draw : Cal P w K mg base "_law_draw" 1 ["state", "many"] spDraw} {C_law_ahead : Cal P w K mg base "_law_ahead" 2 ["state", "rows"] spAhead} (F : FnP K "_law_more" "_law_more" s_law_more f fd) : FnOk P w K mg base CX0 3 f fd ["state", "rows"] spMore := by
  refine okN F sc_law_more (fun vs H Q E h => ?_) (fun cdv A outer s H vs Q E hr h => ?_)
  · obtain ⟨d, c, l, xs, rfl, _⟩ := h
    rfl
  · obtain ⟨d, c, l, xs, rfl, hd, hl, x1, x2, q⟩ := h
    refine ⟨_, (pss_cons (ps_par3 (i := 2) (j := 3) (l := 4) rfl sc_law_more.nd rfl rfl rfl (by decide) (by decide) (by decide) rfl rfl rfl (pa_cons (pe_cal C_law_draw hr (pa_cons (pv 0) (pa_cons pe_int pa_nil))) (pa_cons (pe_cal C_law_ahead hr (pa_cons (pv 0) (pa_cons (pv 1) pa_nil))) (pa_cons (pe_op op_add pe_int (pe_cal C_law_draw hr (pa_cons (pv 0) (pa_cons (pe_op op_sub (pe_callB (lenS K) (by rfl) T.len_ b_len (pa_cons (pv 1) pa_nil)) pe_int) pa_nil)))) pa_nil))) (by rfl))
      (pss_one (ps_ret (pe_ix (ixL K) (pe_lst (pa_cons (pe_tup (pa_cons pe_str (pa_cons (pv 3) pa_nil))) (pa_cons (pe_tup (pa_cons pe_str (pa_cons (pv 3) (pa_cons (pv 4) pa_nil)))) (pa_cons (pe_tup (pa_cons pe_str (pa_cons (pv 3) (pa_cons (pv 4) pa_nil)))) (pa_cons (pe_tup (pa_cons pe_str (pa_cons (pv 4) pa_nil))) pa_nil))))) (pv 2) (fun _ _ => rfl))))), ?_⟩
    refine ⟨_, rfl, d, c, 4, rfl, hd, by decide, by decide, fun way H1 w0 w1 hd1 s1 => ?_⟩
    refine ⟨_, rfl, _, rfl, d, c, l, xs, rfl, hd1, s1 _ _ hl, by omega, by omega, fun i H2 hi hd2 s2 => ?_⟩
    have s2 := s1.trans s2
    have hl2 := s2 _ _ hl
    refine ⟨_, rfl, _, rfl, l, _, rfl, .inl (.inl (.inl (cut_same _ _ hl2))), _, _, rfl, rfl, d, c, _, rfl, hd2, by omega, by omega, fun k H3 k0 k1 hd3 s3 => ?_⟩
    have s3 := s2.trans s3
    refine ⟨_, _, rfl, rfl, _, _, _, rfl, ?_⟩
    obtain ⟨j, hj, hjl⟩ : ∃ j : Nat, 1 + k = (j : Int) ∧ j < xs.length := ⟨(1 + k).toNat, by omega, by omega⟩
    dsimp only
    rw [hj]
    have w4 : way.toNat < 4 := by omega
    have ew : way = ((way.toNat : Nat) : Int) := by omega
    generalize way.toNat = wn at w4 ew
    subst ew
    refine ⟨_, rfl, (by show 2 ≤ sizeLine; decide), fun a1 n1 => ?_⟩
    have g1 := hd3.new n1 (o := .tup [.str "not", nV i])
    have z1 := same_new (o := .tup [.str "not", nV i]) n1
    have hd4 := hd3.mono z1
    have z1 := cut_mono (d := d) (c := c) z1
    generalize L2.upd H3 a1 (.tup [.str "not", nV i]) = H4 at g1 hd4 z1
    refine ⟨_, rfl, _, rfl, (by show 3 ≤ sizeLine; decide), fun a2 n2 => ?_⟩
    have g2 := hd4.new n2 (o := .tup [.str "and", nV i, nV j])
    have z2 := same_new (o := .tup [.str "and", nV i, nV j]) n2
    have hd5 := hd4.mono z2
    have z2 := cut_mono (d := d) (c := c) z2
    have g1 := z2 _ _ g1
    generalize L2.upd H4 a2 (.tup [.str "and", nV i, nV j]) = H5 at g1 g2 hd5 z2
    refine ⟨_, rfl, _, rfl, (by show 3 ≤ sizeLine; decide), fun a3 n3 => ?_⟩
    have g3 := hd5.new n3 (o := .tup [.str "or", nV i, nV j])
    have z3 := same_new (o := .tup [.str "or", nV i, nV j]) n3
    have hd6 := hd5.mono z3
    have z3 := cut_mono (d := d) (c := c) z3
    have g1 := z3 _ _ g1
    have g2 := z3 _ _ g2
    generalize L2.upd H5 a3 (.tup [.str "or", nV i, nV j]) = H6 at g1 g2 g3 hd6 z3
    refine ⟨_, rfl, (by show 2 ≤ sizeLine; decide), fun a4 n4 => ?_⟩
    have g4 := hd6.new n4 (o := .tup [.str "not", nV j])
    have z4 := same_new (o := .tup [.str "not", nV j]) n4
    have hd7 := hd6.mono z4
    have z4 := cut_mono (d := d) (c := c) z4
    have g1 := z4 _ _ g1
    have g2 := z4 _ _ g2
    have g3 := z4 _ _ g3
    generalize L2.upd H6 a4 (.tup [.str "not", nV j]) = H7 at g1 g2 g3 g4 hd7 z4
    refine ⟨(by show 4 ≤ sizeLine; decide), fun F0 nF => ?_⟩
    have z5 := same_new (o := .lst [.ref a1, .ref a2, .ref a3, .ref a4]) nF
    have hF : (L2.upd H7 F0 (.lst [.ref a1, .ref a2, .ref a3, .ref a4])) F0 = some (.lst [.ref a1, .ref a2, .ref a3, .ref a4]) := upd_same
    have hd8 := hd7.mono z5
    have z5 := cut_mono (d := d) (c := c) z5
    have g1 := z5 _ _ g1
    have g2 := z5 _ _ g2
    have g3 := z5 _ _ g3
    have g4 := z5 _ _ g4
    have sZ : CS d c H (L2.upd H7 F0 (.lst [.ref a1, .ref a2, .ref a3, .ref a4])) := ((((s3.trans z1).trans z2).trans z3).trans z4).trans z5
    generalize L2.upd H7 F0 (.lst [.ref a1, .ref a2, .ref a3, .ref a4]) = H8 at g1 g2 g3 g4 hd8 sZ hF
    obtain ⟨a, r, h1, h2, h3, h4, h5⟩ : ∃ a r, ([V.ref a1, .ref a2, .ref a3, .ref a4] : List V)[wn]? = some (.ref a) ∧ Rw.ok xs.length r ∧ r.isSh = false ∧ r.lev = 0 ∧ (cut d c H8) a = some (.tup r.vs) := by
      match wn, w4 with
      | 0, _ => exact ⟨a1, .ng i, rfl, hi, rfl, rfl, g1⟩
      | 1, _ => exact ⟨a2, .cj i j, rfl, ⟨hi, hjl⟩, rfl, rfl, g2⟩
      | 2, _ => exact ⟨a3, .dj i j, rfl, ⟨hi, hjl⟩, rfl, rfl, g3⟩
      | 3, _ => exact ⟨a4, .ng j, rfl, hjl, rfl, rfl, g4⟩
    exact ⟨_, rfl, F0, _, _, _, rfl, rfl, .inl (.inl hF), atI_nat h1, q a r H8 h2 h3 h4 hd8 sZ h5⟩
theorem ok_law_rows {C_law_draw : Cal P w K mg base "_law_draw" 1 ["state", "many"] spDraw} {C_law_atoms : Cal P w K mg base "_law_atoms" 2 ["state", "some"] spAtoms} {C_law_more : Cal P w K mg base "_law_more" 3 ["state", "rows"] spMore} (F : FnP K "_law_rows" "_law_rows" s_law_rows f fd) : FnOk P w K mg base CX0 4 f fd ["state", "some", "blocks"] spRowsL := by
  refine okN F sc_law_rows (fun vs H Q E h => ?_) (fun cdv A outer s H vs Q E hr h => ?_)
  · obtain ⟨d, c, s, ws, b, rfl, _⟩ := h
    rfl
  · obtain ⟨d, c, s, ws, b, rfl, hd, hs, w1, w2, wm, hb, q⟩ := h
    refine ⟨_, (pss_cons (ps_set (i := 3) sc_law_rows.nd rfl (Or.inl rfl) (pe_cal C_law_atoms hr (pa_cons (pv 0) (pa_cons (pv 1) pa_nil))))
      (pss_cons (ps_for PassesOwn.never rfl (pi_range1 rfl T.range_ (pa_cons (pv 2) pa_nil)) (pg_name (i := 4) sc_law_rows.nd rfl (Or.inl rfl)) (pss_cons (ps_for PassesOwn.never rfl (pi_range1 rfl T.range_ (pa_cons (pe_cal C_law_draw hr (pa_cons (pv 0) (pa_cons pe_int pa_nil))) pa_nil)) (pg_name (i := 5) sc_law_rows.nd rfl (Or.inl rfl)) (pss_one (ps_expr (pe_bm PySem.F.plainAttrs_list PySem.F.slot_list_append PySem.F.type_list_append mt_append (pv 3) (pa_cons (pe_cal C_law_more hr (pa_cons (pv 0) (pa_cons (pv 3) pa_nil))) pa_nil)))))
      (pss_cons (ps_set (i := 6) sc_law_rows.nd rfl (Or.inl rfl) (pe_ix (ixL K) (pe_lst (pa_cons pe_int (pa_cons pe_int (pa_cons pe_int (pa_cons pe_int (pa_cons pe_int (pa_cons pe_int (pa_cons pe_int (pa_cons (pe_cal C_law_draw hr (pa_cons (pv 0) (pa_cons pe_int pa_nil))) pa_nil))))))))) (pe_cal C_law_draw hr (pa_cons (pv 0) (pa_cons pe_int pa_nil))) (fun _ _ => rfl)))
      (pss_one (ps_expr (pe_bm PySem.F.plainAttrs_list PySem.F.slot_list_append PySem.F.type_list_append mt_append (pv 3) (pa_cons (pe_tup (pa_cons pe_str (pa_cons (pv 6) (pa_cons (pe_ix (ixL K) (pe_lst (pa_cons (pe_op op_sub (pe_callB (lenS K) (by rfl) T.len_ b_len (pa_cons (pv 3) pa_nil)) pe_int) (pa_cons (pe_op op_add pe_int (pe_cal C_law_draw hr (pa_cons (pv 0) (pa_cons (pe_op op_sub (pe_callB (lenS K) (by rfl) T.len_ b_len (pa_cons (pv 3) pa_nil)) pe_int) pa_nil)))) pa_nil))) (pe_op op_fdivN (pe_cal C_law_draw hr (pa_cons (pv 0) (pa_cons pe_int pa_nil))) pe_int) (fun _ _ => rfl)) pa_nil)))) pa_nil)))))))
      (pss_one (ps_ret (pv 3))))), ?_⟩
    refine ⟨_, rfl, _, rfl, d, c, s, ws, rfl, hd, hs, w1, w2, wm, fun l xs0 rs0 H1 hd1 s1 nl hl1 hrs1 gd1 q3 q5 => ?_⟩
    obtain ⟨ld, lc⟩ : l ≠ d ∧ l ≠ c := by
      constructor
      · rintro rfl; unfold cut at hl1; simp at hl1
      · rintro rfl; unfold cut at hl1; simp at hl1
    have hl1 := cut_same _ _ hl1
    refine ⟨_, rfl, b, rfl, by omega, by omega, ?_⟩
    refine for_it (walk_range (lo := 0) (n := b)) (fun i σ H' => Dw d c H' ∧ CS d c H H' ∧ (∃ u v t, σ = [some (.ref d), some (.ref s), some (nV b), some (.ref l), u, v, t]) ∧ ∃ xs rs, H' l = some (.lst xs) ∧ RowsAt (cut d c H') xs rs ∧ Gd rs i ∧ 3 ≤ rs.length ∧ rs.length ≤ 5 + 3 * i)
      ⟨hd1, s1, ⟨_, _, _, rfl⟩, xs0, rs0, hl1, hrs1, gd1, q3, q5⟩ (fun i σ H' hi h => trivial) (fun i x σ H9 H2 hi h y => ?_) (fun σ H2 h => ?_)
    · obtain ⟨hd2, s2, ⟨u, v, t, rfl⟩, xs, rs, hl2, hrs2, gd, rl1, rl2⟩ := h
      obtain ⟨rfl, hx⟩ := y
      refine ⟨_, rfl, d, c, 3, rfl, hd2, by decide, by decide, fun r H3 r0 r1 hd3 s3 => ⟨_, rfl, by omega, by omega, ?_⟩⟩
      have hl3 := keepC s3 hl2 ld lc
      have hrs3 := hrs2.mono s3
      have s3 := s2.trans s3
      refine for_it (walk_range (lo := 0) (n := r.toNat)) (fun m σ H' => Dw d c H' ∧ CS d c H H' ∧ (∃ u v t, σ = [some (.ref d), some (.ref s), some (nV b), some (.ref l), u, v, t]) ∧ ∃ xs rs, H' l = some (.lst xs) ∧ RowsAt (cut d c H') xs rs ∧ Gd rs i ∧ 3 ≤ rs.length ∧ rs.length ≤ 5 + 3 * i + m)
        ⟨hd3, s3, ⟨_, _, _, rfl⟩, xs, rs, hl3, hrs3, gd, rl1, rl2⟩ (fun m σ H' hi h => trivial) (fun m x σ H9 H4 hm h y => ?_) (fun σ H4 h => ?_)
      · obtain ⟨hd4, s4, ⟨u, v, t, rfl⟩, xs, rs, hl4, hrs4, gd, rl1, rl2⟩ := h
        obtain ⟨rfl, hx⟩ := y
        have hxl := hrs4.len
        refine ⟨_, rfl, .inl ⟨rfl, _, .inl (.inl hl4)⟩, _, rfl, _, rfl, d, c, l, xs, rfl, hd4, cut_at hl4 ld lc, by omega, by omega, fun ra rw H5 ok5 ns5 lv5 hd5 s5 hra => ?_⟩
        have hl5 := keepC s5 hl4 ld lc
        have hrs5 := hrs4.mono s5
        have s5 := s4.trans s5
        refine ⟨l, xs, _, rfl, rfl, hl5, sz_lt (by omega), ?_⟩
        exact ⟨hd5.upd ld lc, cut_mut s5 nl, ⟨_, _, _, rfl⟩, xs ++ [.ref ra], rs ++ [rw], upd_same, paired_snoc (hrs5.cutL hl5) ⟨ra, rfl, cut_put hl5 hra⟩, gd.put (by rw [← hxl]; exact ok5) (by omega) (by rw [ns5]; show i + 0 ≤ i; omega), by simp; omega, by simp; omega⟩
      · obtain ⟨hd4, s4, ⟨u, v, t, rfl⟩, xs, rs, hl4, hrs4, gd, rl1, rl2⟩ := h
        have hxl := hrs4.len
        refine ⟨_, rfl, d, c, 10, rfl, hd4, by decide, by decide, fun z H5 z0 z1 hd5 s5 => ?_⟩
        have hl5 := keepC s5 hl4 ld lc
        have hrs5 := hrs4.mono s5
        have s5 := s4.trans s5
        obtain ⟨zn, rfl⟩ : ∃ zn : Nat, z = (zn : Int) := ⟨_, (Int.toNat_of_nonneg z0).symm⟩
        refine ⟨(by show 8 ≤ sizeLine; decide), fun F0 nF => ?_⟩
        obtain ⟨fd1, fc1⟩ := hd5.nd nF
        have sF := same_new (o := .lst [.int 0, .int 0, .int 0, .int 1, .int 1, .int 2, .int 3, nV zn]) nF
        have hF0 : (L2.upd H5 F0 (.lst [.int 0, .int 0, .int 0, .int 1, .int 1, .int 2, .int 3, nV zn])) F0 = some (.lst [.int 0, .int 0, .int 0, .int 1, .int 1, .int 2, .int 3, nV zn]) := upd_same
        have hd6 := hd5.mono sF
        have hl6 := sF _ _ hl5
        have sF := cut_mono (d := d) (c := c) sF
        have hrs6 := hrs5.mono sF
        have s6 := s5.trans sF
        generalize L2.upd H5 F0 (.lst [.int 0, .int 0, .int 0, .int 1, .int 1, .int 2, .int 3, nV zn]) = H6 at hF0 hd6 hl6 hrs6 s6
        refine ⟨_, rfl, d, c, 8, rfl, hd6, by decide, by decide, fun jj H7 j0 j1 hd7 s7 => ?_⟩
        obtain ⟨jn, rfl⟩ : ∃ jn : Nat, jj = (jn : Int) := ⟨_, (Int.toNat_of_nonneg j0).symm⟩
        obtain ⟨n, hn, hn9⟩ := far9 (j := jn) (z := zn) (by omega) (by omega)
        have hF7 := keepC s7 hF0 fd1 fc1
        have hl7 := keepC s7 hl6 ld lc
        have hrs7 := hrs6.mono s7
        have s7 := s6.trans s7
        refine ⟨F0, _, _, nV n, rfl, rfl, .inl (.inl hF7), atI_nat hn, ?_⟩
        refine ⟨_, rfl, .inl ⟨rfl, _, .inl (.inl hl7)⟩, _, rfl, _, rfl, l, _, rfl, .inl (.inl (.inl hl7)), _, _, rfl, rfl, _, rfl, _, rfl, l, _, rfl, .inl (.inl (.inl hl7)), _, _, rfl, rfl, d, c, _, rfl, hd7, by omega, by omega, fun k H8 k0 k1 hd8 s8 => ?_⟩
        have hl8 := keepC s8 hl7 ld lc
        have hrs8 := hrs7.mono s8
        have s8 := s7.trans s8
        refine ⟨_, _, rfl, rfl, (by show 2 ≤ sizeLine; decide), fun F1 nF1 => ?_⟩
        obtain ⟨fd2, fc2⟩ := hd8.nd nF1
        have sG := same_new (o := .lst [.int ((xs.length : Int) - 1), .int (1 + k)]) nF1
        have hF9 : (L2.upd H8 F1 (.lst [.int ((xs.length : Int) - 1), .int (1 + k)])) F1 = some (.lst [.int ((xs.length : Int) - 1), .int (1 + k)]) := upd_same
        have hd9 := hd8.mono sG
        have hl9 := sG _ _ hl8
        have sG := cut_mono (d := d) (c := c) sG
        have hrs9 := hrs8.mono sG
        have s9 := s8.trans sG
        generalize L2.upd H8 F1 (.lst [.int ((xs.length : Int) - 1), .int (1 + k)]) = H9 at hF9 hd9 hl9 hrs9 s9
        refine ⟨_, rfl, d, c, 3, rfl, hd9, by decide, by decide, fun t3 HA t0 t1 hdA sA => ?_⟩
        have hFA := keepC sA hF9 fd2 fc2
        have hlA := keepC sA hl9 ld lc
        have hrsA := hrs9.mono sA
        have sA := s9.trans sA
        obtain ⟨inn, hinn, ei⟩ : ∃ i : Nat, i < xs.length ∧ atI ([.int ((xs.length : Int) - 1), .int (1 + k)] : List V) (t3.fdiv 2) = some (nV i) := by
          rcases (show t3.fdiv 2 = 0 ∨ t3.fdiv 2 = 1 by rcases (show t3 = 0 ∨ t3 = 1 ∨ t3 = 2 by omega) with rfl | rfl | rfl <;> decide) with e | e <;> rw [e]
          · refine ⟨xs.length - 1, by omega, ?_⟩
            have : ((xs.length : Int) - 1) = ((xs.length - 1 : Nat) : Int) := by omega
            rw [this]
            exact atI_nat (j := 0) rfl
          · refine ⟨(1 + k).toNat, by omega, ?_⟩
            have : 1 + k = (((1 + k).toNat : Nat) : Int) := by omega
            rw [this]
            exact atI_nat (j := 1) rfl
        refine ⟨_, _, rfl, rfl, ⟨by decide, by decide⟩, F1, _, _, nV inn, rfl, rfl, .inl (.inl hFA), ei, (by show 3 ≤ sizeLine; decide), fun ra nra => ?_⟩
        have gR := hdA.new nra (o := .tup [.str "shown", nV n, nV inn])
        have sR := same_new (o := .tup [.str "shown", nV n, nV inn]) nra
        have hdB := hdA.mono sR
        have hlB := sR _ _ hlA
        have sR := cut_mono (d := d) (c := c) sR
        have hrsB := hrsA.mono sR
        have sB := sA.trans sR
        generalize L2.upd HA ra (.tup [.str "shown", nV n, nV inn]) = HB at gR hdB hlB hrsB sB
        refine ⟨l, xs, _, rfl, rfl, hlB, sz_lt (by omega), ?_⟩
        have hR : RowsAt (cut d c (L2.upd HB l (.lst (xs ++ [.ref ra])))) (xs ++ [.ref ra]) (rs ++ [Rw.sh n inn]) := paired_snoc (hrsB.cutL hlB) ⟨ra, rfl, cut_put (xs := Rw.vs (.sh n inn)) hlB gR⟩
        exact ⟨hdB.upd ld lc, cut_mut sB nl, ⟨_, _, _, rfl⟩, xs ++ [.ref ra], rs ++ [Rw.sh n inn], upd_same, hR, gd.put (r := .sh n inn) ⟨by omega, by omega⟩ (by show n ≤ 12; omega) (by show i + 1 ≤ i + 1; omega), by simp; omega, by simp; omega⟩
    · obtain ⟨hd2, s2, ⟨u, v, t, rfl⟩, xs, rs, hl2, hrs2, gd, rl1, rl2⟩ := h
      exact ⟨_, rfl, q l xs rs H2 hd2 s2 nl (cut_at hl2 ld lc) hrs2 gd rl2⟩
theorem ok_law_signs {C_law_draw : Cal P w K mg base "_law_draw" 1 ["state", "many"] spDraw} (F : FnP K "_law_signs" "_law_signs" s_law_signs f fd) : FnOk P w K mg base CX0 2 f fd ["state", "pool", "many"] spSigns := by
  refine okN F sc_law_signs (fun vs H Q E h => ?_) (fun cdv A outer s H vs Q E hr h => ?_)
  · obtain ⟨d, c, p, ms, M, rfl, _⟩ := h
    rfl
  · obtain ⟨d, c, p, ms, M, rfl, hd, hp, m1, m2, m4, nd, mm, q⟩ := h
    refine ⟨_, (pss_cons (ps_par (i := 3) (j := 4) (by rfl) sc_law_signs.nd rfl rfl (by decide) rfl rfl (pa_cons (pe_callTy (lstS K) (by rfl) T.list_ b_list (pa_cons (pe_slice (slL K) (pv 1) po_none (po_some (pv 2))) pa_nil)) (pa_cons (pe_lst pa_nil) pa_nil)) (by rfl))
      (pss_cons (ps_for PassesOwn.never rfl (pi_range1 rfl T.range_ (pa_cons (pe_op op_add pe_int (pe_cal C_law_draw hr (pa_cons (pv 0) (pa_cons (pv 2) pa_nil)))) pa_nil)) (pg_name (i := 5) sc_law_signs.nd rfl (Or.inl rfl)) (pss_one (ps_expr (pe_bm PySem.F.plainAttrs_list PySem.F.slot_list_append PySem.F.type_list_append mt_append (pv 4) (pa_cons (pe_bm PySem.F.plainAttrs_list PySem.F.slot_list_pop PySem.F.type_list_pop mt_popAt (pv 3) (pa_cons (pe_cal C_law_draw hr (pa_cons (pv 0) (pa_cons (pe_callB (lenS K) (by rfl) T.len_ b_len (pa_cons (pv 3) pa_nil)) pa_nil))) pa_nil)) pa_nil)))))
      (pss_one (ps_ret (pv 4))))), ?_⟩
    refine ⟨_, rfl, _, rfl, _, rfl, p, _, rfl, .inl (.inl (cut_same _ _ hp)), fun c1 nc1 => ?_⟩
    have e2 : cutV (ms.map V.str) none (some ((M : Nat) : Int)) = (ms.take M).map V.str := by
      have := cut_up (ms.map V.str) M
      rw [← List.map_take] at this
      exact this
    rw [e2]
    have s1 := same_new (o := .lst ((ms.take M).map V.str)) nc1
    have g1 : (L2.upd H c1 (.lst ((ms.take M).map V.str))) c1 = some (.lst ((ms.take M).map V.str)) := upd_same
    have hd1 := hd.mono s1
    have s1 := cut_mono (d := d) (c := c) s1
    generalize L2.upd H c1 (.lst ((ms.take M).map V.str)) = H1 at s1 g1 hd1
    refine ⟨c1, _, rfl, .inl (.inl (.inl g1)), fun le nle => ?_⟩
    obtain ⟨ed, ec⟩ := hd1.nd nle
    have nle0 := none_of_cut s1 nle ed ec
    have s2 := same_new (o := .lst ((ms.take M).map V.str)) nle
    have g2 : (L2.upd H1 le (.lst ((ms.take M).map V.str))) le = some (.lst ((ms.take M).map V.str)) := upd_same
    have hd2 := hd1.mono s2
    have s2 := s1.trans (cut_mono (d := d) (c := c) s2)
    generalize L2.upd H1 le (.lst ((ms.take M).map V.str)) = H2 at s2 g2 hd2
    refine ⟨(by show 0 ≤ sizeLine; decide), fun fo nfo => ?_⟩
    obtain ⟨od, oc⟩ := hd2.nd nfo
    have nfo0 := none_of_cut s2 nfo od oc
    have ne : le ≠ fo := fun e => by rw [e, nfo] at g2; cases g2
    have s3 := same_new (o := .lst []) nfo
    have g3 : (L2.upd H2 fo (.lst [])) fo = some (.lst []) := upd_same
    have g2 := s3 _ _ g2
    have hd3 := hd2.mono s3
    have s3 := s2.trans (cut_mono (d := d) (c := c) s3)
    generalize L2.upd H2 fo (.lst []) = H3 at s3 g2 g3 hd3
    refine ⟨_, _, rfl, ?_⟩
    refine ⟨_, rfl, _, rfl, d, c, ((M : Nat) : Int), rfl, hd3, by omega, by omega, fun r H4 r0 r1 hd4 s4 => ⟨_, _, rfl, rfl, _, rfl, by omega, by omega, ?_⟩⟩
    have g2 := keepC s4 g2 ed ec
    have g3 := keepC s4 g3 od oc
    have s4 := s3.trans s4
    refine for_it (walk_range (lo := 0) (n := (1 + r).toNat)) (fun i σ H' => Dw d c H' ∧ CS d c H H' ∧ (∃ u, σ = [some (.ref d), some (.ref p), some (nV M), some (.ref le), some (.ref fo), u]) ∧ ∃ fs ls : List Str, H' le = some (.lst (ls.map V.str)) ∧ H' fo = some (.lst (fs.map V.str)) ∧ fs.length = i ∧ ls.length = M - i ∧ (fs ++ ls).Nodup ∧ ∀ z ∈ fs ++ ls, z ∈ ms)
      ⟨hd4, s4, ⟨_, rfl⟩, [], ms.take M, g2, g3, rfl, by rw [List.length_take]; omega, (List.take_sublist M ms).nodup nd, fun z hz => List.mem_of_mem_take hz⟩ (fun i σ H' hi h => trivial) (fun i x σ H9 H5 hi h y => ?_) (fun σ H5 h => ?_)
    · obtain ⟨hd5, s5, ⟨u, rfl⟩, fs, ls, h1, h2, fl, ll, fnd, fm⟩ := h
      obtain ⟨rfl, hx⟩ := y
      refine ⟨_, rfl, .inl ⟨rfl, _, .inl (.inl h2)⟩, _, rfl, .inl ⟨rfl, _, .inl (.inl h1)⟩, _, rfl, _, rfl, le, _, rfl, .inl (.inl (.inl h1)), d, c, _, rfl, hd5, by rw [List.length_map]; omega, by rw [List.length_map]; omega, fun k H6 k0 k1 hd6 s6 => ?_⟩
      obtain ⟨k, rfl⟩ : ∃ k' : Nat, k = (k' : Int) := ⟨_, (Int.toNat_of_nonneg k0).symm⟩
      rw [List.length_map] at k1
      have h1 := keepC s6 h1 ed ec
      have h2 := keepC s6 h2 od oc
      have s6 := s5.trans s6
      have hk : k < ls.length := by omega
      refine ⟨le, _, _, k, .str ls[k], rfl, rfl, h1, by omega, by omega, by rw [List.length_map, seqIndex_of (by omega) (by omega), Int.toNat_natCast], by rw [List.getElem?_map, List.getElem?_eq_getElem hk]; rfl, ?_⟩
      have eE : (ls.map V.str).eraseIdx k = (ls.eraseIdx k).map V.str := by rw [erase_map]
      rw [eE]
      have h2 : (L2.upd H6 le (.lst ((ls.eraseIdx k).map V.str))) fo = some (.lst (fs.map V.str)) := by rw [upd_ne ne.symm]; exact h2
      have h1 : (L2.upd H6 le (.lst ((ls.eraseIdx k).map V.str))) le = some (.lst ((ls.eraseIdx k).map V.str)) := upd_same
      have hd7 := hd6.upd (o := .lst ((ls.eraseIdx k).map V.str)) ed ec
      have s7 := cut_mut (o := .lst ((ls.eraseIdx k).map V.str)) s6 nle0
      generalize L2.upd H6 le (.lst ((ls.eraseIdx k).map V.str)) = H7 at h1 h2 hd7 s7
      refine ⟨fo, _, _, rfl, rfl, h2, by rw [List.length_map]; exact sz_lt (by omega), ?_⟩
      have pm : (fs ++ ls).Perm ((fs ++ [ls[k]]) ++ ls.eraseIdx k) := by
        rw [List.append_assoc]
        exact (List.perm_append_left_iff fs).mpr (erase_perm ls k hk).symm
      exact ⟨hd7.upd od oc, cut_mut s7 nfo0, ⟨_, rfl⟩, fs ++ [ls[k]], ls.eraseIdx k, by rw [upd_ne ne]; exact h1, by rw [upd_same, List.map_append]; rfl, by simp [fl], by rw [List.length_eraseIdx]; simp [hk]; omega, pm.nodup fnd, fun z hz => fm z (pm.mem_iff.mpr hz)⟩
    · obtain ⟨hd5, s5, ⟨u, rfl⟩, fs, ls, h1, h2, fl, ll, fnd, fm⟩ := h
      rw [List.nodup_append] at fnd
      exact ⟨_, rfl, q fo fs H5 ⟨by omega, by omega, fnd.1, fun m hm => mm m (fm m (List.mem_append_left _ hm))⟩ (by omega) (fun z hz => fm z (List.mem_append_left _ hz)) hd5 s5 (cut_at h2 od oc) nfo0⟩
end
end Lk

set_option maxHeartbeats 4000000
namespace Lk
open PySem PySem.Spec PyProof.Rows L2
/-! ### choices that a law draws -/
def Rw.isRef : Rw → Bool
  | .ng _ => true
  | .cj _ _ => true
  | .dj _ _ => true
  | _ => false
theorem ref_in (r : Rw) : inV (.str r.word) [.str "not", .str "and", .str "or"] = r.isRef := by
  cases r
  · show inV (.str "false") [.str "not", .str "and", .str "or"] = false; decide +kernel
  · show inV (.str "does") [.str "not", .str "and", .str "or"] = false; decide +kernel
  · show inV (.str "not") [.str "not", .str "and", .str "or"] = true; decide +kernel
  · show inV (.str "and") [.str "not", .str "and", .str "or"] = true; decide +kernel
  · show inV (.str "or") [.str "not", .str "and", .str "or"] = true; decide +kernel
  · show inV (.str "shown") [.str "not", .str "and", .str "or"] = false; decide +kernel
theorem dn_ref {r : Rw} {fs : List Bool} (h : r.isRef = true) : r.dn fs = (r.refs.map fun j => fs.getD j false).all id := by
  cases r <;> simp [Rw.isRef] at h <;> simp [Rw.dn, Rw.refs]
theorem dn_noref {r : Rw} {fs : List Bool} (h : r.isRef = false) : r.dn fs = !decide (V.str r.word = V.str "does") := by
  cases r <;> simp [Rw.isRef] at h <;> first | rfl | (rw [decide_eq_true (show V.str (Rw.word (.ds _ _)) = V.str "does" from rfl)]; rfl) | (rw [decide_eq_false (str_ne (by decide))]; rfl)
theorem cut_refs {r : Rw} (h : r.isRef = true) : cutV r.vs (some 1) none = r.refs.map nV := by
  have := cut_dn r.vs 1
  rw [show ((some ((1 : Nat) : Int)) : Option Int) = some 1 from rfl] at this
  rw [this]
  cases r <;> simp [Rw.isRef] at h <;> rfl
theorem notin_bl : ∀ bs : List Bool, (!inV (.bl false) (bs.map V.bl)) = bs.all id
  | [] => rfl
  | b :: r => by
    have ih := notin_bl r
    unfold inV at ih ⊢
    rw [List.map_cons, List.any_cons, List.all_cons, Bool.not_or, ih]
    cases b <;> rfl
theorem flat_bls (bs : List Bool) : (bs.map V.bl).all flatV = true := by
  rw [List.all_eq_true]
  intro x hx
  obtain ⟨y, _, rfl⟩ := List.mem_map.mp hx
  rfl
def spDownsL : Sp := fun vs H Q _ => ∃ a xs rs, vs = [.ref a] ∧ Lt H a xs ∧ RowsAt H xs rs ∧ RowsOk rs ∧ rs.length ≤ 120 ∧ ∀ p H', Same H H' → H p = none → H' p = some (.lst ((downs rs).map V.bl)) → Q (.ref p) H'
noncomputable def dnIx (rs : List Rw) : List Nat := (List.range rs.length).filter fun i => decide ((downs rs)[i]? = some true)
theorem dnIx_mem {rs : List Rw} {i : Nat} (h : i ∈ dnIx rs) : i < rs.length ∧ (downs rs)[i]? = some true := by
  unfold dnIx at h
  obtain ⟨h1, h2⟩ := List.mem_filter.mp h
  exact ⟨List.mem_range.mp h1, of_decide_eq_true h2⟩
theorem downs_pre (rs : List Rw) (r : Rw) {i : Nat} (h : i < rs.length) : (downs (rs ++ [r]))[i]? = (downs rs)[i]? := by
  rw [downs_snoc, List.getElem?_append_left (by rw [downs_len]; exact h)]
theorem downs_last (rs : List Rw) (r : Rw) : (downs (rs ++ [r]))[rs.length]? = some (r.dn (downs rs)) := by
  rw [downs_snoc, List.getElem?_append_right (by rw [downs_len]; exact Nat.le_refl _), downs_len, Nat.sub_self]
  rfl
theorem dnIx_zero {rs : List Rw} (h : rs[0]? = some .fl) : 0 ∈ dnIx rs := by
  have hp := (List.getElem?_eq_some_iff.mp h).1
  refine List.mem_filter.mpr ⟨List.mem_range.mpr hp, decide_eq_true ?_⟩
  cases rs with
  | nil => cases h
  | cons r q =>
    cases h
    have key : ∀ (q : List Rw) (acc : List Bool) (b : Bool), acc[0]? = some b → (q.foldl (fun acc r => acc ++ [r.dn acc]) acc)[0]? = some b := by
      intro q
      induction q with
      | nil => intro acc b h; exact h
      | cons x r ih =>
        intro acc b h
        rw [List.foldl_cons]
        refine ih _ b ?_
        rw [List.getElem?_append_left (List.getElem?_eq_some_iff.mp h).1]
        exact h
    exact key q [true] true rfl
theorem cut_mutB {d c p : Addr} {B H1 : Hp} {o : HO} (s : Same B (cut d c H1)) (h : B p = none) : Same B (cut d c (L2.upd H1 p o)) := fun a u e => by
  have hne : a ≠ p := by
    rintro rfl
    rw [h] at e
    cases e
  have := s _ _ e
  unfold cut at this ⊢
  split at this
  · cases this
  · rename_i hn
    rw [if_neg hn, upd_ne hne]
    exact this
theorem dn_list (rs : List Rw) : (List.range (downs rs).length).filterMap (fun i => ((downs rs)[i]?).bind fun b => if b = true then some (nV i) else none) = (dnIx rs).map nV := by
  rw [downs_len]
  unfold dnIx
  generalize List.range rs.length = js
  induction js with
  | nil => rfl
  | cons j r ih =>
    rw [List.filterMap_cons, List.filter_cons, ih]
    cases e : (downs rs)[j]? with
    | none => rfl
    | some b => cases b <;> rfl
/-- one of the last few of a list -/
theorem last_few {ds : List Nat} {k m : Int} (h0 : 0 ≤ k) (hk : k < m) (hm : m ≤ (ds.length : Int)) : ∃ i, i ∈ ds ∧ atI (ds.map nV) (((ds.length : Nat) : Int) - 1 - k) = some (nV i) := by
  have hj : (((ds.length : Nat) : Int) - 1 - k) = (((ds.length - 1 - k.toNat : Nat)) : Int) := by omega
  have hl : ds.length - 1 - k.toNat < ds.length := by omega
  refine ⟨ds[ds.length - 1 - k.toNat], List.getElem_mem hl, ?_⟩
  rw [hj]
  exact atI_nat (by rw [List.getElem?_map, List.getElem?_eq_getElem hl]; rfl)
def spChosenL : Sp := fun vs H Q _ => ∃ (d c l : Addr) (xs : List V) (rs : List Rw) (n b : Nat), vs = [.ref d, .ref l, nV n] ∧ Dw d c H ∧ (cut d c H) l = some (.lst xs) ∧ RowsAt (cut d c H) xs rs ∧ Gd rs b ∧ rs.length ≤ 30 ∧ 1 ≤ n ∧ n ≤ 4 ∧
  ∀ q xs' (rs' : List Rw) (ps : List Nat) H', Dw d c H' → SameX l (cut d c H) (cut d c H') → H q = none → (cut d c H') q = some (.lst (ps.map nV)) → (cut d c H') l = some (.lst xs') → RowsAt (cut d c H') xs' rs' → Gd rs' b → rs'.length ≤ rs.length + 3 → ps.length + 1 = n →
    (∀ p ∈ ps, p < rs'.length ∧ (downs rs')[p]? = some true) → Q (.ref q) H'
section
variable {P : Program} {w : World} {K : PySem.W.Frag} {mg : Str → Option Value} {base : Heap} {cP cG cT : Addr} {f : Addr} {fd : FuncData} (T : Txt K w mg cP cG cT)
include T
theorem ok_law_downs (F : FnP K "_law_downs" "_law_downs" s_law_downs f fd) : FnOk P w K mg base CX0 1 f fd ["rows"] spDownsL := by
  refine okN F sc_law_downs (fun vs H Q E h => ?_) (fun cdv A outer s H vs Q E hr h => ?_)
  · obtain ⟨a, xs, rs, rfl, _⟩ := h
    rfl
  · obtain ⟨a, xs, rs, rfl, hx, hrs, ok, hl, q⟩ := h
    refine ⟨_, (pss_cons (ps_set (i := 1) sc_law_downs.nd rfl (Or.inr rfl) (pe_lst pa_nil))
      (pss_cons (ps_for PassesOwn.never rfl (pi_sq (pv 0)) (pg_name (i := 2) sc_law_downs.nd rfl (Or.inl rfl)) (pss_one (ps_if (pt_cmpR (inS K) (pe_ix (ixT K) (pv 2) pe_int (fun _ _ => rfl)) (pe_tup (pa_cons pe_str (pa_cons pe_str (pa_cons pe_str pa_nil)))) rfl) (pss_one (ps_expr (pe_bm PySem.F.plainAttrs_list PySem.F.slot_list_append PySem.F.type_list_append mt_append (pv 1) (pa_cons (pe_cmpR (notInS K) pe_bl (pe_lc (own := [("at", 3)]) rfl sc_law_downs.nd (pi_sq (pe_slice slT1 (pv 2) (po_some pe_int) po_none)) (blkOk_by (own := [("at", 3)]) (N := ["rows", "found", "row", "at"]) (sc := defScope s_law_downs) (by decide +kernel)) (fun _ _ _ _ _ => pg_name (i := 3) sc_law_downs.nd rfl (Or.inl rfl)) (fun _ _ _ _ _ => pts_nil) (fun _ _ _ _ _ => (pe_ix (ixL K) (pv 1) (pv 3) (fun _ _ => rfl)))) rfl) pa_nil)))) (pss_one (ps_expr (pe_bm PySem.F.plainAttrs_list PySem.F.slot_list_append PySem.F.type_list_append mt_append (pv 1) (pa_cons (pe_cmpR op_ne (pe_ix (ixT K) (pv 2) pe_int (fun _ _ => rfl)) pe_str (nomark _)) pa_nil)))))))
      (pss_one (ps_ret (pv 1))))), ?_⟩
    refine ⟨(by show 0 ≤ sizeLine; decide), fun D hD => ?_⟩
    refine ⟨_, rfl, a, xs, rfl, hx.mono (same_new hD), fun J hJ => ?_⟩
    have hx1 := hx.mono (same_new (o := .lst []) hD)
    refine for_it hJ (fun i σ H' => Same H H' ∧ (∃ u v, σ = [some (.ref a), some (.ref D), u, v]) ∧ H' D = some (.lst ((downs (rs.take i)).map V.bl))) ⟨same_new hD, ⟨_, _, rfl⟩, upd_same⟩ (fun i σ H' hi h => ?_) (fun i x σ H9 H2 hi h y => ?_) (fun σ H' h => ?_)
    · rw [same_of h.1 hx, same_of (same_new hD) hx]
    · obtain ⟨s2, ⟨u', v', rfl⟩, hd2⟩ := h
      obtain ⟨rfl, e2⟩ := y
      obtain ⟨b, r, e3, rfl, e4⟩ := hrs.get e2
      have hb := s2 _ _ e4
      have hi2 : i < rs.length := by have := hrs.len; omega
      have et : rs.take (i + 1) = rs.take i ++ [r] := by rw [List.take_add_one, e3]; rfl
      have fin : ∀ H4, Same H H4 → H4 D = some (.lst ((downs (rs.take i)).map V.bl ++ [.bl (r.dn (downs (rs.take i)))])) → H4 D = some (.lst ((downs (rs.take (i + 1))).map V.bl)) := by
        intro H4 _ e
        rw [e, et, downs_snoc, List.map_append]
        rfl
      have hlen : ((downs (rs.take i)).map V.bl).length < sizeLine := by
        rw [List.length_map, downs_len, List.length_take]
        exact sz_lt (by omega)
      refine ⟨_, rfl, b, r.vs, 0, .str r.word, rfl, rfl, .inl (.inl hb), atI_nat (j := 0) rfl, (by show 3 ≤ sizeLine; decide), fun t ht => ?_⟩
      have s3 := same_new (o := .tup [.str "not", .str "and", .str "or"]) ht
      have htt : (upd H2 t (.tup [.str "not", .str "and", .str "or"])) t = some (.tup [.str "not", .str "and", .str "or"]) := upd_same
      generalize upd H2 t (.tup [.str "not", .str "and", .str "or"]) = H3 at s3 htt
      have hd3 := s3 _ _ hd2
      have hb3 := s3 _ _ hb
      refine ⟨t, _, rfl, .inr (.inl (.inl htt)), rfl, rfl, _, rfl, ?_⟩
      show if inV (.str r.word) [.str "not", .str "and", .str "or"] = true then _ else _
      rw [ref_in]
      cases hT : r.isRef with
      | true =>
        refine iteT ?_
        refine ⟨_, rfl, .inl ⟨rfl, _, .inl (.inl hd3)⟩, ?_⟩
        refine ⟨_, rfl, 1, rfl, b, r.vs, rfl, hb3, fun p H4 s4 hp => ?_⟩
        rw [cut_refs hT] at hp
        refine ⟨p, _, rfl, .inr hp, fun J2 hJ2 D2 hD2 => ?_⟩
        have hd4 := s4 _ _ hd3
        refine lcW_fm hJ2 (fun k => (r.refs[k]?).map fun j => .bl ((downs (rs.take i)).getD j false)) hD2 (by cases r <;> simp [Rw.refs]) (fun H5 s5 => s5 _ _ hp ▸ hp.symm ▸ rfl) (fun k x H5 H6 hk s5 y K1 K0 h1 h0 => ?_) (fun H5 s5 e => ?_)
        · obtain ⟨rfl, hx'⟩ := y
          refine ⟨rfl, yesT ?_⟩
          rw [List.getElem?_map] at hx'
          obtain ⟨j, hj, rfl⟩ := Option.map_eq_some_iff.mp hx'
          have hji : j < i := (ok i r e3).refs (List.mem_of_getElem? hj)
          have hjl : j < (downs (rs.take i)).length := by
            rw [downs_len, List.length_take]
            omega
          refine ⟨_, rfl, _, rfl, D, _, _, .bl ((downs (rs.take i)).getD j false), rfl, rfl, .inl (.inl (s5 _ _ hd4)), atI_nat ?_, ?_⟩
          · rw [List.getElem?_map, List.getElem?_eq_getElem hjl, List.getD_eq_getElem?_getD, List.getElem?_eq_getElem hjl]
            rfl
          · exact h1 _ _ (by rw [hj]; rfl) (fun _ _ e => e)
        · have e5 : H5 D2 = some (.lst ((r.refs.map fun j => (downs (rs.take i)).getD j false).map V.bl)) := by
            rw [e]
            congr 2
            cases r <;> rfl
          have hd5 := s5 _ _ hd4
          refine ⟨D2, _, rfl, .inl (.inl (.inl e5)), rfl, flat_bls _, ?_⟩
          rw [notin_bl, ← dn_ref hT]
          refine ⟨D, _, _, rfl, rfl, hd5, hlen, ?_⟩
          have s6 := ((s2.trans s3).trans s4).trans s5
          exact ⟨same_mut s6 hD, ⟨_, _, rfl⟩, fin _ (same_mut s6 hD) upd_same⟩
      | false =>
        refine iteF ?_
        refine ⟨_, rfl, .inl ⟨rfl, _, .inl (.inl hd3)⟩, ?_⟩
        refine ⟨_, rfl, b, r.vs, 0, .str r.word, rfl, rfl, .inl (.inl hb3), atI_nat (j := 0) rfl, rfl, ?_⟩
        rw [← dn_noref (fs := downs (rs.take i)) hT]
        refine ⟨D, _, _, rfl, rfl, hd3, hlen, ?_⟩
        exact ⟨same_mut (s2.trans s3) hD, ⟨_, _, rfl⟩, fin _ (same_mut (s2.trans s3) hD) upd_same⟩
    · obtain ⟨s2, ⟨u', v', rfl⟩, hd2⟩ := h
      refine ⟨_, rfl, ?_⟩
      refine q D H' s2 hD ?_
      rw [hd2, List.take_of_length_le (by have := hrs.len; omega)]
theorem ok_law_chosen {C_law_draw : Cal P w K mg base "_law_draw" 1 ["state", "many"] spDraw} {C_law_downs : Cal P w K mg base "_law_downs" 1 ["rows"] spDownsL} (F : FnP K "_law_chosen" "_law_chosen" s_law_chosen f fd) : FnOk P w K mg base CX0 2 f fd ["state", "rows", "many"] spChosenL := by
  refine okN F sc_law_chosen (fun vs H Q E h => ?_) (fun cdv A outer s H vs Q E hr h => ?_)
  · obtain ⟨d, c, l, xs, rs, n, b, rfl, _⟩ := h
    rfl
  · obtain ⟨d, c, l, xs0, rs0, n, b, rfl, hd, hl, hrs, gd, hrl, n1, n4, q⟩ := h
    refine ⟨_, (pss_cons (ps_set (i := 3) sc_law_chosen.nd rfl (Or.inl rfl) (pe_lst pa_nil))
      (pss_cons (ps_for PassesOwn.never rfl (pi_range1 rfl T.range_ (pa_cons (pe_op op_sub (pv 2) pe_int) pa_nil)) (pg_name (i := 4) sc_law_chosen.nd rfl (Or.inl rfl)) (pss_cons (ps_setLc (i := 5) (own := [("at", 9), ("down", 10)]) rfl sc_law_chosen.nd rfl rfl (sw_true rfl rfl rfl (by decide +kernel)) (pi_enumS (by rfl) T.enumerate_ (pa_cons (pe_cal C_law_downs hr (pa_cons (pv 1) pa_nil)) pa_nil)) (blkOk_by (own := [("at", 9), ("down", 10)]) (N := ["state", "rows", "many", "chosen", "k", "downs", "i", "j", "way", "at", "down"]) (sc := defScope s_law_chosen) (by decide +kernel)) (fun _ _ _ _ _ => pgT K 2 rfl (pgs_cons (pg_name (i := 9) sc_law_chosen.nd rfl (Or.inl rfl)) (pgs_cons (pg_name (i := 10) sc_law_chosen.nd rfl (Or.inl rfl)) pgs_nil))) (fun _ _ _ _ _ => pts_one (pt_val (pv 10))) (fun _ _ _ _ _ => (pv 9)))
      (pss_cons (ps_set (i := 6) sc_law_chosen.nd rfl (Or.inl rfl) (pe_ix (ixL K) (pv 5) (pe_op op_sub (pe_op op_sub (pe_callB (lenS K) (by rfl) T.len_ b_len (pa_cons (pv 5) pa_nil)) pe_int) (pe_cal C_law_draw hr (pa_cons (pv 0) (pa_cons (pe_callB (call_min2 rfl) (by rfl) T.min_ b_min (pa_cons pe_int (pa_cons (pe_callB (lenS K) (by rfl) T.len_ b_len (pa_cons (pv 5) pa_nil)) pa_nil))) pa_nil)))) (fun _ _ => rfl)))
      (pss_cons (ps_set (i := 7) sc_law_chosen.nd rfl (Or.inl rfl) (pe_ix (ixL K) (pv 5) (pe_op op_sub (pe_op op_sub (pe_callB (lenS K) (by rfl) T.len_ b_len (pa_cons (pv 5) pa_nil)) pe_int) (pe_cal C_law_draw hr (pa_cons (pv 0) (pa_cons (pe_callB (call_min2 rfl) (by rfl) T.min_ b_min (pa_cons pe_int (pa_cons (pe_callB (lenS K) (by rfl) T.len_ b_len (pa_cons (pv 5) pa_nil)) pa_nil))) pa_nil)))) (fun _ _ => rfl)))
      (pss_cons (ps_set (i := 8) sc_law_chosen.nd rfl (Or.inl rfl) (pe_cal C_law_draw hr (pa_cons (pv 0) (pa_cons pe_int pa_nil))))
      (pss_cons (ps_if (pt_cmpR op_gt (pv 8) pe_int (nomark _)) (pss_one (ps_expr (pe_bm PySem.F.plainAttrs_list PySem.F.slot_list_append PySem.F.type_list_append mt_append (pv 1) (pa_cons (pe_ix (ixL K) (pe_lst (pa_cons (pe_tup (pa_cons pe_str (pa_cons (pv 6) pa_nil))) (pa_cons (pe_tup (pa_cons pe_str (pa_cons (pv 6) (pa_cons (pv 7) pa_nil)))) (pa_cons (pe_tup (pa_cons pe_str (pa_cons (pv 6) (pa_cons (pv 7) pa_nil)))) pa_nil)))) (pe_op op_sub (pv 8) pe_int) (fun _ _ => rfl)) pa_nil)))) pss_nil)
      (pss_one (ps_expr (pe_bm PySem.F.plainAttrs_list PySem.F.slot_list_append PySem.F.type_list_append mt_append (pv 3) (pa_cons (pe_ifExp (pt_cmpR op_lt (pv 8) pe_int (nomark _)) (pv 6) (pe_op op_sub (pe_callB (lenS K) (by rfl) T.len_ b_len (pa_cons (pv 1) pa_nil)) pe_int)) pa_nil))))))))))
      (pss_one (ps_ret (pv 3))))), ?_⟩
    have nB : del l (cut d c H) l = none := del_x
    have bB : Same (del l (cut d c H)) (cut d c H) := del_same
    have hB : ∀ p, H p = none → del l (cut d c H) p = none := fun p hp => by
      cases e : del l (cut d c H) p with
      | none => rfl
      | some u => have := cut_same _ _ (bB _ _ e); rw [hp] at this; cases this
    have q : ∀ q xs' (rs' : List Rw) (ps : List Nat) H', Dw d c H' → Same (del l (cut d c H)) (cut d c H') → H q = none → (cut d c H') q = some (.lst (ps.map nV)) → (cut d c H') l = some (.lst xs') → RowsAt (cut d c H') xs' rs' → Gd rs' b → rs'.length ≤ rs0.length + 3 → ps.length + 1 = n →
        (∀ p ∈ ps, p < rs'.length ∧ (downs rs')[p]? = some true) → Q (.ref q) H' := fun q0 xs' rs' ps H' h1 h2 => q q0 xs' rs' ps H' h1 (of_del h2)
    obtain ⟨ld, lc⟩ : l ≠ d ∧ l ≠ c := by
      constructor
      · rintro rfl; unfold cut at hl; simp at hl
      · rintro rfl; unfold cut at hl; simp at hl
    have hl0 := cut_same _ _ hl
    refine ⟨(by show 0 ≤ sizeLine; decide), fun ch nch => ?_⟩
    obtain ⟨cd, cc⟩ := hd.nd nch
    have nchB := hB ch nch
    have hcl : l ≠ ch := fun e => by rw [← e, hl0] at nch; cases nch
    have s1 := same_new (o := .lst []) nch
    have hch1 : (L2.upd H ch (.lst [])) ch = some (.lst []) := upd_same
    have hd1 := hd.mono s1
    have hl1 := s1 _ _ hl0
    have s1 := cut_mono (d := d) (c := c) s1
    have hrs1 := hrs.mono s1
    have s1 := bB.trans s1
    show tSeq _ _ _ _ (L2.upd H ch (.lst []))
    generalize L2.upd H ch (.lst []) = H1 at s1 hch1 hd1 hl1 hrs1
    refine ⟨_, rfl, _, _, rfl, rfl, _, rfl, by omega, by omega, ?_⟩
    refine for_it (walk_range (lo := 0) (n := (((n : Nat) : Int) - 1).toNat)) (fun i σ H' => Dw d c H' ∧ Same (del l (cut d c H)) (cut d c H') ∧ (∃ v1 v2 v3 v4 v5 v6 v7, σ = [some (.ref d), some (.ref l), some (nV n), some (.ref ch), v1, v2, v3, v4, v5, v6, v7]) ∧
        ∃ xs rs ps, H' l = some (.lst xs) ∧ RowsAt (cut d c H') xs rs ∧ Gd rs b ∧ rs.length ≤ rs0.length + i ∧ H' ch = some (.lst (List.map nV ps)) ∧ ps.length = i ∧ ∀ p ∈ ps, p < rs.length ∧ (downs rs)[p]? = some true)
      ⟨hd1, s1, ⟨_, _, _, _, _, _, _, rfl⟩, xs0, rs0, [], hl1, hrs1, gd, Nat.le_refl _, hch1, rfl, fun p hp => nomatch hp⟩ (fun i σ H' hi h => trivial) (fun i x σ H9 H2 hi h y => ?_) (fun σ H2 h => ?_)
    · obtain ⟨hd2, s2, ⟨v1, v2, v3, v4, v5, v6, v7, rfl⟩, xs, rs, ps, hl2, hrs2, gd2, rl2, hch2, pl2, hp2⟩ := h
      obtain ⟨rfl, hx⟩ := y
      clear hx hrs1 hl1 hd1 hch1 s1
      refine ⟨_, rfl, l, xs, rs, rfl, .inl hl2, hrs2.mono cut_same, gd2.ok, by omega, fun dl H3 s3 ndl hdl => ⟨dl, _, rfl, .inl hdl, fun J1 hJ1 D nD => ?_⟩⟩
      have hxl := hrs2.len
      refine lcW_fm hJ1 (fun i => ((downs rs)[i]?).bind fun b => if b = true then some (nV i) else none) nD (by rw [List.length_map, downs_len]; omega) (fun H4 s4 => same_of s4 (.inl hdl)) (fun j x' H9' H4 hj s4 yy K1 K0 k1 k0 => ?_) (fun H4 s4 e => ?_)
      · obtain ⟨T1, x1, x2, rfl, nT, rfl, e1, e2⟩ := yy
        simp only [List.getElem?_map] at e2
        obtain ⟨bb, hbb, rfl⟩ := Option.map_eq_some_iff.mp e2
        cases e1
        refine ⟨T1, _, rfl, .inl (.inl upd_same), rfl, _, _, rfl, _, _, rfl, rfl, rfl, ?_⟩
        refine ⟨_, rfl, bb, rfl, ?_⟩
        cases bb with
        | true =>
          refine iteT ?_
          exact ⟨_, rfl, k1 _ _ (by rw [hbb]; rfl) (same_new nT)⟩
        | false =>
          refine iteF ?_
          exact k0 _ (by rw [hbb]; rfl) (same_new nT)
      rw [List.length_map, dn_list] at e
      have s34 := s3.trans s4
      have hd4 := hd2.mono s34
      have hl4 := s34 _ _ hl2
      have hch4 := s34 _ _ hch2
      have s34 := cut_mono (d := d) (c := c) s34
      have hrs4 := hrs2.mono s34
      have s4 := s2.trans s34
      obtain ⟨Dd, Dc⟩ := hd2.mono s3 |>.nd nD
      clear s34 hdl ndl s3 s2 hd2 hl2 hch2 hrs2
      have hz := dnIx_zero gd2.fl
      have hdp : 0 < (dnIx rs).length := List.length_pos_of_mem hz
      have hmem : ∀ i ∈ dnIx rs, i < rs.length ∧ (downs rs)[i]? = some true := fun i hi => dnIx_mem hi
      have hdl : (dnIx rs).length ≤ rs.length := by unfold dnIx; exact Nat.le_trans (List.length_filter_le _ _) (by simp)
      generalize dnIx rs = ds at e hdp hmem hdl
      refine ⟨_, rfl, _, rfl, D, _, rfl, .inl (.inl (.inl e)), _, _, rfl, rfl, _, rfl, _, rfl, D, _, rfl, .inl (.inl (.inl e)), _, _, rfl, d, c, _, rfl, hd4, ?_, ?_, fun k H5 k0 k1 hd5 s5 => ?_⟩
      · rw [List.length_map]; split <;> omega
      · rw [List.length_map]; split <;> omega
      rw [List.length_map] at k1 ⊢
      obtain ⟨ii, him, hii⟩ := last_few (ds := ds) k0 k1 (by split <;> omega)
      have e5 := keepC s5 e Dd Dc
      have hl5 := keepC s5 hl4 ld lc
      have hch5 := keepC s5 hch4 cd cc
      have hrs5 := hrs4.mono s5
      have s5 := s4.trans s5
      refine ⟨_, _, rfl, rfl, D, _, _, nV ii, rfl, rfl, .inl (.inl e5), hii, ?_⟩
      refine ⟨_, rfl, _, rfl, D, _, rfl, .inl (.inl (.inl e5)), _, _, rfl, rfl, _, rfl, _, rfl, D, _, rfl, .inl (.inl (.inl e5)), _, _, rfl, d, c, _, rfl, hd5, ?_, ?_, fun k H6 k0 k1 hd6 s6 => ?_⟩
      · rw [List.length_map]; split <;> omega
      · rw [List.length_map]; split <;> omega
      rw [List.length_map] at k1 ⊢
      obtain ⟨jj, hjm, hjj⟩ := last_few (ds := ds) k0 k1 (by split <;> omega)
      have e6 := keepC s6 e5 Dd Dc
      have hl6 := keepC s6 hl5 ld lc
      have hch6 := keepC s6 hch5 cd cc
      have hrs6 := hrs5.mono s6
      have s6 := s5.trans s6
      refine ⟨_, _, rfl, rfl, D, _, _, nV jj, rfl, rfl, .inl (.inl e6), hjj, ?_⟩
      refine ⟨_, rfl, d, c, 6, rfl, hd6, by decide, by decide, fun way H7 w0 w1 hd7 s7 => ?_⟩
      have hl7 := keepC s7 hl6 ld lc
      have hch7 := keepC s7 hch6 cd cc
      have hrs7 := hrs6.mono s7
      have s7 := s6.trans s7
      clear e6 e5 e hl6 hl5 hl4 hch6 hch5 hch4 hrs6 hrs5 hrs4 s6 s5 s4 hd6 hd5 hd4 hjj hii
      have hi1 := hmem ii him
      have hj1 := hmem jj hjm
      have hi3 : i < 3 := by omega
      by_cases hw : 2 < way
      · refine ⟨_, rfl, _, _, rfl, rfl, true, congrArg V.bl (decide_eq_true hw), ?_⟩
        refine iteT ?_
        refine ⟨_, rfl, .inl ⟨rfl, _, .inl (.inl hl7)⟩, _, rfl, (by show 2 ≤ sizeLine; decide), fun a1 m1 => ?_⟩
        have g1 := hd7.new m1 (o := .tup [.str "not", nV ii])
        have z1 := same_new (o := .tup [.str "not", nV ii]) m1
        have hd8 := hd7.mono z1
        have hl8 := z1 _ _ hl7
        have hch8 := z1 _ _ hch7
        have z1 := cut_mono (d := d) (c := c) z1
        have hrs8 := hrs7.mono z1
        have s8 := s7.trans z1
        generalize L2.upd H7 a1 (.tup [.str "not", nV ii]) = H8 at g1 hd8 hl8 hch8 hrs8 s8
        refine ⟨_, rfl, _, rfl, (by show 3 ≤ sizeLine; decide), fun a2 m2 => ?_⟩
        have g2 := hd8.new m2 (o := .tup [.str "and", nV ii, nV jj])
        have z2 := same_new (o := .tup [.str "and", nV ii, nV jj]) m2
        have hd9 := hd8.mono z2
        have hl9 := z2 _ _ hl8
        have hch9 := z2 _ _ hch8
        have z2 := cut_mono (d := d) (c := c) z2
        have g1 := z2 _ _ g1
        have hrs9 := hrs8.mono z2
        have s9 := s8.trans z2
        generalize L2.upd H8 a2 (.tup [.str "and", nV ii, nV jj]) = H9 at g1 g2 hd9 hl9 hch9 hrs9 s9
        refine ⟨_, rfl, _, rfl, (by show 3 ≤ sizeLine; decide), fun a3 m3 => ?_⟩
        have g3 := hd9.new m3 (o := .tup [.str "or", nV ii, nV jj])
        have z3 := same_new (o := .tup [.str "or", nV ii, nV jj]) m3
        have hdA := hd9.mono z3
        have hlA := z3 _ _ hl9
        have hchA := z3 _ _ hch9
        have z3 := cut_mono (d := d) (c := c) z3
        have g1 := z3 _ _ g1
        have g2 := z3 _ _ g2
        have hrsA := hrs9.mono z3
        have sA := s9.trans z3
        generalize L2.upd H9 a3 (.tup [.str "or", nV ii, nV jj]) = HA at g1 g2 g3 hdA hlA hchA hrsA sA
        refine ⟨(by show 3 ≤ sizeLine; decide), fun F0 nF => ?_⟩
        have z5 := same_new (o := .lst [.ref a1, .ref a2, .ref a3]) nF
        have hF : (L2.upd HA F0 (.lst [.ref a1, .ref a2, .ref a3])) F0 = some (.lst [.ref a1, .ref a2, .ref a3]) := upd_same
        have hdB := hdA.mono z5
        have hlB := z5 _ _ hlA
        have hchB := z5 _ _ hchA
        have z5 := cut_mono (d := d) (c := c) z5
        have g1 := z5 _ _ g1
        have g2 := z5 _ _ g2
        have g3 := z5 _ _ g3
        have hrsB := hrsA.mono z5
        have sB := sA.trans z5
        generalize L2.upd HA F0 (.lst [.ref a1, .ref a2, .ref a3]) = HB at g1 g2 g3 hdB hlB hchB hrsB sB hF
        have key : ∀ j, j < rs.length → (downs rs)[j]? = some true → (downs rs).getD j false = true := fun j _ h => by rw [List.getD_eq_getElem?_getD, h]; rfl
        obtain ⟨a, r, h1, h2, h3, h4, h5, h6⟩ : ∃ a r, atI ([V.ref a1, .ref a2, .ref a3] : List V) (way - 3) = some (.ref a) ∧ Rw.ok rs.length r ∧ r.isSh = false ∧ r.lev = 0 ∧ (cut d c HB) a = some (.tup r.vs) ∧ r.dn (downs rs) = true := by
          rcases (show way = 3 ∨ way = 4 ∨ way = 5 by omega) with rfl | rfl | rfl
          · exact ⟨a1, .ng ii, atI_nat (j := 0) rfl, hi1.1, rfl, rfl, g1, key _ hi1.1 hi1.2⟩
          · exact ⟨a2, .cj ii jj, atI_nat (j := 1) rfl, ⟨hi1.1, hj1.1⟩, rfl, rfl, g2, by show ((downs rs).getD ii false && (downs rs).getD jj false) = true; rw [key _ hi1.1 hi1.2, key _ hj1.1 hj1.2]; rfl⟩
          · exact ⟨a3, .dj ii jj, atI_nat (j := 2) rfl, ⟨hi1.1, hj1.1⟩, rfl, rfl, g3, by show ((downs rs).getD ii false && (downs rs).getD jj false) = true; rw [key _ hi1.1 hi1.2, key _ hj1.1 hj1.2]; rfl⟩
        refine ⟨_, rfl, _, _, rfl, rfl, F0, _, _, _, rfl, rfl, .inl (.inl hF), h1, ?_⟩
        refine ⟨l, xs, _, rfl, rfl, hlB, sz_lt (by omega), ?_⟩
        have hR : RowsAt (cut d c (L2.upd HB l (.lst (xs ++ [.ref a])))) (xs ++ [.ref a]) (rs ++ [r]) := paired_snoc (hrsB.cutL hlB) ⟨a, rfl, cut_put (xs := r.vs) hlB h5⟩
        have hlC : (L2.upd HB l (.lst (xs ++ [.ref a]))) l = some (.lst (xs ++ [.ref a])) := upd_same
        have hchC : (L2.upd HB l (.lst (xs ++ [.ref a]))) ch = some (.lst (ps.map nV)) := by rw [upd_ne hcl.symm]; exact hchB
        have hdC := hdB.upd (o := .lst (xs ++ [.ref a])) ld lc
        have sC := cut_mutB (o := .lst (xs ++ [.ref a])) sB nB
        generalize L2.upd HB l (.lst (xs ++ [.ref a])) = HC at hR hlC hchC hdC sC
        refine ⟨_, rfl, .inl ⟨rfl, _, .inl (.inl hchC)⟩, _, rfl, _, _, rfl, rfl, false, congrArg V.bl (decide_eq_false (by omega)), ?_⟩
        refine iteF ?_
        refine ⟨_, rfl, l, _, rfl, .inl (.inl (.inl hlC)), _, _, rfl, rfl, ?_⟩
        have hv : ((((xs ++ [V.ref a]).length : Nat) : Int) - 1) = ((rs.length : Nat) : Int) := by rw [List.length_append, List.length_singleton]; omega
        dsimp only
        rw [hv]
        refine ⟨ch, _, _, rfl, rfl, hchC, by rw [List.length_map]; exact sz_lt (by omega), ?_⟩
        refine ⟨hdC.upd cd cc, cut_mutB sC nchB, ⟨_, _, _, _, _, _, _, rfl⟩, xs ++ [.ref a], rs ++ [r], ps ++ [rs.length], by rw [upd_ne hcl]; exact hlC, hR.cutL hchC, gd2.put h2 (by omega) (by rw [h3]; show b + 0 ≤ b; omega), by simp; omega, by rw [upd_same, List.map_append]; rfl, by simp [pl2], fun p hp => ?_⟩
        rcases List.mem_append.mp hp with z | z
        · have := hp2 p z
          exact ⟨by simp; omega, by rw [downs_pre _ _ this.1]; exact this.2⟩
        · rw [List.mem_singleton.mp z]
          exact ⟨by simp, by rw [downs_last, h6]⟩
      · refine ⟨_, rfl, _, _, rfl, rfl, false, congrArg V.bl (decide_eq_false hw), ?_⟩
        refine iteF ?_
        refine ⟨_, rfl, .inl ⟨rfl, _, .inl (.inl hch7)⟩, _, rfl, _, _, rfl, rfl, true, congrArg V.bl (decide_eq_true (by omega)), ?_⟩
        refine iteT ?_
        refine ⟨_, rfl, ?_⟩
        refine ⟨ch, _, _, rfl, rfl, hch7, by rw [List.length_map]; exact sz_lt (by omega), ?_⟩
        refine ⟨hd7.upd cd cc, cut_mutB s7 nchB, ⟨_, _, _, _, _, _, _, rfl⟩, xs, rs, ps ++ [ii], by rw [upd_ne hcl]; exact hl7, hrs7.cutL hch7, gd2, by omega, by rw [upd_same, List.map_append]; rfl, by simp [pl2], fun p hp => ?_⟩
        rcases List.mem_append.mp hp with z | z
        · exact hp2 p z
        · rw [List.mem_singleton.mp z]
          exact hi1
    · obtain ⟨hd2, s2, ⟨v1, v2, v3, v4, v5, v6, v7, rfl⟩, xs, rs, ps, hl2, hrs2, gd2, rl2, hch2, pl2, hp2⟩ := h
      exact ⟨_, rfl, q ch xs rs ps H2 hd2 s2 nch (cut_at hch2 cd cc) (cut_at hl2 ld lc) hrs2 gd2 (by omega) (by omega) hp2⟩
end
end Lk

set_option maxHeartbeats 4000000
namespace Lk
open PySem PySem.Spec PyProof.Rows L2
/-! ### marks, a sight, a player made of it -/
theorem scal_nats (ms : List Nat) : (ms.map nV).all scalV = true := by
  rw [List.all_eq_true]
  intro x hx
  obtain ⟨y, _, rfl⟩ := List.mem_map.mp hx
  rfl
theorem shp_scal {xs : List V} (h : xs.all scalV = true) : SeqAt.shaped (.list (xs.map vD)) = true := by
  obtain ⟨h1, h2⟩ := shp_all xs h
  simp [SeqAt.shaped, PyData.canLay0, PyData.depth, h1, h2]
/-- while some are left: met so far, left -/
structure Mk (L : Pl) (mt lf : List Nat) : Prop where
  nd : mt.Nodup
  ins : ∀ k, k ∈ mt ∨ k ∈ lf → k < L.rows.length ∧ Rch L.rows L.picks k
  pk : ∀ p ∈ L.picks, p ∈ mt ∨ p ∈ lf
  cl : ∀ k ∈ mt, ∀ r, L.rows[k]? = some r → ∀ j ∈ r.refs, j ∈ mt ∨ j ∈ lf
  few : lf.length + 3 * (L.rows.length - mt.length) ≤ 500
  fit : mt.length ≤ L.rows.length
theorem mk_len {L : Pl} {mt lf : List Nat} (h : Mk L mt lf) : mt.length ≤ L.rows.length := h.fit
theorem mk_zero {L : Pl} (ok : L.Ok) : Mk L [] L.picks := by
  refine ⟨List.nodup_nil, fun k h => ?_, fun p h => .inr h, (fun k h => nomatch h), ?_, Nat.zero_le _⟩
  · rcases h with h | h
    · cases h
    · exact ⟨(ok.pk k h).1, .pick h⟩
  · have := ok.len
    have := ok.np
    have := ok.mv.few
    simp
    omega
theorem mk_old {L : Pl} {mt lf : List Nat} {k : Nat} (h : Mk L mt (lf ++ [k])) (hk : k ∈ mt) : Mk L mt lf := by
  obtain ⟨h1, h2, h3, h4, h5, h6⟩ := h
  have red : ∀ {x}, (x ∈ mt ∨ x ∈ lf ++ [k]) → (x ∈ mt ∨ x ∈ lf) := fun {x} h => by
    rcases h with h | h
    · exact .inl h
    · rcases List.mem_append.mp h with h | h
      · exact .inr h
      · rw [List.mem_singleton.mp h]; exact .inl hk
  refine ⟨h1, fun x h => h2 x (h.imp id (List.mem_append_left _)), fun p hp => red (h3 p hp), fun x hx r e j hj => red (h4 x hx r e j hj), ?_, h6⟩
  rw [List.length_append] at h5
  simp at h5
  omega
theorem mk_new {L : Pl} {mt lf : List Nat} {k : Nat} {r : Rw} (ok : RowsOk L.rows) (h : Mk L mt (lf ++ [k])) (hk : k ∉ mt) (e : L.rows[k]? = some r) : Mk L (mt ++ [k]) (lf ++ r.refs) ∧ (lf ++ r.refs).length + 3 * (L.rows.length - (mt ++ [k]).length) < (lf ++ [k]).length + 3 * (L.rows.length - mt.length) := by
  obtain ⟨h1, h2, h3, h4, h5, h6⟩ := h
  have hr : r.refs.length ≤ 2 := by cases r <;> simp [Rw.refs]
  have hkn := h2 k (.inr (by simp))
  have nd : (mt ++ [k]).Nodup := by
    rw [List.nodup_append]
    refine ⟨h1, by simp, fun a ha b hb e => ?_⟩
    have : b = k := by simpa using hb
    exact hk (this ▸ e ▸ ha)
  have hmt : (mt ++ [k]).length ≤ L.rows.length := nd_len _ _ nd fun x hx => by
    rcases List.mem_append.mp hx with hx | hx
    · exact (h2 x (.inl hx)).1
    · rw [List.mem_singleton.mp hx]; exact hkn.1
  have red : ∀ {x}, (x ∈ mt ∨ x ∈ lf ++ [k]) → (x ∈ mt ++ [k] ∨ x ∈ lf ++ r.refs) := fun {x} h => by
    rcases h with h | h
    · exact .inl (List.mem_append_left _ h)
    · rcases List.mem_append.mp h with h | h
      · exact .inr (List.mem_append_left _ h)
      · exact .inl (List.mem_append_right _ h)
  have lt : (lf ++ r.refs).length + 3 * (L.rows.length - (mt ++ [k]).length) < (lf ++ [k]).length + 3 * (L.rows.length - mt.length) := by
    rw [List.length_append] at hmt ⊢
    rw [List.length_append, List.length_append]
    simp at hmt ⊢
    omega
  refine ⟨⟨nd, fun x h => ?_, fun p hp => red (h3 p hp), fun x hx r' e' j hj => ?_, by omega, hmt⟩, lt⟩
  · rcases h with h | h
    · rcases List.mem_append.mp h with h | h
      · exact h2 x (.inl h)
      · rw [List.mem_singleton.mp h]; exact hkn
    · rcases List.mem_append.mp h with h | h
      · exact h2 x (.inr (List.mem_append_left _ h))
      · have := (ok k r e).refs h
        exact ⟨by omega, .ref hkn.2 e h⟩
  · rcases List.mem_append.mp hx with hx | hx
    · exact red (h4 x hx r' e' j hj)
    · rw [List.mem_singleton.mp hx] at e'
      rw [e] at e'
      cases e'
      exact .inr (List.mem_append_right _ hj)
theorem mk_end {L : Pl} {mt : List Nat} {ys : List Int} (ok : L.Ok) (h : Mk L mt []) (pm : ys.Perm (mt.map fun i => ((i : Nat) : Int))) (so : ys.Pairwise (· ≤ ·)) : ys = L.cone.map fun i => ((i : Nat) : Int) :=
  cone_eq ok.rows (fun p hp => (ok.pk p hp).1) (fun p hp => (h.pk p hp).elim id fun h => nomatch h) (fun k hk => h.ins k (.inl hk)) (fun k hk r e j hj => (h.cl k hk r e j hj).elim id fun h => nomatch h) h.nd pm so

def kD (mt : List Nat) : List (Key × V) := mt.map fun i => (kN i, V.bl true)
theorem kD_val (mt : List Nat) (k : Nat) : valV (kD mt) (kN k) = if k ∈ mt then some (.bl true) else none := by
  induction mt with
  | nil => rfl
  | cons x r ih =>
    unfold valV kD at ih ⊢
    rw [List.map_cons, List.find?_cons]
    by_cases e : x = k
    · subst e
      rw [decide_eq_true rfl, if_pos List.mem_cons_self]
      rfl
    · rw [decide_eq_false (fun z => e (by have z : (kN x : Key) = kN k := z; unfold kN at z; injection z with z; omega))]
      show Option.map _ (List.find? _ _) = _
      rw [ih]
      by_cases h : k ∈ r
      · rw [if_pos h, if_pos (List.mem_cons_of_mem _ h)]
      · rw [if_neg h, if_neg fun z => (List.mem_cons.mp z).elim (fun q => e q.symm) h]
theorem refs_does {r : Rw} (h2 : r.word = "does") : r.refs = [] := by
  cases r with
  | fl => rfl
  | ds k m => rfl
  | ng i => exact absurd h2 (show ("not" : Str) ≠ "does" by decide)
  | cj i j => exact absurd h2 (show ("and" : Str) ≠ "does" by decide)
  | dj i j => exact absurd h2 (show ("or" : Str) ≠ "does" by decide)
  | sh k i => exact absurd h2 (show ("shown" : Str) ≠ "does" by decide)
theorem cut_refs2 {r : Rw} (h : r.isSh = false) (hw : r.word ≠ "does") : cutV r.vs (some 1) none = r.refs.map nV := by
  have := cut_dn r.vs 1
  rw [show ((some ((1 : Nat) : Int)) : Option Int) = some 1 from rfl] at this
  rw [this]
  cases r <;> simp [Rw.isSh] at h <;> first | rfl | exact absurd rfl hw
def spMarksL : Sp := fun vs H Q _ => ∃ (b c : Addr) (xs : List V) (L : Pl), vs = [.ref b, .ref c] ∧ H b = some (.lst xs) ∧ RowsAt H xs L.rows ∧ H c = some (.lst (L.picks.map nV)) ∧ L.Ok ∧ ∀ l H', Same H H' → H l = none → H' l = some (.lst (L.marks.map nV)) → Q (.ref l) H'
theorem foldl_max_le {b : Nat} : ∀ (ls : List Nat) (a : Nat), a ≤ b → (∀ x ∈ ls, x ≤ b) → ls.foldl max a ≤ b
  | [], _, h, _ => h
  | x :: r, a, h, k => by
    rw [List.foldl_cons]
    exact foldl_max_le r _ (Nat.max_le.mpr ⟨h, k x (by simp)⟩) fun y hy => k y (List.mem_cons_of_mem _ hy)
theorem ok_small {L : Pl} (ok : L.Ok2) : L.Small := by
  constructor
  · have h := range_fmA L.rows (fun r => if Rw.isSh r = true then some () else none)
    have h := congrArg List.length h
    rw [List.length_filterMap_eq_countP, List.length_filterMap_eq_countP] at h
    have e1 : List.countP (fun r => (if Rw.isSh r = true then some () else none).isSome) L.rows = (L.rows.filter Rw.isSh).length := by
      rw [List.countP_eq_length_filter]
      congr 2
      funext r
      cases r.isSh <;> rfl
    rw [e1] at h
    have hns := ok.ns
    rw [← h] at hns
    refine Nat.le_trans ?_ hns
    unfold Pl.marks Pl.cone coneOf
    rw [List.filter_filter, ← List.countP_eq_length_filter]
    refine List.countP_mono_left fun x _ hx => ?_
    have hx := (Bool.and_eq_true_iff.mp hx).1
    unfold shAt at hx
    cases e : L.rows[x]? with
    | none => rw [e] at hx; cases hx
    | some r =>
      rw [e] at hx
      have hx : r.isSh = true := hx
      show (if r.isSh = true then some () else none).isSome = true
      rw [hx]
      rfl
  · unfold Pl.high
    refine foldl_max_le _ _ (Nat.zero_le _) fun x hx => ?_
    obtain ⟨i, hi, rfl⟩ := List.mem_map.mp hx
    obtain ⟨k, j, hr, e1, e2⟩ := sh_row hi
    rw [e1]
    exact ok.lv _ (List.mem_of_getElem? hr)
def spToldL : Sp := fun vs H Q _ => ∃ (o b c : Addr) (xs : List V) (L : Pl), vs = [.ref o, .ref b, .ref c] ∧ H b = some (.lst xs) ∧ RowsAt H xs L.rows ∧ H c = some (.lst (L.picks.map nV)) ∧ L.Ok ∧ ∀ t m v H', Same H H' → H' t = some (.tup [.ref o, .ref b, .ref c, .ref m, v]) → Q (.ref t) H'
structure SiAt (H : Hp) (t : Addr) (L : Pl) : Prop where
  ex : ∃ o b c m v xs, H t = some (.tup [.ref o, .ref b, .ref c, .ref m, v]) ∧ H o = some (.lst (L.moves.map V.str)) ∧ H b = some (.lst xs) ∧ RowsAt H xs L.rows ∧ H c = some (.lst (L.picks.map nV))
theorem SiAt.mono {H H' : Hp} {t : Addr} {L : Pl} (s : Same H H') (h : SiAt H t L) : SiAt H' t L :=
  ⟨let ⟨o, b, c, m, v, xs, h1, h2, h3, h4, h5⟩ := h.ex; ⟨o, b, c, m, v, xs, s _ _ h1, s _ _ h2, s _ _ h3, h4.mono s, s _ _ h5⟩⟩
def spSight : Sp := fun vs H Q _ => ∃ (d c o s : Addr) (own seen : List Str) (b : Nat), vs = [.ref d, .ref o, .ref s, nV b] ∧ Dw d c H ∧ (cut d c H) o = some (.lst (own.map V.str)) ∧ Mv own ∧ (cut d c H) s = some (.lst (seen.map V.str)) ∧ seen.length ≤ 8 ∧ (∀ m ∈ seen, isMv m) ∧ b ≤ 3 ∧
  ∀ t (L : Pl) H', Dw d c H' → CS d c H H' → SiAt (cut d c H') t L → L.moves = own → L.Ok → L.Small → Q (.ref t) H'
def spMade (cP : Addr) : Sp := fun vs H Q _ => ∃ (t d c : Addr) (L : Pl), vs = [.ref t] ∧ Dw d c H ∧ SiAt H t L ∧ L.Ok ∧ ∀ p H', Same H H' → PlAt cP (cut d c H') p L → PlNew H H' p → Q (.ref p) H'
section
variable {P : Program} {w : World} {K : PySem.W.Frag} {mg : Str → Option Value} {base : Heap} {cP cG cT : Addr} {f : Addr} {fd : FuncData} (T : Txt K w mg cP cG cT)
include T
theorem ok_law_marks (F : FnP K "_law_marks" "_law_marks" s_law_marks f fd) : FnOk P w K mg base CX0 1 f fd ["rows", "chosen"] spMarksL := by
  refine okN F sc_law_marks (fun vs H Q E h => ?_) (fun cdv A outer s H vs Q E hr h => ?_)
  · obtain ⟨b, c, xs, L, rfl, _⟩ := h
    rfl
  · obtain ⟨b, c, xs, L, rfl, h3, hrs, h5, ok, q⟩ := h
    refine ⟨_, (pss_cons (ps_par (i := 2) (j := 3) (by rfl) sc_law_marks.nd rfl rfl (by decide) rfl rfl (pa_cons pe_dnewK (pa_cons (pe_callTy (lstS K) (by rfl) T.list_ b_list (pa_cons (pv 1) pa_nil)) pa_nil)) (by rfl))
      (pss_cons (ps_while PassesOwn.never (pt_cmpR (op_neD hr.units) (pv 3) (pe_lst pa_nil) (nomark _)) (pss_cons (ps_set (i := 4) sc_law_marks.nd rfl (Or.inl rfl) (pe_bm0 PySem.F.plainAttrs_list PySem.F.slot_list_pop PySem.F.type_list_pop mt_pop (pv 3)))
      (pss_one (ps_if (pt_cmp (pc_dnotin (hu_of hr) (pv 4) (pv 2)) rfl) (pss_cons (ps_dput (hu_of hr) (pv 2) (pv 4) pe_bl rfl)
      (pss_one (ps_if (pt_cmpR op_eq (pe_ix (ixT K) (pe_ix (ixL K) (pv 0) (pv 4) (fun _ _ => rfl)) pe_int (fun _ _ => rfl)) pe_str (nomark _)) (pss_one (ps_expr (pe_bm PySem.F.plainAttrs_list PySem.F.slot_list_append PySem.F.type_list_append mt_append (pv 3) (pa_cons (pe_ix (ixT K) (pe_ix (ixL K) (pv 0) (pv 4) (fun _ _ => rfl)) pe_int (fun _ _ => rfl)) pa_nil)))) (pss_one (ps_if (pt_cmpR op_ne (pe_ix (ixT K) (pe_ix (ixL K) (pv 0) (pv 4) (fun _ _ => rfl)) pe_int (fun _ _ => rfl)) pe_str (nomark _)) (pss_one (ps_set (i := 3) sc_law_marks.nd rfl (Or.inl rfl) (pe_op op_cat (pv 3) (pe_callTy (lstS K) (by rfl) T.list_ b_list (pa_cons (pe_slice slT1 (pe_ix (ixL K) (pv 0) (pv 4) (fun _ _ => rfl)) (po_some pe_int) po_none) pa_nil))))) pss_nil))))) pss_nil))))
      (pss_one (ps_ret (pe_lc (own := [("at", 4)]) rfl sc_law_marks.nd (pi_sq (pe_callB (srt_dA rfl) (by rfl) T.sorted_ b_sorted (pa_cons (pv 2) pa_nil))) (blkOk_by (own := [("at", 4)]) (N := ["rows", "chosen", "met", "line", "at"]) (sc := defScope s_law_marks) (by decide +kernel)) (fun _ _ _ _ _ => pg_name (i := 4) sc_law_marks.nd rfl (Or.inl rfl)) (fun _ _ _ _ _ => pts_one (pt_cmpR op_eq (pe_ix (ixT K) (pe_ix (ixL K) (pv 0) (pv 4) (fun _ _ => rfl)) pe_int (fun _ _ => rfl)) pe_str (nomark _))) (fun _ _ _ _ _ => (pv 4))))))), ?_⟩
    intro M nM
    have s1 := same_new (o := .dK []) nM
    have gM : (upd H M (.dK [])) M = some (.dK []) := upd_same
    have h5 := s1 _ _ h5
    generalize upd H M (.dK []) = H1 at s1 gM h5
    refine ⟨_, rfl, c, _, rfl, .inl (.inl (.inl h5)), fun F0 nF => ?_⟩
    have s2 := same_new (o := .lst (L.picks.map nV)) nF
    have gF : (upd H1 F0 (.lst (L.picks.map nV))) F0 = some (.lst (L.picks.map nV)) := upd_same
    have neM : F0 ≠ M := fun e => by rw [e, gM] at nF; cases nF
    have gM := s2 _ _ gM
    have nF0 := none_of s1 nF
    have s13 := s1.trans s2
    generalize upd H1 F0 (.lst (L.picks.map nV)) = H3 at s13 gF gM
    clear s1 s2 nF
    have hrl := ok.len
    refine ⟨_, _, rfl, ?_⟩
    refine ⟨fun mm σ H' => Same H H' ∧ ∃ Lf u mt lf, Lf ≠ M ∧ H Lf = none ∧ σ = [some (.ref b), some (.ref c), some (.ref M), some (.ref Lf), u] ∧ H' M = some (.dK (kD mt)) ∧ H' Lf = some (.lst (List.map nV lf)) ∧ Mk L mt lf ∧ mm = lf.length + 3 * (L.rows.length - mt.length),
      ⟨_, s13, F0, _, [], L.picks, neM, nF0, rfl, gM, gF, mk_zero ok, rfl⟩, ?_⟩
    rintro mm σ H4 ⟨s4, Lf, u, mt, lf, hne, nL, rfl, gM4, gF4, mk, rfl⟩
    refine ⟨_, rfl, (by show 0 ≤ sizeLine; decide), fun t nt => ?_⟩
    have sN := same_new (o := .lst []) nt
    refine ⟨_, _, .lst (.inl (.inl (sN _ _ gF4))) (dp_all _ (scal_nats lf)), .lst (.inl (.inl upd_same)) .nil, shp_scal (scal_nats lf), shp_scal (xs := []) rfl, ?_⟩
    have gM4 := sN _ _ gM4
    have gF4 := sN _ _ gF4
    have s4 := s4.trans sN
    generalize upd H4 t (.lst []) = H5 at s4 gM4 gF4
    clear sN
    rcases List.eq_nil_or_concat lf with rfl | ⟨lf', k, rfl⟩
    · refine ⟨false, by simp [PyData.eqv, PyData.eqvAll], ?_⟩
      refine iteF ?_
      have hfit := mk.fit
      refine ⟨_, rfl, M, kD mt, mt.map fun i => ((i : Nat) : Int), rfl, .inl gM4, by unfold kD; rw [List.map_map, List.map_map]; rfl, fun ns' p pm so np => ?_⟩
      have e2 := mk_end ok mk pm so
      subst e2
      have e3 : (L.cone.map fun i => ((i : Nat) : Int)).map V.int = L.cone.map nV := by rw [List.map_map]; rfl
      rw [e3]
      have s5 := s4.trans (same_new (o := .lst (L.cone.map nV)) np)
      have gp : (upd H5 p (.lst (L.cone.map nV))) p = some (.lst (L.cone.map nV)) := upd_same
      generalize upd H5 p (.lst (L.cone.map nV)) = H6 at s5 gp
      refine ⟨p, _, rfl, .inl gp, fun J hJ D hD => ?_⟩
      refine lcW_fm hJ (fun i => (L.cone[i]?).bind fun j => if shAt L.rows j then some (nV j) else none) hD (by have := cone_len L hrl; simp; omega) (fun H2 s2 => same_of s2 (.inl gp)) (fun i x H9 H2 hi s2 y K1 K0 k1 k0 => ?_) (fun H2 s2 e => ?_)
      · obtain ⟨rfl, hx⟩ := y
        rw [List.getElem?_map] at hx
        obtain ⟨j, hj, rfl⟩ := Option.map_eq_some_iff.mp hx
        have hjl := cone_lt (List.mem_of_getElem? hj)
        obtain ⟨r, hr'⟩ : ∃ r, L.rows[j]? = some r := ⟨_, List.getElem?_eq_getElem hjl⟩
        obtain ⟨ra, hra, har⟩ := hrs.get' hr'
        have s6 := s5.trans s2
        refine ⟨rfl, ?_⟩
        refine ⟨_, rfl, _, rfl, b, xs, _, _, rfl, rfl, .inl (.inl (s6 _ _ h3)), atI_nat hra, ra, _, _, .str r.word, rfl, rfl, .inl (.inl (s6 _ _ har)), atI_nat (j := 0) rfl, ?_⟩
        refine ⟨rfl, _, rfl, ?_⟩
        show if decide (V.str r.word = V.str "shown") = true then _ else _
        rw [sh_word]
        have eS : shAt L.rows j = r.isSh := by unfold shAt; rw [hr']; rfl
        cases hS : r.isSh with
        | true =>
          refine iteT ?_
          exact ⟨_, rfl, k1 _ _ (by rw [hj]; show (if shAt L.rows j = true then some (nV j) else none) = _; rw [eS, hS]; rfl) (fun _ _ e => e)⟩
        | false =>
          refine iteF ?_
          exact k0 _ (by rw [hj]; show (if shAt L.rows j = true then some (nV j) else none) = _; rw [eS, hS]; rfl) (fun _ _ e => e)
      · refine q D H2 (s5.trans s2) (none_of s5 hD) ?_
        rw [e, List.length_map, range_fmA, fm_if]
        rfl
    · refine ⟨true, by cases lf' <;> simp [PyData.eqv, PyData.eqvAll], ?_⟩
      refine iteT ?_
      refine ⟨fun σ' H'' => ∃ m'', m'' < (lf'.concat k).length + 3 * (L.rows.length - mt.length) ∧ Same H H'' ∧ ∃ Lf u mt lf, Lf ≠ M ∧ H Lf = none ∧ σ' = [some (.ref b), some (.ref c), some (.ref M), some (.ref Lf), u] ∧ H'' M = some (.dK (kD mt)) ∧ H'' Lf = some (.lst (List.map nV lf)) ∧ Mk L mt lf ∧ m'' = lf.length + 3 * (L.rows.length - mt.length),
        fun σ' H'' h => h, ?_⟩
      rw [List.concat_eq_append] at *
      have hk := mk.ins k (.inr (by simp))
      have hrk : L.rows[k]? = some L.rows[k] := List.getElem?_eq_getElem hk.1
      obtain ⟨ra, hra, har⟩ := hrs.get' hrk
      generalize L.rows[k] = r at hrk har
      have eD : ((lf' ++ [k]).map nV).dropLast = lf'.map nV := by rw [List.map_append]; simp
      refine ⟨_, rfl, .inl ⟨rfl, _, .inl (.inl gF4)⟩, Lf, _, nV k, rfl, rfl, gF4, by rw [List.map_append]; simp, ?_⟩
      rw [eD]
      have s5 : Same H (upd H5 Lf (.lst (lf'.map nV))) := same_mut s4 nL
      have gM5 : (upd H5 Lf (.lst (lf'.map nV))) M = some (.dK (kD mt)) := by rw [upd_ne hne.symm]; exact gM4
      have gF5 : (upd H5 Lf (.lst (lf'.map nV))) Lf = some (.lst (lf'.map nV)) := upd_same
      generalize upd H5 Lf (.lst (lf'.map nV)) = H6 at s5 gM5 gF5
      refine ⟨_, rfl, _, rfl, M, _, rfl, .inl ⟨kD mt, kN k, .inl gM5, rfl, rfl⟩, _, rfl, ?_⟩
      show if (!(valV (kD mt) (kN k)).isSome) = true then _ else _
      rw [kD_val]
      have hfit := mk.fit
      by_cases hkm : k ∈ mt
      · rw [if_pos hkm]
        refine iteF ?_
        exact ⟨_, by simp, s5, Lf, _, mt, lf', hne, nL, rfl, gM5, gF5, mk_old mk hkm, rfl⟩
      · rw [if_neg hkm]
        refine iteT ?_
        obtain ⟨mk', lt⟩ := mk_new ok.rows mk hkm hrk
        refine ⟨_, rfl, _, rfl, M, _, rfl, DPut.k (k := kN k) gM5 (by unfold kD; rw [List.length_map]; exact sz_lt (by omega)), ?_⟩
        have eM : putK (kD mt) (kN k) (.bl true) = kD (mt ++ [k]) := by
          rw [putK_new _ (by rw [kD_val, if_neg hkm])]
          unfold kD
          rw [List.map_append]
          rfl
        rw [eM]
        have s6 : Same H (upd H6 M (.dK (kD (mt ++ [k])))) := same_mut s5 nM
        have gM6 : (upd H6 M (.dK (kD (mt ++ [k])))) M = some (.dK (kD (mt ++ [k]))) := upd_same
        have gF6 : (upd H6 M (.dK (kD (mt ++ [k])))) Lf = some (.lst (lf'.map nV)) := by rw [upd_ne hne]; exact gF5
        generalize upd H6 M (.dK (kD (mt ++ [k]))) = H7 at s6 gM6 gF6
        have fin : ∀ (L2 : Addr) (H8 : Hp) (u : Option V), Same H H8 → L2 ≠ M → H L2 = none → H8 M = some (.dK (kD (mt ++ [k]))) → H8 L2 = some (.lst ((lf' ++ r.refs).map nV)) →
            ∃ m'', m'' < (lf' ++ [k]).length + 3 * (L.rows.length - mt.length) ∧ Same H H8 ∧ ∃ Lf u' mt lf, Lf ≠ M ∧ H Lf = none ∧ [some (.ref b), some (.ref c), some (.ref M), some (.ref L2), u] = [some (V.ref b), some (.ref c), some (.ref M), some (.ref Lf), u'] ∧ H8 M = some (.dK (kD mt)) ∧ H8 Lf = some (.lst (List.map nV lf)) ∧ Mk L mt lf ∧ m'' = lf.length + 3 * (L.rows.length - mt.length) :=
          fun L2 H8 u s8 hn nL2 gM8 gF8 => ⟨_, lt, s8, L2, u, _, _, hn, nL2, rfl, gM8, gF8, mk', rfl⟩
        clear mk' lt
        have hlf : lf'.length ≤ 500 := by have := mk.few; rw [List.length_append] at this; omega
        refine ⟨_, rfl, _, rfl, b, xs, _, _, rfl, rfl, .inl (.inl (s6 _ _ h3)), atI_nat hra, ra, _, _, .str r.word, rfl, rfl, .inl (.inl (s6 _ _ har)), atI_nat (j := 0) rfl, rfl, _, rfl, ?_⟩
        show if decide (V.str r.word = V.str "shown") = true then _ else _
        rw [sh_word]
        cases hS : r.isSh with
        | true =>
          refine iteT ?_
          cases r <;> simp [Rw.isSh] at hS
          rename_i m j
          refine ⟨_, rfl, .inl ⟨rfl, _, .inl (.inl gF6)⟩, _, rfl, _, rfl, b, xs, _, _, rfl, rfl, .inl (.inl (s6 _ _ h3)), atI_nat hra, ra, _, _, nV j, rfl, rfl, .inl (.inl (s6 _ _ har)), atI_nat (j := 2) rfl, Lf, _, _, rfl, rfl, gF6, by rw [List.length_map]; exact sz_lt (by omega), ?_⟩
          refine fin Lf _ _ (same_mut s6 nL) hne nL (by rw [upd_ne hne.symm]; exact gM6) (by rw [upd_same, List.map_append]; rfl)
        | false =>
          refine iteF ?_
          refine ⟨_, rfl, _, rfl, b, xs, _, _, rfl, rfl, .inl (.inl (s6 _ _ h3)), atI_nat hra, ra, _, _, .str r.word, rfl, rfl, .inl (.inl (s6 _ _ har)), atI_nat (j := 0) rfl, rfl, _, rfl, ?_⟩
          by_cases hw : r.word = "does"
          · refine ifNF (congrArg V.str hw) ?_
            refine fin Lf _ _ s6 hne nL gM6 ?_
            rw [refs_does hw, List.append_nil]
            exact gF6
          · refine ifNT (str_ne hw) ?_
            refine ⟨_, rfl, _, rfl, _, rfl, b, xs, _, _, rfl, rfl, .inl (.inl (s6 _ _ h3)), atI_nat hra, 1, rfl, ra, _, rfl, s6 _ _ har, fun p H8 s8 hp => ?_⟩
            rw [cut_refs2 hS hw] at hp
            refine ⟨p, _, rfl, .inr (.inl (.inl hp)), fun l nl => ?_⟩
            have sl := same_new (o := .lst (r.refs.map nV)) nl
            have s9 := (s6.trans s8).trans sl
            have gM9 := sl _ _ (s8 _ _ gM6)
            have hrf : r.refs.length ≤ 2 := by cases r <;> simp [Rw.refs]
            refine ⟨Lf, l, lf'.map nV, r.refs.map nV, rfl, rfl, sl _ _ (s8 _ _ gF6), upd_same, by rw [List.length_map, List.length_map]; exact sz_le (by omega), fun l2 nl2 => ?_⟩
            have s10 := same_new (o := .lst (lf'.map nV ++ r.refs.map nV)) nl2
            have n2 : l2 ≠ M := fun e => by rw [e, gM9] at nl2; cases nl2
            exact fin l2 _ _ (s9.trans s10) n2 (none_of s9 nl2) (s10 _ _ gM9) (by rw [upd_same, List.map_append])
theorem ok_law_told {C_law_marks : Cal P w K mg base "_law_marks" 1 ["rows", "chosen"] spMarksL} (F : FnP K "_law_told" "_law_told" s_law_told f fd) : FnOk P w K mg base CX0 2 f fd ["own", "rows", "chosen"] spToldL := by
  refine okN F sc_law_told (fun vs H Q E h => ?_) (fun cdv A outer s H vs Q E hr h => ?_)
  · obtain ⟨o, b, c, xs, L, rfl, _⟩ := h
    rfl
  · obtain ⟨o, b, c, xs, L, rfl, hb, hrs, hc, ok, q⟩ := h
    refine ⟨_, (pss_cons (ps_set (i := 3) sc_law_told.nd rfl (Or.inl rfl) (pe_cal C_law_marks hr (pa_cons (pv 1) (pa_cons (pv 2) pa_nil))))
      (pss_one (ps_ret (pe_tup (pa_cons (pv 0) (pa_cons (pv 1) (pa_cons (pv 2) (pa_cons (pv 3) (pa_cons (pe_callB (maxS K rfl) (by rfl) T.max_ b_max (pa_cons (pe_op op_cat (pe_lc (own := [("at", 4)]) rfl sc_law_told.nd (pi_sq (pv 3)) (blkOk_by (own := [("at", 4)]) (N := ["own", "rows", "chosen", "marks", "at"]) (sc := defScope s_law_told) (by decide +kernel)) (fun _ _ _ _ _ => pg_name (i := 4) sc_law_told.nd rfl (Or.inl rfl)) (fun _ _ _ _ _ => pts_nil) (fun _ _ _ _ _ => (pe_ix (ixT K) (pe_ix (ixL K) (pv 1) (pv 4) (fun _ _ => rfl)) pe_int (fun _ _ => rfl)))) (pe_lst (pa_cons pe_int pa_nil))) pa_nil)) pa_nil))))))))), ?_⟩
    refine ⟨_, rfl, _, rfl, b, c, xs, L, rfl, hb, hrs, hc, ok, fun m H1 s1 nm hm => ?_⟩
    refine ⟨_, rfl, _, rfl, _, rfl, _, rfl, _, rfl, m, _, rfl, .inl hm, fun J hJ D hD => ?_⟩
    have hml := marks_len L ok.len
    refine lcW_fm hJ (fun i => (L.marks[i]?).map fun j => nV (levAt L.rows j)) hD (by rw [List.length_map]; omega) (fun H2 s2 => same_of s2 (.inl hm)) (fun i x H9 H2 hi s2 y K1 K0 k1 k0 => ?_) (fun H2 s2 e => ?_)
    · obtain ⟨rfl, hx⟩ := y
      rw [List.getElem?_map] at hx
      obtain ⟨j, hj, rfl⟩ := Option.map_eq_some_iff.mp hx
      obtain ⟨k, jn, hr', e1, e2⟩ := sh_row (List.mem_of_getElem? hj)
      obtain ⟨ra, hra, har⟩ := hrs.get' hr'
      have s3 := s1.trans s2
      refine ⟨rfl, yesT ?_⟩
      refine ⟨_, rfl, _, rfl, b, xs, _, _, rfl, rfl, .inl (.inl (s3 _ _ hb)), atI_nat hra, ra, _, _, nV k, rfl, rfl, .inl (.inl (s3 _ _ har)), atI_nat (j := 1) rfl, ?_⟩
      exact k1 _ _ (by rw [hj, ← e1]; rfl) (fun _ _ e => e)
    rw [List.length_map, range_mapA] at e
    have s2 := s1.trans s2
    refine ⟨(by show 1 ≤ sizeLine; decide), fun l0 nl0 => ?_⟩
    have s3 := s2.trans (same_new (o := .lst [nV 0]) nl0)
    have e3 := same_new (o := .lst [nV 0]) nl0 _ _ e
    have g3 : (upd H2 l0 (.lst [nV 0])) l0 = some (.lst [nV 0]) := upd_same
    generalize upd H2 l0 (.lst [nV 0]) = H3 at s3 e3 g3
    refine ⟨D, l0, _, _, rfl, rfl, e3, g3, by rw [List.length_map]; exact sz_le (by simp; omega), fun l1 nl1 => ?_⟩
    have eI : (L.marks.map fun j => nV (levAt L.rows j)) ++ [nV 0] = ((L.marks.map fun j => ((levAt L.rows j : Nat) : Int)) ++ [0]).map V.int := by
      rw [List.map_append, List.map_map]
      rfl
    rw [eI]
    have s4 := s3.trans (same_new (o := .lst (((L.marks.map fun j => ((levAt L.rows j : Nat) : Int)) ++ [0]).map V.int)) nl1)
    refine ⟨l1, _, rfl, .inl (.inl upd_same), by simp, fun mx _ _ => ?_⟩
    generalize upd H3 l1 (.lst (((L.marks.map fun j => ((levAt L.rows j : Nat) : Int)) ++ [0]).map V.int)) = H4 at s4
    refine ⟨(by show 5 ≤ sizeLine; decide), fun t nt => ?_⟩
    exact q t m (.int mx) _ (s4.trans (same_new nt)) upd_same
theorem ok_law_sight {C_law_rows : Cal P w K mg base "_law_rows" 4 ["state", "some", "blocks"] spRowsL} {C_law_chosen : Cal P w K mg base "_law_chosen" 2 ["state", "rows", "many"] spChosenL} {C_law_told : Cal P w K mg base "_law_told" 2 ["own", "rows", "chosen"] spToldL}
    (F : FnP K "_law_sight" "_law_sight" s_law_sight f fd) : FnOk P w K mg base CX0 5 f fd ["state", "own", "seen", "blocks"] spSight := by
  refine okN F sc_law_sight (fun vs H Q E h => ?_) (fun cdv A outer s H vs Q E hr h => ?_)
  · obtain ⟨d, c, o, s, own, seen, b, rfl, _⟩ := h
    rfl
  · obtain ⟨d, c, o, s, own, seen, b, rfl, hd, ho, mv, hs, sl, sm, hb, q⟩ := h
    refine ⟨_, (pss_cons (ps_set (i := 4) sc_law_sight.nd rfl (Or.inl rfl) (pe_cal C_law_rows hr (pa_cons (pv 0) (pa_cons (pe_op op_cat (pe_op op_rep (pv 2) pe_int) (pv 1)) (pa_cons (pv 3) pa_nil)))))
      (pss_cons (ps_set (i := 5) sc_law_sight.nd rfl (Or.inl rfl) (pe_cal C_law_chosen hr (pa_cons (pv 0) (pa_cons (pv 4) (pa_cons (pe_callB (lenS K) (by rfl) T.len_ b_len (pa_cons (pv 1) pa_nil)) pa_nil)))))
      (pss_one (ps_ret (pe_cal C_law_told hr (pa_cons (pv 1) (pa_cons (pv 4) (pa_cons (pv 5) pa_nil)))))))), ?_⟩
    refine ⟨_, rfl, _, rfl, s, 2, _, rfl, rfl, cut_same _ _ hs, by decide, by decide, by rw [List.length_map]; exact sz_le (by simp; omega), fun p1 np1 => ?_⟩
    have eF : (List.replicate (Int.toNat 2) (seen.map V.str)).flatten = (seen ++ seen).map V.str := by
      show (List.replicate 2 (seen.map V.str)).flatten = _
      simp [List.replicate]
    rw [eF]
    have s1 := same_new (o := .lst ((seen ++ seen).map V.str)) np1
    have g1 : (L2.upd H p1 (.lst ((seen ++ seen).map V.str))) p1 = some (.lst ((seen ++ seen).map V.str)) := upd_same
    have hd1 := hd.mono s1
    have s1 := cut_mono (d := d) (c := c) s1
    generalize L2.upd H p1 (.lst ((seen ++ seen).map V.str)) = H1 at s1 g1 hd1
    have ho1 := s1 _ _ ho
    refine ⟨_, rfl, p1, o, _, _, rfl, rfl, g1, cut_same _ _ ho1, by rw [List.length_map, List.length_map, List.length_append]; have := mv.few; exact sz_le (by omega), fun p2 np2 => ?_⟩
    rw [← List.map_append]
    have g2 := hd1.new np2 (o := .lst ((seen ++ seen ++ own).map V.str))
    have z2 := same_new (o := .lst ((seen ++ seen ++ own).map V.str)) np2
    have hd2 := hd1.mono z2
    have s2 := s1.trans (cut_mono (d := d) (c := c) z2)
    generalize L2.upd H1 p2 (.lst ((seen ++ seen ++ own).map V.str)) = H2 at s2 g2 hd2
    have hmv : ∀ m ∈ seen ++ seen ++ own, isMv m := fun m hm => by
      rcases List.mem_append.mp hm with h | h
      · rcases List.mem_append.mp h with h | h <;> exact sm m h
      · exact mv.mv m h
    have hwl : (seen ++ seen ++ own).length = 2 * seen.length + own.length := by rw [List.length_append, List.length_append]; omega
    refine ⟨_, rfl, d, c, p2, seen ++ seen ++ own, b, rfl, hd2, g2, by have := mv.pos; omega, by have := mv.few; omega, hmv, hb, fun l xs rs H3 hd3 s3 nl hl hrs gd rl => ?_⟩
    have s3 := s2.trans s3
    have ho3 := s3 _ _ ho
    have nl0 : (cut d c H) l = none := by
      cases e : (cut d c H) l with
      | none => rfl
      | some u => have := cut_same _ _ (s2 _ _ e); rw [nl] at this; cases this
    refine ⟨_, rfl, _, rfl, _, rfl, o, _, rfl, .inl (.inl (.inl (cut_same _ _ ho3))), d, c, l, xs, rs, own.length, b, by rw [List.length_map]; rfl, hd3, hl, hrs, gd, by omega, mv.pos, mv.few, fun q0 xs' rs' ps H4 hd4 s4 nq hq hl4 hrs4 gd4 rl4 hps hpk => ?_⟩
    have s4 : CS d c H H4 := fun a u e => s4 a u (by rintro rfl; rw [nl0] at e; cases e) (s3 _ _ e)
    have okL2 : (⟨own, rs', ps⟩ : Pl).Ok2 := ⟨⟨mv, gd4.ok, by show rs'.length ≤ 120; omega, hps, hpk⟩, by show (rs'.filter Rw.isSh).length ≤ 4; have := gd4.sh; omega, gd4.lv⟩
    have okL := okL2.toOk
    refine ⟨_, rfl, _, rfl, _, rfl, o, l, q0, xs', ⟨own, rs', ps⟩, rfl, cut_same _ _ hl4, hrs4.mono cut_same, cut_same _ _ hq, okL, fun t m v H5 s5 ht => ?_⟩
    have s6 : CS d c H4 H5 := cut_mono s5
    have htc : (cut d c H5) t = some (.tup [.ref o, .ref l, .ref q0, .ref m, v]) := by
      have hd5 := hd4.mono s5
      obtain ⟨ne, cells, i, mm, k1, k2, _⟩ := hd5
      exact cut_at ht (fun e => by rw [e, k1] at ht; cases ht) (fun e => by rw [e, k2] at ht; cases ht)
    exact q t ⟨own, rs', ps⟩ H5 (hd4.mono s5) (s4.trans s6) ⟨⟨o, l, q0, m, v, xs', htc, s6 _ _ (s4 _ _ ho), s6 _ _ hl4, hrs4.mono s6, s6 _ _ hq⟩⟩ rfl okL (ok_small okL2)
theorem ok_law_made {K_Player : Mak P w K mg base cP "Player" 4 ["self", "moves", "rows", "chosen"] (spPlayer cP)} (F : FnP K "_law_made" "_law_made" s_law_made f fd) : FnOk P w K mg base CX0 6 f fd ["sight"] (spMade cP) := by
  refine okN F sc_law_made (fun vs H Q E h => ?_) (fun cdv A outer s H vs Q E hr h => ?_)
  · obtain ⟨t, d, c, L, rfl, _⟩ := h
    rfl
  · obtain ⟨t, d, c0, L, rfl, hd, hs, ok, q⟩ := h
    obtain ⟨o, b, c, m, v, xs, h1, h2, h3, h4, h5⟩ := hs.ex
    refine ⟨_, (pss_one (ps_ret (pe_mak K_Player hr (pa_cons (pe_callTy (lstS K) (by rfl) T.list_ b_list (pa_cons (pe_ix (ixT K) (pv 0) pe_int (fun _ _ => rfl)) pa_nil)) (pa_cons (pe_callTy (lstS K) (by rfl) T.list_ b_list (pa_cons (pe_ix (ixT K) (pv 0) pe_int (fun _ _ => rfl)) pa_nil)) (pa_cons (pe_callTy (lstS K) (by rfl) T.list_ b_list (pa_cons (pe_ix (ixT K) (pv 0) pe_int (fun _ _ => rfl)) pa_nil)) pa_nil)))))), ?_⟩
    refine ⟨_, rfl, t, _, _, .ref o, rfl, rfl, .inl (.inl h1), atI_nat (j := 0) rfl, o, _, rfl, .inl (.inl (.inl h2)), fun l1 n1 => ?_⟩
    have s1 := same_new (o := .lst (L.moves.map V.str)) n1
    have g1 : (upd H l1 (.lst (L.moves.map V.str))) l1 = some (.lst (L.moves.map V.str)) := upd_same
    generalize upd H l1 (.lst (L.moves.map V.str)) = H1 at s1 g1
    refine ⟨_, rfl, t, _, _, .ref b, rfl, rfl, .inl (.inl (s1 _ _ h1)), atI_nat (j := 1) rfl, b, _, rfl, .inl (.inl (.inl (s1 _ _ h3))), fun l2 n2 => ?_⟩
    have z2 := same_new (o := .lst xs) n2
    have g2 : (upd H1 l2 (.lst xs)) l2 = some (.lst xs) := upd_same
    have g1 := z2 _ _ g1
    have s2 := s1.trans z2
    generalize upd H1 l2 (.lst xs) = H2 at s2 g1 g2
    refine ⟨_, rfl, t, _, _, .ref c, rfl, rfl, .inl (.inl (s2 _ _ h1)), atI_nat (j := 2) rfl, c, _, rfl, .inl (.inl (.inl (s2 _ _ h5))), fun l3 n3 => ?_⟩
    have z3 := same_new (o := .lst (L.picks.map nV)) n3
    have g3 : (upd H2 l3 (.lst (L.picks.map nV))) l3 = some (.lst (L.picks.map nV)) := upd_same
    have g1 := z3 _ _ g1
    have g2 := z3 _ _ g2
    have s3 := s2.trans z3
    generalize upd H2 l3 (.lst (L.picks.map nV)) = H3 at s3 g1 g2 g3
    intro p dp np ndp nep
    have sP : Same H3 (upd (upd H3 dp (.own p)) p (.ins cP dp [])) := (same_new ndp).trans (same_new (by rw [upd_ne nep.symm]; exact np))
    refine ⟨p, dp, l1, l2, l3, xs, L, rfl, upd_same, .inl (sP _ _ g1), .inl (sP _ _ g2), (h4.mono s3).mono sP, .inl (sP _ _ g3), ok, fun HA zA hpA hnew => ⟨rfl, ?_⟩⟩
    have sHA : Same H HA := fun a o e => zA a o (ne_of_none (s3 _ _ e) np) (sP _ _ (s3 _ _ e))
    obtain ⟨ne, cells, i, mm, k1, k2, _⟩ := hd.mono sHA
    obtain ⟨dy, pa, pb, pc, pd, pxs, e1, e2, e3, e4, e5, e6⟩ := hpA.ex
    have npd := hnew _ _ _ pd e1 rfl
    obtain ⟨_, cells0, i0, mm0, j1, j2, _⟩ := hd
    have hpd1 : ∀ a u, H a = some u → pd ≠ a := fun a u hu e => by
      have := sP _ _ (s3 _ _ hu)
      rw [← e, npd] at this
      cases this
    have ntd : ∀ {a o}, HA a = some o → (∀ xs, o ≠ .lst xs) → (cut d c0 HA) a = some o := fun {a o} h hn => cut_at h (fun e => by rw [e, k1] at h; exact hn _ (Option.some.inj h).symm) (fun e => by rw [e, k2] at h; exact hn _ (Option.some.inj h).symm)
    have hrows : RowsAt (cut d c0 HA) pxs L.rows := paired_imp e4 fun x r ⟨a, h1, h2⟩ => ⟨a, h1, ntd h2 fun xs e => nomatch e⟩
    exact q p HA sHA ⟨⟨dy, pa, pb, pc, pd, pxs, ntd e1 (fun xs e => nomatch e), ntd e2 (fun xs e => nomatch e), ntd e3 (fun xs e => nomatch e), hrows, ntd e5 (fun xs e => nomatch e), cut_at e6 (hpd1 _ _ j1) (hpd1 _ _ j2)⟩⟩ fun C dx fs d' z1 z2 => none_of (s3.trans sP) (hnew C dx fs d' z1 z2)
end
end Lk

set_option maxHeartbeats 4000000
namespace Lk
open PySem PySem.Spec PyProof.Rows L2
/-! ### k51: a meeting's levels, led -/
def spAtLevel (cM : Addr) : Sp := fun vs H Q _ => ∃ x Ls n j, vs = [.ref x, nV j] ∧ MtAt cM H x Ls n ∧ ∀ q, H q = some (.tup ((done Ls (min j n)).map V.str)) → Q (.ref q) H
def spMovesAt (cM : Addr) : Sp := fun vs H Q _ => ∃ x Ls n j, vs = [.ref x, nV j] ∧ MtAt cM H x Ls n ∧ j ≤ 1000 ∧ ∀ q, H q = some (.tup ((done Ls (min j n)).map V.str)) → Q (.ref q) H
def spPaper (cM : Addr) : Sp := fun vs H Q _ => ∃ x Ls n, vs = [.ref x] ∧ MtAt cM H x Ls n ∧ ∀ q lns H', Same H H' → lns.length = n + 1 → H' q = some (.tup lns) → Q (.ref q) H'
def spNeedStand (cP cG : Addr) : Sp := fun vs H Q _ => ∃ g a L s, vs = [.ref g, .ref a] ∧ GaAt cP cG H g L ∧ L.rows.length ≤ 120 ∧ SdAt H a s ∧ Sd.Ok L s ∧ ∀ H', Same H H' → Q .non H'
def spBeginS (cP : Addr) : Sp := fun vs H Q _ => ∃ p L, vs = [.ref p] ∧ PlAt cP H p L ∧ L.Ok ∧ ∀ a H', Same H H' → SdAt H' a L.init → Q (.ref a) H'
def spLedS (cP : Addr) : Sp := fun vs H Q _ => ∃ p a L s y, vs = [.ref p, .ref a, .str y] ∧ PlAt cP H p L ∧ L.Ok ∧ SdAt H a s ∧ Sd.Ok L s ∧ isMv y ∧ ∀ q H', Same H H' → SdAt H' q (L.step s y) → Q (.ref q) H'
section
variable {P : Program} {w : World} {K : PySem.W.Frag} {mg : Str → Option Value} {base : Heap} {cP cG cT cM cS cF : Addr} {f : Addr} {fd : FuncData} (T : Txt K w mg cP cG cT) (TM : TxM K w mg cM cS cF)
include T TM
theorem ok_at_level (F : FnP K "at_level" "Meeting.at_level" s_Meeting_at_level f fd) : FnOk P w K mg base CX0 1 f fd ["self", "level"] (spAtLevel cM) := by
  refine okN F sc_Meeting_at_level (fun vs H Q E h => ?_) (fun cdv A outer s H vs Q E hr h => ?_)
  · obtain ⟨x, Ls, n, j, rfl, _⟩ := h
    rfl
  · obtain ⟨x, Ls, n, j, rfl, hm, q⟩ := h
    obtain ⟨dx, si, ln, bl, hi, ys, h1, h2, h3, _⟩ := hm.ex
    obtain ⟨r, h4, h5⟩ := h3.at_ (min j n) (Nat.min_le_right _ _)
    have hl := h3.len
    refine ⟨_, (pss_one (ps_ret (pe_ix (ixL K) (fldK K (pv 0) rfl) (pe_callB (call_min2 rfl) (by rfl) T.min_ b_min (pa_cons (pv 1) (pa_cons (pe_op op_sub (pe_callB (lenS K) (by rfl) T.len_ b_len (pa_cons (fldK K (pv 0) rfl) pa_nil)) pe_int) pa_nil))) (fun _ _ => rfl)))), ?_⟩
    refine ⟨_, rfl, x, _, _, _, _, rfl, h1, TM.clM, TM.naM _ (by simp), rfl, _, rfl, _, rfl, x, _, _, _, _, rfl, h1, TM.clM, TM.naM _ (by simp), rfl, bl, _, rfl, .inl (.inl (.inl h2)), _, _, rfl, rfl, _, _, rfl, ?_⟩
    refine ⟨bl, ys, _, .ref r, rfl, rfl, .inl (.inl h2), ?_, q r h5⟩
    have e : (if ((ys.length : Nat) : Int) - 1 < ((j : Nat) : Int) then ((ys.length : Nat) : Int) - 1 else ((j : Nat) : Int)) = ((min j n : Nat) : Int) := by
      split <;> omega
    rw [e]
    exact atI_nat h4
theorem ok_moves_at {C_is_number : Cal P w K mg base "is_number" 1 ["thing", "low", "high"] spIsNumber} {M_at_level : Mth P w K mg base cM "at_level" 1 ["self", "level"] (spAtLevel cM)} (F : FnP K "moves_at" "Meeting.moves_at" s_Meeting_moves_at f fd) :
    FnOk P w K mg base CX0 2 f fd ["self", "level"] (spMovesAt cM) := by
  refine okN F sc_Meeting_moves_at (fun vs H Q E h => ?_) (fun cdv A outer s H vs Q E hr h => ?_)
  · obtain ⟨x, Ls, n, j, rfl, _⟩ := h
    rfl
  · obtain ⟨x, Ls, n, j, rfl, hm, hj, q⟩ := h
    obtain ⟨dx, si, ln, bl, hi, ys, h1, h2, h3, _⟩ := hm.ex
    refine ⟨_, (pss_cons (ps_if (pt_not (pt_val (pe_cal C_is_number hr (pa_cons (pv 1) (pa_cons pe_int (pa_cons (gl_HIGHEST TM) pa_nil)))))) (pss_one ps_never) pss_nil)
      (pss_one (ps_ret (pe_mth TM.clM M_at_level hr (pv 0) (pa_cons (pv 1) pa_nil))))), ?_⟩
    refine ⟨_, rfl, _, _, _, rfl, ?_⟩
    rw [decide_eq_true (by omega), decide_eq_true (by omega)]
    refine ⟨true, rfl, ?_⟩
    refine iteF ?_
    exact ⟨_, rfl, x, _, _, rfl, h1, rfl, _, rfl, x, Ls, n, j, rfl, hm, q⟩
theorem ok_paper (F : FnP K "paper" "Meeting.paper" s_Meeting_paper f fd) : FnOk P w K mg base CX0 1 f fd ["self"] (spPaper cM) := by
  refine okN F sc_Meeting_paper (fun vs H Q E h => ?_) (fun cdv A outer s H vs Q E hr h => ?_)
  · obtain ⟨x, Ls, n, rfl, _⟩ := h
    rfl
  · obtain ⟨x, Ls, n, rfl, hm, q⟩ := h
    obtain ⟨dx, si, ln, bl, hi, ys, h1, h2, h3, lns, h4, h5⟩ := hm.ex
    refine ⟨_, (pss_one (ps_ret (pe_callTy tupA (by rfl) T.tuple_ b_tuple (pa_cons (fldK K (pv 0) rfl) pa_nil)))), ?_⟩
    exact ⟨_, rfl, x, _, _, _, _, rfl, h1, TM.clM, TM.naM _ (by simp), rfl, ln, lns, rfl, .inl h4, fun p H1 s1 hp => q p lns H1 s1 h5 hp⟩
omit TM in
theorem ok_need_stand {M_is_stand : Mth P w K mg base cG "is_stand" 2 ["self", "thing"] (spIsStand cP cG)} (F : FnP K "need_stand" "need_stand" s_need_stand f fd) : FnOk P w K mg base CX0 3 f fd ["gait", "thing"] (spNeedStand cP cG) := by
  refine okN F sc_need_stand (fun vs H Q E h => ?_) (fun cdv A outer s H vs Q E hr h => ?_)
  · obtain ⟨g, a, L, s, rfl, _⟩ := h
    rfl
  · obtain ⟨g, a, L, st, rfl, hg, hl, ha, hs, q⟩ := h
    obtain ⟨dx, p, m, h1, _⟩ := hg.ex
    refine ⟨_, (pss_one (ps_if (pt_not (pt_val (pe_mth T.clG M_is_stand hr (pv 0) (pa_cons (pv 1) pa_nil)))) (pss_one ps_never) pss_nil)), ?_⟩
    refine ⟨_, rfl, g, _, _, rfl, h1, rfl, _, rfl, g, a, L, st, rfl, hg, hl, ha, hs, fun H1 s1 => ⟨true, rfl, ?_⟩⟩
    exact iteF (q H1 s1)
omit TM in
theorem ok_begin {C_need_player : Cal P w K mg base "need_player" 1 ["thing"] (spNeedPlayer cP)} {K_Gait : Mak P w K mg base cG "Gait" 3 ["self", "player"] (spGait cP cG)} {M_first : Mth P w K mg base cG "first" 1 ["self"] (spFirst cP cG)}
    (F : FnP K "begin" "begin" s_begin f fd) : FnOk P w K mg base CX0 5 f fd ["player"] (spBeginS cP) := by
  refine okN F sc_begin (fun vs H Q E h => ?_) (fun cdv A outer s H vs Q E hr h => ?_)
  · obtain ⟨p, L, rfl, _⟩ := h
    rfl
  · obtain ⟨p, L, rfl, hp, ok, q⟩ := h
    refine ⟨_, (pss_cons (ps_expr (pe_cal C_need_player hr (pa_cons (pv 0) pa_nil)))
      (pss_one (ps_ret (pe_mth0 T.clG M_first hr (pe_mak K_Gait hr (pa_cons (pv 0) pa_nil)))))), ?_⟩
    refine ⟨_, rfl, p, L, rfl, hp, ?_⟩
    refine ⟨_, rfl, fun g dg ng ndg neg => ?_⟩
    have s2 : Same H (upd (upd H dg (.own g)) g (.ins cG dg [])) := (same_new ndg).trans (same_new (by rw [upd_ne neg.symm]; exact ng))
    refine ⟨g, dg, p, L, rfl, upd_same, hp.mono s2, ok.len, fun H2 z2 hg2 => ⟨rfl, ?_⟩⟩
    have s3 : Same H H2 := fun c u e => z2 c u (ne_of_none e ng) (s2 _ _ e)
    obtain ⟨dx, p', m', h1, h2, h3⟩ := hg2.ex
    exact ⟨g, _, _, rfl, h1, rfl, g, L, rfl, hg2, ok.len, fun a H3 s4 ha => q a H3 (s3.trans s4) ha⟩
omit TM in
theorem ok_led {C_need_player : Cal P w K mg base "need_player" 1 ["thing"] (spNeedPlayer cP)} {K_Gait : Mak P w K mg base cG "Gait" 3 ["self", "player"] (spGait cP cG)} {C_need_stand : Cal P w K mg base "need_stand" 3 ["gait", "thing"] (spNeedStand cP cG)}
    {C_is_move : Cal P w K mg base "is_move" 1 ["thing"] spIsMove} {M_behind : Mth P w K mg base cG "behind" 5 ["self", "stand", "letter"] (spBehind cP cG)}
    (F : FnP K "led" "led" s_led f fd) : FnOk P w K mg base CX0 6 f fd ["player", "stand", "letter"] (spLedS cP) := by
  refine okN F sc_led (fun vs H Q E h => ?_) (fun cdv A outer s H vs Q E hr h => ?_)
  · obtain ⟨p, a, L, s, y, rfl, _⟩ := h
    rfl
  · obtain ⟨p, a, L, st, y, rfl, hp, ok, ha, hs, hy, q⟩ := h
    refine ⟨_, (pss_cons (ps_expr (pe_cal C_need_player hr (pa_cons (pv 0) pa_nil)))
      (pss_cons (ps_set (i := 3) sc_led.nd rfl (Or.inl rfl) (pe_mak K_Gait hr (pa_cons (pv 0) pa_nil)))
      (pss_cons (ps_expr (pe_cal C_need_stand hr (pa_cons (pv 3) (pa_cons (pv 1) pa_nil))))
      (pss_cons (ps_if (pt_not (pt_val (pe_cal C_is_move hr (pa_cons (pv 2) pa_nil)))) (pss_one ps_never) pss_nil)
      (pss_one (ps_ret (pe_mth T.clG M_behind hr (pv 3) (pa_cons (pv 1) (pa_cons (pv 2) pa_nil))))))))), ?_⟩
    refine ⟨_, rfl, p, L, rfl, hp, ?_⟩
    refine ⟨_, rfl, fun g dg ng ndg neg => ?_⟩
    have s2 : Same H (upd (upd H dg (.own g)) g (.ins cG dg [])) := (same_new ndg).trans (same_new (by rw [upd_ne neg.symm]; exact ng))
    refine ⟨g, dg, p, L, rfl, upd_same, hp.mono s2, ok.len, fun H2 z2 hg2 => ⟨rfl, ?_⟩⟩
    have s3 : Same H H2 := fun c u e => z2 c u (ne_of_none e ng) (s2 _ _ e)
    refine ⟨_, rfl, _, rfl, g, a, L, st, rfl, hg2, ok.len, ha.mono s3, hs, fun H3 s4 => ?_⟩
    have s5 := s3.trans s4
    refine ⟨_, rfl, y, rfl, hy, fun H4 s6 => ⟨true, rfl, ?_⟩⟩
    refine iteF ?_
    have s7 := s5.trans s6
    have hg4 := hg2.mono (s4.trans s6)
    obtain ⟨dx, p', m', h1, h2, h3⟩ := hg4.ex
    exact ⟨_, rfl, g, _, _, rfl, h1, rfl, _, rfl, _, rfl, g, a, L, st, y, rfl, hg4, ok, ha.mono s7, hs.2, fun b H5 s8 hb => q b H5 (s7.trans s8) hb⟩
end
end Lk

set_option maxHeartbeats 4000000
namespace Lk
open PySem PySem.Spec PyProof.Rows L2
/-! ### k51: the rivals -/
theorem rch_mono {rs : List Rw} {ps qs : List Nat} (h : ∀ i ∈ ps, i ∈ qs) {i : Nat} (r : Rch rs ps i) : Rch rs qs i := by
  induction r with
  | pick hi => exact .pick (h _ hi)
  | ref _ e hj ih => exact .ref ih e hj
theorem marks_sub {L R : Pl} (hr : R.rows = L.rows) (h : ∀ i ∈ R.picks, i ∈ L.picks) {i : Nat} (hi : i ∈ R.marks) : i ∈ L.marks := by
  obtain ⟨h1, h2⟩ := mem_marks.mp hi
  obtain ⟨h3, h4⟩ := mem_cone.mp h1
  rw [hr] at h2 h3 h4
  exact mem_marks.mpr ⟨mem_cone.mpr ⟨h3, rch_mono h h4⟩, h2⟩
theorem small_sub {L R : Pl} (hr : R.rows = L.rows) (h : ∀ i ∈ R.picks, i ∈ L.picks) (sm : L.Small) : R.Small := by
  refine ⟨Nat.le_trans ?_ sm.1, ?_⟩
  · classical
    unfold Pl.marks Pl.cone coneOf
    rw [hr, List.filter_filter, List.filter_filter, ← List.countP_eq_length_filter, ← List.countP_eq_length_filter]
    refine List.countP_mono_left fun x _ hx => ?_
    rw [Bool.and_eq_true] at hx ⊢
    exact ⟨hx.1, decide_eq_true (rch_mono h (of_decide_eq_true hx.2))⟩
  · refine Nat.le_trans ?_ sm.2
    refine foldl_max_le _ _ (Nat.zero_le _) fun x hx => ?_
    obtain ⟨i, hi, rfl⟩ := List.mem_map.mp hx
    rw [hr]
    exact lev_high' (marks_sub hr h hi)
/-- one that goes another one's way, letters for its moves -/
def wayPl (L : Pl) (ls : List Str) : Pl := ⟨ls.take (min ls.length L.moves.length), L.rows, L.picks.take (min ls.length L.moves.length - 1)⟩
theorem way_ok {L : Pl} (ok : L.Ok) {ls : List Str} (mv : Mv ls) : (wayPl L ls).Ok := by
  have h1 := mv.pos
  have h2 := mv.few
  have h3 := ok.mv.pos
  have h4 := ok.np
  refine ⟨⟨?_, ?_, (List.take_sublist _ _).nodup mv.nd, fun m hm => mv.mv m (List.mem_of_mem_take hm)⟩, ok.rows, ok.len, ?_, fun i hi => ok.pk i (List.mem_of_mem_take (show i ∈ L.picks.take _ from hi))⟩
  · show 1 ≤ (ls.take _).length
    rw [List.length_take]
    omega
  · show (ls.take _).length ≤ 4
    rw [List.length_take]
    omega
  · show (L.picks.take _).length + 1 = (ls.take _).length
    rw [List.length_take, List.length_take]
    omega
theorem way_small {L : Pl} (sm : L.Small) (ls : List Str) : (wayPl L ls).Small := small_sub (L := L) (R := wayPl L ls) rfl (fun _ hi => List.mem_of_mem_take (l := L.picks) hi) sm
/-- one told by hand -/
def knPl (ms : List Str) (mark : Str) (p : Nat) : Pl := ⟨ms, [.fl, .ds 1 mark, .sh 0 1, .ng 2, .sh 1 3, .ng 0], List.replicate (ms.length - 1) p⟩
theorem kn_ok2 {ms : List Str} {mark : Str} {p : Nat} (mv : Mv ms) (hm : isMv mark) (h2 : 2 ≤ p) (h5 : p ≤ 5) : (knPl ms mark p).Ok2 := by
  refine ⟨⟨mv, fun i r e => ?_, by show 6 ≤ 120; decide, ?_, fun i hi => ?_⟩, by show 2 ≤ 4; decide, fun r hr => ?_⟩
  · have e : ([.fl, .ds 1 mark, .sh 0 1, .ng 2, .sh 1 3, .ng 0] : List Rw)[i]? = some r := e
    match i, e with
    | 0, e => cases e; trivial
    | 1, e => cases e; exact ⟨by decide, hm⟩
    | 2, e => cases e; exact ⟨by decide, by decide⟩
    | 3, e => cases e; show 2 < 3; decide
    | 4, e => cases e; exact ⟨by decide, by decide⟩
    | 5, e => cases e; show 0 < 5; decide
    | n + 6, e => simp at e
  · show (List.replicate _ _).length + 1 = ms.length
    rw [List.length_replicate]
    have := mv.pos
    omega
  · have := (List.mem_replicate.mp hi).2
    subst this
    refine ⟨by show i < 6; omega, ?_⟩
    show ([true, false, true, true, true, true] : List Bool)[i]? = some true
    match i, h2, h5 with
    | 2, _, _ => rfl
    | 3, _, _ => rfl
    | 4, _, _ => rfl
    | 5, _, _ => rfl
  · have hr : r ∈ ([.fl, .ds 1 mark, .sh 0 1, .ng 2, .sh 1 3, .ng 0] : List Rw) := hr
    simp only [List.mem_cons, List.not_mem_nil, or_false] at hr
    rcases hr with rfl | rfl | rfl | rfl | rfl | rfl <;> first | exact Nat.zero_le _ | exact (by decide : 1 ≤ 12)
/-- a player that was made of new things stands outside the draw -/
theorem pl_cut {cP d c p : Addr} {H HA Hq : Hp} {L : Pl} (hd : Dw d c H) (s : Same H HA) (sq : Same H Hq) (hp : PlAt cP HA p L) (hn : PlNew Hq HA p) : PlAt cP (cut d c HA) p L := by
  obtain ⟨ne, cells, i, mm, k1, k2, _⟩ := hd.mono s
  obtain ⟨dy, pa, pb, pc, pd, pxs, e1, e2, e3, e4, e5, e6⟩ := hp.ex
  have npd := hn _ _ _ pd e1 rfl
  obtain ⟨_, cells0, i0, mm0, j1, j2, _⟩ := hd
  have hpd1 : ∀ a u, H a = some u → pd ≠ a := fun a u hu e => by
    have := sq _ _ hu
    rw [← e, npd] at this
    cases this
  have ntd : ∀ {a o}, HA a = some o → (∀ xs, o ≠ .lst xs) → (cut d c HA) a = some o := fun {a o} h hn => cut_at h (fun e => by rw [e, k1] at h; exact hn _ (Option.some.inj h).symm) (fun e => by rw [e, k2] at h; exact hn _ (Option.some.inj h).symm)
  have hrows : RowsAt (cut d c HA) pxs L.rows := paired_imp e4 fun x r ⟨a, h1, h2⟩ => ⟨a, h1, ntd h2 fun xs e => nomatch e⟩
  exact ⟨⟨dy, pa, pb, pc, pd, pxs, ntd e1 (fun xs e => nomatch e), ntd e2 (fun xs e => nomatch e), ntd e3 (fun xs e => nomatch e), hrows, ntd e5 (fun xs e => nomatch e), cut_at e6 (hpd1 _ _ j1) (hpd1 _ _ j2)⟩⟩
theorem pl_cut1 {cP p fo : Addr} {H HA X : Hp} {L : Pl} {zs zs' : List V} (hX : Same X HA) (hp : PlAt cP X p L) (hn : PlNew H HA p) (hf : H fo = some (.lst zs)) (hfA : HA fo = some (.lst zs')) : PlAt cP (cut fo fo X) p L := by
  obtain ⟨dy, pa, pb, pc, pd, pxs, e1, e2, e3, e4, e5, e6⟩ := hp.ex
  have npd := hn _ _ _ pd (hX _ _ e1) rfl
  have nfo : pd ≠ fo := fun e => by rw [e, hf] at npd; cases npd
  have ntd : ∀ {a o}, X a = some o → (∀ xs, o ≠ .lst xs) → (cut fo fo X) a = some o := fun {a o} h hn =>
    have q : a ≠ fo := fun e => by have h := hX _ _ h; rw [e, hfA] at h; exact hn _ (Option.some.inj h).symm
    cut_at h q q
  have hrows : RowsAt (cut fo fo X) pxs L.rows := paired_imp e4 fun x r ⟨a, h1, h2⟩ => ⟨a, h1, ntd h2 fun xs e => nomatch e⟩
  exact ⟨⟨dy, pa, pb, pc, pd, pxs, ntd e1 (fun xs e => nomatch e), ntd e2 (fun xs e => nomatch e), ntd e3 (fun xs e => nomatch e), hrows, ntd e5 (fun xs e => nomatch e), cut_at e6 nfo nfo⟩⟩
theorem cut_own {d c fo : Addr} {H : Hp} {o : HO} : Same (cut fo fo (cut d c H)) (cut fo fo (cut d c (upd H fo o))) := fun a u e => by
  unfold cut at e ⊢
  split at e
  · cases e
  · rename_i h
    rw [if_neg h]
    split at e
    · cases e
    · rename_i h2
      rw [if_neg h2, upd_ne (fun q => h (.inl q))]
      exact e
theorem PlsAt.snoc {cP : Addr} {H : Hp} {xs : List V} {Ls : List Pl} {p : Addr} {L : Pl} (h : PlsAt cP H xs Ls) (hp : PlAt cP H p L) : PlsAt cP H (xs ++ [.ref p]) (Ls ++ [L]) := by
  have hl := h.len
  refine ⟨by simp [hl], fun s R e => ?_⟩
  rcases Nat.lt_trichotomy s Ls.length with q | q | q
  · rw [List.getElem?_append_left q] at e
    obtain ⟨p', h1, h2⟩ := h.at_ s R e
    exact ⟨p', by rw [List.getElem?_append_left (by omega)]; exact h1, h2⟩
  · subst q
    rw [List.getElem?_append_right (Nat.le_refl _), Nat.sub_self] at e
    cases e
    exact ⟨p, by rw [List.getElem?_append_right (by omega), hl, Nat.sub_self]; rfl, hp⟩
  · rw [List.getElem?_eq_none (by simp; omega)] at e
    cases e
theorem Dw.nd_at {d c p : Addr} {H : Hp} {xs : List V} (h : Dw d c H) (hp : (cut d c H) p = some (.lst xs)) : p ≠ d ∧ p ≠ c := by
  constructor <;> intro e <;> subst e <;> simp [cut] at hp
def spKnown (cP : Addr) : Sp := fun vs H Q _ => ∃ (t l d c : Addr) (L : Pl) (ls : List Str) (z : Nat), vs = [.ref t, .ref l, nV z] ∧ Dw d c H ∧ SiAt H t L ∧ L.Ok ∧ H l = some (.lst (ls.map V.str)) ∧ Mv ls ∧ z < 4 ∧
  ∀ p k m H', Same H H' → isMv m → 2 ≤ k → k ≤ 5 → PlAt cP (cut d c H') p (knPl (ls.take 2) m k) → Q (.ref p) H'
structure Riv (ls : List Str) (R : Pl) : Prop where
  ok : R.Ok
  sm : R.Small
  mem : ∀ m ∈ R.moves, m ∈ ls
def spRivals (cP : Addr) : Sp := fun vs H Q _ => ∃ (d c t l : Addr) (L : Pl) (ls : List Str), vs = [.ref d, .ref t, .ref l] ∧ Dw d c H ∧ SiAt (cut d c H) t L ∧ L.Ok ∧ L.Small ∧ (cut d c H) l = some (.lst (ls.map V.str)) ∧ Mv ls ∧ ls.length ≤ 3 ∧
  ∀ q xs Rs H', Dw d c H' → CS d c H H' → (cut d c H') q = some (.lst xs) → PlsAt cP (cut d c H') xs Rs → (∀ R ∈ Rs, Riv ls R) → Rs.length = 4 → Q (.ref q) H'
section
variable {P : Program} {w : World} {K : PySem.W.Frag} {mg : Str → Option Value} {base : Heap} {cP cG cT : Addr} {f : Addr} {fd : FuncData} (T : Txt K w mg cP cG cT)
include T
theorem ok_law_known {K_Player : Mak P w K mg base cP "Player" 4 ["self", "moves", "rows", "chosen"] (spPlayer cP)} (F : FnP K "_law_known" "_law_known" s_law_known f fd) : FnOk P w K mg base CX0 6 f fd ["sight", "signs", "way"] (spKnown cP) := by
  refine okN F sc_law_known (fun vs H Q E h => ?_) (fun cdv A outer s H vs Q E hr h => ?_)
  · obtain ⟨t, l, d, c, L, ls, z, rfl, _⟩ := h
    rfl
  · obtain ⟨t, l, d, c, L, ls, z, rfl, hd, hs, ok, hl, mv, hz, q⟩ := h
    obtain ⟨o, b, c', m', v', xs, h1, h2, h3, h4, h5⟩ := hs.ex
    refine ⟨_, (pss_cons (ps_par (i := 3) (j := 4) (by rfl) sc_law_known.nd rfl rfl (by decide) rfl rfl (pa_cons (pe_slice (slL K) (pv 1) po_none (po_some pe_int)) (pa_cons (pe_ix (ixL K) (pe_ix (ixT K) (pv 0) pe_int (fun _ _ => rfl)) pe_int (fun _ _ => rfl)) pa_nil)) (by rfl))
      (pss_cons (ps_set (i := 5) sc_law_known.nd rfl (Or.inl rfl) (pe_lst (pa_cons (pe_tup (pa_cons pe_str pa_nil)) (pa_cons (pe_tup (pa_cons pe_str (pa_cons pe_int (pa_cons (pv 4) pa_nil)))) (pa_cons (pe_tup (pa_cons pe_str (pa_cons pe_int (pa_cons pe_int pa_nil)))) (pa_cons (pe_tup (pa_cons pe_str (pa_cons pe_int pa_nil))) (pa_cons (pe_tup (pa_cons pe_str (pa_cons pe_int (pa_cons pe_int pa_nil)))) (pa_cons (pe_tup (pa_cons pe_str (pa_cons pe_int pa_nil))) pa_nil))))))))
      (pss_one (ps_ret (pe_mak K_Player hr (pa_cons (pv 3) (pa_cons (pv 5) (pa_cons (pe_op op_rep (pe_lst (pa_cons (pe_ix (ixL K) (pe_lst (pa_cons pe_int (pa_cons pe_int (pa_cons pe_int (pa_cons pe_int pa_nil))))) (pv 2) (fun _ _ => rfl)) pa_nil)) (pe_op op_sub (pe_callB (lenS K) (by rfl) T.len_ b_len (pa_cons (pv 3) pa_nil)) pe_int)) pa_nil)))))))), ?_⟩
    refine ⟨_, rfl, 2, rfl, l, _, rfl, .inl (.inl hl), fun ow now => ?_⟩
    have e2 : cutV (ls.map V.str) none (some 2) = (ls.take 2).map V.str := by
      have := cut_up (ls.map V.str) 2
      rw [← List.map_take] at this
      exact this
    rw [e2]
    have s1 := same_new (o := .lst ((ls.take 2).map V.str)) now
    have g1 : (L2.upd H ow (.lst ((ls.take 2).map V.str))) ow = some (.lst ((ls.take 2).map V.str)) := upd_same
    generalize L2.upd H ow (.lst ((ls.take 2).map V.str)) = H1 at s1 g1
    obtain ⟨mk, hmk⟩ : ∃ mk, L.moves[0]? = some mk := ⟨_, List.getElem?_eq_getElem ok.mv.pos⟩
    have hmm := ok.mv.mv mk (List.mem_of_getElem? hmk)
    refine ⟨_, rfl, t, _, _, .ref o, rfl, rfl, .inl (.inl (s1 _ _ h1)), atI_nat (j := 0) rfl, o, _, _, .str mk, rfl, rfl, .inl (.inl (s1 _ _ h2)), atI_nat (j := 0) (by rw [List.getElem?_map, hmk]; rfl), _, _, rfl, ?_⟩
    refine ⟨(by show 1 ≤ sizeLine; decide), fun a0 n0 => ?_⟩
    have zn := same_new (o := .tup [.str "false"]) n0
    have g_a0 : (L2.upd H1 a0 (.tup [.str "false"])) a0 = some (.tup [.str "false"]) := upd_same
    have s1 := s1.trans zn
    have g1 := zn _ _ g1
    generalize L2.upd H1 a0 (.tup [.str "false"]) = H2 at zn g_a0 s1 g1
    refine ⟨_, rfl, (by show 3 ≤ sizeLine; decide), fun a1 n1 => ?_⟩
    have zn := same_new (o := .tup [.str "does", .int 1, .str mk]) n1
    have g_a1 : (L2.upd H2 a1 (.tup [.str "does", .int 1, .str mk])) a1 = some (.tup [.str "does", .int 1, .str mk]) := upd_same
    have s1 := s1.trans zn
    have g1 := zn _ _ g1
    have g_a0 := zn _ _ g_a0
    generalize L2.upd H2 a1 (.tup [.str "does", .int 1, .str mk]) = H3 at zn g_a1 s1 g1 g_a0
    refine ⟨(by show 3 ≤ sizeLine; decide), fun a2 n2 => ?_⟩
    have zn := same_new (o := .tup [.str "shown", .int 0, .int 1]) n2
    have g_a2 : (L2.upd H3 a2 (.tup [.str "shown", .int 0, .int 1])) a2 = some (.tup [.str "shown", .int 0, .int 1]) := upd_same
    have s1 := s1.trans zn
    have g1 := zn _ _ g1
    have g_a0 := zn _ _ g_a0
    have g_a1 := zn _ _ g_a1
    generalize L2.upd H3 a2 (.tup [.str "shown", .int 0, .int 1]) = H4 at zn g_a2 s1 g1 g_a0 g_a1
    refine ⟨(by show 2 ≤ sizeLine; decide), fun a3 n3 => ?_⟩
    have zn := same_new (o := .tup [.str "not", .int 2]) n3
    have g_a3 : (L2.upd H4 a3 (.tup [.str "not", .int 2])) a3 = some (.tup [.str "not", .int 2]) := upd_same
    have s1 := s1.trans zn
    have g1 := zn _ _ g1
    have g_a0 := zn _ _ g_a0
    have g_a1 := zn _ _ g_a1
    have g_a2 := zn _ _ g_a2
    generalize L2.upd H4 a3 (.tup [.str "not", .int 2]) = H5 at zn g_a3 s1 g1 g_a0 g_a1 g_a2
    refine ⟨(by show 3 ≤ sizeLine; decide), fun a4 n4 => ?_⟩
    have zn := same_new (o := .tup [.str "shown", .int 1, .int 3]) n4
    have g_a4 : (L2.upd H5 a4 (.tup [.str "shown", .int 1, .int 3])) a4 = some (.tup [.str "shown", .int 1, .int 3]) := upd_same
    have s1 := s1.trans zn
    have g1 := zn _ _ g1
    have g_a0 := zn _ _ g_a0
    have g_a1 := zn _ _ g_a1
    have g_a2 := zn _ _ g_a2
    have g_a3 := zn _ _ g_a3
    generalize L2.upd H5 a4 (.tup [.str "shown", .int 1, .int 3]) = H6 at zn g_a4 s1 g1 g_a0 g_a1 g_a2 g_a3
    refine ⟨(by show 2 ≤ sizeLine; decide), fun a5 n5 => ?_⟩
    have zn := same_new (o := .tup [.str "not", .int 0]) n5
    have g_a5 : (L2.upd H6 a5 (.tup [.str "not", .int 0])) a5 = some (.tup [.str "not", .int 0]) := upd_same
    have s1 := s1.trans zn
    have g1 := zn _ _ g1
    have g_a0 := zn _ _ g_a0
    have g_a1 := zn _ _ g_a1
    have g_a2 := zn _ _ g_a2
    have g_a3 := zn _ _ g_a3
    have g_a4 := zn _ _ g_a4
    generalize L2.upd H6 a5 (.tup [.str "not", .int 0]) = H7 at zn g_a5 s1 g1 g_a0 g_a1 g_a2 g_a3 g_a4
    refine ⟨(by show 6 ≤ sizeLine; decide), fun rw0 nrw => ?_⟩
    have zn := same_new (o := .lst [.ref a0, .ref a1, .ref a2, .ref a3, .ref a4, .ref a5]) nrw
    have g_rw0 : (L2.upd H7 rw0 (.lst [.ref a0, .ref a1, .ref a2, .ref a3, .ref a4, .ref a5])) rw0 = some (.lst [.ref a0, .ref a1, .ref a2, .ref a3, .ref a4, .ref a5]) := upd_same
    have s1 := s1.trans zn
    have g1 := zn _ _ g1
    have g_a0 := zn _ _ g_a0
    have g_a1 := zn _ _ g_a1
    have g_a2 := zn _ _ g_a2
    have g_a3 := zn _ _ g_a3
    have g_a4 := zn _ _ g_a4
    have g_a5 := zn _ _ g_a5
    generalize L2.upd H7 rw0 (.lst [.ref a0, .ref a1, .ref a2, .ref a3, .ref a4, .ref a5]) = H8 at zn g_rw0 s1 g1 g_a0 g_a1 g_a2 g_a3 g_a4 g_a5
    obtain ⟨k, hk, k2, k5⟩ : ∃ k : Nat, ([.int 2, .int 3, .int 4, .int 5] : List V)[z]? = some (nV k) ∧ 2 ≤ k ∧ k ≤ 5 := by
      match z, hz with
      | 0, _ => exact ⟨2, rfl, by decide, by decide⟩
      | 1, _ => exact ⟨3, rfl, by decide, by decide⟩
      | 2, _ => exact ⟨4, rfl, by decide, by decide⟩
      | 3, _ => exact ⟨5, rfl, by decide, by decide⟩
    refine ⟨_, rfl, _, rfl, (by show 4 ≤ sizeLine; decide), fun q1 nq1 => ?_⟩
    have zn := same_new (o := .lst [.int 2, .int 3, .int 4, .int 5]) nq1
    have g_q1 : (L2.upd H8 q1 (.lst [.int 2, .int 3, .int 4, .int 5])) q1 = some (.lst [.int 2, .int 3, .int 4, .int 5]) := upd_same
    have s1 := s1.trans zn
    have g1 := zn _ _ g1
    have g_a0 := zn _ _ g_a0
    have g_a1 := zn _ _ g_a1
    have g_a2 := zn _ _ g_a2
    have g_a3 := zn _ _ g_a3
    have g_a4 := zn _ _ g_a4
    have g_a5 := zn _ _ g_a5
    have g_rw0 := zn _ _ g_rw0
    generalize L2.upd H8 q1 (.lst [.int 2, .int 3, .int 4, .int 5]) = H9 at zn g_q1 s1 g1 g_a0 g_a1 g_a2 g_a3 g_a4 g_a5 g_rw0
    refine ⟨_, rfl, q1, _, _, nV k, rfl, rfl, .inl (.inl g_q1), atI_nat hk, (by show 1 ≤ sizeLine; decide), fun q2 nq2 => ?_⟩
    have zn := same_new (o := .lst [nV k]) nq2
    have g_q2 : (L2.upd H9 q2 (.lst [nV k])) q2 = some (.lst [nV k]) := upd_same
    have s1 := s1.trans zn
    have g1 := zn _ _ g1
    have g_a0 := zn _ _ g_a0
    have g_a1 := zn _ _ g_a1
    have g_a2 := zn _ _ g_a2
    have g_a3 := zn _ _ g_a3
    have g_a4 := zn _ _ g_a4
    have g_a5 := zn _ _ g_a5
    have g_rw0 := zn _ _ g_rw0
    generalize L2.upd H9 q2 (.lst [nV k]) = HA at zn g_q2 s1 g1 g_a0 g_a1 g_a2 g_a3 g_a4 g_a5 g_rw0
    have hlt : (ls.take 2).length ≤ 2 := by rw [List.length_take]; omega
    have hlp : 1 ≤ (ls.take 2).length := by rw [List.length_take]; have := mv.pos; omega
    refine ⟨_, rfl, ow, _, rfl, .inl (.inl (.inl g1)), _, _, rfl, rfl, q2, _, _, rfl, rfl, g_q2, by rw [List.length_map]; omega, by rw [List.length_map]; omega, by rw [List.length_map]; show 1 * _ ≤ sizeLine; exact sz_le (by omega), fun q3 nq3 => ?_⟩
    have eR : (List.replicate (Int.toNat ((((ls.take 2).map V.str).length : Nat) - 1 : Int)) [nV k]).flatten = (List.replicate ((ls.take 2).length - 1) k).map nV := by
      rw [List.length_map, show Int.toNat (((ls.take 2).length : Nat) - 1 : Int) = (ls.take 2).length - 1 by omega, List.map_replicate]
      generalize (ls.take 2).length - 1 = n
      induction n with
      | zero => rfl
      | succ n ih => rw [List.replicate_succ, List.flatten_cons, ih, List.replicate_succ]; rfl
    rw [eR]
    have zn := same_new (o := .lst ((List.replicate ((ls.take 2).length - 1) k).map nV)) nq3
    have g_q3 : (L2.upd HA q3 (.lst ((List.replicate ((ls.take 2).length - 1) k).map nV))) q3 = some (.lst ((List.replicate ((ls.take 2).length - 1) k).map nV)) := upd_same
    have s1 := s1.trans zn
    have g1 := zn _ _ g1
    have g_a0 := zn _ _ g_a0
    have g_a1 := zn _ _ g_a1
    have g_a2 := zn _ _ g_a2
    have g_a3 := zn _ _ g_a3
    have g_a4 := zn _ _ g_a4
    have g_a5 := zn _ _ g_a5
    have g_rw0 := zn _ _ g_rw0
    generalize L2.upd HA q3 (.lst ((List.replicate ((ls.take 2).length - 1) k).map nV)) = HB at zn g_q3 s1 g1 g_a0 g_a1 g_a2 g_a3 g_a4 g_a5 g_rw0
    intro p dp np ndp nep
    have sP : Same HB (upd (upd HB dp (.own p)) p (.ins cP dp [])) := (same_new ndp).trans (same_new (by rw [upd_ne nep.symm]; exact np))
    have ht2 : ls.take 2 ≠ [] := fun e => by rw [e] at hlp; simp at hlp
    have mv2 : Mv (ls.take 2) := ⟨hlp, by omega, (List.take_sublist _ _).nodup mv.nd, fun m hm => mv.mv m (List.mem_of_mem_take hm)⟩
    have okn := (kn_ok2 mv2 hmm k2 k5).toOk
    refine ⟨p, dp, ow, rw0, q3, _, knPl (ls.take 2) mk k, rfl, upd_same, .inl (sP _ _ g1), .inl (sP _ _ g_rw0), ?_, .inl (sP _ _ g_q3), okn, fun HC zC hpC hnew => ⟨rfl, ?_⟩⟩
    · exact .cons ⟨a0, rfl, sP _ _ g_a0⟩ (.cons ⟨a1, rfl, sP _ _ g_a1⟩ (.cons ⟨a2, rfl, sP _ _ g_a2⟩ (.cons ⟨a3, rfl, sP _ _ g_a3⟩ (.cons ⟨a4, rfl, sP _ _ g_a4⟩ (.cons ⟨a5, rfl, sP _ _ g_a5⟩ .nil)))))
    have sC : Same H HC := fun a o e => zC a o (ne_of_none (s1 _ _ e) np) (sP _ _ (s1 _ _ e))
    exact q p k mk HC sC hmm k2 k5 (pl_cut hd sC (s1.trans sP) hpC hnew)
theorem ok_law_rivals {C_law_signs : Cal P w K mg base "_law_signs" 2 ["state", "pool", "many"] spSigns} {C_law_sight : Cal P w K mg base "_law_sight" 5 ["state", "own", "seen", "blocks"] spSight} {C_law_draw : Cal P w K mg base "_law_draw" 1 ["state", "many"] spDraw}
    {C_law_made : Cal P w K mg base "_law_made" 6 ["sight"] (spMade cP)} {K_Player : Mak P w K mg base cP "Player" 4 ["self", "moves", "rows", "chosen"] (spPlayer cP)} {C_law_known : Cal P w K mg base "_law_known" 6 ["sight", "signs", "way"] (spKnown cP)}
    (F : FnP K "_law_rivals" "_law_rivals" s_law_rivals f fd) : FnOk P w K mg base CX0 7 f fd ["state", "sight", "signs"] (spRivals cP) := by
  refine okN F sc_law_rivals (fun vs H Q E h => ?_) (fun cdv A outer s H vs Q E hr h => ?_)
  · obtain ⟨d, c, t, l, L, ls, rfl, _⟩ := h
    rfl
  · obtain ⟨d, c, t, l, L, ls, rfl, hd, hs, ok, sm, hl, mv, l3, q⟩ := h
    refine ⟨_, (pss_cons (ps_set (i := 3) sc_law_rivals.nd rfl (Or.inl rfl) (pe_lst pa_nil))
      (pss_cons (ps_for PassesOwn.never rfl (pi_range1 rfl T.range_ (pa_cons pe_int pa_nil)) (pg_name (i := 4) sc_law_rivals.nd rfl (Or.inl rfl)) (pss_cons (ps_set (i := 5) sc_law_rivals.nd rfl (Or.inl rfl) (pe_cal C_law_signs hr (pa_cons (pv 0) (pa_cons (pv 2) (pa_cons (pe_callB (lenS K) (by rfl) T.len_ b_len (pa_cons (pv 2) pa_nil)) pa_nil)))))
      (pss_cons (ps_set (i := 6) sc_law_rivals.nd rfl (Or.inl rfl) (pe_cal C_law_sight hr (pa_cons (pv 0) (pa_cons (pv 5) (pa_cons (pe_op op_cat (pe_callTy (lstS K) (by rfl) T.list_ b_list (pa_cons (pe_ix (ixT K) (pv 1) pe_int (fun _ _ => rfl)) pa_nil)) (pv 5)) (pa_cons (pe_op op_add pe_int (pe_cal C_law_draw hr (pa_cons (pv 0) (pa_cons pe_int pa_nil)))) pa_nil))))))
      (pss_one (ps_expr (pe_bm PySem.F.plainAttrs_list PySem.F.slot_list_append PySem.F.type_list_append mt_append (pv 3) (pa_cons (pe_cal C_law_made hr (pa_cons (pv 6) pa_nil)) pa_nil)))))))
      (pss_cons (ps_set (i := 7) sc_law_rivals.nd rfl (Or.inl rfl) (pe_callB (call_min2 rfl) (by rfl) T.min_ b_min (pa_cons (pe_callB (lenS K) (by rfl) T.len_ b_len (pa_cons (pv 2) pa_nil)) (pa_cons (pe_callB (lenS K) (by rfl) T.len_ b_len (pa_cons (pe_ix (ixT K) (pv 1) pe_int (fun _ _ => rfl)) pa_nil)) pa_nil))))
      (pss_cons (ps_expr (pe_bm PySem.F.plainAttrs_list PySem.F.slot_list_append PySem.F.type_list_append mt_append (pv 3) (pa_cons (pe_mak K_Player hr (pa_cons (pe_slice (slL K) (pv 2) po_none (po_some (pv 7))) (pa_cons (pe_callTy (lstS K) (by rfl) T.list_ b_list (pa_cons (pe_ix (ixT K) (pv 1) pe_int (fun _ _ => rfl)) pa_nil)) (pa_cons (pe_callTy (lstS K) (by rfl) T.list_ b_list (pa_cons (pe_slice (slL K) (pe_ix (ixT K) (pv 1) pe_int (fun _ _ => rfl)) po_none (po_some (pe_op op_sub (pv 7) pe_int))) pa_nil)) pa_nil)))) pa_nil)))
      (pss_one (ps_ret (pe_op op_cat (pv 3) (pe_lst (pa_cons (pe_cal C_law_known hr (pa_cons (pv 1) (pa_cons (pv 2) (pa_cons (pe_cal C_law_draw hr (pa_cons (pv 0) (pa_cons pe_int pa_nil))) pa_nil)))) pa_nil))))))))), ?_⟩
    obtain ⟨o, b, c', m', v', ws, h1, h2, h3, h4, h5⟩ := hs.ex
    refine ⟨(by show 0 ≤ sizeLine; decide), fun fo nfo => ?_⟩
    obtain ⟨od, oc⟩ := hd.nd nfo
    have hd0 := hd
    have zn := same_new (o := .lst []) nfo
    have g_fo : (L2.upd H fo (.lst [])) fo = some (.lst []) := upd_same
    have hd := hd.mono zn
    generalize L2.upd H fo (.lst []) = H1 at zn g_fo hd
    have s1 : CS d c H H1 := cut_mono zn
    clear zn
    refine ⟨2, rfl, by decide, by decide, ?_⟩
    refine for_it (walk_range (lo := 0) (n := 2)) (fun i σ H' => Dw d c H' ∧ CS d c H H' ∧ (∃ u v z, σ = [some (.ref d), some (.ref t), some (.ref l), some (.ref fo), u, v, z, none]) ∧ ∃ xs Rs, H' fo = some (.lst xs) ∧ PlsAt cP (cut fo fo (cut d c H')) xs Rs ∧ (∀ R ∈ Rs, Riv ls R) ∧ Rs.length = i)
      ⟨hd, s1, ⟨_, _, _, rfl⟩, [], [], g_fo, ⟨rfl, fun s L e => by simp at e⟩, (fun R h => nomatch h), rfl⟩ (fun i σ H' hi h => trivial) (fun i x σ H9 H5 hi h y => ?_) (fun σ H5 h => ?_)
    · obtain ⟨hd5, s5, ⟨u, v, z, rfl⟩, xs, Rs, hfo, hR, hRi, hRl⟩ := h
      obtain ⟨rfl, hx⟩ := y
      clear g_fo
      refine ⟨_, rfl, _, rfl, _, rfl, l, _, rfl, .inl (.inl (.inl (cut_same _ _ (s5 _ _ hl)))), d, c, l, ls, ls.length, by rw [List.length_map]; rfl, hd5, s5 _ _ hl, mv.pos, Nat.le_refl _, mv.few, mv.nd, mv.mv, fun so ms H6 mvs msl mem hd6 s6 hso _ => ?_⟩
      have hfo := keepC s6 hfo od oc
      have hR := hR.mono (cut_mono s6)
      have s6 := s5.trans s6
      refine ⟨_, rfl, _, rfl, _, rfl, t, _, _, .ref o, rfl, rfl, .inl (.inl (cut_same _ _ (s6 _ _ h1))), atI_nat (j := 0) rfl, o, _, rfl, .inl (.inl (.inl (cut_same _ _ (s6 _ _ h2)))), fun lo nlo => ?_⟩
      have zn := same_new (o := .lst (L.moves.map V.str)) nlo
      have g_lo : (L2.upd H6 lo (.lst (L.moves.map V.str))) lo = some (.lst (L.moves.map V.str)) := upd_same
      have zc := cut_mono (d := d) (c := c) zn
      have hd6 := hd6.mono zn
      have hso := zc _ _ hso
      have hfo := zn _ _ hfo
      have s6 := s6.trans zc
      generalize L2.upd H6 lo (.lst (L.moves.map V.str)) = H7 at zn g_lo zc hd6 hso hfo s6
      have hR := hR.mono (cut_mono zc)
      clear zn zc
      refine ⟨_, rfl, lo, so, _, _, rfl, rfl, g_lo, cut_same _ _ hso, by rw [List.length_map, List.length_map]; have := mvs.few; have := ok.mv.few; exact sz_le (by omega), fun p2 np2 => ?_⟩
      rw [← List.map_append]
      obtain ⟨pd, pc⟩ := hd6.nd np2
      have zn := same_new (o := .lst ((L.moves ++ ms).map V.str)) np2
      have g_p2 : (L2.upd H7 p2 (.lst ((L.moves ++ ms).map V.str))) p2 = some (.lst ((L.moves ++ ms).map V.str)) := upd_same
      have zc := cut_mono (d := d) (c := c) zn
      have hd6 := hd6.mono zn
      have hso := zc _ _ hso
      have hfo := zn _ _ hfo
      have s6 := s6.trans zc
      generalize L2.upd H7 p2 (.lst ((L.moves ++ ms).map V.str)) = H8 at zn g_p2 zc hd6 hso hfo s6
      have hR := hR.mono (cut_mono zc)
      clear zn zc g_lo
      refine ⟨_, rfl, d, c, 3, rfl, hd6, by decide, by decide, fun r HA r0 r1 hdA sA => ⟨_, _, rfl, rfl, ?_⟩⟩
      have hfo := keepC sA hfo od oc
      have hso := sA _ _ hso
      have g_p2 := sA _ _ (cut_at g_p2 pd pc)
      have hR := hR.mono (cut_mono sA)
      have sA := s6.trans sA
      obtain ⟨bn, hbn, hb3⟩ : ∃ bn : Nat, 1 + r = (bn : Int) ∧ bn ≤ 3 := ⟨(1 + r).toNat, by omega, by omega⟩
      refine ⟨d, c, so, p2, ms, L.moves ++ ms, bn, congrArg (fun z => [V.ref d, .ref so, .ref p2, .int z]) hbn, hdA, hso, mvs, g_p2, by rw [List.length_append]; have := ok.mv.few; omega, fun m hm => (List.mem_append.mp hm).elim (ok.mv.mv m) (mvs.mv m), hb3, fun ey R HB hdB sB hsi hmo okR smR => ?_⟩
      have hfo := keepC sB hfo od oc
      have hR := hR.mono (cut_mono sB)
      have sB := sA.trans sB
      refine ⟨_, rfl, .inl ⟨rfl, _, .inl (.inl hfo)⟩, _, rfl, ey, d, c, R, rfl, hdB, hsi.mono cut_same, okR, fun p HC sC hpC hnC => ?_⟩
      have hfoC := sC _ _ hfo
      have hdC := hdB.mono sC
      have hpC := pl_cut1 cut_same hpC hnC hfo hfoC
      have hR := hR.mono (cut_mono (cut_mono sC))
      have sC := sB.trans (cut_mono sC)
      have hlen := hR.len
      refine ⟨fo, _, _, rfl, rfl, hfoC, sz_lt (by omega), ?_⟩
      exact ⟨hdC.upd od oc, cut_mut sC nfo, ⟨_, _, _, rfl⟩, xs ++ [.ref p], Rs ++ [R], upd_same, (hR.snoc hpC).mono cut_own, fun S hS => by
        rcases List.mem_append.mp hS with hS | hS
        · exact hRi S hS
        · rw [List.mem_singleton.mp hS]
          exact ⟨okR, smR, fun m hm => mem m (by rw [hmo] at hm; exact hm)⟩, by simp [hRl]⟩
    · obtain ⟨hd5, s5, ⟨u, v, z, rfl⟩, xs, Rs, hfo, hR, hRi, hRl⟩ := h
      clear g_fo
      have hlM : (cut d c H5) l = some (.lst (ls.map V.str)) := s5 _ _ hl
      have hl5 := cut_same _ _ hlM
      have h15 := cut_same _ _ (s5 _ _ h1)
      have h25 := cut_same _ _ (s5 _ _ h2)
      have emn : (if (((L.moves.map V.str).length : Nat) : Int) < (((ls.map V.str).length : Nat) : Int) then (((L.moves.map V.str).length : Nat) : Int) else (((ls.map V.str).length : Nat) : Int)) = ((min ls.length L.moves.length : Nat) : Int) := by
        rw [List.length_map, List.length_map]
        split <;> omega
      refine ⟨_, rfl, l, _, rfl, .inl (.inl (.inl hl5)), _, rfl, t, _, _, .ref o, rfl, rfl, .inl (.inl h15), atI_nat (j := 0) rfl, o, _, rfl, .inl (.inl (.inl h25)), _, _, rfl, ?_⟩
      rw [emn]
      have hmp : 1 ≤ min ls.length L.moves.length := by have := mv.pos; have := ok.mv.pos; omega
      have okW := way_ok ok mv
      have smW := way_small sm ls
      have eW : wayPl L ls = ⟨ls.take (min ls.length L.moves.length), L.rows, L.picks.take (min ls.length L.moves.length - 1)⟩ := rfl
      have hm4 : min ls.length L.moves.length ≤ 4 := by have := ok.mv.few; omega
      generalize hmn : min ls.length L.moves.length = mn at hmp eW hm4
      have e2 : cutV (ls.map V.str) none (some ((mn : Nat) : Int)) = (ls.take mn).map V.str := by
        have := cut_up (ls.map V.str) mn
        rw [← List.map_take] at this
        exact this
      refine ⟨_, rfl, .inl ⟨rfl, _, .inl (.inl hfo)⟩, _, rfl, _, rfl, _, rfl, l, _, rfl, .inl (.inl hl5), fun c1 nc1 => ?_⟩
      rw [e2]
      obtain ⟨c1d, c1c⟩ := hd5.nd nc1
      have s55 : CS d c H5 H5 := fun _ _ e => e
      have zn := same_new (o := .lst ((ls.take mn).map V.str)) nc1
      have g_c1 : (L2.upd H5 c1 (.lst ((ls.take mn).map V.str))) c1 = some (.lst ((ls.take mn).map V.str)) := upd_same
      have zc := cut_mono (d := d) (c := c) zn
      have hd5 := hd5.mono zn
      have hfo := zn _ _ hfo
      have s55 := s55.trans zc
      generalize L2.upd H5 c1 (.lst ((ls.take mn).map V.str)) = H6 at zn g_c1 zc hd5 hfo s55
      clear zn zc
      have hrs := s5.trans s55
      refine ⟨_, rfl, t, _, _, .ref b, rfl, rfl, .inl (.inl (cut_same _ _ (hrs _ _ h1))), atI_nat (j := 1) rfl, b, _, rfl, .inl (.inl (.inl (cut_same _ _ (hrs _ _ h3)))), fun c2 nc2 => ?_⟩
      have zn := same_new (o := .lst ws) nc2
      have g_c2 : (L2.upd H6 c2 (.lst ws)) c2 = some (.lst ws) := upd_same
      have zc := cut_mono (d := d) (c := c) zn
      have hd5 := hd5.mono zn
      have hfo := zn _ _ hfo
      have s55 := s55.trans zc
      have g_c1 := zn _ _ g_c1
      generalize L2.upd H6 c2 (.lst ws) = H7 at zn g_c2 zc hd5 hfo s55 g_c1
      clear zn zc
      have hrs := s5.trans s55
      have e3 : cutV (L.picks.map nV) none (some (((mn : Nat) : Int) - 1)) = (L.picks.take (mn - 1)).map nV := by
        have := cut_up (L.picks.map nV) (mn - 1)
        rw [← List.map_take] at this
        rw [show (((mn : Nat) : Int) - 1) = ((mn - 1 : Nat) : Int) by omega]
        exact this
      refine ⟨_, rfl, t, _, _, .ref c', rfl, rfl, .inl (.inl (cut_same _ _ (hrs _ _ h1))), atI_nat (j := 2) rfl, _, rfl, _, _, rfl, rfl, _, rfl, c', _, rfl, .inl (.inl (cut_same _ _ (hrs _ _ h5))), fun c3 nc3 => ?_⟩
      rw [e3]
      have zn := same_new (o := .lst ((L.picks.take (mn - 1)).map nV)) nc3
      have g_c3 : (L2.upd H7 c3 (.lst ((L.picks.take (mn - 1)).map nV))) c3 = some (.lst ((L.picks.take (mn - 1)).map nV)) := upd_same
      have zc := cut_mono (d := d) (c := c) zn
      have hd5 := hd5.mono zn
      have hfo := zn _ _ hfo
      have s55 := s55.trans zc
      have g_c1 := zn _ _ g_c1
      have g_c2 := zn _ _ g_c2
      generalize L2.upd H7 c3 (.lst ((L.picks.take (mn - 1)).map nV)) = H8 at zn g_c3 zc hd5 hfo s55 g_c1 g_c2
      clear zn zc
      refine ⟨c3, _, rfl, .inl (.inl (.inl g_c3)), fun c4 nc4 => ?_⟩
      have zn := same_new (o := .lst ((L.picks.take (mn - 1)).map nV)) nc4
      have g_c4 : (L2.upd H8 c4 (.lst ((L.picks.take (mn - 1)).map nV))) c4 = some (.lst ((L.picks.take (mn - 1)).map nV)) := upd_same
      have zc := cut_mono (d := d) (c := c) zn
      have hd5 := hd5.mono zn
      have hfo := zn _ _ hfo
      have s55 := s55.trans zc
      have g_c1 := zn _ _ g_c1
      have g_c2 := zn _ _ g_c2
      generalize L2.upd H8 c4 (.lst ((L.picks.take (mn - 1)).map nV)) = H9 at zn g_c4 zc hd5 hfo s55 g_c1 g_c2
      clear zn zc
      have hrs := s5.trans s55
      intro p dp np ndp nep
      have sP : Same H9 (upd (upd H9 dp (.own p)) p (.ins cP dp [])) := (same_new ndp).trans (same_new (by rw [upd_ne nep.symm]; exact np))
      refine ⟨p, dp, c1, c2, c4, ws, wayPl L ls, rfl, upd_same, .inl (by rw [eW]; exact sP _ _ g_c1), .inl (sP _ _ g_c2), ?_, .inl (by rw [eW]; exact sP _ _ g_c4), okW, fun HC zC hpC hnew => ⟨rfl, ?_⟩⟩
      · exact ((h4.mono hrs).mono cut_same).mono sP
      have sC : Same H9 HC := fun a o e => zC a o (ne_of_none e np) (sP _ _ e)
      have hfoC := sC _ _ hfo
      have hdC := hd5.mono sC
      have hpC := pl_cut1 cut_same (pl_cut hd5 sC sP hpC hnew) hnew (sP _ _ hfo) hfoC
      have hR := hR.mono (cut_mono (s55.trans (cut_mono sC)))
      have sC := hrs.trans (cut_mono sC)
      have hlen := hR.len
      refine ⟨fo, _, _, rfl, rfl, hfoC, sz_lt (by omega), ?_⟩
      have hR := (hR.snoc hpC).mono (cut_own (o := .lst (xs ++ [.ref p])))
      have hdD := hdC.upd (o := .lst (xs ++ [.ref p])) od oc
      have sD := cut_mut (o := .lst (xs ++ [.ref p])) sC nfo
      have hfoD : (L2.upd HC fo (.lst (xs ++ [.ref p]))) fo = some (.lst (xs ++ [.ref p])) := upd_same
      generalize L2.upd HC fo (.lst (xs ++ [.ref p])) = HD at hR hdD sD hfoD
      refine ⟨_, rfl, _, rfl, _, rfl, _, rfl, d, c, 4, rfl, hdD, by decide, by decide, fun z0 HE z1 z2 hdE sE => ?_⟩
      have hR := hR.mono (cut_mono sE)
      have hfo := keepC sE hfoD od oc
      have sE := sD.trans sE
      refine ⟨t, l, d, c, L, ls, z0.toNat, congrArg (fun z => [V.ref t, .ref l, .int z]) (show z0 = ((z0.toNat : Nat) : Int) by omega), hdE, (hs.mono sE).mono cut_same, ok, cut_same _ _ (sE _ _ hl), mv, by omega, fun kp kk km HF sF hkm k2 k5 hkp => ?_⟩
      have hR := hR.mono (cut_mono (cut_mono sF))
      have hfo := sF _ _ hfo
      have hdF := hdE.mono sF
      have sF := sE.trans (cut_mono sF)
      refine ⟨(by show 1 ≤ sizeLine; decide), fun lk nlk => ?_⟩
      have zn := same_new (o := .lst [.ref kp]) nlk
      have g_lk : (L2.upd HF lk (.lst [.ref kp])) lk = some (.lst [.ref kp]) := upd_same
      have zc := cut_mono (d := d) (c := c) zn
      have hdF := hdF.mono zn
      have hfo := zn _ _ hfo
      have sF := sF.trans zc
      have hkp := hkp.mono zc
      generalize L2.upd HF lk (.lst [.ref kp]) = HG at zn g_lk zc hdF hfo sF hkp
      have hR := hR.mono (cut_mono zc)
      refine ⟨fo, lk, _, _, rfl, rfl, hfo, g_lk, by rw [List.length_append]; show xs.length + 1 + 1 ≤ sizeLine; exact sz_le (by omega), fun q1 nq1 => ?_⟩
      have g_q1c := hdF.new nq1 (o := .lst (xs ++ [.ref p] ++ [.ref kp]))
      have zq := cut_mono (d := d) (c := c) (same_new (o := .lst (xs ++ [.ref p] ++ [.ref kp])) nq1)
      refine q q1 _ (Rs ++ [wayPl L ls] ++ [knPl (ls.take 2) km kk]) _ (hdF.mono (same_new nq1)) (sF.trans zq) g_q1c (((hR.mono cut_same).mono zq).snoc (hkp.mono zq)) (fun R hR => ?_) (by simp [hRl])
      rcases List.mem_append.mp hR with hR | hR
      · rcases List.mem_append.mp hR with hR | hR
        · exact hRi R hR
        · rw [List.mem_singleton.mp hR]
          exact ⟨okW, smW, fun m hm => List.mem_of_mem_take (l := ls) hm⟩
      · rw [List.mem_singleton.mp hR]
        have mv2 : Mv (ls.take 2) := ⟨by rw [List.length_take]; have := mv.pos; omega, by rw [List.length_take]; omega, (List.take_sublist _ _).nodup mv.nd, fun m hm => mv.mv m (List.mem_of_mem_take hm)⟩
        have ok2 := kn_ok2 mv2 hkm k2 k5
        exact ⟨ok2.toOk, ok_small ok2, fun m hm => List.mem_of_mem_take (l := ls) hm⟩
end
end Lk

set_option maxHeartbeats 4000000
namespace Lk
open PySem PySem.Spec PyProof.Rows L2
/-! ### k51: led within; a rival is met -/
def prE (x : Str × Str) : PyData := .tuple [.str x.1, .str x.2]
theorem dp_prsE {K : PySem.W.Frag} {H : Hp} : ∀ {xs : List V} {ps : List (Str × Str)}, PrsAt H xs ps → DpAll K H xs (ps.map prE)
  | _, _, .nil => .nil
  | _, _, .cons h t => by
    obtain ⟨a, rfl, h2⟩ := h
    exact .cons (.tup (.inl (.inl h2)) (.cons (.str _) (.cons (.str _) .nil))) (dp_prsE t)
theorem sh_prsE : ∀ ps : List (Str × Str), (∀ x ∈ ps, isMv x.1 ∧ isMv x.2) → PyData.canLayAll0 (ps.map prE) = true ∧ PyData.depthAll (ps.map prE) ≤ 1
  | [], _ => by simp [PyData.canLayAll0, PyData.depthAll]
  | x :: r, h => by
    obtain ⟨h1, h2⟩ := sh_prsE r fun y hy => h y (List.mem_cons_of_mem _ hy)
    obtain ⟨k1, k2⟩ := h x (by simp)
    have k1 := k1.strOk
    have k2 := k2.strOk
    simp only [List.map_cons, prE, PyData.canLayAll0, PyData.depthAll, PyData.canLay0, PyData.depth, k1, k2, Bool.and_true, Bool.true_and]
    refine ⟨h1, ?_⟩
    have e : PyData.depthAll (r.map prE) ≤ 1 := h2
    exact Nat.max_le.mpr ⟨by decide, e⟩
theorem sh_prsLE {ps : List (Str × Str)} (h : ∀ x ∈ ps, isMv x.1 ∧ isMv x.2) : SeqAt.shaped (.list (ps.map prE)) = true := by
  obtain ⟨h1, h2⟩ := sh_prsE ps h
  simp only [SeqAt.shaped, PyData.canLay0, PyData.depth, h1, Bool.true_and, decide_eq_true_eq]
  exact decide_eq_true (Nat.le_trans (Nat.succ_le_succ h2) (by decide))
theorem any_prsE (q : Str × Str) : ∀ ps : List (Str × Str), ((ps.map prE).any fun z => PyData.eqv z (prE q)) = decide (q ∈ ps)
  | [] => by simp
  | x :: r => by
    rw [List.map_cons, List.any_cons, any_prsE q r, Bool.eq_iff_iff, Bool.or_eq_true_iff, decide_eq_true_eq, decide_eq_true_eq, List.mem_cons]
    have : PyData.eqv (prE x) (prE q) = true ↔ q = x := by
      simp [prE, PyData.eqv, PyData.eqvAll]
      constructor
      · rintro ⟨h1, h2⟩
        exact Prod.ext h1.symm h2.symm
      · rintro rfl
        exact ⟨rfl, rfl⟩
    rw [this]
theorem sh_prE {q : Str × Str} (h1 : isMv q.1) (h2 : isMv q.2) : SeqAt.shaped (prE q) = true := by
  have k1 := h1.strOk
  have k2 := h2.strOk
  simp only [prE, SeqAt.shaped, PyData.canLay0, PyData.canLayAll0, PyData.depth, PyData.depthAll, k1, k2, Bool.and_true, Bool.true_and]
  decide
theorem dp_sds {K : PySem.W.Frag} {H : Hp} : ∀ {zs : List (Addr × Sd)}, (∀ z ∈ zs, SdAt H z.1 z.2) → DpAll K H (zs.map fun z => .ref z.1) (zs.map fun z => sdata z.2)
  | [], _ => .nil
  | z :: r, h => .cons (dp_sd (h z (by simp))) (dp_sds fun y hy => h y (List.mem_cons_of_mem _ hy))
theorem sd_lay (s : Sd) : PyData.canLay0 (sdata s) = true ∧ PyData.depth (sdata s) ≤ 3 := by
  obtain ⟨h1, h2⟩ := shp_all (s.2.map V.bl) (by
    rw [List.all_eq_true]
    intro x hx
    obtain ⟨y, _, rfl⟩ := List.mem_map.mp hx
    rfl)
  simp only [sdata, PyData.canLay0, PyData.canLayAll0, PyData.depth, PyData.depthAll, h1, h2]
  decide
theorem sh_sds : ∀ zs : List (Addr × Sd), PyData.canLayAll0 (zs.map fun z => sdata z.2) = true ∧ PyData.depthAll (zs.map fun z => sdata z.2) ≤ 3
  | [] => by simp [PyData.canLayAll0, PyData.depthAll]
  | z :: r => by
    obtain ⟨h1, h2⟩ := sh_sds r
    obtain ⟨k1, k2⟩ := sd_lay z.2
    simp only [List.map_cons, PyData.canLayAll0, PyData.depthAll, k1, Bool.true_and]
    exact ⟨h1, Nat.max_le.mpr ⟨k2, h2⟩⟩
theorem sh_sdsT (zs : List (Addr × Sd)) : SeqAt.shaped (.tuple (zs.map fun z => sdata z.2)) = true := by
  obtain ⟨h1, h2⟩ := sh_sds zs
  simp only [SeqAt.shaped, PyData.canLay0, PyData.depth, h1, Bool.true_and, decide_eq_true_eq]
  exact decide_eq_true (Nat.le_trans (Nat.succ_le_succ h2) (by decide))
theorem any_sds (s : Sd) : ∀ zs : List (Addr × Sd), ((zs.map fun z => sdata z.2).any fun z => PyData.eqv z (sdata s)) = decide (s ∈ zs.map (·.2))
  | [] => by simp
  | z :: r => by
    rw [List.map_cons, List.any_cons, any_sds s r, eqv_sd, Bool.eq_iff_iff, Bool.or_eq_true_iff, decide_eq_true_eq, decide_eq_true_eq, decide_eq_true_eq, List.map_cons, List.mem_cons]
    exact ⟨fun h => h.imp Eq.symm id, fun h => h.imp Eq.symm id⟩
def spWithin (cP : Addr) : Sp := fun vs H Q _ => ∃ (p i t : Addr) (L : Pl) (u : List Str) (zs : List (Addr × Sd)), vs = [.ref p, .ref i, .ref t] ∧ PlAt cP H p L ∧ L.Ok ∧ Lt H i (u.map V.str) ∧ (∀ y ∈ u, isMv y) ∧ H t = some (.tup (zs.map fun z => .ref z.1)) ∧ (∀ z ∈ zs, SdAt H z.1 z.2) ∧
  (∀ k, k ≤ u.length → L.run L.init (u.take k) ∈ zs.map (·.2)) ∧ ∀ H', Same H H' → Q (.bl true) H'
/-- the papers of all pairs that never are -/
def Pz (L : Pl) (ls : List Str) (H : Hp) (b : Addr) : Prop := ∃ zs : List (Addr × Sd), H b = some (.tup (zs.map fun z => .ref z.1)) ∧ (∀ z ∈ zs, SdAt H z.1 z.2) ∧ ∀ s, s ∈ zs.map (·.2) ↔ ∃ v : List Str, (∀ z ∈ v, z ∈ ls) ∧ L.run L.init v = s
def PaAt (L : Pl) (ls : List Str) (H : Hp) (es : DnE) (S : List (Str × Str)) : Prop := Paired (fun (e : NestedKey × Addr × V) (x : Str × Str) => e.1 = pkey x.1 x.2 ∧ H e.2.1 = some (.tup [.str x.1, .str x.2]) ∧ ∃ b, e.2.2 = .ref b ∧ Pz L ls H b) es S
theorem Pz.keep {L : Pl} {ls : List Str} {H H' : Hp} (k : ∀ a xs, H a = some (.tup xs) → H' a = some (.tup xs)) {b : Addr} (h : Pz L ls H b) : Pz L ls H' b := by
  obtain ⟨zs, h1, h2, h3⟩ := h
  exact ⟨zs, k _ _ h1, fun z hz => let ⟨q, g1, g2⟩ := h2 z hz; ⟨q, k _ _ g1, k _ _ g2⟩, h3⟩
theorem PaAt.keep {L : Pl} {ls : List Str} {H H' : Hp} (k : ∀ a xs, H a = some (.tup xs) → H' a = some (.tup xs)) {es : DnE} {S : List (Str × Str)} (h : PaAt L ls H es S) : PaAt L ls H' es S :=
  paired_imp h fun _ _ ⟨h1, h2, b, h3, h4⟩ => ⟨h1, k _ _ h2, b, h3, h4.keep k⟩
theorem PaAt.met {L : Pl} {ls : List Str} {H : Hp} {es : DnE} {S : List (Str × Str)} (h : PaAt L ls H es S) : MetAt H es S := paired_imp h fun _ _ ⟨h1, h2, _⟩ => ⟨h1, h2⟩
theorem PaAt.find {L : Pl} {ls : List Str} {H : Hp} {es : DnE} {S : List (Str × Str)} (h : PaAt L ls H es S) {m y : Str} (hm : (m, y) ∈ S) : ∃ a b, dnAt es (pkey m y) = some (a, .ref b) ∧ Pz L ls H b := by
  induction h with
  | nil => cases hm
  | @cons e x _ _ h _ ih =>
    obtain ⟨h1, h2, b, h3, h4⟩ := h
    by_cases q : x = (m, y)
    · subst q
      refine ⟨e.2.1, b, ?_, h4⟩
      unfold dnAt
      rw [List.find?_cons, decide_eq_true h1]
      show some (e.2.1, e.2.2) = _
      rw [h3]
    · obtain ⟨a, b, g1, g2⟩ := ih ((List.mem_cons.mp hm).resolve_left fun e => q e.symm)
      refine ⟨a, b, ?_, g2⟩
      unfold dnAt at g1 ⊢
      have e1 : decide (e.1 = pkey m y) = false := decide_eq_false fun z => q (by rw [h1] at z; obtain ⟨z1, z2⟩ := pkey_inj z; exact Prod.ext z1 z2)
      rw [List.find?_cons, e1]
      exact g1
theorem opp_highG {ls u : List Str} {y : Str} (hu : u.length ≤ 100) (ok : (opp ls u y).Ok) : (opp ls u y).high ≤ 1000 := by
  obtain ⟨g, _⟩ := opp_inv (ls := ls) (y := y) (u := u) hu
  refine foldl_max_le _ _ (Nat.zero_le _) fun x hx => ?_
  obtain ⟨i, hi, rfl⟩ := List.mem_map.mp hx
  obtain ⟨k, j, hr, e1, _⟩ := sh_row hi
  have h1 := (g.sh.sh i k j hr).1
  have h2 := (List.getElem?_eq_some_iff.mp hr).1
  have h3 := ok.len
  rw [e1]
  omega
def Nd (o : HO) : Prop := (∃ C dx fs, o = .ins C dx fs) ∨ (∃ xs, o = .tup xs) ∨ (∃ xs, o = .lst xs)
def Kept (H H' : Hp) : Prop := ∀ a o, Nd o → H a = some o → H' a = some o
theorem Kept.ins {H H' : Hp} (k : Kept H H') {a C dx : Addr} {fs : List (Str × V)} (h : H a = some (.ins C dx fs)) : H' a = some (.ins C dx fs) := k _ _ (.inl ⟨_, _, _, rfl⟩) h
theorem Kept.tup {H H' : Hp} (k : Kept H H') (a : Addr) (xs : List V) (h : H a = some (.tup xs)) : H' a = some (.tup xs) := k _ _ (.inr (.inl ⟨_, rfl⟩)) h
theorem Kept.lst {H H' : Hp} (k : Kept H H') {a : Addr} {xs : List V} (h : H a = some (.lst xs)) : H' a = some (.lst xs) := k _ _ (.inr (.inr ⟨_, rfl⟩)) h
theorem PlAt.kept {cP : Addr} {H H' : Hp} {p : Addr} {L : Pl} (k : Kept H H') (h : PlAt cP H p L) : PlAt cP H' p L := by
  obtain ⟨dx, a, b, c, d, xs, h1, h2, h3, h4, h5, h6⟩ := h.ex
  exact ⟨dx, a, b, c, d, xs, k.ins h1, k.tup _ _ h2, k.tup _ _ h3, paired_imp h4 fun x r ⟨a, h1, h2⟩ => ⟨a, h1, k.tup _ _ h2⟩, k.tup _ _ h5, k.lst h6⟩
theorem kept_dn {P : Program} {w : World} {H : Hp} {d : Addr} {es : DnE} {o : HO} (h : H d = some (DN P w d es)) : Kept H (upd H d o) := fun a u n e => by
  refine (upd_ne ?_).trans e
  rintro rfl
  rw [h] at e
  cases e
  unfold DN at n
  rcases n with ⟨_, _, _, z⟩ | ⟨_, z⟩ | ⟨_, z⟩ <;> cases z
def spMeets (P : Program) (w : World) (cP : Addr) : Sp := fun vs H Q _ => ∃ (p l e D r : Addr) (L R : Pl) (ls : List Str) (xs : List V) (es : DnE) (S : List (Str × Str)), vs = [.ref p, .ref l, .ref e, .ref D, .ref r] ∧ PlAt cP H p L ∧ L.Ok ∧ L.Small ∧ Lt H l (ls.map V.str) ∧ Mv ls ∧ ls.length ≤ 3 ∧
  H e = some (.lst xs) ∧ PrsAt H xs (endPrs L ls) ∧ H D = some (DN P w D es) ∧ PaAt L ls H es S ∧ S.length ≤ 1000 ∧ PlAt cP H r R ∧ Riv ls R ∧ ∀ H', Same H H' → Q (.bl true) H'
section
variable {P : Program} {w : World} {K : PySem.W.Frag} {mg : Str → Option Value} {base : Heap} {cP cG cT cM cS cF : Addr} {f : Addr} {fd : FuncData} (T : Txt K w mg cP cG cT) (TM : TxM K w mg cM cS cF)
include T TM
omit TM in
theorem ok_law_led_within {C_begin : Cal P w K mg base "begin" 5 ["player"] (spBeginS cP)} {C_led : Cal P w K mg base "led" 6 ["player", "stand", "letter"] (spLedS cP)}
    (F : FnP K "_law_led_within" "_law_led_within" s_law_led_within f fd) : FnOk P w K mg base CX0 7 f fd ["made", "its", "told"] (spWithin cP) := by
  refine okN F sc_law_led_within (fun vs H Q E h => ?_) (fun cdv A outer s H vs Q E hr h => ?_)
  · obtain ⟨p, i, t, L, u, zs, rfl, _⟩ := h
    rfl
  · obtain ⟨p, i, t, L, u, zs, rfl, hp, ok, hi, hu, ht, hzs, hin, q⟩ := h
    refine ⟨_, (pss_cons (ps_set (i := 3) sc_law_led_within.nd rfl (Or.inl rfl) (pe_cal C_begin hr (pa_cons (pv 0) pa_nil)))
      (pss_cons (ps_for PassesOwn.never rfl (pi_sq (pv 1)) (pg_name (i := 4) sc_law_led_within.nd rfl (Or.inl rfl)) (pss_cons (ps_if (pt_cmpR (op_notInT (hu65 hr)) (pv 3) (pv 2) rfl) (pss_one (ps_ret pe_bl)) pss_nil)
      (pss_one (ps_set (i := 3) sc_law_led_within.nd rfl (Or.inl rfl) (pe_cal C_led hr (pa_cons (pv 0) (pa_cons (pv 3) (pa_cons (pv 4) pa_nil))))))))
      (pss_one (ps_ret (pe_cmpR (op_inT (hu65 hr)) (pv 3) (pv 2) rfl))))), ?_⟩
    refine ⟨_, rfl, p, L, rfl, hp, ok, fun a0 H1 s1 ha0 => ?_⟩
    refine ⟨_, rfl, i, _, rfl, hi.mono s1, fun J hJ => ?_⟩
    refine for_it hJ (fun k σ H' => Same H H' ∧ ∃ a v, σ = [some (.ref p), some (.ref i), some (.ref t), some (.ref a), v] ∧ SdAt H' a (L.run L.init (u.take k)))
      ⟨s1, a0, _, rfl, ha0⟩ (fun k σ H' hk h => (same_of h.1 hi).trans (same_of s1 hi).symm) (fun k x σ H9 H2 hk h y => ?_) (fun σ H2 h => ?_)
    · obtain ⟨s2, a, v, rfl, ha⟩ := h
      obtain ⟨rfl, hx⟩ := y
      rw [List.getElem?_map] at hx
      obtain ⟨y, hy, rfl⟩ := Option.map_eq_some_iff.mp hx
      have hkl := (List.getElem?_eq_some_iff.mp hy).1
      refine ⟨_, rfl, _, rfl, sdata (L.run L.init (u.take k)), _, dp_sd ha, .tup (.inl (.inl (s2 _ _ ht))) (dp_sds fun z hz => (hzs z hz).mono s2), sd_shaped _, sh_sdsT zs, _, rfl, ?_⟩
      rw [any_sds, decide_eq_true (hin k (by omega))]
      refine iteF ?_
      refine ⟨_, rfl, _, rfl, _, rfl, p, a, L, _, y, rfl, hp.mono s2, ok, ha, run_ok (init_ok L), hu y (List.mem_of_getElem? hy), fun b H3 s3 hb => ?_⟩
      refine ⟨s2.trans s3, b, _, rfl, ?_⟩
      rw [List.take_add_one, hy, Option.toList_some, run_snoc]
      exact hb
    · obtain ⟨s2, a, v, rfl, ha⟩ := h
      rw [List.length_map] at ha
      refine ⟨_, rfl, _, rfl, sdata (L.run L.init (u.take u.length)), _, dp_sd ha, .tup (.inl (.inl (s2 _ _ ht))) (dp_sds fun z hz => (hzs z hz).mono s2), sd_shaped _, sh_sdsT zs, ?_⟩
      rw [any_sds, decide_eq_true (hin u.length (Nat.le_refl _))]
      exact q _ s2
theorem ok_law_meets_right {K_Meeting : Mak P w K mg base cM "Meeting" 6 ["self", "players"] (spMeeting cP cM)} {M_paper : Mth P w K mg base cM "paper" 1 ["self"] (spPaper cM)} {M_moves_at : Mth P w K mg base cM "moves_at" 2 ["self", "level"] (spMovesAt cM)} {M_last : Mth P w K mg base cM "last" 1 ["self"] (spLast cM)}
    {C_law_led_within : Cal P w K mg base "_law_led_within" 7 ["made", "its", "told"] (spWithin cP)} {C_opponent : Cal P w K mg base "opponent" 6 ["moves", "letters", "tail"] (spOpp cP)}
    (F : FnP K "_law_meets_right" "_law_meets_right" s_law_meets_right f fd) : FnOk P w K mg base CX0 9 f fd ["made", "signs", "ends", "papers", "rival"] (spMeets P w cP) := by
  refine okN F sc_law_meets_right (fun vs H Q E h => ?_) (fun cdv A outer s H vs Q E hr h => ?_)
  · obtain ⟨p, l, e, D, r, L, R, ls, xs, es, S, rfl, _⟩ := h
    rfl
  · obtain ⟨p, l, e, D, r, L, R, ls, xs, es, S, rfl, hp, ok, sm, hl, mv, l3, he, hps, hD, hpa, hS, hrp, riv, q⟩ := h
    refine ⟨_, (pss_cons (ps_set (i := 5) sc_law_meets_right.nd rfl (Or.inr rfl) (pe_mak K_Meeting hr (pa_cons (pe_lst (pa_cons (pv 0) (pa_cons (pv 4) pa_nil))) pa_nil)))
      (pss_cons (ps_set (i := 6) sc_law_meets_right.nd rfl (Or.inr rfl) (pe_lc (own := [("n", 8)]) rfl sc_law_meets_right.nd (pi_range1 rfl T.range_ (pa_cons (pe_callB (lenS K) (by rfl) T.len_ b_len (pa_cons (pe_mth0 TM.clM M_paper hr (pv 5)) pa_nil)) pa_nil)) (blkOk_by (own := [("n", 8)]) (N := ["made", "signs", "ends", "papers", "rival", "both", "its", "blind", "n", "pair"]) (sc := defScope s_law_meets_right) (by decide +kernel)) (fun _ _ _ _ _ => pg_name (i := 8) sc_law_meets_right.nd rfl (Or.inl rfl)) (fun _ _ _ _ _ => pts_nil) (fun _ _ _ _ _ => (pe_ix (ixT K) (pe_mth TM.clM M_moves_at hr (pv 5) (pa_cons (pv 8) pa_nil)) pe_int (fun _ _ => rfl)))))
      (pss_cons (ps_if (pt_cmpR (op_notInD (hu65 hr)) (pe_mth0 TM.clM M_last hr (pv 5)) (pv 2) rfl) (pss_one (ps_ret pe_bl)) pss_nil)
      (pss_cons (ps_if (pt_cmpR (op_neD hr.units) (pe_lock (pe_lc (own := [("pair", 9)]) rfl sc_law_meets_right.nd (pi_keysN (pv 3)) (blkOk_by (own := [("pair", 9)]) (N := ["made", "signs", "ends", "papers", "rival", "both", "its", "blind", "n", "pair"]) (sc := defScope s_law_meets_right) (by decide +kernel)) (fun _ _ _ _ _ => pg_name (i := 9) sc_law_meets_right.nd rfl (Or.inl rfl)) (fun _ _ _ _ _ => pts_one (pt_not (pt_val (pe_cal C_law_led_within hr (pa_cons (pv 0) (pa_cons (pv 6) (pa_cons (ngetP P w (hu16 hr) (pv 3) (pv 9) (fun _ _ => rfl)) pa_nil))))))) (fun _ _ _ _ _ => (pv 9)))) (pe_lst pa_nil) (nomark _)) (pss_one (ps_ret pe_bl)) pss_nil)
      (pss_cons (ps_set (i := 7) sc_law_meets_right.nd rfl (Or.inl rfl) (pe_cal C_opponent hr (pa_cons (pv 1) (pa_cons (pv 6) (pa_cons (pe_ix (ixL K) (pv 6) (pe_un un_neg pe_int) (fun _ _ => rfl)) pa_nil)))))
      (pss_one (ps_ret (pe_cmpR (op_eqD hr.units) (pe_mth0 TM.clM M_last hr (pe_mak K_Meeting hr (pa_cons (pe_lst (pa_cons (pv 0) (pa_cons (pv 7) pa_nil))) pa_nil))) (pe_mth0 TM.clM M_last hr (pv 5)) (nomark _))))))))), ?_⟩
    refine ⟨_, rfl, _, rfl, (by show 2 ≤ sizeLine; decide), fun lm nlm => ?_⟩
    have s1 := same_new (o := .lst [.ref p, .ref r]) nlm
    have g1 : (upd H lm (.lst [.ref p, .ref r])) lm = some (.lst [.ref p, .ref r]) := upd_same
    generalize upd H lm (.lst [.ref p, .ref r]) = H1 at s1 g1
    intro x dx nx ndx nex
    have sX : Same H1 (upd (upd H1 dx (.own x)) x (.ins cM dx [])) := (same_new ndx).trans (same_new (by rw [upd_ne nex.symm]; exact nx))
    have hiL := sm.2
    have hiR := riv.sm.2
    refine ⟨x, dx, lm, [.ref p, .ref r], [L, R], rfl, upd_same, .inl (sX _ _ g1), ⟨rfl, fun k P hk => ?_⟩, ?_, (by show 1 ≤ 2; decide), (by show 2 ≤ 4; decide), ?_, fun H2 n z2 hm2 => ⟨rfl, ?_⟩⟩
    · match k, hk with
      | 0, hk => cases hk; exact ⟨p, rfl, (hp.mono s1).mono sX⟩
      | 1, hk => cases hk; exact ⟨r, rfl, (hrp.mono s1).mono sX⟩
      | k + 2, hk => simp at hk
    · intro P hP
      rcases List.mem_cons.mp hP with rfl | hP
      · exact ok
      · rw [List.mem_singleton.mp hP]; exact riv.ok
    · intro P hP
      rcases List.mem_cons.mp hP with rfl | hP
      · omega
      · rw [List.mem_singleton.mp hP]; omega
    have s2 : Same H H2 := fun c o e => z2 c o (ne_of_none (s1 _ _ e) nx) (sX _ _ (s1 _ _ e))
    clear sX g1 s1 z2 nx ndx nex nlm
    -- what they do
    have hn20 : n ≤ 20 := by
      have h1 := hm2.nb 12 (fun P hP => by
        rcases List.mem_cons.mp hP with rfl | hP
        · exact hiL
        · rw [List.mem_singleton.mp hP]; exact hiR)
      have h2 : muM [L, R] (Met [L, R] 0) ≤ 2 * 4 := mu_le_all (b := 4) fun P hP => by
        rcases List.mem_cons.mp hP with rfl | hP
        · exact sm.1
        · rw [List.mem_singleton.mp hP]; exact riv.sm.1
      omega
    have hlt : ∀ k, ltr L R k ∈ ls := fun k => riv.mem _ (pick_memB riv.ok.mv.pos)
    have hmE := met_end ok riv.ok (hm2.hi L (by simp)) (hm2.hi R (by simp)) hm2.st
    obtain ⟨m, hm⟩ : ∃ m, L.does (Met [L, R] n 0) = m := ⟨_, rfl⟩
    rw [hm] at hmE
    have hmm : m ∈ L.moves := hmE ▸ endM_memB ok _ _
    obtain ⟨y, hy⟩ : ∃ y, ltr L R n = y := ⟨_, rfl⟩
    have hym : y ∈ ls := hy ▸ hlt n
    rw [hy] at hmE
    have hdn : done [L, R] n = [m, y] := by rw [done_two, hm]; exact congrArg (fun z => [m, z]) hy
    have hEnds : Ends L ls m y := ⟨_, (fun z hz => by obtain ⟨k, _, rfl⟩ := List.mem_map.mp hz; exact hlt k), hmE⟩
    obtain ⟨dx2, si, ln, bl, hi, ys, hx2, _⟩ := id hm2.ex
    refine ⟨_, rfl, x, _, _, rfl, hx2, rfl, x, _, n, rfl, hm2, fun pq lns H3 s3 hll hpq => ⟨pq, _, rfl, .inr (.inl (.inl hpq)), ?_⟩⟩
    have s3' := s2.trans s3
    have hm3 := hm2.mono s3
    have hx3 := s3 _ _ hx2
    refine ⟨_, rfl, by omega, by omega, ?_⟩
    rw [Int.toNat_natCast, hll]
    intro D1 hD1
    refine lcW_fm (walk_range (lo := 0) (n := n + 1)) (fun i => some (.str (ltr L R i))) hD1 (by omega) (fun _ _ => trivial) (fun i x' H9 H4 hi s4 yy K1 K0 k1 k0 => ?_) (fun H4 s4 e4 => ?_)
    · obtain ⟨rfl, rfl⟩ := yy
      refine ⟨rfl, yesT ?_⟩
      refine ⟨_, rfl, x, _, _, rfl, s4 _ _ hx3, rfl, _, rfl, x, [L, R], n, i, congrArg (fun z => [V.ref x, V.int z]) (Int.zero_add _), hm3.mono s4, by omega, fun qq hqq => ?_⟩
      rw [show min i n = i by omega, done_two] at hqq
      exact ⟨qq, _, 1, .str (ltr L R i), rfl, rfl, .inl (.inl hqq), atI_nat (j := 1) rfl, k1 _ _ rfl (fun _ _ e => e)⟩
    have e5 : (List.range (n + 1)).filterMap (fun i => some (V.str (ltr L R i))) = ((List.range (n + 1)).map (ltr L R)).map V.str := by
      rw [List.filterMap_eq_map', List.map_map]
      rfl
    rw [e5] at e4
    have s4' := s3'.trans s4
    have hm4 := hm3.mono s4
    have hx4 := s4 _ _ hx3
    clear s3' s3 hpq hm3 hx3 e5 s4 hD1 hm2 hx2 s2
    refine ⟨_, rfl, x, _, _, rfl, hx4, rfl, x, _, n, rfl, hm4, fun qq hqq => ?_⟩
    rw [hdn] at hqq
    have hemv : ∀ z ∈ endPrs L ls, isMv z.1 ∧ isMv z.2 := fun z hz => by
      have := mem_endPrs.mp (show (z.1, z.2) ∈ endPrs L ls from hz)
      exact ⟨ok.mv.mv _ this.1, mv.mv _ this.2.1⟩
    have hmy := sh_prE (q := (m, y)) (ok.mv.mv _ hmm) (mv.mv _ hym)
    refine ⟨_, rfl, prE (m, y), _, .tup (.inl (.inl hqq)) (.cons (.str _) (.cons (.str _) .nil)), .lst (.inl (.inl (s4' _ _ he))) (dp_prsE (hps.mono s4')), hmy, sh_prsLE hemv, _, rfl, ?_⟩
    rw [any_prsE, decide_eq_true (mem_endPrs.mpr ⟨hmm, hym, hEnds⟩)]
    refine iteF ?_
    have hD4 := s4' _ _ hD
    have hpa4 := hpa.keep fun a xs e => s4' _ _ e
    refine ⟨D, _, hD4, trivial, fun od => ?_⟩
    have kF : Kept H4 (upd H4 D (.frz od (DN P w D es))) := kept_dn hD4
    have hdF : (upd H4 D (.frz od (DN P w D es))) D = some (.frz od (DN P w D es)) := upd_same
    have sF : Same (del D H4) (upd H4 D (.frz od (DN P w D es))) := fun a u z => by
      have z' := del_same _ _ z
      rw [upd_ne (by rintro rfl; rw [del_x] at z; cases z)]
      exact z'
    have hel := paired_len hpa4
    have hp4 := (hp.mono s4').kept kF
    have hpaF := hpa4.keep kF.tup
    have e4F := kF.lst e4
    generalize upd H4 D (.frz od (DN P w D es)) = HF at hdF kF sF hp4 hpaF e4F
    refine ⟨_, rfl, D, od, es, rfl, hdF, fun D2 hD2 => ?_⟩
    refine lcW_fm walk_keysN (fun _ => none) hD2 (by omega) (fun H5 s5 => s5 _ _ hdF) (fun i x' H9 H5 hi s5 yy K1 K0 k1 k0 => ?_) (fun H5 s5 e5 => ?_)
    · obtain ⟨rfl, hx⟩ := yy
      rw [List.getElem?_map] at hx
      obtain ⟨e0, he0, rfl⟩ := Option.map_eq_some_iff.mp hx
      obtain ⟨pr, hpr⟩ : ∃ pr, S[i]? = some pr := ⟨_, List.getElem?_eq_getElem (by omega)⟩
      have hpa5 := hpaF.keep fun a xs e => s5 _ _ e
      obtain ⟨e0', he0', k1', k2', _⟩ := paired_get hpa5 hpr
      rw [he0] at he0'
      cases he0'
      obtain ⟨ka, b, d1, zs, d2, d3, d4⟩ := hpa5.find (m := pr.1) (y := pr.2) (List.mem_of_getElem? hpr)
      refine ⟨rfl, ?_⟩
      refine ⟨_, rfl, _, rfl, _, rfl, _, rfl, e0.2.1, D, es, pkey pr.1 pr.2, ka, .ref b, rfl, rfl, .inr ⟨_, s5 _ _ hdF⟩, hpa5.met.keys, pk_at k2', d1, ?_⟩
      refine ⟨p, D1, b, L, (List.range (n + 1)).map (ltr L R), zs, rfl, hp4.mono s5, ok, .inl (s5 _ _ e4F), (fun z hz => by obtain ⟨k, _, rfl⟩ := List.mem_map.mp hz; exact mv.mv _ (hlt k)), d2, d3, fun k hk => (d4 _).mpr ⟨_, fun z hz => by obtain ⟨k, _, rfl⟩ := List.mem_map.mp (List.mem_of_mem_take hz); exact hlt k, rfl⟩, fun H6 s6 => ⟨true, rfl, ?_⟩⟩
      exact iteF (k0 _ rfl s6)
    refine ⟨s5 _ _ hdF, ?_⟩
    have sG : Same H4 (upd H5 D (DN P w D es)) := fun a u z => by
      by_cases qa : a = D
      · subst qa
        rw [hD4] at z
        cases z
        exact upd_same
      · rw [upd_ne qa]
        exact s5 _ _ (sF _ _ (by unfold del; rw [if_neg qa]; exact z))
    have hD2n : D2 ≠ D := fun z => by rw [z, hdF] at hD2; cases hD2
    have g2 : (upd H5 D (DN P w D es)) D2 = some (.lst []) := by
      rw [upd_ne hD2n, e5]
      congr 2
      generalize List.range es.length = rs
      induction rs with
      | nil => rfl
      | cons a b ih => rw [List.filterMap_cons]; exact ih
    generalize upd H5 D (DN P w D es) = H6 at sG g2
    have s6 := s4'.trans sG
    have hits := sG _ _ e4
    have hm6 := hm4.mono sG
    have hx6 := sG _ _ hx4
    clear s5 e5 hD2n sF kF hdF hp4 hpaF e4F hD2 hpa4 hD4 e4 hm4 hx4 s4'
    refine ⟨(by show 0 ≤ sizeLine; decide), fun t0 nt0 => ?_⟩
    have zn := same_new (o := .lst []) nt0
    have g_t0 : (L2.upd H6 t0 (.lst [])) t0 = some (.lst []) := upd_same
    have s6 := s6.trans zn
    have hits := zn _ _ hits
    have hm6 := hm6.mono zn
    have hx6 := zn _ _ hx6
    have g2 := zn _ _ g2
    generalize L2.upd H6 t0 (.lst []) = H7 at zn g_t0 s6 hits hm6 hx6 g2
    refine ⟨_, _, .lst (.inl (.inl g2)) .nil, .lst (.inl (.inl g_t0)) .nil, shp_scal (xs := []) rfl, shp_scal (xs := []) rfl, false, by simp [PyData.eqv, PyData.eqvAll], ?_⟩
    refine iteF ?_
    clear g2 g_t0 zn nt0
    obtain ⟨u, hu⟩ : ∃ u, (List.range (n + 1)).map (ltr L R) = u := ⟨_, rfl⟩
    have hue : u = (List.range n).map (ltr L R) ++ [y] := by rw [← hu, List.range_succ, List.map_append, ← hy]; rfl
    have hul : u.length = n + 1 := by rw [← hu]; simp
    have hum : ∀ z ∈ u, z ∈ ls := fun z hz => by rw [← hu] at hz; obtain ⟨k, _, rfl⟩ := List.mem_map.mp hz; exact hlt k
    rw [hu] at hits
    have h3 : ls.dropLast.length ≤ 2 := by rw [List.length_dropLast]; omega
    have hb : 3 * u.length + 2 + ls.dropLast.length * (u.length + 1) ≤ 120 := by
      have := Nat.mul_le_mul h3 (show u.length + 1 ≤ 22 by omega)
      omega
    have okO := opp_okG (y := y) mv (u := u) (by omega) hb
    refine ⟨_, rfl, _, rfl, _, rfl, _, rfl, D1, _, -1, .str y, rfl, rfl, .inl (.inl hits), ?_, l, D1, ls, u, y, rfl, hl.mono s6, mv, .inl hits, by omega, hb, hum, hym, fun pb H8 s8 hpb => ?_⟩
    · unfold atI ixN
      rw [List.length_map, if_neg (by decide), if_pos (by omega)]
      show (u.map V.str)[((-1 : Int) + ((u.length : Nat) : Int)).toNat]? = _
      rw [show ((-1 : Int) + ((u.length : Nat) : Int)).toNat = n by omega, List.getElem?_map, hue, List.getElem?_append_right (by simp)]
      simp
    have s8' := s6.trans s8
    have hm8 := hm6.mono s8
    have hx8 := s8 _ _ hx6
    clear hm6 hx6 s8 s6
    refine ⟨_, rfl, _, rfl, (by show 2 ≤ sizeLine; decide), fun lm nlm => ?_⟩
    have zn := same_new (o := .lst [.ref p, .ref pb]) nlm
    have g_lm : (L2.upd H8 lm (.lst [.ref p, .ref pb])) lm = some (.lst [.ref p, .ref pb]) := upd_same
    have s8' := s8'.trans zn
    have hm8 := hm8.mono zn
    have hx8 := zn _ _ hx8
    have hpb := hpb.mono zn
    generalize L2.upd H8 lm (.lst [.ref p, .ref pb]) = H9 at zn g_lm s8' hm8 hx8 hpb
    intro x' dx' nx ndx nex
    have sX : Same H9 (upd (upd H9 dx' (.own x')) x' (.ins cM dx' [])) := (same_new ndx).trans (same_new (by rw [upd_ne nex.symm]; exact nx))
    refine ⟨x', dx', lm, [.ref p, .ref pb], [L, opp ls u y], rfl, upd_same, .inl (sX _ _ g_lm), ⟨rfl, fun k P hk => ?_⟩, ?_, (by show 1 ≤ 2; decide), (by show 2 ≤ 4; decide), ?_, fun HA n' z2 hmA => ⟨rfl, ?_⟩⟩
    · match k, hk with
      | 0, hk => cases hk; exact ⟨p, rfl, (hp.mono s8').mono sX⟩
      | 1, hk => cases hk; exact ⟨pb, rfl, hpb.mono sX⟩
      | k + 2, hk => simp at hk
    · intro P hP
      rcases List.mem_cons.mp hP with rfl | hP
      · exact ok
      · rw [List.mem_singleton.mp hP]; exact okO
    · intro P hP
      rcases List.mem_cons.mp hP with rfl | hP
      · omega
      · rw [List.mem_singleton.mp hP]; exact opp_highG (by omega) okO
    have sA' : Same H9 HA := fun c o e => z2 c o (ne_of_none e nx) (sX _ _ e)
    have hbl := opp_lastG ok mv okO (by omega) hum hym hmA.hi hmA.st
    have hend : L.endM (L.run L.init u) y = m := by
      rw [hue, run_snoc, endM_step (run_ok (init_ok L))]
      exact hmE
    rw [hend] at hbl
    obtain ⟨dxA, siA, lnA, blA, hiA, ysA, hxA, _⟩ := id hmA.ex
    refine ⟨x', _, _, rfl, hxA, rfl, x', _, n', rfl, hmA, fun q1 hq1 => ?_⟩
    rw [hbl] at hq1
    refine ⟨_, rfl, x, _, _, rfl, sA' _ _ hx8, rfl, x, _, n, rfl, hm8.mono sA', fun q2 hq2 => ?_⟩
    rw [hdn] at hq2
    refine ⟨prE (m, y), prE (m, y), .tup (.inl (.inl hq1)) (.cons (.str _) (.cons (.str _) .nil)), .tup (.inl (.inl hq2)) (.cons (.str _) (.cons (.str _) .nil)), hmy, hmy, ?_⟩
    rw [show PyData.eqv (prE (m, y)) (prE (m, y)) = true by simp [prE, PyData.eqv, PyData.eqvAll]]
    exact q _ (s8'.trans sA')
end
end Lk

set_option maxHeartbeats 4000000
namespace Lk
open PySem PySem.Spec PyProof.Rows L2
/-! ### k51: the law -/
theorem dn_nlB {P : Program} {w : World} {d : Addr} {es : DnE} : ∀ xs, DN P w d es ≠ .lst xs := fun xs e => by
  unfold DN at e
  cases e
theorem cut26 (xs : List V) : cutV xs (some 2) (some 6) = (xs.drop 2).take (min 6 xs.length - min 2 xs.length) := by
  unfold cutV
  have h1 : HT.sIx xs.length 0 (some 2) = min 2 xs.length := HT.sIx_nat xs.length 0 2
  have h2 : HT.sIx xs.length xs.length (some 6) = min 6 xs.length := HT.sIx_nat xs.length xs.length 6
  rw [h1, h2]
  rcases Nat.le_total 2 xs.length with h | h
  · rw [Nat.min_eq_left h]
  · rw [Nat.min_eq_right h, List.drop_length, List.drop_eq_nil_of_le h]
theorem PaAt.put {L : Pl} {ls : List Str} {H : Hp} {es : DnE} {S : List (Str × Str)} {m y : Str} {a b : Addr} (h : PaAt L ls H es S) (ha : H a = some (.tup [.str m, .str y])) (hb : Pz L ls H b) : ∃ S', PaAt L ls H (dnPut es (pkey m y) a (.ref b)) S' ∧ S'.length ≤ S.length + 1 := by
  unfold dnPut
  by_cases q : (dnAt es (pkey m y)).isSome = true
  · rw [if_pos q]
    refine ⟨S, ?_, by omega⟩
    clear q
    induction h with
    | nil => exact .nil
    | cons h _ ih =>
      refine .cons ?_ ih
      obtain ⟨h1, h2, b', h3, h4⟩ := h
      dsimp only
      split
      · exact ⟨h1, h2, b, rfl, hb⟩
      · exact ⟨h1, h2, b', h3, h4⟩
  · rw [if_neg q]
    exact ⟨S ++ [(m, y)], paired_snoc h ⟨rfl, ha, b, rfl, hb⟩, by simp⟩
theorem kept_del {P : Program} {w : World} {H : Hp} {d : Addr} {es : DnE} (h : H d = some (DN P w d es)) : Kept H (del d H) := fun a u n e => by
  unfold del
  rw [if_neg]
  · exact e
  rintro rfl
  rw [h] at e
  cases e
  unfold DN at n
  rcases n with ⟨_, _, _, z⟩ | ⟨_, z⟩ | ⟨_, z⟩ <;> cases z
theorem Kept.cut {H H' : Hp} (k : Kept H H') (d c : Addr) : Kept (cut d c H) (cut d c H') := fun a u n e => by
  unfold Lk.cut at e ⊢
  split at e
  · cases e
  · rename_i h
    rw [if_neg h]
    exact k _ _ n e
theorem SiAt.kept {H H' : Hp} {t : Addr} {L : Pl} (k : Kept H H') (h : SiAt H t L) : SiAt H' t L :=
  ⟨let ⟨o, b, c, m, v, xs, h1, h2, h3, h4, h5⟩ := h.ex; ⟨o, b, c, m, v, xs, k.tup _ _ h1, k.lst h2, k.lst h3, paired_imp h4 fun x r ⟨a, h1, h2⟩ => ⟨a, h1, k.tup _ _ h2⟩, k.lst h5⟩⟩
theorem Dw.kept {d c : Addr} {H H' : Hp} (k : Kept H H') (h : Dw d c H) : Dw d c H' := by
  obtain ⟨ne, cells, i, m, h1, h2, h3⟩ := h
  exact ⟨ne, cells, i, m, k.lst h1, k.lst h2, h3⟩
def spLaw (K : PySem.W.Frag) : Sp := fun vs H Q _ => ∃ (a : Addr) (ns : List Int), vs = [.ref a] ∧ SqL K H a (ns.map V.int) ∧ ns.length ≤ 63 ∧ ∀ H', Q (.bl true) H'
section
variable {P : Program} {w : World} {K : PySem.W.Frag} {mg : Str → Option Value} {base : Heap} {cP cG cT cM cS cF : Addr} {f : Addr} {fd : FuncData} (T : Txt K w mg cP cG cT) (TM : TxM K w mg cM cS cF)
include T TM
theorem ok_law {C_law_state : Cal P w K mg base "_law_state" 1 ["script"] (spState K)} {C_law_names : Cal P w K mg base "_law_names" 2 ["state", "many"] spNames} {C_law_own : Cal P w K mg base "_law_own" 2 ["state", "pool"] spOwn} {C_law_draw : Cal P w K mg base "_law_draw" 1 ["state", "many"] spDraw}
    {C_law_sight : Cal P w K mg base "_law_sight" 5 ["state", "own", "seen", "blocks"] spSight} {C_law_signs : Cal P w K mg base "_law_signs" 2 ["state", "pool", "many"] spSigns} {C_law_made : Cal P w K mg base "_law_made" 6 ["sight"] (spMade cP)} {C_endings : Cal P w K mg base "endings" 8 ["player", "others"] (spEndings cP)}
    {C_brought : Cal P w K mg base "brought" 8 ["player", "others", "mine", "yours"] (spBrought cP)} {C_shows_never : Cal P w K mg base "shows_never" 7 ["player", "others", "mine", "yours", "stands"] (spShowsNever cP)}
    {C_law_rivals : Cal P w K mg base "_law_rivals" 7 ["state", "sight", "signs"] (spRivals cP)} {C_law_meets_right : Cal P w K mg base "_law_meets_right" 9 ["made", "signs", "ends", "papers", "rival"] (spMeets P w cP)}
    (F : FnP K "law" "law" s_law f fd) : FnOk P w K mg base CX0 126 f fd ["script"] (spLaw K) := by
  refine okN F sc_law (fun vs H Q E h => ?_) (fun cdv A outer s H vs Q E hr h => ?_)
  · obtain ⟨a, ns, rfl, _⟩ := h
    rfl
  · obtain ⟨a, ns, rfl, ha, hl, q⟩ := h
    refine ⟨_, (pss_cons (ps_set (i := 1) sc_law.nd rfl (Or.inl rfl) (pe_cal C_law_state hr (pa_cons (pv 0) pa_nil)))
      (pss_cons (ps_set (i := 2) sc_law.nd rfl (Or.inl rfl) (pe_cal C_law_names hr (pa_cons (pv 1) (pa_cons pe_int pa_nil))))
      (pss_cons (ps_set (i := 3) sc_law.nd rfl (Or.inl rfl) (pe_cal C_law_sight hr (pa_cons (pv 1) (pa_cons (pe_cal C_law_own hr (pa_cons (pv 1) (pa_cons (pv 2) pa_nil))) (pa_cons (pe_slice (slL K) (pv 2) (po_some pe_int) (po_some pe_int)) (pa_cons (pe_op op_add pe_int (pe_cal C_law_draw hr (pa_cons (pv 1) (pa_cons pe_int pa_nil)))) pa_nil))))))
      (pss_cons (ps_par3 (i := 4) (j := 5) (l := 6) rfl sc_law.nd rfl rfl rfl (by decide) (by decide) (by decide) rfl rfl rfl (pa_cons (pe_cal C_law_signs hr (pa_cons (pv 1) (pa_cons (pe_slice (slL K) (pv 2) (po_some pe_int) (po_some pe_int)) (pa_cons pe_int pa_nil)))) (pa_cons (pe_cal C_law_made hr (pa_cons (pv 3) pa_nil)) (pa_cons pe_dnewN pa_nil))) (by rfl))
      (pss_cons (ps_set (i := 7) sc_law.nd rfl (Or.inl rfl) (pe_cal C_endings hr (pa_cons (pv 5) (pa_cons (pv 4) pa_nil))))
      (pss_cons (ps_for PassesOwn.never rfl (pi_sq (pe_ix (ixT K) (pv 3) pe_int (fun _ _ => rfl))) (pg_name (i := 8) sc_law.nd rfl (Or.inl rfl)) (pss_one (ps_for PassesOwn.never rfl (pi_sq (pv 4)) (pg_name (i := 9) sc_law.nd rfl (Or.inl rfl)) (pss_one (ps_if (pt_cmpR (op_notInD (hu65 hr)) (pe_tup (pa_cons (pv 8) (pa_cons (pv 9) pa_nil))) (pv 7) rfl) (pss_cons (ps_asg (pe_cal C_brought hr (pa_cons (pv 5) (pa_cons (pv 4) (pa_cons (pv 8) (pa_cons (pv 9) pa_nil))))) (pgT K 2 rfl (pgs_cons (pg_name (i := 10) sc_law.nd rfl (Or.inl rfl)) (pgs_cons (pg_name (i := 11) sc_law.nd rfl (Or.inl rfl)) pgs_nil))))
      (pss_cons (ps_set (i := 12) sc_law.nd rfl (Or.inl rfl) (pe_cal C_shows_never hr (pa_cons (pv 5) (pa_cons (pv 4) (pa_cons (pv 8) (pa_cons (pv 9) (pa_cons (pv 11) pa_nil)))))))
      (pss_cons (ps_if (PW.pt (pw_or (pt_cmpR op_ne (pv 10) pe_str (nomark _)) (pw_or1 (pt_cmpR op_isnot_bl (pv 12) pe_bl (nomark _))))) (pss_one (ps_ret pe_bl)) pss_nil)
      (pss_one (ps_nput (hu16 hr) (pv 6) (pe_tup (pa_cons (pv 8) (pa_cons (pv 9) pa_nil))) (pv 11) rfl))))) pss_nil)))))
      (pss_cons (ps_for PassesOwn.never rfl (pi_sq (pe_cal C_law_rivals hr (pa_cons (pv 1) (pa_cons (pv 3) (pa_cons (pv 4) pa_nil))))) (pg_name (i := 13) sc_law.nd rfl (Or.inl rfl)) (pss_one (ps_if (pt_not (pt_val (pe_cal C_law_meets_right hr (pa_cons (pv 5) (pa_cons (pv 4) (pa_cons (pv 7) (pa_cons (pv 6) (pa_cons (pv 13) pa_nil)))))))) (pss_one (ps_ret pe_bl)) pss_nil)))
      (pss_one (ps_ret pe_bl))))))))), ?_⟩
    refine ⟨_, rfl, a, ns, rfl, ha, by omega, fun d c H1 _ hd1 _ _ => ?_⟩
    clear ha
    refine ⟨_, rfl, d, c, rfl, hd1, fun pl pool H2 pl8 pnd pmv hd2 s2 hpl2 _ => ?_⟩
    have hd2' := hd2
    clear s2 hd1
    refine ⟨_, rfl, _, rfl, _, rfl, d, c, pl, pool, rfl, hd2, hpl2, pl8, fun o n H3 n1 n4 hd3 s3 ho3 _ => ?_⟩
    have hpl3 := s3 _ _ hpl2
    clear s3 hd2' hd2 hpl2
    have ec : cutV (pool.map V.str) (some 2) (some 6) = ((pool.drop 2).take 4).map V.str := by
      rw [cut26, List.length_map, pl8, ← List.map_drop, ← List.map_take]
      rfl
    have hse : ∀ m ∈ (pool.drop 2).take 4, isMv m := fun m hm => pmv m (List.mem_of_mem_drop (List.mem_of_mem_take hm))
    have hsl : ((pool.drop 2).take 4).length = 4 := by rw [List.length_take, List.length_drop, pl8]; rfl
    have hsn : ((pool.drop 2).take 4).Nodup := (List.take_sublist _ _).nodup ((List.drop_sublist _ _).nodup pnd)
    have mvO : Mv (pool.take n) := ⟨by rw [List.length_take]; omega, by rw [List.length_take]; omega, (List.take_sublist _ _).nodup pnd, fun m hm => pmv m (List.mem_of_mem_take hm)⟩
    refine ⟨_, rfl, 2, rfl, 6, rfl, pl, _, rfl, .inl (.inl (cut_same _ _ hpl3)), fun se nse => ?_⟩
    rw [ec]
    have gse := hd3.new nse (o := .lst (((pool.drop 2).take 4).map V.str))
    have z4 := same_new (o := .lst (((pool.drop 2).take 4).map V.str)) nse
    have hd4 := hd3.mono z4
    have z4 := cut_mono (d := d) (c := c) z4
    have ho4 := z4 _ _ ho3
    have hpl4 := z4 _ _ hpl3
    generalize L2.upd H3 se (.lst (((pool.drop 2).take 4).map V.str)) = H4 at gse hd4 ho4 hpl4
    clear z4 ho3 hpl3 hd3 nse
    refine ⟨_, rfl, d, c, 2, rfl, hd4, by decide, by decide, fun r H5 r0 r1 hd5 s5 => ⟨_, _, rfl, rfl, ?_⟩⟩
    have ho5 := s5 _ _ ho4
    have hpl5 := s5 _ _ hpl4
    have gse5 := s5 _ _ gse
    obtain ⟨bn, hbn, hb3⟩ : ∃ bn : Nat, 2 + r = (bn : Int) ∧ bn ≤ 3 := ⟨(2 + r).toNat, by omega, by omega⟩
    refine ⟨d, c, o, se, pool.take n, (pool.drop 2).take 4, bn, congrArg (fun z => [V.ref d, .ref o, .ref se, .int z]) hbn, hd5, ho5, mvO, gse5, by omega, hse, hb3, fun t L H6 hd6 s6 hsi hmo ok sm => ?_⟩
    have hpl6 := s6 _ _ hpl5
    clear s5 s6 gse gse5 ho4 ho5 hpl4 hpl5 hd4 hd5
    refine ⟨_, rfl, _, rfl, 2, rfl, 6, rfl, pl, _, rfl, .inl (.inl (cut_same _ _ hpl6)), fun s2 ns2 => ?_⟩
    rw [ec]
    have gs2 := hd6.new ns2 (o := .lst (((pool.drop 2).take 4).map V.str))
    have z7 := same_new (o := .lst (((pool.drop 2).take 4).map V.str)) ns2
    have hd7 := hd6.mono z7
    have z7 := cut_mono (d := d) (c := c) z7
    have hsi7 := hsi.mono z7
    generalize L2.upd H6 s2 (.lst (((pool.drop 2).take 4).map V.str)) = H7 at gs2 hd7 hsi7
    clear z7 hsi hpl6 hd6 ns2
    refine ⟨d, c, s2, (pool.drop 2).take 4, 3, rfl, hd7, gs2, by decide, by omega, by omega, hsn, hse, fun l ls H8 mvl l3 _ hd8 s8 hl8 _ => ?_⟩
    have hsi8 := hsi7.mono s8
    clear gs2 hd7 hsi7 s8
    refine ⟨_, rfl, t, d, c, L, rfl, hd8, hsi8.mono cut_same, ok, fun p H9 s9 hp9 _ D nD => ⟨_, _, _, rfl, ?_⟩⟩
    have hd9 := hd8.mono s9
    have s9 := cut_mono (d := d) (c := c) s9
    have hsi9 := hsi8.mono s9
    have hl9 := s9 _ _ hl8
    clear s9 hsi8 hl8 hd8
    show tSeq _ _ _ _ (L2.upd H9 D (DN P w D []))
    have zn := same_new (o := DN P w D []) nD
    have g_D : (L2.upd H9 D (DN P w D [])) D = some (DN P w D []) := upd_same
    have zc := cut_mono (d := d) (c := c) zn
    have hd9 := hd9.mono zn
    have hl9 := zc _ _ hl9
    have hsi9 := hsi9.mono zc
    have hp9 := hp9.mono zc
    generalize L2.upd H9 D (DN P w D []) = HB at zn g_D zc hd9 hl9 hsi9 hp9
    refine ⟨_, rfl, _, rfl, p, l, L, ls, rfl, hp9.mono cut_same, ok, sm, .inl (cut_same _ _ hl9), mvl, fun e HA xe sA ne he hpe => ?_⟩
    obtain ⟨_, cl9, i9, m9, j1, j2, _⟩ := id hd9
    have hed : e ≠ d := fun q => by rw [q, j1] at ne; cases ne
    have hec : e ≠ c := fun q => by rw [q, j2] at ne; cases ne
    have g_D := sA _ _ g_D
    have kD := kept_del g_D
    have hdA := (hd9.mono sA).kept kD
    have sA := cut_mono (d := d) (c := c) sA
    have hsiA := (hsi9.mono sA).kept (kD.cut d c)
    have hlA := (kD.cut d c).lst (sA _ _ hl9)
    have hpA := (hp9.mono sA).kept (kD.cut d c)
    have heA := kD.lst he
    have hpeA : PrsAt (del D HA) xe (endPrs L ls) := paired_imp hpe fun v x ⟨a, h1, h2⟩ => ⟨a, h1, kD.tup _ _ h2⟩
    have nDA := del_x (x := D) (H := HA)
    have zD := del_same (x := D) (H := HA)
    clear j1 j2 ne sA hsi9 hl9 hp9 hd9 kD he hpe zn zc nD
    generalize del D HA = HX at hdA hsiA hlA hpA heA hpeA nDA zD
    obtain ⟨o', b', c', m', v', xs', k1, k2, k3, k4, k5⟩ := hsiA.ex
    have k1A := cut_same _ _ k1
    have k2A := cut_same _ _ k2
    have hlA' := cut_same _ _ hlA
    refine ⟨_, rfl, t, _, _, .ref o', rfl, rfl, .inl (.inl (zD _ _ k1A)), atI_nat (j := 0) rfl, o', _, rfl, .inl (zD _ _ k2A), fun J hJ => ?_⟩
    refine for_it hJ (fun i σ H' => Same HX H' ∧ ∃ es ps u1 u2 u3 u4 u5, σ = [some (.ref a), some (.ref d), some (.ref pl), some (.ref t), some (.ref l), some (.ref p), some (.ref D), some (.ref e), u1, u2, u3, u4, u5, none] ∧ H' D = some (DN P w D es) ∧ PaAt L ls H' es ps ∧ ps.length ≤ 4 * i)
      ⟨zD, [], [], _, _, _, _, _, rfl, g_D, .nil, Nat.le_refl _⟩ (fun i σ H' hi h => (same_of h.1 (.inl k2A)).trans (same_of zD (.inl k2A)).symm) (fun i x σ H9' HC hi h yy => ?_) (fun σ HC h => ?_)
    · obtain ⟨sC, es, ps, u1, u2, u3, u4, u5, rfl, gDC, fs, psl⟩ := h
      obtain ⟨rfl, hx⟩ := yy
      rw [List.getElem?_map] at hx
      obtain ⟨m, hm, rfl⟩ := Option.map_eq_some_iff.mp hx
      have hmm := List.mem_of_getElem? hm
      have hi4 : i < 4 := by
        have := (List.getElem?_eq_some_iff.mp hm).1
        have := ok.mv.few
        omega
      refine ⟨_, rfl, l, _, rfl, .inl (sC _ _ hlA'), fun J1 hJ1 => ?_⟩
      refine for_it hJ1 (fun k σ H' => Same HX H' ∧ ∃ es ps u2 u3 u4 u5, σ = [some (.ref a), some (.ref d), some (.ref pl), some (.ref t), some (.ref l), some (.ref p), some (.ref D), some (.ref e), some (.str m), u2, u3, u4, u5, none] ∧ H' D = some (DN P w D es) ∧ PaAt L ls H' es ps ∧ ps.length ≤ 4 * i + k)
        ⟨sC, es, ps, _, _, _, _, rfl, gDC, fs, psl⟩ (fun k σ H' hk h => (same_of h.1 (.inl hlA')).trans (same_of sC (.inl hlA')).symm) (fun k x σ H9'' HE hk h yy => ?_) (fun σ HE h => ?_)
      · obtain ⟨sE, es0, ps0, u2, u3, u4, u5, rfl, gDE, fs, psl⟩ := h
        obtain ⟨rfl, hx⟩ := yy
        rw [List.getElem?_map] at hx
        obtain ⟨y, hy, rfl⟩ := Option.map_eq_some_iff.mp hx
        have hym := List.mem_of_getElem? hy
        have hpE := (hpA.mono cut_same).mono sE
        have hk4 : k < 3 := by
          rw [List.length_map] at hk
          omega
        have hemv : ∀ z ∈ endPrs L ls, isMv z.1 ∧ isMv z.2 := fun z hz => by
          have := mem_endPrs.mp (show (z.1, z.2) ∈ endPrs L ls from hz)
          exact ⟨ok.mv.mv _ this.1, mvl.mv _ this.2.1⟩
        have hmy := sh_prE (q := (m, y)) (ok.mv.mv _ hmm) (mvl.mv _ hym)
        refine ⟨_, rfl, _, rfl, (by show 2 ≤ sizeLine; decide), fun kk nkk => ?_⟩
        have zn := same_new (o := .tup [.str m, .str y]) nkk
        have g_kk : (L2.upd HE kk (.tup [.str m, .str y])) kk = some (.tup [.str m, .str y]) := upd_same
        have sE := sE.trans zn
        have gDE := zn _ _ gDE
        have hpE := hpE.mono zn
        generalize L2.upd HE kk (.tup [.str m, .str y]) = HF at zn g_kk sE gDE hpE
        have fs := fs.keep fun a xs e => zn _ _ e
        clear zn
        refine ⟨_, rfl, prE (m, y), _, .tup (.inl (.inl g_kk)) (.cons (.str _) (.cons (.str _) .nil)), .lst (.inl (.inl (sE _ _ heA))) (dp_prsE (PrsAt.mono sE hpeA)), hmy, sh_prsLE hemv, _, rfl, ?_⟩
        rw [any_prsE]
        by_cases hE : (m, y) ∈ endPrs L ls
        · rw [decide_eq_true hE]
          refine iteF ?_
          exact ⟨sE, es0, ps0, _, _, _, _, rfl, gDE, fs, by omega⟩
        rw [decide_eq_false hE]
        have hE' : ¬ Ends L ls m y := fun h => hE (mem_endPrs.mpr ⟨hmm, hym, h⟩)
        refine iteT ?_
        refine ⟨_, rfl, _, rfl, _, rfl, _, rfl, p, l, L, ls, m, y, rfl, hpE, ok, sm, .inl (sE _ _ hlA'), mvl, hmm, hym, fun q0 b HG u sG hq hb hul hlen hem hmin => absurd ⟨u, hul, hem⟩ hE', fun hne q0 b HG zs sG hq hb hzs hzl hrch => ?_⟩
        refine ⟨q0, _, rfl, .inl (.inl hq), rfl, _, _, rfl, _, _, rfl, rfl, ?_⟩
        have sG' := sE.trans sG
        refine ⟨_, rfl, _, rfl, _, rfl, _, rfl, _, rfl, p, l, b, L, ls, m, y, zs, rfl, hpE.mono sG, ok, sm, .inl (sG' _ _ hlA'), mvl, hmm, hym, hb, fun z hz => ⟨hzs z hz, ?_⟩, hzl, .inr ⟨?_, ?_, ?_, fun HH sH => ?_⟩⟩
        · obtain ⟨v, _, e⟩ := (hrch z.2).mp (List.mem_map_of_mem hz)
          rw [← e]
          exact run_ok (init_ok L)
        · exact (hrch _).mpr ⟨[], fun z hz => (nomatch hz), rfl⟩
        · intro s hs x hx
          obtain ⟨v, hv, e⟩ := (hrch s).mp hs
          refine (hrch _).mpr ⟨v ++ [x], fun z hz => (List.mem_append.mp hz).elim (hv z) (fun h => (List.mem_singleton.mp h) ▸ hx), ?_⟩
          rw [run_snoc, e]
        · intro s hs hms
          obtain ⟨v, hv, e⟩ := (hrch s).mp hs
          cases h : L.rest s y with
          | false => rfl
          | true =>
            refine absurd ⟨v, hv, ?_⟩ hne
            rw [e]
            unfold Pl.endM
            rw [endS_rest (by rw [← e]; exact run_ok (init_ok L)) h]
            exact hms
        have sH' := sG'.trans sH
        have gDH := sH _ _ (sG _ _ gDE)
        have fs := (fs.keep fun a xs e => sG _ _ e).keep fun a xs e => sH _ _ e
        have pz : Pz L ls HH b := ⟨zs, sH _ _ hb, fun z hz => (hzs z hz).mono sH, hrch⟩
        refine ⟨_, rfl, rfl, _, rfl, ?_⟩
        refine ifNF rfl ?_
        refine ⟨_, rfl, true, true, rfl, rfl, _, rfl, ?_⟩
        refine ifNF rfl ?_
        refine ⟨_, rfl, _, rfl, _, rfl, _, rfl, (by show 2 ≤ sizeLine; decide), fun kk nkk => ?_⟩
        have zn := same_new (o := .tup [.str m, .str y]) nkk
        have g_kk : (L2.upd HH kk (.tup [.str m, .str y])) kk = some (.tup [.str m, .str y]) := upd_same
        have sH' := sH'.trans zn
        have gDH := zn _ _ gDH
        generalize L2.upd HH kk (.tup [.str m, .str y]) = HI at zn g_kk sH' gDH
        have fs := fs.keep fun a xs e => zn _ _ e
        have pz := pz.keep fun a xs e => zn _ _ e
        have hel := paired_len fs
        refine ⟨kk, D, es0, pkey m y, rfl, rfl, gDH, fs.met.keys, pk_at g_kk, by omega, ?_⟩
        obtain ⟨S', p1, p2⟩ := fs.put g_kk pz
        exact ⟨same_mut sH' nDA, _, S', _, _, _, _, rfl, upd_same, p1.keep (kept_dn gDH).tup, by omega⟩
      · obtain ⟨sE, es, ps, u2, u3, u4, u5, rfl, gDE, fs, psl⟩ := h
        rw [List.length_map] at psl
        exact ⟨sE, es, ps, _, _, _, _, _, rfl, gDE, fs, by omega⟩
    · obtain ⟨sC, es, ps, u1, u2, u3, u4, u5, rfl, gDC, fs, psl⟩ := h
      have hm4 := ok.mv.few
      rw [List.length_map] at psl
      have hdC := hdA.mono sC
      obtain ⟨_, clC, iC, mC, j1, j2, _⟩ := id hdC
      have tupC : ∀ a xs, HC a = some (.tup xs) → (cut d c HC) a = some (.tup xs) := fun a xs h => cut_at h (fun e => by rw [e, j1] at h; cases h) (fun e => by rw [e, j2] at h; cases h)
      have gDc : (cut d c HC) D = some (DN P w D es) := cut_at gDC (fun e => by rw [e, j1] at gDC; exact dn_nlB _ (Option.some.inj gDC).symm) (fun e => by rw [e, j2] at gDC; exact dn_nlB _ (Option.some.inj gDC).symm)
      have fsc := fs.keep tupC
      have hec' : (cut d c HC) e = some (.lst xe) := cut_at (sC _ _ heA) hed hec
      have hpec : PrsAt (cut d c HC) xe (endPrs L ls) := paired_imp (PrsAt.mono sC hpeA) fun v x ⟨a, h1, h2⟩ => ⟨a, h1, tupC _ _ h2⟩
      have sCc := cut_mono (d := d) (c := c) sC
      refine ⟨_, rfl, _, rfl, _, rfl, d, c, t, l, L, ls, rfl, hdC, hsiA.mono sCc, ok, sm, sCc _ _ hlA, mvl, l3, fun q0 xr Rs HD hdD sD hq hR hRi hRl => ⟨q0, xr, rfl, .inl (cut_same _ _ hq), fun J2 hJ2 => ?_⟩⟩
      have hqD := cut_same _ _ hq
      refine for_it hJ2 (fun i σ H' => Same HD H' ∧ ∃ u1 u2 u3 u4 u5 u6, σ = [some (.ref a), some (.ref d), some (.ref pl), some (.ref t), some (.ref l), some (.ref p), some (.ref D), some (.ref e), u1, u2, u3, u4, u5, u6])
        ⟨fun _ _ e => e, _, _, _, _, _, _, rfl⟩ (fun i σ H' hi h => same_of h.1 (.inl hqD)) (fun i x σ H9' HH hi h yy => ?_) (fun σ HH h => ?_)
      · obtain ⟨sH, u1, u2, u3, u4, u5, u6, rfl⟩ := h
        obtain ⟨rfl, hx⟩ := yy
        obtain ⟨R, r, hRr, rfl, hr⟩ := hR.get hx
        have riv := hRi R (List.mem_of_getElem? hRr)
        have sDH : Same (cut d c HC) HH := fun b u z => sH _ _ (cut_same _ _ (sD _ _ z))
        refine ⟨_, rfl, _, rfl, _, rfl, _, rfl, _, rfl, p, l, e, D, r, L, R, ls, xe, es, ps, rfl, (hpA.mono sCc).mono sDH, ok, sm, .inl (sDH _ _ (sCc _ _ hlA)), mvl, l3, sDH _ _ hec', hpec.mono sDH, sDH _ _ gDc, fsc.keep fun a xs e => sDH _ _ e, by omega, (hr.mono cut_same).mono sH, riv, fun HI sI => ⟨true, rfl, ?_⟩⟩
        refine iteF ?_
        exact ⟨sH.trans sI, _, _, _, _, _, _, rfl⟩
      · obtain ⟨sH, u1, u2, u3, u4, u5, u6, rfl⟩ := h
        exact q _
end
end Lk

set_option maxHeartbeats 0
namespace Lk
open PySem PySem.Spec PyProof.Rows L2
/-! ### the head: what is told of the top -/
def tupHd (K : PySem.W.Frag) (a : Addr) (vs : List V) : Bool := match K.lookup a with
  | some ⟨.type c, _, .seq its _, _⟩ => decide (c = "tuple") && (decide (its.size ≤ sizeLine) && He.relAll vs its.toList)
  | _ => false
theorem tupHd_ok {K : PySem.W.Frag} {a : Addr} {vs : List V} (h : tupHd K a vs = true) : KTup K a vs := by
  unfold tupHd at h
  cases q : K.lookup a with
  | none => rw [q] at h; cases h
  | some o =>
    obtain ⟨oc, od, dt, osl⟩ := o
    rw [q] at h
    cases oc with
    | type c =>
      cases dt with
      | seq its n =>
        obtain ⟨h1, h2⟩ := He.ba (show (decide (c = "tuple") && (decide (its.size ≤ sizeLine) && He.relAll vs its.toList)) = true from h)
        obtain ⟨h3, h4⟩ := He.ba h2
        exact ⟨_, its, n, q, congrArg Value.type (of_decide_eq_true h1), rfl, of_decide_eq_true h3, He.relAll_ok h4⟩
      | _ => cases h
    | _ => cases dt <;> cases h
def dvA (K : PySem.W.Frag) (d : Addr) (z : Str) : Addr := match PySem.W.nsIn K d z with
  | some (some (.ref a)) => a
  | _ => 0
def rnB (K : PySem.W.Frag) : Bool := rnTab.all fun q => He.eqO (PySem.W.nsIn K (He.ga K "ROWS_NAMED") q.1) (some (some (.ref (dvA K (He.ga K "ROWS_NAMED") q.1)))) && tupHd K (dvA K (He.ga K "ROWS_NAMED") q.1) (q.2.map V.int)
def szB (K : PySem.W.Frag) : Bool := szTab.all fun q => match PySem.W.nsIn K (He.ga K "SIZES") q.1 with
  | some (some u) => He.relB (.int q.2) u
  | _ => false
def clB (K : PySem.W.Frag) (cP : Addr) : Bool := He.eqO (PySem.W.findIn K (.ref cP) "__class__") (some (some (.builtin "object.__class__"))) && (He.eqO (PySem.W.specialIn K (.builtin "object.__class__") "__get__") (some (some (.builtin "getset_descriptor.__get__"))) &&
  (decide (PySem.W.takesIn K (.builtin "object.__class__") = some true) && (decide (PySem.W.mroIn K cP (.type "object") = some true) && decide (PySem.W.kitOne K (.ref cP) (.ref cP) = some true))))
theorem lookup_in {β : Type} {z : Str} {x : β} : ∀ {l : List (Str × β)}, l.lookup z = some x → (z, x) ∈ l
  | [], h => by cases h
  | (b, u) :: r, h => by
    rw [List.lookup_cons] at h
    by_cases q : z = b
    · subst q
      rw [beq_self_eq_true] at h
      cases h
      exact List.mem_cons_self
    · rw [show (z == b) = false from beq_eq_false_iff_ne.mpr q] at h
      exact List.mem_cons_of_mem _ (lookup_in h)
theorem rn_ok {K : PySem.W.Frag} {w : World} {es : Array DictEntry} {n : Nat} (kd : KDict K w (He.ga K "ROWS_NAMED") es n) (h : rnB K = true) {z : Str} {xs : List Int} (hz : rnTab.lookup z = some xs) : ∃ a, KDct K w (He.ga K "ROWS_NAMED") z (.ref a) ∧ KTup K a (xs.map V.int) := by
  obtain ⟨h1, h2⟩ := He.ba (List.all_eq_true.mp h _ (lookup_in hz))
  exact ⟨_, ⟨es, n, _, kd.at_, kd.lit, He.eqO_ok h1, rfl⟩, tupHd_ok h2⟩
theorem sz_ok {K : PySem.W.Frag} {w : World} {es : Array DictEntry} {n : Nat} (kd : KDict K w (He.ga K "SIZES") es n) (h : szB K = true) {z : Str} {x : Int} (hz : szTab.lookup z = some x) : KDct K w (He.ga K "SIZES") z (.int x) := by
  have h1 := List.all_eq_true.mp h _ (lookup_in hz)
  cases e : PySem.W.nsIn K (He.ga K "SIZES") z with
  | none =>
    rw [e] at h1
    cases h1
  | some r =>
    rw [e] at h1
    cases r with
    | none => cases h1
    | some u => exact ⟨es, n, u, kd.at_, kd.lit, e, He.relB_ok h1⟩
theorem cl_ok {K : PySem.W.Frag} {cP : Addr} (h : clB K cP = true) : PySem.W.findIn K (.ref cP) "__class__" = some (some (.builtin "object.__class__")) ∧ PySem.W.specialIn K (.builtin "object.__class__") "__get__" = some (some (.builtin "getset_descriptor.__get__")) ∧ PySem.W.takesIn K (.builtin "object.__class__") = some true ∧
    PySem.W.mroIn K cP (.type "object") = some true ∧ PySem.W.kitOne K (.ref cP) (.ref cP) = some true := by
  obtain ⟨h1, h⟩ := He.ba h
  obtain ⟨h2, h⟩ := He.ba h
  obtain ⟨h3, h⟩ := He.ba h
  obtain ⟨h4, h5⟩ := He.ba h
  exact ⟨He.eqO_ok h1, He.eqO_ok h2, of_decide_eq_true h3, of_decide_eq_true h4, of_decide_eq_true h5⟩
abbrev d_is_number : He.DefD := ⟨("is_number", none), "is_number", "is_number", defArgs s_is_number, defBody s_is_number, defScope s_is_number, [], []⟩
abbrev d_is_list : He.DefD := ⟨("is_list", none), "is_list", "is_list", defArgs s_is_list, defBody s_is_list, defScope s_is_list, [], []⟩
abbrev d_is_move : He.DefD := ⟨("is_move", none), "is_move", "is_move", defArgs s_is_move, defBody s_is_move, defScope s_is_move, [], []⟩
abbrev d_are_moves : He.DefD := ⟨("are_moves", none), "are_moves", "are_moves", defArgs s_are_moves, defBody s_are_moves, defScope s_are_moves, [], []⟩
abbrev d_is_row : He.DefD := ⟨("is_row", none), "is_row", "is_row", defArgs s_is_row, defBody s_is_row, defScope s_is_row, [], []⟩
abbrev d_need_rows : He.DefD := ⟨("need_rows", none), "need_rows", "need_rows", defArgs s_need_rows, defBody s_need_rows, defScope s_need_rows, [], []⟩
abbrev d_named_by : He.DefD := ⟨("named_by", none), "named_by", "named_by", defArgs s_named_by, defBody s_named_by, defScope s_named_by, [], []⟩
abbrev d_down_ones : He.DefD := ⟨("down_ones", none), "down_ones", "down_ones", defArgs s_down_ones, defBody s_down_ones, defScope s_down_ones, [], []⟩
abbrev d_below : He.DefD := ⟨("below", none), "below", "below", defArgs s_below, defBody s_below, defScope s_below, [], []⟩
abbrev d_need_moves : He.DefD := ⟨("need_moves", none), "need_moves", "need_moves", defArgs s_need_moves, defBody s_need_moves, defScope s_need_moves, [], []⟩
abbrev d_Player___init__ : He.DefD := ⟨("Player", some "__init__"), "__init__", "Player.__init__", defArgs s_Player___init__, defBody s_Player___init__, defScope s_Player___init__, [], []⟩
abbrev d_Player_moves : He.DefD := ⟨("Player", some "moves"), "moves", "Player.moves", defArgs s_Player_moves, defBody s_Player_moves, defScope s_Player_moves, [], []⟩
abbrev d_Player_rows : He.DefD := ⟨("Player", some "rows"), "rows", "Player.rows", defArgs s_Player_rows, defBody s_Player_rows, defScope s_Player_rows, [], []⟩
abbrev d_Player_chosen : He.DefD := ⟨("Player", some "chosen"), "chosen", "Player.chosen", defArgs s_Player_chosen, defBody s_Player_chosen, defScope s_Player_chosen, [], []⟩
abbrev d_Player_showns : He.DefD := ⟨("Player", some "showns"), "showns", "Player.showns", defArgs s_Player_showns, defBody s_Player_showns, defScope s_Player_showns, [], []⟩
abbrev d_Player_top : He.DefD := ⟨("Player", some "top"), "top", "Player.top", defArgs s_Player_top, defBody s_Player_top, defScope s_Player_top, [], []⟩
abbrev d_value_of : He.DefD := ⟨("value_of", none), "value_of", "value_of", defArgs s_value_of, defBody s_value_of, defScope s_value_of, [], []⟩
abbrev d_values : He.DefD := ⟨("values", none), "values", "values", defArgs s_values, defBody s_values, defScope s_values, [], []⟩
abbrev d_move_of : He.DefD := ⟨("move_of", none), "move_of", "move_of", defArgs s_move_of, defBody s_move_of, defScope s_move_of, [], []⟩
abbrev d_led_truths : He.DefD := ⟨("led_truths", none), "led_truths", "led_truths", defArgs s_led_truths, defBody s_led_truths, defScope s_led_truths, [], []⟩
abbrev d_need_players : He.DefD := ⟨("need_players", none), "need_players", "need_players", defArgs s_need_players, defBody s_need_players, defScope s_need_players, [], []⟩
abbrev d_ring_of : He.DefD := ⟨("ring_of", none), "ring_of", "ring_of", defArgs s_ring_of, defBody s_ring_of, defScope s_ring_of, [], []⟩
abbrev d_first_truths : He.DefD := ⟨("first_truths", none), "first_truths", "first_truths", defArgs s_first_truths, defBody s_first_truths, defScope s_first_truths, [], []⟩
abbrev d_done_by : He.DefD := ⟨("done_by", none), "done_by", "done_by", defArgs s_done_by, defBody s_done_by, defScope s_done_by, [], []⟩
abbrev d_led_all : He.DefD := ⟨("led_all", none), "led_all", "led_all", defArgs s_led_all, defBody s_led_all, defScope s_led_all, [], []⟩
abbrev d_line_of : He.DefD := ⟨("line_of", none), "line_of", "line_of", defArgs s_line_of, defBody s_line_of, defScope s_line_of, [], []⟩
abbrev d_Meeting___init__ : He.DefD := ⟨("Meeting", some "__init__"), "__init__", "Meeting.__init__", defArgs s_Meeting___init__, defBody s_Meeting___init__, defScope s_Meeting___init__, [], []⟩
abbrev d_Meeting_at_level : He.DefD := ⟨("Meeting", some "at_level"), "at_level", "Meeting.at_level", defArgs s_Meeting_at_level, defBody s_Meeting_at_level, defScope s_Meeting_at_level, [], []⟩
abbrev d_Meeting_moves_at : He.DefD := ⟨("Meeting", some "moves_at"), "moves_at", "Meeting.moves_at", defArgs s_Meeting_moves_at, defBody s_Meeting_moves_at, defScope s_Meeting_moves_at, [], []⟩
abbrev d_Meeting_last : He.DefD := ⟨("Meeting", some "last"), "last", "Meeting.last", defArgs s_Meeting_last, defBody s_Meeting_last, defScope s_Meeting_last, [], []⟩
abbrev d_Meeting_paper : He.DefD := ⟨("Meeting", some "paper"), "paper", "Meeting.paper", defArgs s_Meeting_paper, defBody s_Meeting_paper, defScope s_Meeting_paper, [], []⟩
abbrev d_need_player : He.DefD := ⟨("need_player", none), "need_player", "need_player", defArgs s_need_player, defBody s_need_player, defScope s_need_player, [], []⟩
abbrev d_need_letters : He.DefD := ⟨("need_letters", none), "need_letters", "need_letters", defArgs s_need_letters, defBody s_need_letters, defScope s_need_letters, [], []⟩
abbrev d_Sheet___init__ : He.DefD := ⟨("Sheet", some "__init__"), "__init__", "Sheet.__init__", defArgs s_Sheet___init__, defBody s_Sheet___init__, defScope s_Sheet___init__, [], []⟩
abbrev d_Sheet_put : He.DefD := ⟨("Sheet", some "put"), "put", "Sheet.put", defArgs s_Sheet_put, defBody s_Sheet_put, defScope s_Sheet_put, [], []⟩
abbrev d_Sheet_any_of : He.DefD := ⟨("Sheet", some "any_of"), "any_of", "Sheet.any_of", defArgs s_Sheet_any_of, defBody s_Sheet_any_of, defScope s_Sheet_any_of, [], []⟩
abbrev d_Sheet_levels : He.DefD := ⟨("Sheet", some "levels"), "levels", "Sheet.levels", defArgs s_Sheet_levels, defBody s_Sheet_levels, defScope s_Sheet_levels, [], []⟩
abbrev d_opponent : He.DefD := ⟨("opponent", none), "opponent", "opponent", defArgs s_opponent, defBody s_opponent, defScope s_opponent, [], []⟩
abbrev d_Gait___init__ : He.DefD := ⟨("Gait", some "__init__"), "__init__", "Gait.__init__", defArgs s_Gait___init__, defBody s_Gait___init__, defScope s_Gait___init__, [], []⟩
abbrev d_Gait_first : He.DefD := ⟨("Gait", some "first"), "first", "Gait.first", defArgs s_Gait_first, defBody s_Gait_first, defScope s_Gait_first, [], []⟩
abbrev d_Gait_is_stand : He.DefD := ⟨("Gait", some "is_stand"), "is_stand", "Gait.is_stand", defArgs s_Gait_is_stand, defBody s_Gait_is_stand, defScope s_Gait_is_stand, [], []⟩
abbrev d_Gait_truths : He.DefD := ⟨("Gait", some "truths"), "truths", "Gait.truths", defArgs s_Gait_truths, defBody s_Gait_truths, defScope s_Gait_truths, [], []⟩
abbrev d_Gait_move : He.DefD := ⟨("Gait", some "move"), "move", "Gait.move", defArgs s_Gait_move, defBody s_Gait_move, defScope s_Gait_move, [], []⟩
abbrev d_Gait_behind : He.DefD := ⟨("Gait", some "behind"), "behind", "Gait.behind", defArgs s_Gait_behind, defBody s_Gait_behind, defScope s_Gait_behind, [], []⟩
abbrev d_Gait_rests : He.DefD := ⟨("Gait", some "rests"), "rests", "Gait.rests", defArgs s_Gait_rests, defBody s_Gait_rests, defScope s_Gait_rests, [], []⟩
abbrev d_Gait_end : He.DefD := ⟨("Gait", some "end"), "end", "Gait.end", defArgs s_Gait_end, defBody s_Gait_end, defScope s_Gait_end, [], []⟩
abbrev d_Gait_words : He.DefD := ⟨("Gait", some "words"), "words", "Gait.words", defArgs s_Gait_words, defBody s_Gait_words, defScope s_Gait_words, [], []⟩
abbrev d_need_among : He.DefD := ⟨("need_among", none), "need_among", "need_among", defArgs s_need_among, defBody s_need_among, defScope s_need_among, [], []⟩
abbrev d_need_stand : He.DefD := ⟨("need_stand", none), "need_stand", "need_stand", defArgs s_need_stand, defBody s_need_stand, defScope s_need_stand, [], []⟩
abbrev d_begin : He.DefD := ⟨("begin", none), "begin", "begin", defArgs s_begin, defBody s_begin, defScope s_begin, [], []⟩
abbrev d_led : He.DefD := ⟨("led", none), "led", "led", defArgs s_led, defBody s_led, defScope s_led, [], []⟩
abbrev d_endings : He.DefD := ⟨("endings", none), "endings", "endings", defArgs s_endings, defBody s_endings, defScope s_endings, [], []⟩
abbrev d_brought : He.DefD := ⟨("brought", none), "brought", "brought", defArgs s_brought, defBody s_brought, defScope s_brought, [], []⟩
abbrev d_shows_never : He.DefD := ⟨("shows_never", none), "shows_never", "shows_never", defArgs s_shows_never, defBody s_shows_never, defScope s_shows_never, [], []⟩
abbrev d_law_state : He.DefD := ⟨("_law_state", none), "_law_state", "_law_state", defArgs s_law_state, defBody s_law_state, defScope s_law_state, [], []⟩
abbrev d_law_draw : He.DefD := ⟨("_law_draw", none), "_law_draw", "_law_draw", defArgs s_law_draw, defBody s_law_draw, defScope s_law_draw, [], []⟩
abbrev d_law_names : He.DefD := ⟨("_law_names", none), "_law_names", "_law_names", defArgs s_law_names, defBody s_law_names, defScope s_law_names, [], []⟩
abbrev d_law_own : He.DefD := ⟨("_law_own", none), "_law_own", "_law_own", defArgs s_law_own, defBody s_law_own, defScope s_law_own, [], []⟩
abbrev d_law_atoms : He.DefD := ⟨("_law_atoms", none), "_law_atoms", "_law_atoms", defArgs s_law_atoms, defBody s_law_atoms, defScope s_law_atoms, [], []⟩
abbrev d_law_ahead : He.DefD := ⟨("_law_ahead", none), "_law_ahead", "_law_ahead", defArgs s_law_ahead, defBody s_law_ahead, defScope s_law_ahead, [], []⟩
abbrev d_law_more : He.DefD := ⟨("_law_more", none), "_law_more", "_law_more", defArgs s_law_more, defBody s_law_more, defScope s_law_more, [], []⟩
abbrev d_law_rows : He.DefD := ⟨("_law_rows", none), "_law_rows", "_law_rows", defArgs s_law_rows, defBody s_law_rows, defScope s_law_rows, [], []⟩
abbrev d_law_downs : He.DefD := ⟨("_law_downs", none), "_law_downs", "_law_downs", defArgs s_law_downs, defBody s_law_downs, defScope s_law_downs, [], []⟩
abbrev d_law_chosen : He.DefD := ⟨("_law_chosen", none), "_law_chosen", "_law_chosen", defArgs s_law_chosen, defBody s_law_chosen, defScope s_law_chosen, [], []⟩
abbrev d_law_marks : He.DefD := ⟨("_law_marks", none), "_law_marks", "_law_marks", defArgs s_law_marks, defBody s_law_marks, defScope s_law_marks, [], []⟩
abbrev d_law_told : He.DefD := ⟨("_law_told", none), "_law_told", "_law_told", defArgs s_law_told, defBody s_law_told, defScope s_law_told, [], []⟩
abbrev d_law_sight : He.DefD := ⟨("_law_sight", none), "_law_sight", "_law_sight", defArgs s_law_sight, defBody s_law_sight, defScope s_law_sight, [], []⟩
abbrev d_law_made : He.DefD := ⟨("_law_made", none), "_law_made", "_law_made", defArgs s_law_made, defBody s_law_made, defScope s_law_made, [], []⟩
abbrev d_law_signs : He.DefD := ⟨("_law_signs", none), "_law_signs", "_law_signs", defArgs s_law_signs, defBody s_law_signs, defScope s_law_signs, [], []⟩
abbrev d_law_known : He.DefD := ⟨("_law_known", none), "_law_known", "_law_known", defArgs s_law_known, defBody s_law_known, defScope s_law_known, [], []⟩
abbrev d_law_rivals : He.DefD := ⟨("_law_rivals", none), "_law_rivals", "_law_rivals", defArgs s_law_rivals, defBody s_law_rivals, defScope s_law_rivals, [], []⟩
abbrev d_law_led_within : He.DefD := ⟨("_law_led_within", none), "_law_led_within", "_law_led_within", defArgs s_law_led_within, defBody s_law_led_within, defScope s_law_led_within, [], []⟩
abbrev d_law_meets_right : He.DefD := ⟨("_law_meets_right", none), "_law_meets_right", "_law_meets_right", defArgs s_law_meets_right, defBody s_law_meets_right, defScope s_law_meets_right, [], []⟩
abbrev d_law : He.DefD := ⟨("law", none), "law", "law", defArgs s_law, defBody s_law, defScope s_law, [], []⟩
def hfa_0 : List He.Fa := [He.Fa.free "len", He.Fa.free "isinstance", He.Fa.free "all", He.Fa.free "enumerate", He.Fa.free "range", He.Fa.free "max", He.Fa.free "min", He.Fa.free "sorted", He.Fa.free "tuple", He.Fa.free "list", He.Fa.free "dict", He.Fa.free "set", He.Fa.free "zip", He.Fa.free "abs", He.Fa.free "int", He.Fa.free "bool", He.Fa.free "str", He.Fa.int "MOST_ROWS" 2000, He.Fa.int "MOST_FURTHER" 3, He.Fa.int "MOST_K" 99, He.Fa.int "LONGEST" 8, He.Fa.int "MOST_SEATS" 4, He.Fa.int "MOST_LETTERS" 99, He.Fa.int "HIGHEST" 1000000000, He.Fa.str "LETTERS" az, He.Fa.glo "ROWS_NAMED", He.Fa.glo "SIZES", He.Fa.glo "Player", He.Fa.cls "Player", He.Fa.mkr "Player"]
def hfa_1 : List He.Fa := [He.Fa.noat "Player" "ways", He.Fa.noat "Player" "lines", He.Fa.noat "Player" "picks", He.Fa.noat "Player" "cone", He.Fa.glo "Gait", He.Fa.cls "Gait", He.Fa.mkr "Gait", He.Fa.noat "Gait" "walker", He.Fa.noat "Gait" "marks", He.Fa.noat "Gait" "high", He.Fa.glo "Meeting", He.Fa.cls "Meeting", He.Fa.mkr "Meeting", He.Fa.noat "Meeting" "sitting", He.Fa.noat "Meeting" "high", He.Fa.noat "Meeting" "lines", He.Fa.noat "Meeting" "by_level", He.Fa.glo "Sheet", He.Fa.cls "Sheet", He.Fa.mkr "Sheet", He.Fa.noat "Sheet" "put_down", He.Fa.glo "is_number", He.Fa.glo "is_list", He.Fa.glo "is_move", He.Fa.glo "are_moves", He.Fa.glo "is_row", He.Fa.glo "need_rows", He.Fa.glo "named_by", He.Fa.glo "down_ones", He.Fa.glo "below"]
def hfa_2 : List He.Fa := [He.Fa.glo "need_moves", He.Fa.meth "Player" "moves", He.Fa.meth "Player" "rows", He.Fa.meth "Player" "chosen", He.Fa.meth "Player" "showns", He.Fa.meth "Player" "top", He.Fa.glo "value_of", He.Fa.glo "values", He.Fa.glo "move_of", He.Fa.glo "led_truths", He.Fa.glo "need_players", He.Fa.glo "ring_of", He.Fa.glo "first_truths", He.Fa.glo "done_by", He.Fa.glo "led_all", He.Fa.glo "line_of", He.Fa.meth "Meeting" "at_level", He.Fa.meth "Meeting" "moves_at", He.Fa.meth "Meeting" "last", He.Fa.meth "Meeting" "paper", He.Fa.glo "need_player", He.Fa.glo "need_letters", He.Fa.meth "Sheet" "put", He.Fa.meth "Sheet" "any_of", He.Fa.meth "Sheet" "levels", He.Fa.glo "opponent", He.Fa.meth "Gait" "first", He.Fa.meth "Gait" "is_stand", He.Fa.meth "Gait" "truths", He.Fa.meth "Gait" "move"]
def hfa_3 : List He.Fa := [He.Fa.meth "Gait" "behind", He.Fa.meth "Gait" "rests", He.Fa.meth "Gait" "end", He.Fa.meth "Gait" "words", He.Fa.glo "need_among", He.Fa.glo "need_stand", He.Fa.glo "begin", He.Fa.glo "led", He.Fa.glo "endings", He.Fa.glo "brought", He.Fa.glo "shows_never", He.Fa.glo "_law_state", He.Fa.glo "_law_draw", He.Fa.glo "_law_names", He.Fa.glo "_law_own", He.Fa.glo "_law_atoms", He.Fa.glo "_law_ahead", He.Fa.glo "_law_more", He.Fa.glo "_law_rows", He.Fa.glo "_law_downs", He.Fa.glo "_law_chosen", He.Fa.glo "_law_marks", He.Fa.glo "_law_told", He.Fa.glo "_law_sight", He.Fa.glo "_law_made", He.Fa.glo "_law_signs", He.Fa.glo "_law_known", He.Fa.glo "_law_rivals", He.Fa.glo "_law_led_within", He.Fa.glo "_law_meets_right"]
def hfa_4 : List He.Fa := [He.Fa.glo "law"]
def hfa : List He.Fa := hfa_0 ++ hfa_1 ++ hfa_2 ++ hfa_3 ++ hfa_4
def hfn_0 : List He.DefD := [d_is_number, d_is_list, d_is_move, d_are_moves, d_is_row, d_need_rows, d_named_by, d_down_ones, d_below, d_need_moves, d_Player___init__, d_Player_moves, d_Player_rows, d_Player_chosen, d_Player_showns, d_Player_top, d_value_of, d_values, d_move_of, d_led_truths, d_need_players, d_ring_of, d_first_truths, d_done_by, d_led_all, d_line_of, d_Meeting___init__, d_Meeting_at_level, d_Meeting_moves_at, d_Meeting_last]
def hfn_1 : List He.DefD := [d_Meeting_paper, d_need_player, d_need_letters, d_Sheet___init__, d_Sheet_put, d_Sheet_any_of, d_Sheet_levels, d_opponent, d_Gait___init__, d_Gait_first, d_Gait_is_stand, d_Gait_truths, d_Gait_move, d_Gait_behind, d_Gait_rests, d_Gait_end, d_Gait_words, d_need_among, d_need_stand, d_begin, d_led, d_endings, d_brought, d_shows_never, d_law_state, d_law_draw, d_law_names, d_law_own, d_law_atoms, d_law_ahead]
def hfn_2 : List He.DefD := [d_law_more, d_law_rows, d_law_downs, d_law_chosen, d_law_marks, d_law_told, d_law_sight, d_law_made, d_law_signs, d_law_known, d_law_rivals, d_law_led_within, d_law_meets_right, d_law]
def hfn : List He.DefD := hfn_0 ++ hfn_1 ++ hfn_2
def hts : List He.Tab := [(fun K => He.ga K "ROWS_NAMED", ["false", "does", "not", "and", "or", "shown"]), (fun K => He.ga K "SIZES", ["false", "does", "not", "and", "or", "shown"])]
def hex (K : PySem.W.Frag) : Bool := (rnB K && szB K) && (true && (clB K (He.ga K "Player")))
def loo_0 : List Str := ["SightError", "NoRow", "NoMoves", "NoChoice", "NoPlayers", "NoLevel", "NoSeat", "NoLetter", "NoStand", "TooLong", "MOST_ROWS", "MOST_FURTHER", "MOST_K", "LETTERS", "LONGEST", "ROWS_NAMED", "SIZES", "is_number", "is_list", "is_move", "are_moves", "is_row", "need_rows", "named_by", "down_ones", "below", "need_moves", "Player", "value_of", "values"]
def loo_1 : List Str := ["move_of", "led_truths", "MOST_SEATS", "HIGHEST", "need_players", "ring_of", "first_truths", "done_by", "led_all", "line_of", "Meeting", "MOST_LETTERS", "need_player", "need_letters", "Sheet", "opponent", "Gait", "need_among", "need_stand", "begin", "led", "endings", "brought", "shows_never", "_law_state", "_law_draw", "_law_names", "_law_own", "_law_atoms", "_law_ahead"]
def loo_2 : List Str := ["_law_more", "_law_rows", "_law_downs", "_law_chosen", "_law_marks", "_law_told", "_law_sight", "_law_made", "_law_signs", "_law_known", "_law_rivals", "_law_led_within", "_law_meets_right"]
def loo : List Str := loo_0 ++ loo_1 ++ loo_2
abbrev R : PySem.W.OpenRow := PySem.W.OpenLaw.row PySem.Challenge.rw_lookthrough_k51_whole_whoever_looks_thro
/-- what the walk leans on, by name: the module's objects, the classes' own, their defs and code objects -/
def refAt (g : Addr → Option Obj) (a : Addr) : List Addr := match g a with
  | some o => He.refsD o
  | none => []
def refNs (g : Addr → Option Obj) (a : Addr) : List Addr := match g a with
  | some ⟨c, d, .dict es n, sl⟩ => He.refsD ⟨c, d, .dict es n, sl⟩
  | _ => []
def asM (g : Addr → Option Obj) : List Addr :=
  (fun l1 => (fun l2 => (fun l3 => mainGlobals :: (l1 ++ (l2 ++ (l3 ++ l3.flatMap (refAt g))))) (l2.flatMap (refNs g))) (l1.flatMap (refAt g))) (refAt g mainGlobals)
structure SaysM (w : World) (K : PySem.W.Frag) : Prop where
  t : He.SaysT hfa hfn hts w K
  more : hex K = true
abbrev AlM : Type := He.AlT × Bool
def obsM (g : Addr → Option Obj) : AlM := (He.obsT hfa hfn hts (He.frG g (asM g)), hex (He.frG g (asM g)))
def hk : PySem.W.Hook where
  α := AlM
  obs := fun s => obsM s.heap.get?
  val := fun w => (He.valT hfn hts w, true)
  says := fun w h => ∃ K : PySem.W.Frag, K.In h ∧ SaysM w K
  of := fun _ _ e => ⟨_, He.frG_in, ⟨congrArg (fun z : AlM => z.1) e, congrArg (fun z : AlM => z.2) e⟩⟩
  keeps := fun _ _ _ ⟨K, hK, c⟩ k => ⟨K, PySem.W.Frag.In.keeps hK k, c⟩
def ob (s : PySem.W.SharedT) : AlM := obsM (HandSHeadRun.getT s)
theorem ob_eq (s : PySem.W.SharedT) : ob s = hk.obs s.abs := by
  have e : HandSHeadRun.getT s = s.abs.heap.get? := funext (HandSHeadRun.getT_eq s)
  show obsM (HandSHeadRun.getT s) = obsM s.abs.heap.get?
  rw [e]
theorem run_f (w : World) : HandSHeadRun.RunEq R (PySem.W.view R.prog [80]) hk ob 6000 loo (w.withFollow "special-get-raises" false) := by
  intro os
  kernel_rfl
theorem run_t (w : World) : HandSHeadRun.RunEq R (PySem.W.view R.prog [80]) hk ob 6000 loo (w.withFollow "special-get-raises" true) := by
  intro os
  kernel_rfl
theorem run (w : World) : HandSHeadRun.RunEq R (PySem.W.view R.prog [80]) hk ob 6000 loo w := PySem.W.byRow2 "special-get-raises" (P := HandSHeadRun.RunEq R (PySem.W.view R.prog [80]) hk ob 6000 loo) run_f run_t w
end Lk

set_option maxHeartbeats 0
namespace Lk
open PySem PySem.Spec PyProof.Rows L2
theorem txt_ok {K : PySem.W.Frag} {w : World} {h : Heap} {mg : Str → Option Value} (X : K.In h) (G : h.Ns mainGlobals mg) (c : SaysM w K) : Txt K w mg (He.ga K "Player") (He.ga K "Gait") 0 := by
  have cd := c.t.d
  have e := He.ba c.more
  have e1 := He.ba e.1
  have e2 := He.ba e.2
  obtain ⟨es1, n1, k1⟩ := c.t.tab 0
  obtain ⟨es2, n2, k2⟩ := c.t.tab 1
  exact {
    len_ := He.free_ok X G (cd.fact 0)
    isinstance_ := He.free_ok X G (cd.fact 1)
    all_ := He.free_ok X G (cd.fact 2)
    enumerate_ := He.free_ok X G (cd.fact 3)
    range_ := He.free_ok X G (cd.fact 4)
    max_ := He.free_ok X G (cd.fact 5)
    min_ := He.free_ok X G (cd.fact 6)
    sorted_ := He.free_ok X G (cd.fact 7)
    tuple_ := He.free_ok X G (cd.fact 8)
    list_ := He.free_ok X G (cd.fact 9)
    dict_ := He.free_ok X G (cd.fact 10)
    set_ := He.free_ok X G (cd.fact 11)
    zip_ := He.free_ok X G (cd.fact 12)
    abs_ := He.free_ok X G (cd.fact 13)
    int_ := He.free_ok X G (cd.fact 14)
    bool_ := He.free_ok X G (cd.fact 15)
    str_ := He.free_ok X G (cd.fact 16)
    MOST_ROWS := He.int_ok X G (cd.fact 17)
    MOST_FURTHER := He.int_ok X G (cd.fact 18)
    MOST_K := He.int_ok X G (cd.fact 19)
    LONGEST := He.int_ok X G (cd.fact 20)
    LETTERS := He.str_ok X G (cd.fact 24)
    ROWS_NAMED := ⟨_, He.glo_ok X G (cd.fact 25), fun z xs hz => rn_ok k1 e1.1 hz⟩
    SIZES := ⟨_, He.glo_ok X G (cd.fact 26), ⟨_, _, k2⟩, fun z x hz => sz_ok k2 e1.2 hz⟩
    Player := He.glo_ok X G (cd.fact 27)
    Gait := He.glo_ok X G (cd.fact 34)
    clP := He.cls_ok (cd.fact 28)
    clG := He.cls_ok (cd.fact 35)
    isP := cl_ok e2.2
    naP := fun f hf => by
      simp only [List.mem_cons, List.not_mem_nil, or_false] at hf
      rcases hf with rfl | rfl | rfl | rfl
      · exact He.noat_ok (cd.fact 30)
      · exact He.noat_ok (cd.fact 31)
      · exact He.noat_ok (cd.fact 32)
      · exact He.noat_ok (cd.fact 33)
    naG := fun f hf => by
      simp only [List.mem_cons, List.not_mem_nil, or_false] at hf
      rcases hf with rfl | rfl | rfl
      · exact He.noat_ok (cd.fact 37)
      · exact He.noat_ok (cd.fact 38)
      · exact He.noat_ok (cd.fact 39)
  }
theorem txm_ok {K : PySem.W.Frag} {w : World} {h : Heap} {mg : Str → Option Value} (X : K.In h) (G : h.Ns mainGlobals mg) (c : SaysM w K) : TxM K w mg (He.ga K "Meeting") (He.ga K "Sheet") 0 := by
  have cd := c.t.d
  exact {
    MOST_SEATS := He.int_ok X G (cd.fact 21)
    MOST_LETTERS := He.int_ok X G (cd.fact 22)
    HIGHEST := He.int_ok X G (cd.fact 23)
    Meeting := He.glo_ok X G (cd.fact 40)
    Sheet := He.glo_ok X G (cd.fact 47)
    clM := He.cls_ok (cd.fact 41)
    clS := He.cls_ok (cd.fact 48)
    naM := fun f hf => by
      simp only [List.mem_cons, List.not_mem_nil, or_false] at hf
      rcases hf with rfl | rfl | rfl | rfl
      · exact He.noat_ok (cd.fact 43)
      · exact He.noat_ok (cd.fact 44)
      · exact He.noat_ok (cd.fact 45)
      · exact He.noat_ok (cd.fact 46)
    naS := fun f hf => by
      simp only [List.mem_cons, List.not_mem_nil, or_false] at hf
      rcases hf with rfl
      · exact He.noat_ok (cd.fact 50)
  }
theorem facts {P : Program} {w : World} {K : PySem.W.Frag} {h : Heap} {mg : Str → Option Value} {f : Addr} (X : K.In h) (G : h.Ns mainGlobals mg) (hfl : mg ("law" : Str) = some (.ref f)) (c : SaysM w K) :
    ∃ fd : FuncData, (∀ (s : Shared) (v : Value), BindsTo s fd ⟨[v], []⟩ [("script", v)]) ∧ ∀ base : Heap, K.In base → base.Ns mainGlobals mg → FnOk P w K mg base CX0 126 f fd ["script"] ((spLaw K)) := by
  have T := txt_ok X G c
  have TM := txm_ok X G c
  have cd := c.t.d
  obtain ⟨fd54, F54⟩ := cd.def_ 54 (d := d_law_state) rfl
  obtain ⟨fd55, F55⟩ := cd.def_ 55 (d := d_law_draw) rfl
  obtain ⟨fd56, F56⟩ := cd.def_ 56 (d := d_law_names) rfl
  obtain ⟨fd57, F57⟩ := cd.def_ 57 (d := d_law_own) rfl
  obtain ⟨fd58, F58⟩ := cd.def_ 58 (d := d_law_atoms) rfl
  obtain ⟨fd59, F59⟩ := cd.def_ 59 (d := d_law_ahead) rfl
  obtain ⟨fd60, F60⟩ := cd.def_ 60 (d := d_law_more) rfl
  obtain ⟨fd61, F61⟩ := cd.def_ 61 (d := d_law_rows) rfl
  obtain ⟨fd62, F62⟩ := cd.def_ 62 (d := d_law_downs) rfl
  obtain ⟨fd63, F63⟩ := cd.def_ 63 (d := d_law_chosen) rfl
  obtain ⟨fd64, F64⟩ := cd.def_ 64 (d := d_law_marks) rfl
  obtain ⟨fd65, F65⟩ := cd.def_ 65 (d := d_law_told) rfl
  obtain ⟨fd66, F66⟩ := cd.def_ 66 (d := d_law_sight) rfl
  obtain ⟨fd68, F68⟩ := cd.def_ 68 (d := d_law_signs) rfl
  obtain ⟨fd1, F1⟩ := cd.def_ 1 (d := d_is_list) rfl
  obtain ⟨fd2, F2⟩ := cd.def_ 2 (d := d_is_move) rfl
  obtain ⟨fd3, F3⟩ := cd.def_ 3 (d := d_are_moves) rfl
  obtain ⟨fd9, F9⟩ := cd.def_ 9 (d := d_need_moves) rfl
  obtain ⟨fd0, F0⟩ := cd.def_ 0 (d := d_is_number) rfl
  obtain ⟨fd4, F4⟩ := cd.def_ 4 (d := d_is_row) rfl
  obtain ⟨fd5, F5⟩ := cd.def_ 5 (d := d_need_rows) rfl
  obtain ⟨fd6, F6⟩ := cd.def_ 6 (d := d_named_by) rfl
  obtain ⟨fd7, F7⟩ := cd.def_ 7 (d := d_down_ones) rfl
  obtain ⟨fd8, F8⟩ := cd.def_ 8 (d := d_below) rfl
  obtain ⟨fd10, F10⟩ := cd.def_ 10 (d := d_Player___init__) rfl
  obtain ⟨fd67, F67⟩ := cd.def_ 67 (d := d_law_made) rfl
  obtain ⟨fd31, F31⟩ := cd.def_ 31 (d := d_need_player) rfl
  obtain ⟨fd14, F14⟩ := cd.def_ 14 (d := d_Player_showns) rfl
  obtain ⟨fd15, F15⟩ := cd.def_ 15 (d := d_Player_top) rfl
  obtain ⟨fd38, F38⟩ := cd.def_ 38 (d := d_Gait___init__) rfl
  obtain ⟨fd39, F39⟩ := cd.def_ 39 (d := d_Gait_first) rfl
  obtain ⟨fd16, F16⟩ := cd.def_ 16 (d := d_value_of) rfl
  obtain ⟨fd17, F17⟩ := cd.def_ 17 (d := d_values) rfl
  obtain ⟨fd19, F19⟩ := cd.def_ 19 (d := d_led_truths) rfl
  obtain ⟨fd41, F41⟩ := cd.def_ 41 (d := d_Gait_truths) rfl
  obtain ⟨fd12, F12⟩ := cd.def_ 12 (d := d_Player_rows) rfl
  obtain ⟨fd11, F11⟩ := cd.def_ 11 (d := d_Player_moves) rfl
  obtain ⟨fd13, F13⟩ := cd.def_ 13 (d := d_Player_chosen) rfl
  obtain ⟨fd18, F18⟩ := cd.def_ 18 (d := d_move_of) rfl
  obtain ⟨fd42, F42⟩ := cd.def_ 42 (d := d_Gait_move) rfl
  obtain ⟨fd43, F43⟩ := cd.def_ 43 (d := d_Gait_behind) rfl
  obtain ⟨fd46, F46⟩ := cd.def_ 46 (d := d_Gait_words) rfl
  obtain ⟨fd44, F44⟩ := cd.def_ 44 (d := d_Gait_rests) rfl
  obtain ⟨fd45, F45⟩ := cd.def_ 45 (d := d_Gait_end) rfl
  obtain ⟨fd51, F51⟩ := cd.def_ 51 (d := d_endings) rfl
  obtain ⟨fd47, F47⟩ := cd.def_ 47 (d := d_need_among) rfl
  obtain ⟨fd52, F52⟩ := cd.def_ 52 (d := d_brought) rfl
  obtain ⟨fd40, F40⟩ := cd.def_ 40 (d := d_Gait_is_stand) rfl
  obtain ⟨fd53, F53⟩ := cd.def_ 53 (d := d_shows_never) rfl
  obtain ⟨fd69, F69⟩ := cd.def_ 69 (d := d_law_known) rfl
  obtain ⟨fd70, F70⟩ := cd.def_ 70 (d := d_law_rivals) rfl
  obtain ⟨fd20, F20⟩ := cd.def_ 20 (d := d_need_players) rfl
  obtain ⟨fd22, F22⟩ := cd.def_ 22 (d := d_first_truths) rfl
  obtain ⟨fd25, F25⟩ := cd.def_ 25 (d := d_line_of) rfl
  obtain ⟨fd23, F23⟩ := cd.def_ 23 (d := d_done_by) rfl
  obtain ⟨fd21, F21⟩ := cd.def_ 21 (d := d_ring_of) rfl
  obtain ⟨fd24, F24⟩ := cd.def_ 24 (d := d_led_all) rfl
  obtain ⟨fd26, F26⟩ := cd.def_ 26 (d := d_Meeting___init__) rfl
  obtain ⟨fd30, F30⟩ := cd.def_ 30 (d := d_Meeting_paper) rfl
  obtain ⟨fd27, F27⟩ := cd.def_ 27 (d := d_Meeting_at_level) rfl
  obtain ⟨fd28, F28⟩ := cd.def_ 28 (d := d_Meeting_moves_at) rfl
  obtain ⟨fd29, F29⟩ := cd.def_ 29 (d := d_Meeting_last) rfl
  obtain ⟨fd49, F49⟩ := cd.def_ 49 (d := d_begin) rfl
  obtain ⟨fd48, F48⟩ := cd.def_ 48 (d := d_need_stand) rfl
  obtain ⟨fd50, F50⟩ := cd.def_ 50 (d := d_led) rfl
  obtain ⟨fd71, F71⟩ := cd.def_ 71 (d := d_law_led_within) rfl
  obtain ⟨fd32, F32⟩ := cd.def_ 32 (d := d_need_letters) rfl
  obtain ⟨fd33, F33⟩ := cd.def_ 33 (d := d_Sheet___init__) rfl
  obtain ⟨fd34, F34⟩ := cd.def_ 34 (d := d_Sheet_put) rfl
  obtain ⟨fd36, F36⟩ := cd.def_ 36 (d := d_Sheet_levels) rfl
  obtain ⟨fd35, F35⟩ := cd.def_ 35 (d := d_Sheet_any_of) rfl
  obtain ⟨fd37, F37⟩ := cd.def_ 37 (d := d_opponent) rfl
  obtain ⟨fd72, F72⟩ := cd.def_ 72 (d := d_law_meets_right) rfl
  obtain ⟨fd73, F73⟩ := cd.def_ 73 (d := d_law) rfl
  have e := hfl.symm.trans (He.glo_ok X G (cd.fact 120))
  cases e
  have b := FunD.bindsA (ps := ["script"]) F73 fun _ _ _ _ _ _ us hl => match us, hl with | [_], _ => rfl
  refine ⟨fd73, fun s v => b s [v] rfl, fun base _ _ => ?_⟩
  have H__law_state : Cal P w K mg base "_law_state" 1 ["script"] (spState K) := ⟨_, fd54, He.glo_ok X G (cd.fact 101), F54.kp, FunD.bindsN F54 fun _ _ _ _ _ _ us hl => match us, hl with | [_], _ => rfl, ok_law_state T  F54⟩
  have H__law_draw : Cal P w K mg base "_law_draw" 1 ["state", "many"] spDraw := ⟨_, fd55, He.glo_ok X G (cd.fact 102), F55.kp, FunD.bindsN F55 fun _ _ _ _ _ _ us hl => match us, hl with | [_, _], _ => rfl, ok_law_draw T  F55⟩
  have H__law_names : Cal P w K mg base "_law_names" 2 ["state", "many"] spNames := ⟨_, fd56, He.glo_ok X G (cd.fact 103), F56.kp, FunD.bindsN F56 fun _ _ _ _ _ _ us hl => match us, hl with | [_, _], _ => rfl, ok_law_names T (C_law_draw := H__law_draw) F56⟩
  have H__law_own : Cal P w K mg base "_law_own" 2 ["state", "pool"] spOwn := ⟨_, fd57, He.glo_ok X G (cd.fact 104), F57.kp, FunD.bindsN F57 fun _ _ _ _ _ _ us hl => match us, hl with | [_, _], _ => rfl, ok_law_own T (C_law_draw := H__law_draw) F57⟩
  have H__law_atoms : Cal P w K mg base "_law_atoms" 2 ["state", "some"] spAtoms := ⟨_, fd58, He.glo_ok X G (cd.fact 105), F58.kp, FunD.bindsN F58 fun _ _ _ _ _ _ us hl => match us, hl with | [_, _], _ => rfl, ok_law_atoms T (C_law_draw := H__law_draw) F58⟩
  have H__law_ahead : Cal P w K mg base "_law_ahead" 2 ["state", "rows"] spAhead := ⟨_, fd59, He.glo_ok X G (cd.fact 106), F59.kp, FunD.bindsN F59 fun _ _ _ _ _ _ us hl => match us, hl with | [_, _], _ => rfl, ok_law_ahead T (C_law_draw := H__law_draw) F59⟩
  have H__law_more : Cal P w K mg base "_law_more" 3 ["state", "rows"] spMore := ⟨_, fd60, He.glo_ok X G (cd.fact 107), F60.kp, FunD.bindsN F60 fun _ _ _ _ _ _ us hl => match us, hl with | [_, _], _ => rfl, ok_law_more T (C_law_draw := H__law_draw) (C_law_ahead := H__law_ahead) F60⟩
  have H__law_rows : Cal P w K mg base "_law_rows" 4 ["state", "some", "blocks"] spRowsL := ⟨_, fd61, He.glo_ok X G (cd.fact 108), F61.kp, FunD.bindsN F61 fun _ _ _ _ _ _ us hl => match us, hl with | [_, _, _], _ => rfl, ok_law_rows T (C_law_draw := H__law_draw) (C_law_atoms := H__law_atoms) (C_law_more := H__law_more) F61⟩
  have H__law_downs : Cal P w K mg base "_law_downs" 1 ["rows"] spDownsL := ⟨_, fd62, He.glo_ok X G (cd.fact 109), F62.kp, FunD.bindsN F62 fun _ _ _ _ _ _ us hl => match us, hl with | [_], _ => rfl, ok_law_downs T  F62⟩
  have H__law_chosen : Cal P w K mg base "_law_chosen" 2 ["state", "rows", "many"] spChosenL := ⟨_, fd63, He.glo_ok X G (cd.fact 110), F63.kp, FunD.bindsN F63 fun _ _ _ _ _ _ us hl => match us, hl with | [_, _, _], _ => rfl, ok_law_chosen T (C_law_draw := H__law_draw) (C_law_downs := H__law_downs) F63⟩
  have H__law_marks : Cal P w K mg base "_law_marks" 1 ["rows", "chosen"] spMarksL := ⟨_, fd64, He.glo_ok X G (cd.fact 111), F64.kp, FunD.bindsN F64 fun _ _ _ _ _ _ us hl => match us, hl with | [_, _], _ => rfl, ok_law_marks T  F64⟩
  have H__law_told : Cal P w K mg base "_law_told" 2 ["own", "rows", "chosen"] spToldL := ⟨_, fd65, He.glo_ok X G (cd.fact 112), F65.kp, FunD.bindsN F65 fun _ _ _ _ _ _ us hl => match us, hl with | [_, _, _], _ => rfl, ok_law_told T (C_law_marks := H__law_marks) F65⟩
  have H__law_sight : Cal P w K mg base "_law_sight" 5 ["state", "own", "seen", "blocks"] spSight := ⟨_, fd66, He.glo_ok X G (cd.fact 113), F66.kp, FunD.bindsN F66 fun _ _ _ _ _ _ us hl => match us, hl with | [_, _, _, _], _ => rfl, ok_law_sight T (C_law_rows := H__law_rows) (C_law_chosen := H__law_chosen) (C_law_told := H__law_told) F66⟩
  have H__law_signs : Cal P w K mg base "_law_signs" 2 ["state", "pool", "many"] spSigns := ⟨_, fd68, He.glo_ok X G (cd.fact 115), F68.kp, FunD.bindsN F68 fun _ _ _ _ _ _ us hl => match us, hl with | [_, _, _], _ => rfl, ok_law_signs T (C_law_draw := H__law_draw) F68⟩
  have H_is_list : Cal P w K mg base "is_list" 1 ["thing"] spIsList := ⟨_, fd1, He.glo_ok X G (cd.fact 52), F1.kp, FunD.bindsN F1 fun _ _ _ _ _ _ us hl => match us, hl with | [_], _ => rfl, ok_is_list T  F1⟩
  have H_is_move : Cal P w K mg base "is_move" 1 ["thing"] spIsMove := ⟨_, fd2, He.glo_ok X G (cd.fact 53), F2.kp, FunD.bindsN F2 fun _ _ _ _ _ _ us hl => match us, hl with | [_], _ => rfl, ok_is_move T  F2⟩
  have H_are_moves : Cal P w K mg base "are_moves" 2 ["thing"] spAreMoves := ⟨_, fd3, He.glo_ok X G (cd.fact 54), F3.kp, FunD.bindsN F3 fun _ _ _ _ _ _ us hl => match us, hl with | [_], _ => rfl, ok_are_moves T (C_is_list := H_is_list) (C_is_move := H_is_move) F3⟩
  have H_need_moves : Cal P w K mg base "need_moves" 3 ["thing"] spNeedMoves := ⟨_, fd9, He.glo_ok X G (cd.fact 60), F9.kp, FunD.bindsN F9 fun _ _ _ _ _ _ us hl => match us, hl with | [_], _ => rfl, ok_need_moves T (C_are_moves := H_are_moves) F9⟩
  have H_is_number : Cal P w K mg base "is_number" 1 ["thing", "low", "high"] spIsNumber := ⟨_, fd0, He.glo_ok X G (cd.fact 51), F0.kp, FunD.bindsN F0 fun _ _ _ _ _ _ us hl => match us, hl with | [_, _, _], _ => rfl, ok_is_number T  F0⟩
  have H_is_row : Cal P w K mg base "is_row" 2 ["thing", "at"] spIsRow := ⟨_, fd4, He.glo_ok X G (cd.fact 55), F4.kp, FunD.bindsN F4 fun _ _ _ _ _ _ us hl => match us, hl with | [_, _], _ => rfl, ok_is_row T (C_is_number := H_is_number) (C_is_move := H_is_move) F4⟩
  have H_need_rows : Cal P w K mg base "need_rows" 3 ["rows"] spNeedRows := ⟨_, fd5, He.glo_ok X G (cd.fact 56), F5.kp, FunD.bindsN F5 fun _ _ _ _ _ _ us hl => match us, hl with | [_], _ => rfl, ok_need_rows T (C_is_list := H_is_list) (C_is_row := H_is_row) F5⟩
  have H_named_by : Cal P w K mg base "named_by" 1 ["row"] spNamedBy := ⟨_, fd6, He.glo_ok X G (cd.fact 57), F6.kp, FunD.bindsN F6 fun _ _ _ _ _ _ us hl => match us, hl with | [_], _ => rfl, ok_named_by T  F6⟩
  have H_down_ones : Cal P w K mg base "down_ones" 2 ["rows"] spDownOnes := ⟨_, fd7, He.glo_ok X G (cd.fact 58), F7.kp, FunD.bindsN F7 fun _ _ _ _ _ _ us hl => match us, hl with | [_], _ => rfl, ok_down_ones T (C_named_by := H_named_by) F7⟩
  have H_below : Cal P w K mg base "below" 2 ["rows", "some"] spBelow := ⟨_, fd8, He.glo_ok X G (cd.fact 59), F8.kp, FunD.bindsN F8 fun _ _ _ _ _ _ us hl => match us, hl with | [_, _], _ => rfl, ok_below T (C_named_by := H_named_by) F8⟩
  have H_Player___init__ : Mak P w K mg base (He.ga K "Player") "Player" 4 ["self", "moves", "rows", "chosen"] (spPlayer (He.ga K "Player")) := ⟨He.glo_ok X G (cd.fact 27), _, fd10, He.mkr_ok (cd.fact 29), FunD.bindsN F10 fun _ _ _ _ _ _ us hl => match us, hl with | [_, _, _, _], _ => rfl, ok_Player T (C_need_moves := H_need_moves) (C_need_rows := H_need_rows) (C_is_list := H_is_list) (C_down_ones := H_down_ones) (C_is_number := H_is_number) (C_below := H_below) F10⟩
  have H__law_made : Cal P w K mg base "_law_made" 6 ["sight"] (spMade (He.ga K "Player")) := ⟨_, fd67, He.glo_ok X G (cd.fact 114), F67.kp, FunD.bindsN F67 fun _ _ _ _ _ _ us hl => match us, hl with | [_], _ => rfl, ok_law_made T (K_Player := H_Player___init__) F67⟩
  have H_need_player : Cal P w K mg base "need_player" 1 ["thing"] (spNeedPlayer (He.ga K "Player")) := ⟨_, fd31, He.glo_ok X G (cd.fact 80), F31.kp, FunD.bindsN F31 fun _ _ _ _ _ _ us hl => match us, hl with | [_], _ => rfl, ok_need_player T  F31⟩
  have H_Player_showns : Mth P w K mg base (He.ga K "Player") "showns" 1 ["self"] (spShowns (He.ga K "Player")) := ⟨_, fd14, He.meth_ok (cd.fact 64), FunD.bindsN F14 fun _ _ _ _ _ _ us hl => match us, hl with | [_], _ => rfl, ok_showns T  F14⟩
  have H_Player_top : Mth P w K mg base (He.ga K "Player") "top" 2 ["self"] (spTop (He.ga K "Player")) := ⟨_, fd15, He.meth_ok (cd.fact 65), FunD.bindsN F15 fun _ _ _ _ _ _ us hl => match us, hl with | [_], _ => rfl, ok_top T (M_showns := H_Player_showns) F15⟩
  have H_Gait___init__ : Mak P w K mg base (He.ga K "Gait") "Gait" 3 ["self", "player"] (spGait (He.ga K "Player") (He.ga K "Gait")) := ⟨He.glo_ok X G (cd.fact 34), _, fd38, He.mkr_ok (cd.fact 36), FunD.bindsN F38 fun _ _ _ _ _ _ us hl => match us, hl with | [_, _], _ => rfl, ok_Gait T (M_showns := H_Player_showns) (M_top := H_Player_top) F38⟩
  have H_Gait_first : Mth P w K mg base (He.ga K "Gait") "first" 1 ["self"] (spFirst (He.ga K "Player") (He.ga K "Gait")) := ⟨_, fd39, He.meth_ok (cd.fact 86), FunD.bindsN F39 fun _ _ _ _ _ _ us hl => match us, hl with | [_], _ => rfl, ok_first T  F39⟩
  have H_value_of : Cal P w K mg base "value_of" 1 ["row", "at", "known", "truths", "ring"] spValueOf := ⟨_, fd16, He.glo_ok X G (cd.fact 66), F16.kp, FunD.bindsN F16 fun _ _ _ _ _ _ us hl => match us, hl with | [_, _, _, _, _], _ => rfl, ok_value_of T  F16⟩
  have H_values : Cal P w K mg base "values" 2 ["rows", "wanted", "truths", "ring"] spValues := ⟨_, fd17, He.glo_ok X G (cd.fact 67), F17.kp, FunD.bindsN F17 fun _ _ _ _ _ _ us hl => match us, hl with | [_, _, _, _], _ => rfl, ok_values T (C_value_of := H_value_of) F17⟩
  have H_led_truths : Cal P w K mg base "led_truths" 3 ["rows", "wanted", "truths", "level", "ring"] spLed := ⟨_, fd19, He.glo_ok X G (cd.fact 69), F19.kp, FunD.bindsN F19 fun _ _ _ _ _ _ us hl => match us, hl with | [_, _, _, _, _], _ => rfl, ok_led_truths T (C_values := H_values) F19⟩
  have H_Gait_truths : Mth P w K mg base (He.ga K "Gait") "truths" 1 ["self", "stand"] (spTruths (He.ga K "Player") (He.ga K "Gait")) := ⟨_, fd41, He.meth_ok (cd.fact 88), FunD.bindsN F41 fun _ _ _ _ _ _ us hl => match us, hl with | [_, _], _ => rfl, ok_truths T  F41⟩
  have H_Player_rows : Mth P w K mg base (He.ga K "Player") "rows" 1 ["self"] (spRows (He.ga K "Player")) := ⟨_, fd12, He.meth_ok (cd.fact 62), FunD.bindsN F12 fun _ _ _ _ _ _ us hl => match us, hl with | [_], _ => rfl, ok_rows T  F12⟩
  have H_Player_moves : Mth P w K mg base (He.ga K "Player") "moves" 1 ["self"] (spMoves (He.ga K "Player")) := ⟨_, fd11, He.meth_ok (cd.fact 61), FunD.bindsN F11 fun _ _ _ _ _ _ us hl => match us, hl with | [_], _ => rfl, ok_moves T  F11⟩
  have H_Player_chosen : Mth P w K mg base (He.ga K "Player") "chosen" 1 ["self"] (spChosen (He.ga K "Player")) := ⟨_, fd13, He.meth_ok (cd.fact 63), FunD.bindsN F13 fun _ _ _ _ _ _ us hl => match us, hl with | [_], _ => rfl, ok_chosen T  F13⟩
  have H_move_of : Cal P w K mg base "move_of" 3 ["player", "truths"] (spMoveOf (He.ga K "Player")) := ⟨_, fd18, He.glo_ok X G (cd.fact 68), F18.kp, FunD.bindsN F18 fun _ _ _ _ _ _ us hl => match us, hl with | [_, _], _ => rfl, ok_move_of T (C_values := H_values) (M_rows := H_Player_rows) (M_moves := H_Player_moves) (M_chosen := H_Player_chosen) F18⟩
  have H_Gait_move : Mth P w K mg base (He.ga K "Gait") "move" 4 ["self", "stand"] (spMove (He.ga K "Player") (He.ga K "Gait")) := ⟨_, fd42, He.meth_ok (cd.fact 89), FunD.bindsN F42 fun _ _ _ _ _ _ us hl => match us, hl with | [_, _], _ => rfl, ok_move T (C_move_of := H_move_of) (M_truths := H_Gait_truths) F42⟩
  have H_Gait_behind : Mth P w K mg base (He.ga K "Gait") "behind" 5 ["self", "stand", "letter"] (spBehind (He.ga K "Player") (He.ga K "Gait")) := ⟨_, fd43, He.meth_ok (cd.fact 90), FunD.bindsN F43 fun _ _ _ _ _ _ us hl => match us, hl with | [_, _, _], _ => rfl, ok_behind T (C_led_truths := H_led_truths) (M_truths := H_Gait_truths) (M_move := H_Gait_move) (M_rows := H_Player_rows) F43⟩
  have H_Gait_words : Mth P w K mg base (He.ga K "Gait") "words" 6 ["self", "letters"] (spWords P w (He.ga K "Player") (He.ga K "Gait")) := ⟨_, fd46, He.meth_ok (cd.fact 93), FunD.bindsN F46 fun _ _ _ _ _ _ us hl => match us, hl with | [_, _], _ => rfl, ok_words T (M_first := H_Gait_first) (M_behind := H_Gait_behind) F46⟩
  have H_Gait_rests : Mth P w K mg base (He.ga K "Gait") "rests" 6 ["self", "stand", "letter"] (spRests (He.ga K "Player") (He.ga K "Gait")) := ⟨_, fd44, He.meth_ok (cd.fact 91), FunD.bindsN F44 fun _ _ _ _ _ _ us hl => match us, hl with | [_, _, _], _ => rfl, ok_rests T (M_behind := H_Gait_behind) F44⟩
  have H_Gait_end : Mth P w K mg base (He.ga K "Gait") "end" 7 ["self", "stand", "letter"] (spEnd (He.ga K "Player") (He.ga K "Gait")) := ⟨_, fd45, He.meth_ok (cd.fact 92), FunD.bindsN F45 fun _ _ _ _ _ _ us hl => match us, hl with | [_, _, _], _ => rfl, ok_end T (M_rests := H_Gait_rests) (M_behind := H_Gait_behind) (M_move := H_Gait_move) F45⟩
  have H_endings : Cal P w K mg base "endings" 8 ["player", "others"] (spEndings (He.ga K "Player")) := ⟨_, fd51, He.glo_ok X G (cd.fact 98), F51.kp, FunD.bindsN F51 fun _ _ _ _ _ _ us hl => match us, hl with | [_, _], _ => rfl, ok_endings T (C_need_player := H_need_player) (C_need_moves := H_need_moves) (K_Gait := H_Gait___init__) (M_words := H_Gait_words) (M_end := H_Gait_end) (M_moves := H_Player_moves) F51⟩
  have H_need_among : Cal P w K mg base "need_among" 1 ["thing", "moves"] spNeedAmong := ⟨_, fd47, He.glo_ok X G (cd.fact 94), F47.kp, FunD.bindsN F47 fun _ _ _ _ _ _ us hl => match us, hl with | [_, _], _ => rfl, ok_need_among T  F47⟩
  have H_brought : Cal P w K mg base "brought" 8 ["player", "others", "mine", "yours"] (spBrought (He.ga K "Player")) := ⟨_, fd52, He.glo_ok X G (cd.fact 99), F52.kp, FunD.bindsN F52 fun _ _ _ _ _ _ us hl => match us, hl with | [_, _, _, _], _ => rfl, ok_brought T (C_need_player := H_need_player) (C_need_moves := H_need_moves) (C_need_among := H_need_among) (K_Gait := H_Gait___init__) (M_words := H_Gait_words) (M_end := H_Gait_end) (M_moves := H_Player_moves) F52⟩
  have H_Gait_is_stand : Mth P w K mg base (He.ga K "Gait") "is_stand" 2 ["self", "thing"] (spIsStand (He.ga K "Player") (He.ga K "Gait")) := ⟨_, fd40, He.meth_ok (cd.fact 87), FunD.bindsN F40 fun _ _ _ _ _ _ us hl => match us, hl with | [_, _], _ => rfl, ok_is_stand T (C_is_number := H_is_number) F40⟩
  have H_shows_never : Cal P w K mg base "shows_never" 7 ["player", "others", "mine", "yours", "stands"] (spShowsNever (He.ga K "Player")) := ⟨_, fd53, He.glo_ok X G (cd.fact 100), F53.kp, FunD.bindsN F53 fun _ _ _ _ _ _ us hl => match us, hl with | [_, _, _, _, _], _ => rfl, ok_shows_never T (C_need_player := H_need_player) (C_need_moves := H_need_moves) (C_need_among := H_need_among) (M_moves := H_Player_moves) (K_Gait := H_Gait___init__) (M_is_stand := H_Gait_is_stand) (M_first := H_Gait_first) (M_behind := H_Gait_behind) (M_move := H_Gait_move) (M_rests := H_Gait_rests) F53⟩
  have H__law_known : Cal P w K mg base "_law_known" 6 ["sight", "signs", "way"] (spKnown (He.ga K "Player")) := ⟨_, fd69, He.glo_ok X G (cd.fact 116), F69.kp, FunD.bindsN F69 fun _ _ _ _ _ _ us hl => match us, hl with | [_, _, _], _ => rfl, ok_law_known T (K_Player := H_Player___init__) F69⟩
  have H__law_rivals : Cal P w K mg base "_law_rivals" 7 ["state", "sight", "signs"] (spRivals (He.ga K "Player")) := ⟨_, fd70, He.glo_ok X G (cd.fact 117), F70.kp, FunD.bindsN F70 fun _ _ _ _ _ _ us hl => match us, hl with | [_, _, _], _ => rfl, ok_law_rivals T (C_law_signs := H__law_signs) (C_law_sight := H__law_sight) (C_law_draw := H__law_draw) (C_law_made := H__law_made) (K_Player := H_Player___init__) (C_law_known := H__law_known) F70⟩
  have H_need_players : Cal P w K mg base "need_players" 2 ["thing"] (spNeedPlayers (He.ga K "Player")) := ⟨_, fd20, He.glo_ok X G (cd.fact 70), F20.kp, FunD.bindsN F20 fun _ _ _ _ _ _ us hl => match us, hl with | [_], _ => rfl, ok_need_players T TM (C_is_list := H_is_list) F20⟩
  have H_first_truths : Cal P w K mg base "first_truths" 2 ["player"] (spFirstT (He.ga K "Player")) := ⟨_, fd22, He.glo_ok X G (cd.fact 72), F22.kp, FunD.bindsN F22 fun _ _ _ _ _ _ us hl => match us, hl with | [_], _ => rfl, ok_first_truths T TM (M_showns := H_Player_showns) F22⟩
  have H_line_of : Cal P w K mg base "line_of" 1 ["truths"] spLine := ⟨_, fd25, He.glo_ok X G (cd.fact 75), F25.kp, FunD.bindsN F25 fun _ _ _ _ _ _ us hl => match us, hl with | [_], _ => rfl, ok_line_of T TM  F25⟩
  have H_done_by : Cal P w K mg base "done_by" 4 ["players", "truths"] (spDoneBy (He.ga K "Player")) := ⟨_, fd23, He.glo_ok X G (cd.fact 73), F23.kp, FunD.bindsN F23 fun _ _ _ _ _ _ us hl => match us, hl with | [_, _], _ => rfl, ok_done_by T TM (C_move_of := H_move_of) F23⟩
  have H_ring_of : Cal P w K mg base "ring_of" 1 ["moves", "seat"] spRing := ⟨_, fd21, He.glo_ok X G (cd.fact 71), F21.kp, FunD.bindsN F21 fun _ _ _ _ _ _ us hl => match us, hl with | [_, _], _ => rfl, ok_ring_of T TM  F21⟩
  have H_led_all : Cal P w K mg base "led_all" 5 ["players", "truths", "level"] (spLedAll (He.ga K "Player")) := ⟨_, fd24, He.glo_ok X G (cd.fact 74), F24.kp, FunD.bindsN F24 fun _ _ _ _ _ _ us hl => match us, hl with | [_, _, _], _ => rfl, ok_led_all T TM (C_done_by := H_done_by) (C_led_truths := H_led_truths) (C_ring_of := H_ring_of) (M_rows := H_Player_rows) F24⟩
  have H_Meeting___init__ : Mak P w K mg base (He.ga K "Meeting") "Meeting" 6 ["self", "players"] (spMeeting (He.ga K "Player") (He.ga K "Meeting")) := ⟨He.glo_ok X G (cd.fact 40), _, fd26, He.mkr_ok (cd.fact 42), FunD.bindsN F26 fun _ _ _ _ _ _ us hl => match us, hl with | [_, _], _ => rfl, ok_Meeting T TM (C_need_players := H_need_players) (M_top := H_Player_top) (C_first_truths := H_first_truths) (C_line_of := H_line_of) (C_done_by := H_done_by) (C_led_all := H_led_all) F26⟩
  have H_Meeting_paper : Mth P w K mg base (He.ga K "Meeting") "paper" 1 ["self"] (spPaper (He.ga K "Meeting")) := ⟨_, fd30, He.meth_ok (cd.fact 79), FunD.bindsN F30 fun _ _ _ _ _ _ us hl => match us, hl with | [_], _ => rfl, ok_paper T TM  F30⟩
  have H_Meeting_at_level : Mth P w K mg base (He.ga K "Meeting") "at_level" 1 ["self", "level"] (spAtLevel (He.ga K "Meeting")) := ⟨_, fd27, He.meth_ok (cd.fact 76), FunD.bindsN F27 fun _ _ _ _ _ _ us hl => match us, hl with | [_, _], _ => rfl, ok_at_level T TM  F27⟩
  have H_Meeting_moves_at : Mth P w K mg base (He.ga K "Meeting") "moves_at" 2 ["self", "level"] (spMovesAt (He.ga K "Meeting")) := ⟨_, fd28, He.meth_ok (cd.fact 77), FunD.bindsN F28 fun _ _ _ _ _ _ us hl => match us, hl with | [_, _], _ => rfl, ok_moves_at T TM (C_is_number := H_is_number) (M_at_level := H_Meeting_at_level) F28⟩
  have H_Meeting_last : Mth P w K mg base (He.ga K "Meeting") "last" 1 ["self"] (spLast (He.ga K "Meeting")) := ⟨_, fd29, He.meth_ok (cd.fact 78), FunD.bindsN F29 fun _ _ _ _ _ _ us hl => match us, hl with | [_], _ => rfl, ok_last T TM  F29⟩
  have H_begin : Cal P w K mg base "begin" 5 ["player"] (spBeginS (He.ga K "Player")) := ⟨_, fd49, He.glo_ok X G (cd.fact 96), F49.kp, FunD.bindsN F49 fun _ _ _ _ _ _ us hl => match us, hl with | [_], _ => rfl, ok_begin T (C_need_player := H_need_player) (K_Gait := H_Gait___init__) (M_first := H_Gait_first) F49⟩
  have H_need_stand : Cal P w K mg base "need_stand" 3 ["gait", "thing"] (spNeedStand (He.ga K "Player") (He.ga K "Gait")) := ⟨_, fd48, He.glo_ok X G (cd.fact 95), F48.kp, FunD.bindsN F48 fun _ _ _ _ _ _ us hl => match us, hl with | [_, _], _ => rfl, ok_need_stand T (M_is_stand := H_Gait_is_stand) F48⟩
  have H_led : Cal P w K mg base "led" 6 ["player", "stand", "letter"] (spLedS (He.ga K "Player")) := ⟨_, fd50, He.glo_ok X G (cd.fact 97), F50.kp, FunD.bindsN F50 fun _ _ _ _ _ _ us hl => match us, hl with | [_, _, _], _ => rfl, ok_led T (C_need_player := H_need_player) (K_Gait := H_Gait___init__) (C_need_stand := H_need_stand) (C_is_move := H_is_move) (M_behind := H_Gait_behind) F50⟩
  have H__law_led_within : Cal P w K mg base "_law_led_within" 7 ["made", "its", "told"] (spWithin (He.ga K "Player")) := ⟨_, fd71, He.glo_ok X G (cd.fact 118), F71.kp, FunD.bindsN F71 fun _ _ _ _ _ _ us hl => match us, hl with | [_, _, _], _ => rfl, ok_law_led_within T (C_begin := H_begin) (C_led := H_led) F71⟩
  have H_need_letters : Cal P w K mg base "need_letters" 2 ["letters", "tail", "known"] spNeedLetters := ⟨_, fd32, He.glo_ok X G (cd.fact 81), F32.kp, FunD.bindsN F32 fun _ _ _ _ _ _ us hl => match us, hl with | [_, _, _], _ => rfl, ok_need_letters T TM (C_is_list := H_is_list) (C_is_move := H_is_move) F32⟩
  have H_Sheet___init__ : Mak P w K mg base (He.ga K "Sheet") "Sheet" 1 ["self"] (spSheet (He.ga K "Sheet")) := ⟨He.glo_ok X G (cd.fact 47), _, fd33, He.mkr_ok (cd.fact 49), FunD.bindsN F33 fun _ _ _ _ _ _ us hl => match us, hl with | [_], _ => rfl, ok_Sheet T TM  F33⟩
  have H_Sheet_put : Mth P w K mg base (He.ga K "Sheet") "put" 1 ["self", "row"] (spPut (He.ga K "Sheet")) := ⟨_, fd34, He.meth_ok (cd.fact 82), FunD.bindsN F34 fun _ _ _ _ _ _ us hl => match us, hl with | [_, _], _ => rfl, ok_put T TM  F34⟩
  have H_Sheet_levels : Mth P w K mg base (He.ga K "Sheet") "levels" 2 ["self", "many"] (spLevels (He.ga K "Sheet")) := ⟨_, fd36, He.meth_ok (cd.fact 84), FunD.bindsN F36 fun _ _ _ _ _ _ us hl => match us, hl with | [_, _], _ => rfl, ok_levels T TM (M_put := H_Sheet_put) F36⟩
  have H_Sheet_any_of : Mth P w K mg base (He.ga K "Sheet") "any_of" 2 ["self", "some"] (spAnyOf (He.ga K "Sheet")) := ⟨_, fd35, He.meth_ok (cd.fact 83), FunD.bindsN F35 fun _ _ _ _ _ _ us hl => match us, hl with | [_, _], _ => rfl, ok_any_of T TM (M_put := H_Sheet_put) F35⟩
  have H_opponent : Cal P w K mg base "opponent" 6 ["moves", "letters", "tail"] (spOpp (He.ga K "Player")) := ⟨_, fd37, He.glo_ok X G (cd.fact 85), F37.kp, FunD.bindsN F37 fun _ _ _ _ _ _ us hl => match us, hl with | [_, _, _], _ => rfl, ok_opponent T TM (C_need_moves := H_need_moves) (C_need_letters := H_need_letters) (K_Sheet := H_Sheet___init__) (M_levels := H_Sheet_levels) (M_any_of := H_Sheet_any_of) (K_Player := H_Player___init__) F37⟩
  have H__law_meets_right : Cal P w K mg base "_law_meets_right" 9 ["made", "signs", "ends", "papers", "rival"] (spMeets P w (He.ga K "Player")) := ⟨_, fd72, He.glo_ok X G (cd.fact 119), F72.kp, FunD.bindsN F72 fun _ _ _ _ _ _ us hl => match us, hl with | [_, _, _, _, _], _ => rfl, ok_law_meets_right T TM (K_Meeting := H_Meeting___init__) (M_paper := H_Meeting_paper) (M_moves_at := H_Meeting_moves_at) (M_last := H_Meeting_last) (C_law_led_within := H__law_led_within) (C_opponent := H_opponent) F72⟩
  exact ok_law T TM (C_law_state := H__law_state) (C_law_names := H__law_names) (C_law_own := H__law_own) (C_law_draw := H__law_draw) (C_law_sight := H__law_sight) (C_law_signs := H__law_signs) (C_law_made := H__law_made) (C_endings := H_endings) (C_brought := H_brought) (C_shows_never := H_shows_never) (C_law_rivals := H__law_rivals) (C_law_meets_right := H__law_meets_right) F73
end Lk
open PySem PySem.W PySem.Calls PyProof.Rows
theorem PySem.Challenge.cw_lookthrough_k51_whole_whoever_looks_thro_holds : PySem.Challenge.rw_lookthrough_k51_whole_whoever_looks_thro.Holds := by
  w_on; o_law
  refine HandSHeadRun.head_any (r := OpenLaw.row PySem.Challenge.rw_lookthrough_k51_whole_whoever_looks_thro) (q := view (OpenLaw.row PySem.Challenge.rw_lookthrough_k51_whole_whoever_looks_thro).prog [80]) (H := Lk.hk) (ob := Lk.ob) (M := 6000) (loose := Lk.loo) (d := HandSHeadRun.topDef (OpenLaw.row PySem.Challenge.rw_lookthrough_k51_whole_whoever_looks_thro).prog 80) (kwd := []) Lk.ob_eq
    (by kernel_rfl) (fun s => by kernel_rfl) Lk.run (by kernel_rfl) (by kernel_rfl) (by kernel_rfl) (by rfl) (by first | assumption | decide +kernel) (by decide +kernel) ⟨rfl, rfl, rfl, rfl, rfl, by decide +kernel⟩ ?hw ?hc
  case hw => w_witness2
  case hc =>
    refine L2.walk_ofE (l := PySem.Challenge.rw_lookthrough_k51_whole_whoever_looks_thro) (n := 63) (k := 126) (x := "script") (CX := L2.CX0) rfl (by decide) (by kernel_rfl) ⟨rfl, by decide, by decide⟩ ?F (fun _ _ _ _ z => z)
    intro w mg fa h Y G hmg0
    obtain ⟨K, KX, c⟩ := Y
    have hmg : mg ("law" : PySem.Str) = some (.ref fa) := by
      have e : (HandSHeadRun.topDef (OpenLaw.row PySem.Challenge.rw_lookthrough_k51_whole_whoever_looks_thro).prog 80).name = ("law" : PySem.Str) := by kernel_rfl
      rw [← e]
      exact hmg0
    obtain ⟨fd, hb, hF⟩ := Lk.facts (P := (PySem.Challenge.rw_lookthrough_k51_whole_whoever_looks_thro).prog) (w := w) KX G hmg c
    exact ⟨K, fd, Lk.spLaw K, KX, hb, fun H a ns hl _ hS => ⟨a, ns, rfl, hS, hl, fun _ => rfl⟩, hF⟩

