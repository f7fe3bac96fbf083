import PyProof.Rows.All
import Wide.All
import OpenK.AllK
import Wide.FinOn
import KE.KStateDown
import HandS.ForMost
import HandS.ForExc
import HandS.More
import HandS.Defaults
import HandS.Head0
import HandS.Head1
import HandS.Head2
import HandS.HeadEnd
import HandS.HeadHook1
import HandS.HeadHook2
import HandS.HeadHook3
import HandS.HeadWalk
import HandS.SortInts
import HandS.ExcInit
import HandS.ClsMeth
import HandS.CallLocal
import HandS.Walk
import HandS.ExcField
import HandS.Conv
import HandS.Style
import HandS.IsInst
import HandS.Steps
import HandS.SetKeys
import KE.GoesMore
import KE.IntTextLaws
import HandS.ExcOwn
import HandS.WordsExc
import PySem.Challenge.RW_kinhearth_k53_whole_log_told_again
set_option Elab.async false
set_option linter.all false
set_option maxRecDepth 100000
set_option maxHeartbeats 4000000
/-! K00: the text by places (printed by gen_text.py). -/
namespace Kin
open PySem L2
def top (i : Nat) : Stmt := PySem.Challenge.pw_kinhearth_k53_whole_log_told_again.main.body.getD i (.Pass ⟨0, 0, 0, 0⟩)
abbrev s_KinError_init : Stmt := inClass (top 2) 0
theorem sc_KinError_init : FnScope ["self", "word"] ["self", "word"] (defScope s_KinError_init) := ⟨rfl, rfl, rfl, by decide +kernel, rfl, by decide +kernel, by decide +kernel⟩
abbrev s_BadLand_init : Stmt := inClass (top 3) 0
theorem sc_BadLand_init : FnScope ["self"] ["self"] (defScope s_BadLand_init) := ⟨rfl, rfl, rfl, by decide +kernel, rfl, by decide +kernel, by decide +kernel⟩
abbrev s_BadWord_init : Stmt := inClass (top 4) 0
theorem sc_BadWord_init : FnScope ["self"] ["self"] (defScope s_BadWord_init) := ⟨rfl, rfl, rfl, by decide +kernel, rfl, by decide +kernel, by decide +kernel⟩
abbrev s_BadName_init : Stmt := inClass (top 5) 0
theorem sc_BadName_init : FnScope ["self"] ["self"] (defScope s_BadName_init) := ⟨rfl, rfl, rfl, by decide +kernel, rfl, by decide +kernel, by decide +kernel⟩
abbrev s_Taken_init : Stmt := inClass (top 6) 0
theorem sc_Taken_init : FnScope ["self"] ["self"] (defScope s_Taken_init) := ⟨rfl, rfl, rfl, by decide +kernel, rfl, by decide +kernel, by decide +kernel⟩
abbrev s_NoPerson_init : Stmt := inClass (top 7) 0
theorem sc_NoPerson_init : FnScope ["self"] ["self"] (defScope s_NoPerson_init) := ⟨rfl, rfl, rfl, by decide +kernel, rfl, by decide +kernel, by decide +kernel⟩
abbrev s_NoSection_init : Stmt := inClass (top 8) 0
theorem sc_NoSection_init : FnScope ["self"] ["self"] (defScope s_NoSection_init) := ⟨rfl, rfl, rfl, by decide +kernel, rfl, by decide +kernel, by decide +kernel⟩
abbrev s_WrongSide_init : Stmt := inClass (top 9) 0
theorem sc_WrongSide_init : FnScope ["self"] ["self"] (defScope s_WrongSide_init) := ⟨rfl, rfl, rfl, by decide +kernel, rfl, by decide +kernel, by decide +kernel⟩
abbrev s_Twice_init : Stmt := inClass (top 10) 0
theorem sc_Twice_init : FnScope ["self"] ["self"] (defScope s_Twice_init) := ⟨rfl, rfl, rfl, by decide +kernel, rfl, by decide +kernel, by decide +kernel⟩
abbrev s_NoFact_init : Stmt := inClass (top 11) 0
theorem sc_NoFact_init : FnScope ["self"] ["self"] (defScope s_NoFact_init) := ⟨rfl, rfl, rfl, by decide +kernel, rfl, by decide +kernel, by decide +kernel⟩
abbrev s_NothingLeft_init : Stmt := inClass (top 12) 0
theorem sc_NothingLeft_init : FnScope ["self"] ["self"] (defScope s_NothingLeft_init) := ⟨rfl, rfl, rfl, by decide +kernel, rfl, by decide +kernel, by decide +kernel⟩
abbrev s_UnlikeLands_init : Stmt := inClass (top 13) 0
theorem sc_UnlikeLands_init : FnScope ["self"] ["self"] (defScope s_UnlikeLands_init) := ⟨rfl, rfl, rfl, by decide +kernel, rfl, by decide +kernel, by decide +kernel⟩
abbrev s_BadText_init : Stmt := inClass (top 14) 0
theorem sc_BadText_init : FnScope ["self"] ["self"] (defScope s_BadText_init) := ⟨rfl, rfl, rfl, by decide +kernel, rfl, by decide +kernel, by decide +kernel⟩
abbrev s_NoBook_init : Stmt := inClass (top 15) 0
theorem sc_NoBook_init : FnScope ["self"] ["self"] (defScope s_NoBook_init) := ⟨rfl, rfl, rfl, by decide +kernel, rfl, by decide +kernel, by decide +kernel⟩
abbrev s_Unequal_init : Stmt := inClass (top 16) 0
theorem sc_Unequal_init : FnScope ["self", "section"] ["self", "section"] (defScope s_Unequal_init) := ⟨rfl, rfl, rfl, by decide +kernel, rfl, by decide +kernel, by decide +kernel⟩
abbrev s_OwnElder_init : Stmt := inClass (top 17) 0
theorem sc_OwnElder_init : FnScope ["self", "line"] ["self", "line"] (defScope s_OwnElder_init) := ⟨rfl, rfl, rfl, by decide +kernel, rfl, by decide +kernel, by decide +kernel⟩
abbrev s_Barred_init : Stmt := inClass (top 18) 0
theorem sc_Barred_init : FnScope ["self", "whom", "walks"] ["self", "whom", "walks"] (defScope s_Barred_init) := ⟨rfl, rfl, rfl, by decide +kernel, rfl, by decide +kernel, by decide +kernel⟩
abbrev s_is_name : Stmt := top 24
theorem sc_is_name : FnScope ["name", "sign"] ["name"] (defScope s_is_name) := ⟨rfl, rfl, rfl, by decide +kernel, rfl, by decide +kernel, by decide +kernel⟩
abbrev s_ties_of : Stmt := top 25
theorem sc_ties_of : FnScope ["land", "kept", "number", "kind", "one", "other"] ["land", "kept"] (defScope s_ties_of) := ⟨rfl, rfl, rfl, by decide +kernel, rfl, by decide +kernel, by decide +kernel⟩
abbrev s_sayings_of : Stmt := top 26
theorem sc_sayings_of : FnScope ["kept", "number", "kind", "one", "section"] ["kept"] (defScope s_sayings_of) := ⟨rfl, rfl, rfl, by decide +kernel, rfl, by decide +kernel, by decide +kernel⟩
abbrev s_parents_of : Stmt := top 27
theorem sc_parents_of : FnScope ["kept", "name", "found", "number", "kind", "one", "other"] ["kept", "name"] (defScope s_parents_of) := ⟨rfl, rfl, rfl, by decide +kernel, rfl, by decide +kernel, by decide +kernel⟩
abbrev s_line_up : Stmt := top 28
theorem sc_line_up : FnScope ["kept", "begin", "goal", "lines", "seen", "at", "line", "name"] ["kept", "begin", "goal"] (defScope s_line_up) := ⟨rfl, rfl, rfl, by decide +kernel, rfl, by decide +kernel, by decide +kernel⟩
abbrev s_is_turn : Stmt := top 30
theorem sc_is_turn : FnScope ["row", "seen", "one"] ["row"] (defScope s_is_turn) := ⟨rfl, rfl, rfl, by decide +kernel, rfl, by decide +kernel, by decide +kernel⟩
abbrev s_still : Stmt := top 31
theorem sc_still : FnScope ["size"] ["size"] (defScope s_still) := ⟨rfl, rfl, rfl, by decide +kernel, rfl, by decide +kernel, by decide +kernel⟩
abbrev s_led : Stmt := top 32
theorem sc_led : FnScope ["first", "then", "one"] ["first", "then"] (defScope s_led) := ⟨rfl, rfl, rfl, by decide +kernel, rfl, by decide +kernel, by decide +kernel⟩
abbrev s_undone : Stmt := top 33
theorem sc_undone : FnScope ["turn", "found", "at", "to"] ["turn"] (defScope s_undone) := ⟨rfl, rfl, rfl, by decide +kernel, rfl, by decide +kernel, by decide +kernel⟩
abbrev s_spread : Stmt := top 35
theorem sc_spread : FnScope ["ties", "begin", "section", "found", "row", "at", "here", "now", "walk", "number", "one", "other", "turn"] ["ties", "begin", "section"] (defScope s_spread) := ⟨rfl, rfl, rfl, by decide +kernel, rfl, by decide +kernel, by decide +kernel⟩
abbrev s_turned_walk : Stmt := top 36
theorem sc_turned_walk : FnScope ["walk", "number", "way"] ["walk"] (defScope s_turned_walk) := ⟨rfl, rfl, rfl, by decide +kernel, rfl, by decide +kernel, by decide +kernel⟩
abbrev s_fault : Stmt := top 37
theorem sc_fault : FnScope ["ties", "sayings", "begin", "section", "found", "number", "one", "said", "other", "turn", "now", "walk", "to", "there"] ["ties", "sayings", "begin", "section"] (defScope s_fault) := ⟨rfl, rfl, rfl, by decide +kernel, rfl, by decide +kernel, by decide +kernel⟩
abbrev s_place_of : Stmt := top 39
theorem sc_place_of : FnScope ["hearth", "name"] ["hearth", "name"] (defScope s_place_of) := ⟨rfl, rfl, rfl, by decide +kernel, rfl, by decide +kernel, by decide +kernel⟩
abbrev s_open_of : Stmt := top 40
theorem sc_open_of : FnScope ["hearth", "name"] ["hearth", "name"] (defScope s_open_of) := ⟨rfl, rfl, rfl, by decide +kernel, rfl, by decide +kernel, by decide +kernel⟩
abbrev s_dealings : Stmt := top 41
theorem sc_dealings : FnScope ["hearth"] ["hearth"] (defScope s_dealings) := ⟨rfl, rfl, rfl, by decide +kernel, rfl, by decide +kernel, by decide +kernel⟩
abbrev s_Joins_init : Stmt := inClass (top 43) 0
theorem sc_Joins_init : FnScope ["self", "size"] ["self", "size"] (defScope s_Joins_init) := ⟨rfl, rfl, rfl, by decide +kernel, rfl, by decide +kernel, by decide +kernel⟩
abbrev s_Joins_add : Stmt := inClass (top 43) 1
theorem sc_Joins_add : FnScope ["self", "at"] ["self"] (defScope s_Joins_add) := ⟨rfl, rfl, rfl, by decide +kernel, rfl, by decide +kernel, by decide +kernel⟩
abbrev s_Joins_head : Stmt := inClass (top 43) 2
theorem sc_Joins_head : FnScope ["self", "at", "turn"] ["self", "at"] (defScope s_Joins_head) := ⟨rfl, rfl, rfl, by decide +kernel, rfl, by decide +kernel, by decide +kernel⟩
abbrev s_Joins_link : Stmt := inClass (top 43) 3
theorem sc_Joins_link : FnScope ["self", "one", "other", "turn", "here", "up", "there", "down"] ["self", "one", "other", "turn"] (defScope s_Joins_link) := ⟨rfl, rfl, rfl, by decide +kernel, rfl, by decide +kernel, by decide +kernel⟩
abbrev s_Joins_kept_room : Stmt := inClass (top 43) 4
theorem sc_Joins_kept_room : FnScope ["self", "one", "other", "turn", "here", "there", "across", "at"] ["self", "one", "other", "turn"] (defScope s_Joins_kept_room) := ⟨rfl, rfl, rfl, by decide +kernel, rfl, by decide +kernel, by decide +kernel⟩
abbrev s_Joins_tie : Stmt := inClass (top 43) 6
theorem sc_Joins_tie : FnScope ["self", "one", "other", "turn", "kept", "here", "there", "across", "at"] ["self", "one", "other", "turn"] (defScope s_Joins_tie) := ⟨rfl, rfl, rfl, by decide +kernel, rfl, by decide +kernel, by decide +kernel⟩
abbrev s_Joins_say : Stmt := inClass (top 43) 7
theorem sc_Joins_say : FnScope ["self", "one", "section", "head", "up"] ["self", "one", "section"] (defScope s_Joins_say) := ⟨rfl, rfl, rfl, by decide +kernel, rfl, by decide +kernel, by decide +kernel⟩
abbrev s_Joins_open_at : Stmt := inClass (top 43) 8
theorem sc_Joins_open_at : FnScope ["self", "one", "head", "up", "down", "at"] ["self", "one"] (defScope s_Joins_open_at) := ⟨rfl, rfl, rfl, by decide +kernel, rfl, by decide +kernel, by decide +kernel⟩
abbrev s_Joins_dealt : Stmt := inClass (top 43) 11
theorem sc_Joins_dealt : FnScope ["self", "found", "at"] ["self"] (defScope s_Joins_dealt) := ⟨rfl, rfl, rfl, by decide +kernel, rfl, by decide +kernel, by decide +kernel⟩
abbrev s_barring : Stmt := top 45
theorem sc_barring : FnScope ["land", "kept", "person", "ties", "sayings", "section"] ["land", "kept", "person"] (defScope s_barring) := ⟨rfl, rfl, rfl, by decide +kernel, rfl, by decide +kernel, by decide +kernel⟩
abbrev s_Hearth_init : Stmt := inClass (top 47) 0
theorem sc_Hearth_init : FnScope ["self", "land"] ["self", "land"] (defScope s_Hearth_init) := ⟨rfl, rfl, rfl, by decide +kernel, rfl, by decide +kernel, by decide +kernel⟩
abbrev s_Hearth_state : Stmt := inClass (top 47) 1
theorem sc_Hearth_state : FnScope ["self"] ["self"] (defScope s_Hearth_state) := ⟨rfl, rfl, rfl, by decide +kernel, rfl, by decide +kernel, by decide +kernel⟩
abbrev s_Hearth_go_to : Stmt := inClass (top 47) 2
theorem sc_Hearth_go_to : FnScope ["self", "state", "names", "side", "facts", "after", "name", "kind", "one", "other"] ["self", "state"] (defScope s_Hearth_go_to) := ⟨rfl, rfl, rfl, by decide +kernel, rfl, by decide +kernel, by decide +kernel⟩
abbrev s_Hearth_done_from : Stmt := inClass (top 47) 3
theorem sc_Hearth_done_from : FnScope ["self", "state"] ["self", "state"] (defScope s_Hearth_done_from) := ⟨rfl, rfl, rfl, by decide +kernel, rfl, by decide +kernel, by decide +kernel⟩
abbrev s_Hearth_forget : Stmt := inClass (top 47) 4
theorem sc_Hearth_forget : FnScope ["self"] ["self"] (defScope s_Hearth_forget) := ⟨rfl, rfl, rfl, by decide +kernel, rfl, by decide +kernel, by decide +kernel⟩
abbrev s_Hearth_people : Stmt := inClass (top 47) 6
theorem sc_Hearth_people : FnScope ["self"] ["self"] (defScope s_Hearth_people) := ⟨rfl, rfl, rfl, by decide +kernel, rfl, by decide +kernel, by decide +kernel⟩
abbrev s_Hearth_side_of : Stmt := inClass (top 47) 7
theorem sc_Hearth_side_of : FnScope ["self", "name"] ["self", "name"] (defScope s_Hearth_side_of) := ⟨rfl, rfl, rfl, by decide +kernel, rfl, by decide +kernel, by decide +kernel⟩
abbrev s_Hearth_kept : Stmt := inClass (top 47) 8
theorem sc_Hearth_kept : FnScope ["self", "number"] ["self"] (defScope s_Hearth_kept) := ⟨rfl, rfl, rfl, by decide +kernel, rfl, by decide +kernel, by decide +kernel⟩
abbrev s_Hearth_has : Stmt := inClass (top 47) 9
theorem sc_Hearth_has : FnScope ["self", "kind", "one", "other", "fact"] ["self", "kind", "one", "other"] (defScope s_Hearth_has) := ⟨rfl, rfl, rfl, by decide +kernel, rfl, by decide +kernel, by decide +kernel⟩
abbrev s_Hearth_undoable : Stmt := inClass (top 47) 10
theorem sc_Hearth_undoable : FnScope ["self"] ["self"] (defScope s_Hearth_undoable) := ⟨rfl, rfl, rfl, by decide +kernel, rfl, by decide +kernel, by decide +kernel⟩
abbrev s_Hearth_redoable : Stmt := inClass (top 47) 11
theorem sc_Hearth_redoable : FnScope ["self"] ["self"] (defScope s_Hearth_redoable) := ⟨rfl, rfl, rfl, by decide +kernel, rfl, by decide +kernel, by decide +kernel⟩
abbrev s_Hearth_person : Stmt := inClass (top 47) 12
theorem sc_Hearth_person : FnScope ["self", "name", "side"] ["self", "name", "side"] (defScope s_Hearth_person) := ⟨rfl, rfl, rfl, by decide +kernel, rfl, by decide +kernel, by decide +kernel⟩
abbrev s_Hearth_sides_fit : Stmt := inClass (top 47) 13
theorem sc_Hearth_sides_fit : FnScope ["self", "kind", "one", "other"] ["self", "kind", "one", "other"] (defScope s_Hearth_sides_fit) := ⟨rfl, rfl, rfl, by decide +kernel, rfl, by decide +kernel, by decide +kernel⟩
abbrev s_Hearth_parent_kept : Stmt := inClass (top 47) 14
theorem sc_Hearth_parent_kept : FnScope ["self", "kind", "one", "had", "here", "there"] ["self", "kind", "one"] (defScope s_Hearth_parent_kept) := ⟨rfl, rfl, rfl, by decide +kernel, rfl, by decide +kernel, by decide +kernel⟩
abbrev s_Hearth_known : Stmt := inClass (top 47) 15
theorem sc_Hearth_known : FnScope ["self", "kind", "one", "other"] ["self", "kind", "one", "other"] (defScope s_Hearth_known) := ⟨rfl, rfl, rfl, by decide +kernel, rfl, by decide +kernel, by decide +kernel⟩
abbrev s_Hearth_look : Stmt := inClass (top 47) 16
theorem sc_Hearth_look : FnScope ["self", "kind", "one", "other", "line"] ["self", "kind", "one", "other"] (defScope s_Hearth_look) := ⟨rfl, rfl, rfl, by decide +kernel, rfl, by decide +kernel, by decide +kernel⟩
abbrev s_Hearth_add_fact : Stmt := inClass (top 47) 17
theorem sc_Hearth_add_fact : FnScope ["self", "state", "kind", "one", "other", "number"] ["self", "state", "kind", "one", "other"] (defScope s_Hearth_add_fact) := ⟨rfl, rfl, rfl, by decide +kernel, rfl, by decide +kernel, by decide +kernel⟩
abbrev s_Hearth_tie : Stmt := inClass (top 47) 18
theorem sc_Hearth_tie : FnScope ["self", "kind", "one", "other", "state", "turn", "rows"] ["self", "kind", "one", "other"] (defScope s_Hearth_tie) := ⟨rfl, rfl, rfl, by decide +kernel, rfl, by decide +kernel, by decide +kernel⟩
abbrev s_Hearth_say : Stmt := inClass (top 47) 19
theorem sc_Hearth_say : FnScope ["self", "name", "section", "state", "rows"] ["self", "name", "section"] (defScope s_Hearth_say) := ⟨rfl, rfl, rfl, by decide +kernel, rfl, by decide +kernel, by decide +kernel⟩
abbrev s_Hearth_take : Stmt := inClass (top 47) 20
theorem sc_Hearth_take : FnScope ["self", "number", "state"] ["self", "number"] (defScope s_Hearth_take) := ⟨rfl, rfl, rfl, by decide +kernel, rfl, by decide +kernel, by decide +kernel⟩
abbrev s_Hearth_undo : Stmt := inClass (top 47) 21
theorem sc_Hearth_undo : FnScope ["self"] ["self"] (defScope s_Hearth_undo) := ⟨rfl, rfl, rfl, by decide +kernel, rfl, by decide +kernel, by decide +kernel⟩
abbrev s_Hearth_redo : Stmt := inClass (top 47) 22
theorem sc_Hearth_redo : FnScope ["self"] ["self"] (defScope s_Hearth_redo) := ⟨rfl, rfl, rfl, by decide +kernel, rfl, by decide +kernel, by decide +kernel⟩
abbrev s_Land_init : Stmt := inClass (top 51) 0
theorem sc_Land_init : FnScope ["self", "mother", "father", "wife", "turn", "at"] ["self", "mother", "father", "wife"] (defScope s_Land_init) := ⟨rfl, rfl, rfl, by decide +kernel, rfl, by decide +kernel, by decide +kernel⟩
abbrev s_Land_step : Stmt := inClass (top 51) 1
theorem sc_Land_step : FnScope ["self", "letter"] ["self", "letter"] (defScope s_Land_step) := ⟨rfl, rfl, rfl, by decide +kernel, rfl, by decide +kernel, by decide +kernel⟩
abbrev s_land_of : Stmt := top 52
theorem sc_land_of : FnScope ["mother", "wife"] ["mother", "wife"] (defScope s_land_of) := ⟨rfl, rfl, rfl, by decide +kernel, rfl, by decide +kernel, by decide +kernel⟩
abbrev s_alike_lands : Stmt := top 53
theorem sc_alike_lands : FnScope ["one", "other"] ["one", "other"] (defScope s_alike_lands) := ⟨rfl, rfl, rfl, by decide +kernel, rfl, by decide +kernel, by decide +kernel⟩
abbrev s_who_is_whom : Stmt := top 55
theorem sc_who_is_whom : FnScope ["one", "other", "same", "known", "here", "there"] ["one", "other", "same"] (defScope s_who_is_whom) := ⟨rfl, rfl, rfl, by decide +kernel, rfl, by decide +kernel, by decide +kernel⟩
abbrev s_put_facts : Stmt := top 56
theorem sc_put_facts : FnScope ["made", "rows", "known", "number", "kind", "one", "other", "here", "there"] ["made", "rows", "known"] (defScope s_put_facts) := ⟨rfl, rfl, rfl, by decide +kernel, rfl, by decide +kernel, by decide +kernel⟩
abbrev s_joined : Stmt := top 57
theorem sc_joined : FnScope ["one", "other", "same", "known", "made", "mine", "name"] ["one", "other", "same"] (defScope s_joined) := ⟨rfl, rfl, rfl, by decide +kernel, rfl, by decide +kernel, by decide +kernel⟩
abbrev s_figures_of : Stmt := top 61
theorem sc_figures_of : FnScope ["turn", "one"] ["turn"] (defScope s_figures_of) := ⟨rfl, rfl, rfl, by decide +kernel, rfl, by decide +kernel, by decide +kernel⟩
abbrev s_number_in : Stmt := top 62
theorem sc_number_in : FnScope ["word", "sign"] ["word"] (defScope s_number_in) := ⟨rfl, rfl, rfl, by decide +kernel, rfl, by decide +kernel, by decide +kernel⟩
abbrev s_turn_in : Stmt := top 63
theorem sc_turn_in : FnScope ["word", "sign"] ["word"] (defScope s_turn_in) := ⟨rfl, rfl, rfl, by decide +kernel, rfl, by decide +kernel, by decide +kernel⟩
abbrev s_called_once : Stmt := top 67
theorem sc_called_once : FnScope ["kept", "name", "letter", "found", "number", "kind", "one", "other"] ["kept", "name", "letter"] (defScope s_called_once) := ⟨rfl, rfl, rfl, by decide +kernel, rfl, by decide +kernel, by decide +kernel⟩
abbrev s_road : Stmt := top 68
theorem sc_road : FnScope ["hearth", "name", "goal", "kept", "found", "row", "fresh", "one", "letter", "other", "word"] ["hearth", "name", "goal"] (defScope s_road) := ⟨rfl, rfl, rfl, by decide +kernel, rfl, by decide +kernel, by decide +kernel⟩
abbrev s_do_open : Stmt := top 70
theorem sc_do_open : FnScope ["desk", "words", "mother", "wife"] ["desk", "words"] (defScope s_do_open) := ⟨rfl, rfl, rfl, by decide +kernel, rfl, by decide +kernel, by decide +kernel⟩
abbrev s_do_person : Stmt := top 71
theorem sc_do_person : FnScope ["desk", "words"] ["desk", "words"] (defScope s_do_person) := ⟨rfl, rfl, rfl, by decide +kernel, rfl, by decide +kernel, by decide +kernel⟩
abbrev s_do_tie : Stmt := top 72
theorem sc_do_tie : FnScope ["desk", "words", "number"] ["desk", "words"] (defScope s_do_tie) := ⟨rfl, rfl, rfl, by decide +kernel, rfl, by decide +kernel, by decide +kernel⟩
abbrev s_do_said : Stmt := top 73
theorem sc_do_said : FnScope ["desk", "words", "section", "number"] ["desk", "words"] (defScope s_do_said) := ⟨rfl, rfl, rfl, by decide +kernel, rfl, by decide +kernel, by decide +kernel⟩
abbrev s_do_take : Stmt := top 74
theorem sc_do_take : FnScope ["desk", "words", "number"] ["desk", "words"] (defScope s_do_take) := ⟨rfl, rfl, rfl, by decide +kernel, rfl, by decide +kernel, by decide +kernel⟩
abbrev s_do_undo : Stmt := top 75
theorem sc_do_undo : FnScope ["desk", "words"] ["desk", "words"] (defScope s_do_undo) := ⟨rfl, rfl, rfl, by decide +kernel, rfl, by decide +kernel, by decide +kernel⟩
abbrev s_do_redo : Stmt := top 76
theorem sc_do_redo : FnScope ["desk", "words"] ["desk", "words"] (defScope s_do_redo) := ⟨rfl, rfl, rfl, by decide +kernel, rfl, by decide +kernel, by decide +kernel⟩
abbrev s_do_join : Stmt := top 77
theorem sc_do_join : FnScope ["desk", "words", "same", "part", "pair", "one", "other"] ["desk", "words"] (defScope s_do_join) := ⟨rfl, rfl, rfl, by decide +kernel, rfl, by decide +kernel, by decide +kernel⟩
abbrev s_do_who : Stmt := top 78
theorem sc_do_who : FnScope ["desk", "words"] ["desk", "words"] (defScope s_do_who) := ⟨rfl, rfl, rfl, by decide +kernel, rfl, by decide +kernel, by decide +kernel⟩
abbrev s_do_count : Stmt := top 79
theorem sc_do_count : FnScope ["desk", "words"] ["desk", "words"] (defScope s_do_count) := ⟨rfl, rfl, rfl, by decide +kernel, rfl, by decide +kernel, by decide +kernel⟩
abbrev s_do_road : Stmt := top 80
theorem sc_do_road : FnScope ["desk", "words", "word"] ["desk", "words"] (defScope s_do_road) := ⟨rfl, rfl, rfl, by decide +kernel, rfl, by decide +kernel, by decide +kernel⟩
abbrev s_Desk_init : Stmt := inClass (top 84) 0
theorem sc_Desk_init : FnScope ["self"] ["self"] (defScope s_Desk_init) := ⟨rfl, rfl, rfl, by decide +kernel, rfl, by decide +kernel, by decide +kernel⟩
abbrev s_Desk_book : Stmt := inClass (top 84) 1
theorem sc_Desk_book : FnScope ["self", "name"] ["self", "name"] (defScope s_Desk_book) := ⟨rfl, rfl, rfl, by decide +kernel, rfl, by decide +kernel, by decide +kernel⟩
abbrev s_Desk_free : Stmt := inClass (top 84) 2
theorem sc_Desk_free : FnScope ["self", "name"] ["self", "name"] (defScope s_Desk_free) := ⟨rfl, rfl, rfl, by decide +kernel, rfl, by decide +kernel, by decide +kernel⟩
abbrev s_Desk_put : Stmt := inClass (top 84) 3
theorem sc_Desk_put : FnScope ["self", "name", "hearth"] ["self", "name", "hearth"] (defScope s_Desk_put) := ⟨rfl, rfl, rfl, by decide +kernel, rfl, by decide +kernel, by decide +kernel⟩
abbrev s_Desk_books_held : Stmt := inClass (top 84) 4
theorem sc_Desk_books_held : FnScope ["self"] ["self"] (defScope s_Desk_books_held) := ⟨rfl, rfl, rfl, by decide +kernel, rfl, by decide +kernel, by decide +kernel⟩
abbrev s_Desk_log : Stmt := inClass (top 84) 5
theorem sc_Desk_log : FnScope ["self"] ["self"] (defScope s_Desk_log) := ⟨rfl, rfl, rfl, by decide +kernel, rfl, by decide +kernel, by decide +kernel⟩
abbrev s_Desk_run : Stmt := inClass (top 84) 6
theorem sc_Desk_run : FnScope ["self", "row", "words", "deed", "answer", "e"] ["self", "row"] (defScope s_Desk_run) := ⟨rfl, rfl, rfl, by decide +kernel, rfl, by decide +kernel, by decide +kernel⟩
abbrev s_law_cell : Stmt := top 86
theorem sc_law_cell : FnScope ["_law_script", "_law_k"] ["_law_script", "_law_k"] (defScope s_law_cell) := ⟨rfl, rfl, rfl, by decide +kernel, rfl, by decide +kernel, by decide +kernel⟩
abbrev s_law_draws : Stmt := top 87
theorem sc_law_draws : FnScope ["_law_cell_here", "_law_parts", "_law_one", "_law_two", "_law_six", "_law_found", "_law_part"] ["_law_cell_here", "_law_parts"] (defScope s_law_draws) := ⟨rfl, rfl, rfl, by decide +kernel, rfl, by decide +kernel, by decide +kernel⟩
abbrev s_law_turn : Stmt := top 88
theorem sc_law_turn : FnScope ["_law_code", "_law_size", "_law_free", "_law_found", "_law_k"] ["_law_code", "_law_size"] (defScope s_law_turn) := ⟨rfl, rfl, rfl, by decide +kernel, rfl, by decide +kernel, by decide +kernel⟩
abbrev s_law_row : Stmt := top 89
theorem sc_law_row : FnScope ["_law_cell_here", "_law_size", "_law_drawn", "_law_at"] ["_law_cell_here", "_law_size"] (defScope s_law_row) := ⟨rfl, rfl, rfl, by decide +kernel, rfl, by decide +kernel, by decide +kernel⟩
abbrev s_law_same : Stmt := top 90
theorem sc_law_same : FnScope ["_law_found", "_law_due", "_law_k"] ["_law_found", "_law_due"] (defScope s_law_same) := ⟨rfl, rfl, rfl, by decide +kernel, rfl, by decide +kernel, by decide +kernel⟩
abbrev s_law_name : Stmt := top 91
theorem sc_law_name : FnScope ["_law_k", "_law_salt", "_law_letters", "_law_fill", "_law_number"] ["_law_k", "_law_salt"] (defScope s_law_name) := ⟨rfl, rfl, rfl, by decide +kernel, rfl, by decide +kernel, by decide +kernel⟩
abbrev s_law_words : Stmt := top 92
theorem sc_law_words : FnScope ["_law_cell_here", "_law_halls", "_law_pool", "_law_drawn", "_law_kinds", "_law_head", "_law_words_here", "_law_one"] ["_law_cell_here", "_law_halls", "_law_pool"] (defScope s_law_words) := ⟨rfl, rfl, rfl, by decide +kernel, rfl, by decide +kernel, by decide +kernel⟩
abbrev s_law_open : Stmt := top 93
theorem sc_law_open : FnScope ["_law_script", "_law_k", "_law_size", "_law_hall", "_law_mother", "_law_wife", "_law_figures", "_law_turn_here", "_law_at"] ["_law_script", "_law_k", "_law_size", "_law_hall"] (defScope s_law_open) := ⟨rfl, rfl, rfl, by decide +kernel, rfl, by decide +kernel, by decide +kernel⟩
abbrev s_law_alike : Stmt := top 94
theorem sc_law_alike : FnScope ["_law_desk", "_law_other", "_law_hall", "_law_one", "_law_two", "_law_rows_here", "_law_name_here", "_law_row_here"] ["_law_desk", "_law_other", "_law_hall"] (defScope s_law_alike) := ⟨rfl, rfl, rfl, by decide +kernel, rfl, by decide +kernel, by decide +kernel⟩
abbrev s_law_rows : Stmt := top 95
theorem sc_law_rows : FnScope ["_law_script", "_law_halls", "_law_pool", "_law_size", "_law_rows_here", "_law_k", "_law_fresh"] ["_law_script", "_law_halls", "_law_pool", "_law_size"] (defScope s_law_rows) := ⟨rfl, rfl, rfl, by decide +kernel, rfl, by decide +kernel, by decide +kernel⟩
abbrev s_law : Stmt := top 96
theorem sc_law : FnScope ["_law_script", "_law_size", "_law_salt", "_law_pool", "_law_halls", "_law_desk", "_law_other", "_law_answers", "_law_row_here", "_law_before", "_law_answer", "_law_hall", "_law_kept", "_law_k", "_law_name_here", "_law_pair"] ["_law_script"] (defScope s_law) := ⟨rfl, rfl, rfl, by decide +kernel, rfl, by decide +kernel, by decide +kernel⟩
/-! ### the defs as the head tells them -/
def dOf (at_ : Str × Option Str) (nm qual : Str) (st : Stmt) : He.DefD := ⟨at_, nm, qual, defArgs st, defBody st, defScope st, [], []⟩
def fnPart0 : List He.DefD := [
  dOf ("KinError", some "__init__") "__init__" "KinError.__init__" s_KinError_init,
  dOf ("BadLand", some "__init__") "__init__" "BadLand.__init__" s_BadLand_init,
  dOf ("BadWord", some "__init__") "__init__" "BadWord.__init__" s_BadWord_init,
  dOf ("BadName", some "__init__") "__init__" "BadName.__init__" s_BadName_init,
  dOf ("Taken", some "__init__") "__init__" "Taken.__init__" s_Taken_init,
  dOf ("NoPerson", some "__init__") "__init__" "NoPerson.__init__" s_NoPerson_init,
  dOf ("NoSection", some "__init__") "__init__" "NoSection.__init__" s_NoSection_init,
  dOf ("WrongSide", some "__init__") "__init__" "WrongSide.__init__" s_WrongSide_init,
  dOf ("Twice", some "__init__") "__init__" "Twice.__init__" s_Twice_init,
  dOf ("NoFact", some "__init__") "__init__" "NoFact.__init__" s_NoFact_init,
  dOf ("NothingLeft", some "__init__") "__init__" "NothingLeft.__init__" s_NothingLeft_init,
  dOf ("UnlikeLands", some "__init__") "__init__" "UnlikeLands.__init__" s_UnlikeLands_init,
  dOf ("BadText", some "__init__") "__init__" "BadText.__init__" s_BadText_init,
  dOf ("NoBook", some "__init__") "__init__" "NoBook.__init__" s_NoBook_init,
  dOf ("Unequal", some "__init__") "__init__" "Unequal.__init__" s_Unequal_init,
  dOf ("OwnElder", some "__init__") "__init__" "OwnElder.__init__" s_OwnElder_init,
  dOf ("Barred", some "__init__") "__init__" "Barred.__init__" s_Barred_init,
  dOf ("is_name", none) "is_name" "is_name" s_is_name,
  dOf ("ties_of", none) "ties_of" "ties_of" s_ties_of,
  dOf ("sayings_of", none) "sayings_of" "sayings_of" s_sayings_of,
  dOf ("parents_of", none) "parents_of" "parents_of" s_parents_of,
  dOf ("line_up", none) "line_up" "line_up" s_line_up,
  dOf ("is_turn", none) "is_turn" "is_turn" s_is_turn,
  dOf ("still", none) "still" "still" s_still,
  dOf ("led", none) "led" "led" s_led,
  dOf ("undone", none) "undone" "undone" s_undone,
  dOf ("spread", none) "spread" "spread" s_spread,
  dOf ("turned_walk", none) "turned_walk" "turned_walk" s_turned_walk,
  dOf ("fault", none) "fault" "fault" s_fault,
  dOf ("place_of", none) "place_of" "place_of" s_place_of]
def fnPart1 : List He.DefD := [
  dOf ("open_of", none) "open_of" "open_of" s_open_of,
  dOf ("dealings", none) "dealings" "dealings" s_dealings,
  dOf ("Joins", some "__init__") "__init__" "Joins.__init__" s_Joins_init,
  dOf ("Joins", some "add") "add" "Joins.add" s_Joins_add,
  dOf ("Joins", some "head") "head" "Joins.head" s_Joins_head,
  dOf ("Joins", some "link") "link" "Joins.link" s_Joins_link,
  dOf ("Joins", some "kept_room") "kept_room" "Joins.kept_room" s_Joins_kept_room,
  dOf ("Joins", some "tie") "tie" "Joins.tie" s_Joins_tie,
  dOf ("Joins", some "say") "say" "Joins.say" s_Joins_say,
  dOf ("Joins", some "open_at") "open_at" "Joins.open_at" s_Joins_open_at,
  dOf ("Joins", some "dealt") "dealt" "Joins.dealt" s_Joins_dealt,
  dOf ("barring", none) "barring" "barring" s_barring,
  dOf ("Hearth", some "__init__") "__init__" "Hearth.__init__" s_Hearth_init,
  dOf ("Hearth", some "state") "state" "Hearth.state" s_Hearth_state,
  dOf ("Hearth", some "go_to") "go_to" "Hearth.go_to" s_Hearth_go_to,
  dOf ("Hearth", some "done_from") "done_from" "Hearth.done_from" s_Hearth_done_from,
  dOf ("Hearth", some "forget") "forget" "Hearth.forget" s_Hearth_forget,
  dOf ("Hearth", some "people") "people" "Hearth.people" s_Hearth_people,
  dOf ("Hearth", some "side_of") "side_of" "Hearth.side_of" s_Hearth_side_of,
  dOf ("Hearth", some "kept") "kept" "Hearth.kept" s_Hearth_kept,
  dOf ("Hearth", some "has") "has" "Hearth.has" s_Hearth_has,
  dOf ("Hearth", some "undoable") "undoable" "Hearth.undoable" s_Hearth_undoable,
  dOf ("Hearth", some "redoable") "redoable" "Hearth.redoable" s_Hearth_redoable,
  dOf ("Hearth", some "person") "person" "Hearth.person" s_Hearth_person,
  dOf ("Hearth", some "sides_fit") "sides_fit" "Hearth.sides_fit" s_Hearth_sides_fit,
  dOf ("Hearth", some "parent_kept") "parent_kept" "Hearth.parent_kept" s_Hearth_parent_kept,
  dOf ("Hearth", some "known") "known" "Hearth.known" s_Hearth_known,
  dOf ("Hearth", some "look") "look" "Hearth.look" s_Hearth_look,
  dOf ("Hearth", some "add_fact") "add_fact" "Hearth.add_fact" s_Hearth_add_fact,
  dOf ("Hearth", some "tie") "tie" "Hearth.tie" s_Hearth_tie]
def fnPart2 : List He.DefD := [
  dOf ("Hearth", some "say") "say" "Hearth.say" s_Hearth_say,
  dOf ("Hearth", some "take") "take" "Hearth.take" s_Hearth_take,
  dOf ("Hearth", some "undo") "undo" "Hearth.undo" s_Hearth_undo,
  dOf ("Hearth", some "redo") "redo" "Hearth.redo" s_Hearth_redo,
  dOf ("Land", some "__init__") "__init__" "Land.__init__" s_Land_init,
  dOf ("Land", some "step") "step" "Land.step" s_Land_step,
  dOf ("land_of", none) "land_of" "land_of" s_land_of,
  dOf ("alike_lands", none) "alike_lands" "alike_lands" s_alike_lands,
  dOf ("who_is_whom", none) "who_is_whom" "who_is_whom" s_who_is_whom,
  dOf ("put_facts", none) "put_facts" "put_facts" s_put_facts,
  dOf ("joined", none) "joined" "joined" s_joined,
  dOf ("figures_of", none) "figures_of" "figures_of" s_figures_of,
  dOf ("number_in", none) "number_in" "number_in" s_number_in,
  dOf ("turn_in", none) "turn_in" "turn_in" s_turn_in,
  dOf ("called_once", none) "called_once" "called_once" s_called_once,
  dOf ("road", none) "road" "road" s_road,
  dOf ("do_open", none) "do_open" "do_open" s_do_open,
  dOf ("do_person", none) "do_person" "do_person" s_do_person,
  dOf ("do_tie", none) "do_tie" "do_tie" s_do_tie,
  dOf ("do_said", none) "do_said" "do_said" s_do_said,
  dOf ("do_take", none) "do_take" "do_take" s_do_take,
  dOf ("do_undo", none) "do_undo" "do_undo" s_do_undo,
  dOf ("do_redo", none) "do_redo" "do_redo" s_do_redo,
  dOf ("do_join", none) "do_join" "do_join" s_do_join,
  dOf ("do_who", none) "do_who" "do_who" s_do_who,
  dOf ("do_count", none) "do_count" "do_count" s_do_count,
  dOf ("do_road", none) "do_road" "do_road" s_do_road,
  dOf ("Desk", some "__init__") "__init__" "Desk.__init__" s_Desk_init,
  dOf ("Desk", some "book") "book" "Desk.book" s_Desk_book,
  dOf ("Desk", some "free") "free" "Desk.free" s_Desk_free]
def fnPart3 : List He.DefD := [
  dOf ("Desk", some "put") "put" "Desk.put" s_Desk_put,
  dOf ("Desk", some "books_held") "books_held" "Desk.books_held" s_Desk_books_held,
  dOf ("Desk", some "log") "log" "Desk.log" s_Desk_log,
  dOf ("Desk", some "run") "run" "Desk.run" s_Desk_run,
  dOf ("_law_cell", none) "_law_cell" "_law_cell" s_law_cell,
  dOf ("_law_draws", none) "_law_draws" "_law_draws" s_law_draws,
  dOf ("_law_turn", none) "_law_turn" "_law_turn" s_law_turn,
  dOf ("_law_row", none) "_law_row" "_law_row" s_law_row,
  dOf ("_law_same", none) "_law_same" "_law_same" s_law_same,
  dOf ("_law_name", none) "_law_name" "_law_name" s_law_name,
  dOf ("_law_words", none) "_law_words" "_law_words" s_law_words,
  dOf ("_law_open", none) "_law_open" "_law_open" s_law_open,
  dOf ("_law_alike", none) "_law_alike" "_law_alike" s_law_alike,
  dOf ("_law_rows", none) "_law_rows" "_law_rows" s_law_rows,
  dOf ("law", none) "law" "law" s_law]
def fnAll : List He.DefD := fnPart0 ++ (fnPart1 ++ (fnPart2 ++ (fnPart3)))
def gloNames0 : List Str := ["is_name", "ties_of", "sayings_of", "parents_of", "line_up", "is_turn", "still", "led", "undone", "spread", "turned_walk", "fault", "place_of", "open_of", "dealings", "barring", "land_of", "alike_lands", "who_is_whom", "put_facts", "joined", "figures_of", "number_in", "turn_in", "called_once", "road", "do_open", "do_person", "do_tie", "do_said"]
def gloNames1 : List Str := ["do_take", "do_undo", "do_redo", "do_join", "do_who", "do_count", "do_road", "_law_cell", "_law_draws", "_law_turn", "_law_row", "_law_same", "_law_name", "_law_words", "_law_open", "_law_alike", "_law_rows", "law", "KinError", "BadLand", "BadWord", "BadName", "Taken", "NoPerson", "NoSection", "WrongSide", "Twice", "NoFact", "NothingLeft", "UnlikeLands"]
def gloNames2 : List Str := ["BadText", "NoBook", "Unequal", "OwnElder", "Barred", "Joins", "Hearth", "Land", "Desk"]
def gloNames : List Str := gloNames0 ++ gloNames1 ++ gloNames2
def freeNames0 : List Str := ["len", "range", "tuple", "list", "dict", "sorted", "enumerate", "str", "int", "abs", "isinstance", "bool", "all"]
def freeNames : List Str := freeNames0
def clsNames0 : List Str := ["Joins", "Hearth", "Land", "Desk"]
def clsNames : List Str := clsNames0
def errNames0 : List Str := ["KinError", "BadLand", "BadWord", "BadName", "Taken", "NoPerson", "NoSection", "WrongSide", "Twice", "NoFact", "NothingLeft", "UnlikeLands", "BadText", "NoBook", "Unequal", "OwnElder", "Barred"]
def errNames : List Str := errNames0
def attrNames0 : List (Str × Str) := [("Joins", "size"), ("Joins", "above"), ("Joins", "turning"), ("Joins", "many"), ("Joins", "room"), ("Hearth", "land"), ("Hearth", "names"), ("Hearth", "side"), ("Hearth", "facts"), ("Hearth", "after"), ("Hearth", "place"), ("Hearth", "joins"), ("Hearth", "past"), ("Hearth", "ahead"), ("Land", "size"), ("Land", "mother"), ("Land", "father"), ("Land", "wife"), ("Desk", "books"), ("Desk", "rows"), ("Unequal", "section"), ("OwnElder", "line"), ("Barred", "whom"), ("Barred", "walks")]
def attrNames : List (Str × Str) := attrNames0
def methNames0 : List (Str × Str) := [("Joins", "add"), ("Joins", "head"), ("Joins", "link"), ("Joins", "kept_room"), ("Joins", "tie"), ("Joins", "say"), ("Joins", "open_at"), ("Joins", "dealt"), ("Hearth", "state"), ("Hearth", "go_to"), ("Hearth", "done_from"), ("Hearth", "forget"), ("Hearth", "people"), ("Hearth", "side_of"), ("Hearth", "kept"), ("Hearth", "has"), ("Hearth", "undoable"), ("Hearth", "redoable"), ("Hearth", "person"), ("Hearth", "sides_fit"), ("Hearth", "parent_kept"), ("Hearth", "known"), ("Hearth", "look"), ("Hearth", "add_fact"), ("Hearth", "tie"), ("Hearth", "say"), ("Hearth", "take"), ("Hearth", "undo"), ("Hearth", "redo"), ("Land", "step")]
def methNames1 : List (Str × Str) := [("Desk", "book"), ("Desk", "free"), ("Desk", "put"), ("Desk", "books_held"), ("Desk", "log"), ("Desk", "run")]
def methNames : List (Str × Str) := methNames0 ++ methNames1
inductive TV where
  | str (x : Str) | int (i : Int) | fn (x : Str)
def TV.v (g : Str → Addr) : TV → V
  | .str x => .str x
  | .int i => .int i
  | .fn x => .ref (g x)
def tabNames0 : List Str := ["LETTER", "UP", "DOWN", "DEEDS", "WORDS"]
def tabNames : List Str := tabNames0
def tabVals0 : List (Str × Str × Option TV) := [("LETTER", "mother", some (.str "m")), ("LETTER", "father", some (.str "f")), ("LETTER", "wed", some (.str "w")), ("LETTER", "sibling", some (.str "s")), ("UP", "c", none), ("UP", "f", some (.str "father")), ("UP", "h", none), ("UP", "k", none), ("UP", "m", some (.str "mother")), ("UP", "s", some (.str "sibling")), ("UP", "w", some (.str "wed")), ("DOWN", "c", some (.str "mother")), ("DOWN", "f", none), ("DOWN", "h", some (.str "wed")), ("DOWN", "k", some (.str "father")), ("DOWN", "m", none), ("DOWN", "s", some (.str "sibling")), ("DOWN", "w", none), ("DEEDS", "open", some (.fn "do_open")), ("DEEDS", "man", some (.fn "do_person")), ("DEEDS", "woman", some (.fn "do_person")), ("DEEDS", "mother", some (.fn "do_tie")), ("DEEDS", "father", some (.fn "do_tie")), ("DEEDS", "wed", some (.fn "do_tie")), ("DEEDS", "sibling", some (.fn "do_tie")), ("DEEDS", "said", some (.fn "do_said")), ("DEEDS", "take", some (.fn "do_take")), ("DEEDS", "undo", some (.fn "do_undo")), ("DEEDS", "redo", some (.fn "do_redo")), ("DEEDS", "join", some (.fn "do_join"))]
def tabVals1 : List (Str × Str × Option TV) := [("DEEDS", "who", some (.fn "do_who")), ("DEEDS", "count", some (.fn "do_count")), ("DEEDS", "road", some (.fn "do_road")), ("WORDS", "open", some (.int 4)), ("WORDS", "man", some (.int 3)), ("WORDS", "woman", some (.int 3)), ("WORDS", "mother", some (.int 4)), ("WORDS", "father", some (.int 4)), ("WORDS", "wed", some (.int 4)), ("WORDS", "sibling", some (.int 4)), ("WORDS", "said", some (.int 4)), ("WORDS", "take", some (.int 3)), ("WORDS", "undo", some (.int 2)), ("WORDS", "redo", some (.int 2)), ("WORDS", "join", some (.int 5)), ("WORDS", "who", some (.int 3)), ("WORDS", "count", some (.int 2)), ("WORDS", "road", some (.int 4))]
def tabVals : List (Str × Str × Option TV) := tabVals0 ++ tabVals1
def tabKeys : List (Str × List Str) := [("LETTER", ["mother", "father", "wed", "sibling"]), ("UP", ["m", "f", "w", "s"]), ("DOWN", ["c", "k", "h", "s"]), ("DEEDS", ["open", "man", "woman", "mother", "father", "wed", "sibling", "said", "take", "undo", "redo", "join", "who", "count", "road"]), ("WORDS", ["open", "man", "woman", "mother", "father", "wed", "sibling", "said", "take", "undo", "redo", "join", "who", "count", "road"])]
end Kin
set_option maxHeartbeats 4000000
/-! K01: the program as plain functions: whole loops, turnings, groups. -/
namespace Kin
open PySem L2

/-! ### a whole loop: f s is the next state, none where it is over -/
section
variable {S : Type}
def iter (f : S → Option S) : Nat → S → S
  | 0, s => s
  | n + 1, s => match f s with
    | none => s
    | some t => iter f n t
theorem iter_none {f : S → Option S} {s : S} (h : f s = none) : ∀ n, iter f n s = s
  | 0 => rfl
  | n + 1 => by unfold iter; rw [h]
theorem iter_some {f : S → Option S} {s t : S} (h : f s = some t) (n : Nat) : iter f (n + 1) s = iter f n t := by
  show (match f s with | none => s | some t => iter f n t) = _
  rw [h]
/-- it is over within n turns -/
def Over (f : S → Option S) (n : Nat) (s : S) : Prop := f (iter f n s) = none
theorem over_zero {f : S → Option S} {s : S} (h : f s = none) (n : Nat) : Over f n s := by
  unfold Over; rw [iter_none h]; exact h
theorem over_step {f : S → Option S} {s t : S} (h : f s = some t) {n : Nat} (o : Over f n s) : ∃ m, n = m + 1 ∧ Over f m t := by
  cases n with
  | zero =>
    have e : f s = none := o
    rw [h] at e; cases e
  | succ m => exact ⟨m, rfl, by unfold Over at o ⊢; rw [iter_some h] at o; exact o⟩
theorem over_back {f : S → Option S} {s t : S} (h : f s = some t) {n : Nat} (o : Over f n t) : Over f (n + 1) s := by
  unfold Over at o ⊢; rw [iter_some h]; exact o
theorem iter_over {f : S → Option S} : ∀ {n : Nat} {s : S} (_ : Over f n s) (m : Nat) (_ : Over f m s), iter f n s = iter f m s
  | 0, s, o, m, _ => by
    have e : f s = none := o
    exact (iter_none e m).symm
  | n + 1, s, o, m, p => by
    cases e : f s with
    | none => rw [iter_none e, iter_none e]
    | some t =>
      obtain ⟨k, rfl, p'⟩ := over_step e p
      obtain ⟨k', ek, o'⟩ := over_step e o
      cases ek
      rw [iter_some e, iter_some e]
      exact iter_over o' k p'
open Classical in
/-- where the loop ends -/
noncomputable def fin (f : S → Option S) (s : S) : S := if h : ∃ n, Over f n s then iter f h.choose s else s
theorem fin_eq {f : S → Option S} {s : S} {n : Nat} (o : Over f n s) : fin f s = iter f n s := by
  have h : ∃ n, Over f n s := ⟨n, o⟩
  unfold fin
  rw [dif_pos h]
  exact iter_over h.choose_spec n o
theorem over_of {f : S → Option S} (I : S → Prop) (m : S → Nat) (hs : ∀ s t, I s → f s = some t → I t ∧ m t < m s) : ∀ (n : Nat) (s : S), I s → m s ≤ n → Over f n s
  | n, s, i, h => by
    cases e : f s with
    | none => exact over_zero e n
    | some t =>
      obtain ⟨i', l⟩ := hs s t i e
      cases n with
      | zero => omega
      | succ k => exact over_back e (over_of I m hs k t i' (by omega))
theorem iter_inv {f : S → Option S} (I : S → Prop) (hs : ∀ s t, I s → f s = some t → I t) : ∀ (n : Nat) (s : S), I s → I (iter f n s)
  | 0, _, i => i
  | n + 1, s, i => by
    cases e : f s with
    | none => rw [iter_none e]; exact i
    | some t => rw [iter_some e]; exact iter_inv I hs n t (hs s t i e)
end

/-! ### ints in order -/
def srt (l : List Int) : List Int := l.mergeSort (fun a b => decide (a ≤ b))
theorem srt_perm (l : List Int) : (srt l).Perm l := List.mergeSort_perm _ _
theorem srt_pair (l : List Int) : (srt l).Pairwise (· ≤ ·) := by
  have h := List.pairwise_mergeSort (le := fun a b : Int => decide (a ≤ b)) (fun a b c h1 h2 => by simp only [decide_eq_true_eq] at *; omega) (fun a b => by simp only [Bool.or_eq_true, decide_eq_true_eq]; omega) l
  exact h.imp fun h => of_decide_eq_true h
theorem srt_one : ∀ {xs ys : List Int}, xs.Perm ys → xs.Pairwise (· ≤ ·) → ys.Pairwise (· ≤ ·) → xs = ys
  | [], ys, p, _, _ => (List.nil_perm.mp p).symm
  | x :: xs, [], p, _, _ => by have := p.length_eq; simp at this
  | x :: xs, y :: ys, p, h1, h2 => by
    obtain ⟨a1, a2⟩ := List.pairwise_cons.mp h1
    obtain ⟨b1, b2⟩ := List.pairwise_cons.mp h2
    have m1 : x ∈ y :: ys := p.mem_iff.mp (List.mem_cons_self ..)
    have m2 : y ∈ x :: xs := p.mem_iff.mpr (List.mem_cons_self ..)
    have e : x = y := by
      rcases List.mem_cons.mp m1 with e | m1
      · exact e
      · rcases List.mem_cons.mp m2 with e | m2
        · exact e.symm
        · have := b1 x m1
          have := a1 y m2
          omega
    subst e
    rw [srt_one ((List.perm_cons x).mp p) a2 b2]
theorem srt_eq {l ys : List Int} (p : ys.Perm l) (h : ys.Pairwise (· ≤ ·)) : ys = srt l := srt_one (p.trans (srt_perm l).symm) h (srt_pair l)
theorem srt_mem {l : List Int} {x : Int} : x ∈ srt l ↔ x ∈ l := (srt_perm l).mem_iff
theorem srt_len (l : List Int) : (srt l).length = l.length := (srt_perm l).length_eq

/-! ### turnings -/
def still (n : Nat) : List Int := (List.range n).map fun i : Nat => (i : Int)
def led (f t : List Int) : List Int := f.map fun x => t.getD x.toNat 0
/-- the first i places laid -/
def undoneTo (t : List Int) (i : Nat) : List Int := (List.range i).foldl (fun acc j => acc.set (t.getD j 0).toNat (j : Int)) t
def undone (t : List Int) : List Int := undoneTo t t.length
structure Fit (n : Nat) (t : List Int) : Prop where
  len : t.length = n
  rng : ∀ x ∈ t, 0 ≤ x ∧ x < n
theorem Fit.at {n : Nat} {t : List Int} (f : Fit n t) {i : Nat} (h : i < n) : ∃ x, t[i]? = some x ∧ t.getD i 0 = x ∧ 0 ≤ x ∧ x < n := by
  have hl : i < t.length := by rw [f.len]; exact h
  have e : t[i]? = some t[i] := List.getElem?_eq_getElem hl
  have r := f.rng t[i] (List.getElem_mem hl)
  exact ⟨t[i], e, by rw [List.getD_eq_getElem?_getD, e]; rfl, r.1, r.2⟩
theorem Fit.get {n : Nat} {t : List Int} (f : Fit n t) {x : Int} (h0 : 0 ≤ x) (h : x < n) : t[x.toNat]? = some (t.getD x.toNat 0) ∧ 0 ≤ t.getD x.toNat 0 ∧ t.getD x.toNat 0 < n := by
  obtain ⟨y, e1, e2, e3, e4⟩ := f.at (i := x.toNat) (by omega)
  rw [e2]; exact ⟨e1, e3, e4⟩
theorem still_len (n : Nat) : (still n).length = n := by simp [still]
theorem fit_still (n : Nat) : Fit n (still n) := by
  refine ⟨still_len n, fun x hx => ?_⟩
  obtain ⟨i, hi, rfl⟩ := List.mem_map.mp hx
  have := List.mem_range.mp hi
  omega
theorem fit_led {n : Nat} {f t : List Int} (hf : Fit n f) (ht : Fit n t) : Fit n (led f t) := by
  refine ⟨by simp [led, hf.len], fun x hx => ?_⟩
  obtain ⟨y, hy, rfl⟩ := List.mem_map.mp hx
  have r := hf.rng y hy
  exact (ht.get r.1 r.2).2
theorem undoneTo_succ (t : List Int) (i : Nat) : undoneTo t (i + 1) = (undoneTo t i).set (t.getD i 0).toNat (i : Int) := by
  unfold undoneTo
  rw [List.range_succ, List.foldl_append]
  rfl
theorem undoneTo_len (t : List Int) : ∀ i, (undoneTo t i).length = t.length
  | 0 => rfl
  | i + 1 => by rw [undoneTo_succ, List.length_set, undoneTo_len t i]
theorem fit_undoneTo {n : Nat} {t : List Int} (f : Fit n t) : ∀ i, i ≤ n → Fit n (undoneTo t i)
  | 0, _ => f
  | i + 1, h => by
    have ih := fit_undoneTo f i (by omega)
    rw [undoneTo_succ]
    refine ⟨by rw [List.length_set]; exact ih.len, fun x hx => ?_⟩
    rcases List.mem_or_eq_of_mem_set hx with hx | rfl
    · exact ih.rng x hx
    · omega
theorem fit_undone {n : Nat} {t : List Int} (f : Fit n t) : Fit n (undone t) := fit_undoneTo f _ (by rw [f.len]; exact Nat.le_refl _)

/-! ### groups -/
structure JS where
  size : Nat
  above : List Nat
  turning : List (List Int)
  many : List Int
  room : List (List Int)
def JS.none_ (n : Nat) : JS := ⟨n, [], [], [], []⟩
def addJ (J : JS) : JS := ⟨J.size, J.above ++ [J.above.length], J.turning ++ [still J.size], J.many ++ [1], J.room ++ [still J.size]⟩
def par (A : List Nat) (i : Nat) : Nat := A.getD i i
def up (A : List Nat) : Nat → Nat → Nat
  | 0, i => i
  | k + 1, i => up A k (par A i)
def headStep (J : JS) (s : Nat × List Int) : Option (Nat × List Int) :=
  if par J.above s.1 = s.1 then none else some (par J.above s.1, led s.2 (J.turning.getD s.1 []))
noncomputable def head (J : JS) (i : Nat) : Nat × List Int := fin (headStep J) (i, still J.size)
noncomputable def across (J : JS) (i j : Nat) (t : List Int) : List Int := led (led (undone (head J i).2) t) (head J j).2
noncomputable def keptRoom (J : JS) (i j : Nat) (t : List Int) : List Int :=
  if (head J i).1 = (head J j).1 then (J.room.getD (head J i).1 []).filter fun x => decide ((across J i j t).getD x.toNat 0 = x)
  else (J.room.getD (head J i).1 []).filter fun x => decide ((across J i j t).getD x.toNat 0 ∈ J.room.getD (head J j).1 [])
noncomputable def tieJ (J : JS) (i j : Nat) (t : List Int) : JS × Bool :=
  if keptRoom J i j t = [] then (J, false)
  else
    let a := (head J i).1
    let b := (head J j).1
    if a ≠ b ∧ J.many.getD a 0 < J.many.getD b 0 then
      (⟨J.size, J.above.set a b, J.turning.set a (across J i j t), J.many.set b (J.many.getD b 0 + J.many.getD a 0), J.room.set b (srt ((keptRoom J i j t).map fun x => (across J i j t).getD x.toNat 0))⟩, true)
    else if a ≠ b then
      (⟨J.size, J.above.set b a, J.turning.set b (undone (across J i j t)), J.many.set a (J.many.getD a 0 + J.many.getD b 0), J.room.set a (keptRoom J i j t)⟩, true)
    else (⟨J.size, J.above, J.turning, J.many, J.room.set a (keptRoom J i j t)⟩, true)
noncomputable def sayJ (J : JS) (i : Nat) (x : Int) : JS × Bool :=
  if (head J i).2.getD x.toNat 0 ∈ J.room.getD (head J i).1 [] then (⟨J.size, J.above, J.turning, J.many, J.room.set (head J i).1 [(head J i).2.getD x.toNat 0]⟩, true)
  else (J, false)
noncomputable def openAt (J : JS) (i : Nat) : List Int := srt ((J.room.getD (head J i).1 []).map fun x => (undone (head J i).2).getD x.toNat 0)
def dealtTo (J : JS) (n : Nat) : Int := (List.range n).foldl (fun acc i => if par J.above i = i then acc * ((J.room.getD i []).length : Int) else acc) 1
def dealt (J : JS) : Int := dealtTo J J.above.length

structure JOk (n : Nat) (J : JS) : Prop where
  s1 : 1 ≤ J.size
  s8 : J.size ≤ 8
  la : J.above.length = n
  lt : J.turning.length = n
  lm : J.many.length = n
  lr : J.room.length = n
  ab : ∀ (i x : Nat), J.above[i]? = some x → x < n
  tu : ∀ t ∈ J.turning, Fit J.size t
  ro : ∀ r ∈ J.room, r.length ≤ 8 ∧ ∀ x ∈ r, 0 ≤ x ∧ x < J.size
  ac : ∀ i, i < n → ∃ k, par J.above (up J.above k i) = up J.above k i

theorem par_lt {n : Nat} {J : JS} (o : JOk n J) {i : Nat} (h : i < n) : J.above[i]? = some (par J.above i) ∧ par J.above i < n := by
  have hl : i < J.above.length := by rw [o.la]; exact h
  have e : J.above[i]? = some J.above[i] := List.getElem?_eq_getElem hl
  have e2 : par J.above i = J.above[i] := by unfold par; rw [List.getD_eq_getElem?_getD, e]; rfl
  rw [e2]; exact ⟨e, o.ab i _ e⟩
theorem turn_at {n : Nat} {J : JS} (o : JOk n J) {i : Nat} (h : i < n) : J.turning[i]? = some (J.turning.getD i []) ∧ Fit J.size (J.turning.getD i []) := by
  have hl : i < J.turning.length := by rw [o.lt]; exact h
  have e : J.turning[i]? = some J.turning[i] := List.getElem?_eq_getElem hl
  have e2 : J.turning.getD i [] = J.turning[i] := by rw [List.getD_eq_getElem?_getD, e]; rfl
  rw [e2]; exact ⟨e, o.tu _ (List.getElem_mem hl)⟩
theorem room_at {n : Nat} {J : JS} (o : JOk n J) {i : Nat} (h : i < n) : J.room[i]? = some (J.room.getD i []) ∧ (J.room.getD i []).length ≤ 8 ∧ ∀ x ∈ J.room.getD i [], 0 ≤ x ∧ x < J.size := by
  have hl : i < J.room.length := by rw [o.lr]; exact h
  have e : J.room[i]? = some J.room[i] := List.getElem?_eq_getElem hl
  have e2 : J.room.getD i [] = J.room[i] := by rw [List.getD_eq_getElem?_getD, e]; rfl
  rw [e2]; exact ⟨e, o.ro _ (List.getElem_mem hl)⟩
theorem many_at {n : Nat} {J : JS} (o : JOk n J) {i : Nat} (h : i < n) : J.many[i]? = some (J.many.getD i 0) := by
  have hl : i < J.many.length := by rw [o.lm]; exact h
  have e : J.many[i]? = some J.many[i] := List.getElem?_eq_getElem hl
  rw [List.getD_eq_getElem?_getD, e]; rfl
theorem up_lt {n : Nat} {J : JS} (o : JOk n J) : ∀ (k i : Nat), i < n → up J.above k i < n
  | 0, _, h => h
  | k + 1, i, h => up_lt o k _ (par_lt o h).2
theorem head_over {J : JS} : ∀ (k i : Nat) (t : List Int), par J.above (up J.above k i) = up J.above k i → Over (headStep J) k (i, t)
  | 0, i, t, h => by
    have h' : par J.above i = i := h
    show headStep J (i, t) = none
    unfold headStep
    rw [if_pos h']
  | k + 1, i, t, h => by
    by_cases e : par J.above i = i
    · exact over_zero (by unfold headStep; rw [if_pos e]) _
    · refine over_back (t := (par J.above i, led t (J.turning.getD i []))) (by unfold headStep; rw [if_neg e]) (head_over k (par J.above i) _ h)
theorem headOver {n : Nat} {J : JS} (o : JOk n J) {i : Nat} (h : i < n) (t : List Int) : ∃ k, Over (headStep J) k (i, t) := by
  obtain ⟨k, e⟩ := o.ac i h
  exact ⟨k, head_over k i t e⟩
/-- what a turn of head's loop keeps -/
theorem head_keeps {n : Nat} {J : JS} (o : JOk n J) (s s' : Nat × List Int) (h : s.1 < n ∧ Fit J.size s.2) (e : headStep J s = some s') : s'.1 < n ∧ Fit J.size s'.2 := by
  unfold headStep at e
  split at e
  · cases e
  · cases e
    exact ⟨(par_lt o h.1).2, fit_led h.2 (turn_at o h.1).2⟩
theorem head_ok {n : Nat} {J : JS} (o : JOk n J) {i : Nat} (h : i < n) : (head J i).1 < n ∧ Fit J.size (head J i).2 ∧ par J.above (head J i).1 = (head J i).1 := by
  obtain ⟨k, ov⟩ := headOver o h (still J.size)
  have e : head J i = iter (headStep J) k (i, still J.size) := fin_eq ov
  have r := iter_inv (f := headStep J) (fun s => s.1 < n ∧ Fit J.size s.2) (head_keeps o) k (i, still J.size) ⟨h, fit_still _⟩
  rw [← e] at r
  refine ⟨r.1, r.2, ?_⟩
  have ov' : headStep J (iter (headStep J) k (i, still J.size)) = none := ov
  rw [← e] at ov'
  unfold headStep at ov'
  split at ov'
  · assumption
  · cases ov'
theorem across_fit {n : Nat} {J : JS} (o : JOk n J) {i j : Nat} {t : List Int} (hi : i < n) (hj : j < n) (ht : Fit J.size t) : Fit J.size (across J i j t) :=
  fit_led (fit_led (fit_undone (head_ok o hi).2.1) ht) (head_ok o hj).2.1
theorem kept_ok {n : Nat} {J : JS} (o : JOk n J) {i j : Nat} {t : List Int} (hi : i < n) (hj : j < n) : (keptRoom J i j t).length ≤ 8 ∧ ∀ x ∈ keptRoom J i j t, 0 ≤ x ∧ x < J.size := by
  have r := (room_at o (head_ok o hi).1).2
  unfold keptRoom
  split
  · exact ⟨Nat.le_trans (List.length_filter_le _ _) r.1, fun x hx => r.2 x (List.mem_filter.mp hx).1⟩
  · exact ⟨Nat.le_trans (List.length_filter_le _ _) r.1, fun x hx => r.2 x (List.mem_filter.mp hx).1⟩

theorem jok_none {n : Nat} (h1 : 1 ≤ n) (h8 : n ≤ 8) : JOk 0 (JS.none_ n) :=
  ⟨h1, h8, rfl, rfl, rfl, rfl, fun i x e => by simp [JS.none_] at e, fun t ht => by simp [JS.none_] at ht, fun t ht => by simp [JS.none_] at ht, fun i h => by omega⟩
theorem par_app {A : List Nat} {i x : Nat} (h : i < A.length) : par (A ++ [x]) i = par A i := by
  unfold par
  rw [List.getD_eq_getElem?_getD, List.getD_eq_getElem?_getD, List.getElem?_append_left h]
theorem up_app {n x : Nat} {J : JS} (o : JOk n J) : ∀ (k i : Nat), i < n → up (J.above ++ [x]) k i = up J.above k i
  | 0, _, _ => rfl
  | k + 1, i, h => by
    show up _ k (par _ i) = up _ k (par _ i)
    rw [par_app (by rw [o.la]; exact h)]
    exact up_app o k _ (par_lt o h).2
theorem jok_add {n : Nat} {J : JS} (o : JOk n J) : JOk (n + 1) (addJ J) := by
  refine ⟨o.s1, o.s8, by simp [addJ, o.la], by simp [addJ, o.lt], by simp [addJ, o.lm], by simp [addJ, o.lr], fun i x e => ?_, fun t ht => ?_, fun r hr => ?_, fun i h => ?_⟩
  · have e' : (J.above ++ [J.above.length])[i]? = some x := e
    by_cases hi : i < J.above.length
    · rw [List.getElem?_append_left hi] at e'
      have := o.ab i x e'
      omega
    · rw [List.getElem?_append_right (by omega)] at e'
      have hx : x = J.above.length := by
        cases hk : i - J.above.length with
        | zero => rw [hk] at e'; exact (Option.some.inj e').symm
        | succ m => rw [hk] at e'; simp at e'
      rw [o.la] at hx
      omega
  · rcases List.mem_append.mp ht with ht | ht
    · exact o.tu t ht
    · rw [List.mem_singleton.mp ht]; exact fit_still _
  · rcases List.mem_append.mp hr with hr | hr
    · exact o.ro r hr
    · rw [List.mem_singleton.mp hr]
      exact ⟨by rw [still_len]; exact o.s8, (fit_still _).rng⟩
  · show ∃ k, par (J.above ++ [J.above.length]) (up (J.above ++ [J.above.length]) k i) = _
    by_cases hi : i < n
    · obtain ⟨k, e⟩ := o.ac i hi
      exact ⟨k, by
        show par (J.above ++ [J.above.length]) (up (J.above ++ [J.above.length]) k i) = up (J.above ++ [J.above.length]) k i
        rw [up_app o k i hi, par_app (by rw [o.la]; exact up_lt o k i hi)]
        exact e⟩
    · have e : i = J.above.length := by rw [o.la]; omega
      refine ⟨0, ?_⟩
      show par (J.above ++ [J.above.length]) i = i
      subst e
      unfold par
      rw [List.getD_eq_getElem?_getD]
      simp
theorem par_set {A : List Nat} {a b i : Nat} (h : i < A.length) : par (A.set a b) i = if a = i then b else par A i := by
  unfold par
  rw [List.getD_eq_getElem?_getD, List.getD_eq_getElem?_getD, List.getElem?_set]
  by_cases e : a = i
  · subst e; simp [h]
  · simp [e]
/-- one root hung below another -/
theorem ac_set {n : Nat} {J : JS} (o : JOk n J) {a b : Nat} (hb : b < n) (hab : a ≠ b) (rb : par J.above b = b) :
    ∀ (k i : Nat), i < n → par J.above (up J.above k i) = up J.above k i → ∃ m, par (J.above.set a b) (up (J.above.set a b) m i) = up (J.above.set a b) m i
  | 0, i, h, e => by
    by_cases ha : a = i
    · refine ⟨1, ?_⟩
      have e1 : par (J.above.set a b) i = b := by rw [par_set (by rw [o.la]; exact h), if_pos ha]
      show par (J.above.set a b) (par (J.above.set a b) i) = par (J.above.set a b) i
      rw [e1, par_set (by rw [o.la]; exact hb), if_neg hab]
      exact rb
    · refine ⟨0, ?_⟩
      show par (J.above.set a b) i = i
      rw [par_set (by rw [o.la]; exact h), if_neg ha]
      exact e
  | k + 1, i, h, e => by
    by_cases ha : a = i
    · refine ⟨1, ?_⟩
      have e1 : par (J.above.set a b) i = b := by rw [par_set (by rw [o.la]; exact h), if_pos ha]
      show par (J.above.set a b) (par (J.above.set a b) i) = par (J.above.set a b) i
      rw [e1, par_set (by rw [o.la]; exact hb), if_neg hab]
      exact rb
    · obtain ⟨m, q⟩ := ac_set o hb hab rb k (par J.above i) (par_lt o h).2 e
      refine ⟨m + 1, ?_⟩
      have e1 : par (J.above.set a b) i = par J.above i := by rw [par_set (by rw [o.la]; exact h), if_neg ha]
      show par (J.above.set a b) (up (J.above.set a b) m (par (J.above.set a b) i)) = up (J.above.set a b) m (par (J.above.set a b) i)
      rw [e1]
      exact q
theorem mem_set_or {α : Type} {l : List α} {i : Nat} {x y : α} (h : y ∈ l.set i x) : y ∈ l ∨ y = x := List.mem_or_eq_of_mem_set h
theorem get_set_or {l : List Nat} {i j x y : Nat} (h : (l.set i x)[j]? = some y) : l[j]? = some y ∨ y = x := by
  rw [List.getElem?_set] at h
  split at h
  · split at h
    · exact .inr (Option.some.inj h).symm
    · cases h
  · exact .inl h
theorem jok_tie {n : Nat} {J : JS} (o : JOk n J) {i j : Nat} {t : List Int} (hi : i < n) (hj : j < n) (ht : Fit J.size t) : JOk n (tieJ J i j t).1 := by
  have a1 := head_ok o hi
  have b1 := head_ok o hj
  have kr := kept_ok o hi hj (t := t)
  have af := across_fit o hi hj ht
  unfold tieJ
  split
  · exact o
  · dsimp only
    split
    · rename_i hc
      refine ⟨o.s1, o.s8, by rw [List.length_set]; exact o.la, by rw [List.length_set]; exact o.lt, by rw [List.length_set]; exact o.lm, by rw [List.length_set]; exact o.lr, fun i x e => ?_, fun t ht => ?_, fun r hr => ?_, fun i h => ?_⟩
      · rcases get_set_or e with e | rfl
        · exact o.ab i x e
        · exact b1.1
      · rcases mem_set_or ht with ht | rfl
        · exact o.tu t ht
        · exact af
      · rcases mem_set_or hr with hr | rfl
        · exact o.ro r hr
        · refine ⟨by rw [srt_len, List.length_map]; exact kr.1, fun x hx => ?_⟩
          obtain ⟨y, hy, rfl⟩ := List.mem_map.mp (srt_mem.mp hx)
          have q := kr.2 y hy
          exact (af.get q.1 q.2).2
      · obtain ⟨k, e⟩ := o.ac i h
        exact ac_set o b1.1 hc.1 b1.2.2 k i h e
    · split
      · rename_i hc
        refine ⟨o.s1, o.s8, by rw [List.length_set]; exact o.la, by rw [List.length_set]; exact o.lt, by rw [List.length_set]; exact o.lm, by rw [List.length_set]; exact o.lr, fun i x e => ?_, fun t ht => ?_, fun r hr => ?_, fun i h => ?_⟩
        · rcases get_set_or e with e | rfl
          · exact o.ab i x e
          · exact a1.1
        · rcases mem_set_or ht with ht | rfl
          · exact o.tu t ht
          · exact fit_undone af
        · rcases mem_set_or hr with hr | rfl
          · exact o.ro r hr
          · exact kr
        · obtain ⟨k, e⟩ := o.ac i h
          exact ac_set o a1.1 (Ne.symm hc) a1.2.2 k i h e
      · refine ⟨o.s1, o.s8, o.la, o.lt, o.lm, by rw [List.length_set]; exact o.lr, o.ab, o.tu, fun r hr => ?_, o.ac⟩
        rcases mem_set_or hr with hr | rfl
        · exact o.ro r hr
        · exact kr
theorem jok_say {n : Nat} {J : JS} (o : JOk n J) {i : Nat} {x : Int} (hi : i < n) (h0 : 0 ≤ x) (hx : x < J.size) : JOk n (sayJ J i x).1 := by
  unfold sayJ
  split
  · refine ⟨o.s1, o.s8, o.la, o.lt, o.lm, by rw [List.length_set]; exact o.lr, o.ab, o.tu, fun r hr => ?_, o.ac⟩
    rcases mem_set_or hr with hr | rfl
    · exact o.ro r hr
    · refine ⟨by simp, fun y hy => ?_⟩
      rw [List.mem_singleton.mp hy]
      exact ((head_ok o hi).2.1.get h0 hx).2
  · exact o
theorem tie_size (J : JS) (i j : Nat) (t : List Int) : (tieJ J i j t).1.size = J.size := by
  unfold tieJ
  split
  · rfl
  · dsimp only
    split
    · rfl
    · split <;> rfl
theorem say_size (J : JS) (i : Nat) (x : Int) : (sayJ J i x).1.size = J.size := by
  unfold sayJ; split <;> rfl
theorem dealtTo_succ (J : JS) (n : Nat) : dealtTo J (n + 1) = if par J.above n = n then dealtTo J n * ((J.room.getD n []).length : Int) else dealtTo J n := by
  unfold dealtTo
  rw [List.range_succ, List.foldl_append]
  rfl
theorem dealt_bound {n : Nat} {J : JS} (o : JOk n J) : ∀ i, i ≤ n → 0 ≤ dealtTo J i ∧ dealtTo J i ≤ 8 ^ i
  | 0, _ => ⟨(by show (0 : Int) ≤ 1; decide), (by show (1 : Int) ≤ 8 ^ 0; decide)⟩
  | i + 1, h => by
    obtain ⟨h0, h1⟩ := dealt_bound o i (by omega)
    rw [dealtTo_succ]
    have e8 : (8 : Int) ^ (i + 1) = 8 ^ i * 8 := by rw [Int.pow_succ]
    split
    · have r := (room_at o (i := i) (by omega)).2.1
      have r' : ((J.room.getD i []).length : Int) ≤ 8 := by omega
      have r0 : (0 : Int) ≤ ((J.room.getD i []).length : Int) := by omega
      refine ⟨Int.mul_nonneg h0 r0, ?_⟩
      rw [e8]
      exact Int.mul_le_mul h1 r' r0 (Int.le_trans h0 h1)
    · refine ⟨h0, ?_⟩
      rw [e8]
      omega
end Kin
set_option maxHeartbeats 4000000
/-! K02: rules of our own over the hand layer. -/
namespace Kin
open PySem PySem.Spec PyProof.Rows L2 ClX

section
variable {X : Cx}

/-! ### xs == [] of a list of anything -/
def rEqNil (K : PySem.W.Frag) : R2 := fun x y H Q =>
  ∃ (p q : Addr) (xs : List V), x = .ref p ∧ y = .ref q ∧ SqL K H p xs ∧ SqL K H q [] ∧ Q (.bl xs.isEmpty) H
theorem op_eqNil (hu : X.A.units + 64 < cLine) : OpR X (compareOp .Eq) (rEqNil X.K) := by
  intro pins s σ H x y v u Q I rx ry h
  obtain ⟨p, q, xs, rfl, rfl, h1, h2, k⟩ := h
  cases rx
  cases ry
  obtain ⟨its, r1, l1, _⟩ := I.list h1
  obtain ⟨its2, r2, l2, _⟩ := I.list h2
  have e2 : its2 = [] := by cases r2; rfl
  subst e2
  have hu' : X.A.units < cLine := by omega
  cases xs with
  | nil =>
    have e1 : its = [] := by cases r1; rfl
    subst e1
    exact PySem.SeqAt.eq_listAt (e := fun _ => true) l1.isList l2.isList rfl hu'
      (fun j a _ => absurd a (by simp)) ⟨.bl true, H, I, rfl, k⟩
  | cons a r =>
    cases r1
    exact PySem.SeqAt.eq_list_lengthsAt l1.isList l2.isList (by simp) hu' ⟨.bl false, H, I, rfl, k⟩

/-! ### xs[i] += e : the read -/
def gList (K : PySem.W.Frag) : V → V → Hp → VK → Prop := fun o i H Q =>
  ∃ (p : Addr) (xs : List V) (j : Nat) (v : V), o = .ref p ∧ i = .int (j : Nat) ∧ SqL K H p xs ∧ xs[j]? = some v ∧ Q v H
theorem get_list : PGet X (gList X.K) := by
  intro pins s σ H o i ov iv Q I ro ri h
  obtain ⟨p, xs, j, v, rfl, rfl, h1, h2, k⟩ := h
  cases ro
  obtain ⟨t, rfl⟩ := ri
  obtain ⟨its, r, pl, hz⟩ := I.list h1
  obtain ⟨w, ew, rw'⟩ := r.get h2
  have hl := r.length
  have hj : j < xs.length := (List.getElem?_eq_some_iff.mp h2).1
  have hn := line63
  exact wpAny_getItem_list pl.isList (by omega) (by omega) (by simpa using ew) ⟨v, H, I, rw', k⟩

/-! ### text * number -/
def rMulS : R2 := fun x y H Q => ∃ (z : Str) (n : Int), x = .str z ∧ y = .int n ∧ MulOk z n ∧ Q (.str (Txt.mul z n)) H
theorem op_mulS : OpR X (binaryOp .Mult) rMulS := by
  intro pins s σ H x y v u Q I rx ry h
  obtain ⟨z, n, rfl, rfl, hz, k⟩ := h
  obtain ⟨t, rfl⟩ := rx
  obtain ⟨t', rfl⟩ := ry
  exact SB.mul hz fun t2 k2 => ⟨.str _, H, I.tok k2, ⟨_, rfl⟩, k⟩

/-! ### d.update(e), two dicts -/
def rUpd : V → List V → Hp → VK → Prop := fun x xs H Q =>
  ∃ (a b : Addr) (kvs more : List (Key × V)), x = .ref a ∧ xs = [.ref b] ∧ a ≠ b ∧ H a = some (.dK kvs) ∧ H b = some (.dK more) ∧
    kvs.length + more.length ≤ sizeLine ∧ Q .non (upd H a (.dK (mergeK kvs more)))
theorem mt_upd : MtR X "dict.update" rUpd := by
  intro pins s σ H x xs v us Q I rx rxs h
  obtain ⟨a, b, kvs, more, rfl, rfl, hab, ha, hb, hz, k⟩ := h
  cases rx
  obtain ⟨u, rfl, ru⟩ := vals1 rxs
  cases ru
  obtain ⟨z1, d1, vs1, r1, dd1⟩ := dk_of I.hok ha
  obtain ⟨z2, d2, vs2, r2, dd2⟩ := dk_of I.hok hb
  refine call_meetsIn PySem.F.slot_dict_update dd1.typeIs PySem.F.entry_dict_update (PySem.F.args_dict_update_2 _ _)
    (meets_dict_update (mixKind X.prog X.w) a b hab d2) ⟨vs1, vs2, dd1, dd2, by rw [← r1.length, ← r2.length]; exact hz, fun h' dd' _ hs => ?_⟩
  have he : ∃ q, h'.get? a = some q := let ⟨q, _, _, hq, _⟩ := dd'; ⟨q, hq⟩
  have hl : (mergeK kvs more).length ≤ sizeLine := Nat.le_trans (length_mergeK more kvs) hz
  exact ⟨.non, _, d_write (t' := s.toks) I (by rw [ha]; exact True.intro) hs he (dk_new hl d1 (KV.merge r2 r1) dd'), rfl, k⟩
end

/-! ### sorted(d), d a dict of int keys, any number of them -/
section
variable {X : Cx}
def rSortedD : List V → Hp → VK → Prop := fun xs H Q => ∃ (a : Addr) (kvs : List (Key × V)) (ks : List Int), xs = [.ref a] ∧ Rd H a (.dK kvs) ∧ kvs.map (·.1) = ks.map Sum.inl ∧
  ∀ (ys : List Int) (p : Addr), ys.Perm ks → ys.Pairwise (· ≤ ·) → H p = none → Q (.ref p) (upd H p (.lst (ys.map V.int)))
theorem call_sortedAny (hcalm : X.calm = true) : CallR X (.builtin "sorted") rSortedD := by
  intro pins s σ H xs us Q I r q
  obtain ⟨a, kvs, ks, rfl, hd, hks, q⟩ := q
  obtain ⟨u, rfl, rx⟩ := vals1 r
  cases rx
  obtain ⟨z, lo, vs, rel, dd⟩ := dk_rd I.hok hd
  obtain ⟨ep, hat⟩ := dd.dictAt
  have hkeys : vs.map (·.1) = ks.map Sum.inl := (KV.keys rel).symm.trans hks
  have hl : vs.length = ks.length := by
    have e := congrArg List.length hkeys
    simpa using e
  have h16 : vs.length ≤ sizeLine := by rw [← rel.length]; exact z
  refine Calls.call_function_entry kind_sorted plain_sorted entry_sorted (args_sorted1 _) ?_
  unfold Builtin.«sorted»
  refine wpAny_bind (m := checkCount "sorted" 1 1 _) (wpAny_pure ?_)
  refine wpAny_bind (PySem.W.kdu_collect (A := X.A.in1) (PySem.W.kdl_dict (knd := mixKind X.prog X.w) (kvs := vs) (ep := ep) lo) (I.ok.hd hcalm) hat h16
    fun h' tk acc hk hacc => ?_)
  have hal : acc.toList.length = ks.length := by
    rw [Array.length_toList, hacc.1, hl]
  have hS : IntsAre acc.toList ks := ints_each hal fun j v e => by
    obtain ⟨k, x, e1, e2⟩ := hacc.2 j v (by simpa using e)
    have e3 : (vs.map (·.1))[j]? = some k := by simp [List.getElem?_map, e1]
    rw [hkeys, List.getElem?_map] at e3
    cases e4 : ks[j]? with
    | none => simp [e4] at e3
    | some y =>
      have e5 : Sum.inl y = k := by simpa [e4] using e3
      subst e5
      rcases keyIs_shape (show keyIs (Sum.inl y) v = true from e2) with ⟨i, t, ek, ev⟩ | ⟨z, t, ek, ev⟩
      · cases ek
        exact ⟨y, t, rfl, ev⟩
      · cases ek
  have I1 : Inv X pins σ H { s with heap := h', toks := tk } := I.kept hk
  have hz : acc.toList.length ≤ sizeLine := by rw [hal, ← hl]; exact h16
  refine wpAny_bind (wpAny_newList ?_ hz)
  have ho : (h'.push (seqObj "list" acc.toList.toArray 0)).get? h'.objs.size = some (seqObj "list" acc.toList.toArray 0) := Heap.get?_push_size _ rfl
  have hv : Vals (ks.map V.int) acc.toList := vals_of_ints hS
  have hv2 : (ks.map V.int).length ≤ sizeLine := by rw [List.length_map, ← hal]; exact hz
  have I2 : Inv X pins σ (upd H h'.objs.size (.lst (ks.map V.int))) { s with heap := h'.push (seqObj "list" acc.toList.toArray 0), toks := tk } :=
    I1.laid (t' := tk) (fun _ _ e => Heap.get?_push_of_some _ e) (Nat.le_refl _) (show ObjOk X.prog X.w _ _ _ (.lst (ks.map V.int)) from ⟨hv2, acc.toList, 0, hv, ho⟩)
  have fresh := I1.hok.fresh (a := h'.objs.size) (Nat.le_refl _)
  show wpAny _ _ _ _ _ { s with heap := h'.push (seqObj "list" acc.toList.toArray 0), toks := tk }
  refine wpAny_bind (wpAny_holding ?_)
  refine wpAny_call_entry slot_list_sort ⟨_, ho, rfl⟩ entry_list_sort (SrtO.list_sort_ord SrtO.swo_int ho hz (fun h2 => SrtO.ints_sortable hS h2) fun out h1 h2 => ⟨.none, rfl, ?_⟩) (args_list_sort _)
  obtain ⟨k1, k2, k3⟩ := SrtO.ints_out hS h1 h2
  obtain ⟨e', he'⟩ := sortedHeap_at (vs := acc.toList) (out := out.toArray) ho
  have hlen : ((out.map SrtO.iv).map V.int).length ≤ sizeLine := by
    rw [List.length_map, k2.length_eq, ← hal]; exact hz
  refine wpAny_pure ⟨_, rfl, .ref h'.objs.size, upd H h'.objs.size (.lst ((out.map SrtO.iv).map V.int)), ?_, rfl, q _ _ k2 k3 fresh⟩
  refine I1.laid (t' := tk) (fun b u e => ?_) (Nat.le_refl _) (show ObjOk X.prog X.w _ _ _ (.lst ((out.map SrtO.iv).map V.int)) from ⟨hlen, out, e', vals_of_ints k1, he'⟩)
  have hb : b < h'.objs.size := Heap.lt_size e
  rw [sortedHeap_old (Nat.ne_of_lt hb) (by rw [size_push']; exact Nat.lt_succ_of_lt hb)]
  exact Heap.get?_push_of_some _ e
end

/-! ### C.m(e, ..), m a plain def of the class C -/
section
variable {X : Cx} {CX : CXT} {C f : Addr} {k : Nat} {fd : FuncData} {ps : List Str} {sp : Sp} {E : XK} {m : Str} {o e : Expr} {es : List Expr} {ta : TE} {t : TA} {apos pos : Pos}
/-- C.m read off the class is the def at f -/
structure CFn (K : PySem.W.Frag) (C : Addr) (m : Str) (f : Addr) : Prop where
  rd : ∃ mc, CRead K C mc ∧ PySem.W.findCls K (.ref C) mc m = some (.val (.ref f))
  kp : PySem.W.keepIn K (.ref f) = true
def tCFn (C : Addr) (sp : Sp) (E : XK) (ta : TE) (t : TA) : TE := fun σ H Q => ta σ H fun x H1 => x = .ref C ∧ t σ H1 fun vs H2 => sp vs H2 Q E
theorem pe_cfn {pl : Sem Bool} (c : CFn X.K C m f) (F : FnOk X.prog X.w X.K X.mg X.base CX k f fd ps sp) (hr : Room k X.A) (hb : Binds X.K fd ps []) (hx : Passes CX X E) (ho : PE X o ta) (ha : PA X (e :: es) t)
    (hc : eval (.Call (.Attribute o m apos) (e :: es) [] pos) X.env = (do
      let ov ← eval o X.env
      standAt apos.atName
      let (f, first) ← holding [ov] (getMethod ov m pl)
      callWith pos f first (backTo pos (starEach (e :: es) X.env)) (backToKw pos (keywordEach [] X.env))) := by rfl)
    (he : starEach (e :: es) X.env = (false, eval e X.env) :: starEach es X.env := by rfl) (hpl : (backTo pos (starEach es X.env)).any (·.1) = false := by rfl) :
    PE X (.Call (.Attribute o m apos) (e :: es) [] pos) (tCFn C sp E ta t) := by
  refine ⟨fun pins s σ H Q I h => ?_⟩
  obtain ⟨⟨mc, r, cf⟩, kp⟩ := c
  refine PySem.W.methodCall_KW (thn (ho.run pins s σ H _ I h) fun u s1 hh => ?_) hc
  obtain ⟨x, H1, I1, r1, rfl, q1⟩ := hh
  cases r1
  refine PySem.W.method_cls I1.kIn r.ga (PySem.W.cls_value I1.kIn r.rd cf (by rfl) ?_)
  have I2 : Inv X pins σ H1 { s1 with toks := s1.toks + 1 } := I1.tok _
  refine PySem.W.callWith_K (h₀ := X.base) I.ok.mod.kin kp (thn (ha.run pos pins _ σ H1 _ I2 q1) fun us s2 ⟨vs, H2, I3, rr, q⟩ => ⟨I3.kIn, ?_⟩) he hpl
  have q' : sp (vs ++ []) H2 Q E := by rw [List.append_nil]; exact q
  exact run_fn F hr hb .nil hx I3 rr q'
end
end Kin

namespace Kin
open PySem PySem.Spec PyProof.Rows L2 ClX
/-! ### C() of an own exception class whose __init__ is a def of the text: no arguments, or several -/
section
variable {X : Cx}
/-- what an own exception's making asks of the text: the class, its __init__ -/
structure Oex (K : PySem.W.Frag) (C fI : Addr) : Prop where
  cl : OexC K C
  ini : PySem.W.findIn K (.ref C) "__init__" = some (some (.ref fI))
  ty : PySem.W.typeIn K (.ref fI) = some (.type "function")
def kMk (C : Addr) (sp : Sp) (vs : List V) (H1 : Hp) (Q : XK) : Prop :=
  ∀ a, H1 a = none → sp (.ref a :: vs) (upd H1 a (exo a C none))
    (fun v H2 => v = .non ∧ ∃ (d : Addr) (fs : List (Str × V)), H2 a = some (exo a C (some d)) ∧ H2 d = some (exd d fs) ∧ H1 d = none ∧ Q (.ref C) (some d) (upd (del H2 a) d (.xd fs)))
    (fun _ _ _ => False)
theorem mk_run {CX : CXT} {C fI : Addr} {k : Nat} {fd : FuncData} {ps : List Str} {sp : Sp} (T : Oex X.K C fI) (F1 : FnOk X.prog X.w X.K X.mg X.base CX k fI fd ps sp) (hr : Room (k + 1) X.A) (hb : Binds X.K fd ps [])
    (hx : Passes CX X (fun _ _ _ => False)) {pins : List (Addr × Obj)} {σ : L2.St} {H1 : Hp} {s1 : Shared} {vs : List V} {us : List Value} {Q : XK} (I1 : Inv X pins σ H1 s1) (r1 : Vals vs us) (hz : vs.length ≤ 1000) (q1 : kMk C sp vs H1 Q) :
    wpAny (model X.prog X.w) X.A (call (.ref C) us) (MkP X pins σ Q) X.xe s1 := by
  obtain ⟨nm, q, N, bs, bm, sn, sub, ab, col, dd, k0, k1, k2, k3, k5, hC, hbm⟩ := T.cl.cls
  obtain ⟨hp, g, dr, tk, os⟩ := s1
  have hsz : hp.objs.size ≤ hp.objs.size + 1 := Nat.le_succ _
  have hq := q1 (hp.objs.size + 1) (I1.hok.fresh hsz)
  let hp2 := (hp.push (PySem.W.kdv_tup us)).push (PySem.HandSPX.excO C hp.objs.size)
  have kk : ∀ b o, hp.get? b = some o → hp2.get? b = some o :=
    fun b o e => Heap.get?_push_of_some _ (Heap.get?_push_of_some _ e)
  have hget : hp2.get? (hp.objs.size + 1) = some (PySem.HandSPX.excO C hp.objs.size) := by
    show Heap.get? ((hp.push _).push _) _ = _
    heap_get
  have I2 : Inv X pins σ (upd H1 (hp.objs.size + 1) (exo (hp.objs.size + 1) C none)) ⟨hp2, g, dr, tk, os⟩ :=
    I1.laid (t' := tk) (a := hp.objs.size + 1) (o := exo (hp.objs.size + 1) C none) (h' := hp2) kk hsz (exo_ok hget)
  have r2 : Vals (V.ref (hp.objs.size + 1) :: vs) (Value.ref (hp.objs.size + 1) :: us) := .cons rfl r1
  have hl : (Value.ref (hp.objs.size + 1) :: us ++ []).length = ps.length := by
    have e := r2.length
    rw [F1.len _ _ _ _ hq] at e
    simpa using e.symm
  have hus : us.length ≤ sizeLine := by
    rw [← Paired.length r1, sizeLine_eq]
    omega
  have bnd := hb ⟨hp2, g, dr, tk, os⟩ (Value.ref (hp.objs.size + 1) :: us) I2.kIn hl
  rw [List.append_nil] at bnd
  refine wpAny_call (PySem.HandSPX.call_own F.excBase_ValueError (fun Y => PySem.HandSPX.refsVE_contains Y bm hbm) (I1.kIn _ _ hC)
    (PySem.W.looks_findIn I1.kIn T.ini) (fun self => PySem.W.bind_fn I1.kIn self T.ty) hus ?_)
  refine codeAny_mono (F1.run _ X.stack _ _ ⟨Value.ref (hp.objs.size + 1) :: us, []⟩ _ _ _ (fun _ _ _ => False) (hr.make C us [])
    (I2.env0.make C us []) bnd r2 hq) fun r s' hq' => ?_
  cases r with
  | error er => exact hx pins σ _ _ er s' I2 hq'
  | ok fl =>
    cases fl with
    | ret u =>
      obtain ⟨v, H2, os2, bare2, un2, hok2, rv, ev, d, fs, ea, ed, hd1, q2⟩ := hq'
      subst ev
      obtain ⟨h2, g2, d2, t2, os'⟩ := s'
      exact ⟨rv, mk_end (raises_own T.cl.exC T.cl.tyC) I1 hsz kk un2 hok2 os2 bare2 ea ed hd1 q2⟩
    | next => exact False.elim hq'
    | brk => exact False.elim hq'
    | cont => exact False.elim hq'
theorem pmk_0 {CX : CXT} {x : Str} {C fI : Addr} {k : Nat} {fd : FuncData} {ps : List Str} {sp : Sp} {p pos : Pos} (T : Oex X.K C fI) (F1 : FnOk X.prog X.w X.K X.mg X.base CX k fI fd ps sp) (hr : Room (k + 1) X.A) (hb : Binds X.K fd ps [])
    (hx : Passes CX X (fun _ _ _ => False)) (hg : Gl X x) (hm : X.mg x = some (.ref C)) (hdb : (x == ("__debug__" : Str)) = false := by decide) :
    PMk X (.Call (.Name x p) [] [] pos) (fun _ H Q => kMk C sp [] H Q) := by
  intro pins s σ H Q I h
  refine wpAny_Call_Name_kw (ld_glob I hg hm ?_ hdb)
  exact PySem.W.callWith_K0 I.kIn T.cl.kC (mk_run (us := []) T F1 hr hb hx I .nil (Nat.zero_le _) h)
theorem pmk_n {CX : CXT} {x : Str} {C fI : Addr} {k : Nat} {fd : FuncData} {ps : List Str} {sp : Sp} {e : Expr} {es : List Expr} {ta : TA} {p pos : Pos} (T : Oex X.K C fI) (F1 : FnOk X.prog X.w X.K X.mg X.base CX k fI fd ps sp) (hr : Room (k + 1) X.A) (hb : Binds X.K fd ps [])
    (hx : Passes CX X (fun _ _ _ => False)) (hg : Gl X x) (hm : X.mg x = some (.ref C)) (ha : PA X (e :: es) ta) (hdb : (x == ("__debug__" : Str)) = false := by decide)
    (he : starEach (e :: es) X.env = (false, eval e X.env) :: starEach es X.env := by rfl) (hpl : (backTo pos (starEach es X.env)).any (·.1) = false := by rfl) :
    PMk X (.Call (.Name x p) (e :: es) [] pos) (fun σ H Q => ta σ H fun vs H1 => vs.length ≤ 1000 ∧ kMk C sp vs H1 Q) := by
  intro pins s σ H Q I h
  refine wpAny_Call_Name_kw (ld_glob I hg hm ?_ hdb)
  refine PySem.W.callWith_K (h₀ := X.base) I.ok.mod.kin T.cl.kC (thn (ha.run pos pins s σ H _ I h) fun us s1 ⟨vs, H1, I1, r1, hz, q1⟩ => ⟨I1.kIn, ?_⟩) he hpl
  exact mk_run T F1 hr hb hx I1 r1 hz q1
end
end Kin
set_option maxHeartbeats 4000000
/-! K04: what the top has left (Txt), defs by their names (GF, GM, GK), refusals. -/
namespace Kin
open PySem L2

/-! ### errors -/
/-- an own error class: made by its __init__ at mt C "__init__", caught by except KinError, its word read -/
structure Err (K : PySem.W.Frag) (B C fI : Addr) : Prop where
  oex : Oex K C fI
  xf : XfC K C
  nw : PySem.W.findIn K (.ref C) "word" = some none
  ex : PySem.W.exmOne K (.ref C) (.ref B) = some true
def adr (g : Str → Addr) (mt : Str → Str → Addr) : Str × Option Str → Addr
  | (x, none) => g x
  | (x, some m) => mt x m
structure Txt (w : World) (K : PySem.W.Frag) (mg : Str → Option Value) (g : Str → Addr) (mt : Str → Str → Addr) : Prop where
  glo : ∀ x ∈ gloNames, mg x = some (.ref (g x))
  free : ∀ x ∈ freeNames, mg x = none
  cls : ∀ x ∈ clsNames, Cls K (g x)
  noat : ∀ p ∈ attrNames, NoAttr K (g p.1) p.2
  meth : ∀ p ∈ methNames, Meth K (g p.1) p.2 (mt p.1 p.2)
  mkr : ∀ x ∈ clsNames, Mk K (g x) (mt x "__init__")
  err : ∀ x ∈ errNames, Err K (g "KinError") (g x) (mt x "__init__")
  cfn : CFn K (g "KinError") "__init__" (mt "KinError" "__init__")
  fn : ∀ (i : Nat) (d : He.DefD), fnAll[i]? = some d → ∃ fd, FunD K d.name d.qual d.params d.body d.scope [] [] (adr g mt d.at_) fd
  iLong : ∃ t, mg "LONGEST" = some (.int 12 t)
  iFig : ∃ t, mg "MOST_FIGURES" = some (.int 9 t)
  iFew : ∃ t, mg "FEWEST" = some (.int 2 t)
  iMost : ∃ t, mg "MOST" = some (.int 8 t)
  sLet : ∃ t, mg "LETTERS" = some (.str "abcdefghijklmnopqrstuvwxyz" t)
  sSig : ∃ t, mg "SIGNS" = some (.str "abcdefghijklmnopqrstuvwxyz0123456789" t)
  sFig : ∃ t, mg "FIGURES" = some (.str "0123456789" t)
  tab : ∀ x ∈ tabNames, mg x = some (.ref (g x)) ∧ ∃ es n, KDict K w (g x) es n
  val : ∀ q ∈ tabVals, match q.2.2 with
    | none => PySem.W.nsIn K (g q.1) q.2.1 = some none
    | some d => ∃ u, PySem.W.nsIn K (g q.1) q.2.1 = some (some u) ∧ RelV (TV.v g d) u
  asks : mg "ASKS" = some (.ref (g "ASKS")) ∧ ∀ H, SqT K H (g "ASKS") [.str "who", .str "count", .str "road"]

/-- a def: its function object and how its arguments bind -/
structure FB (K : PySem.W.Frag) (nm qual : Str) (st : Stmt) (ps : List Str) (f : Addr) : Prop where
  ex : ∃ fd, FunD K nm qual (defArgs st) (defBody st) (defScope st) [] [] f fd ∧ Binds K fd ps []
theorem Txt.fb {w : World} {K : PySem.W.Frag} {mg : Str → Option Value} {g : Str → Addr} {mt : Str → Str → Addr} (T : Txt w K mg g mt) {i : Nat} {at_ : Str × Option Str} {nm qual : Str} {st : Stmt} {ps : List Str} {f : Addr}
    (h : fnAll[i]? = some (dOf at_ nm qual st)) (hf : adr g mt at_ = f)
    (hb : ∀ (kV doc pm : Value) (an : Option Addr) (cdv ct : Value) (us : List Value), us.length = ps.length →
      bindArgs (PySem.W.fnOf nm qual (defArgs st) (defBody st) (defScope st) .none kV doc pm an cdv ct) ⟨us, []⟩ = pure (ps.zip us)) : FB K nm qual st ps f := by
  obtain ⟨fd, F⟩ := T.fn i _ h
  subst hf
  exact ⟨fd, F, F.bindsN hb⟩

/-! ### defs by their names -/
structure GF (P : Program) (w : World) (K : PySem.W.Frag) (mg : Str → Option Value) (base : Heap) (CX : CXT) (k : Nat) (x : Str) (sp : Sp) : Prop where
  ex : ∃ f fd ps, FnOk P w K mg base CX k f fd ps sp ∧ mg x = some (.ref f) ∧ PySem.W.keepIn K (.ref f) = true ∧ Binds K fd ps []
structure GM (P : Program) (w : World) (K : PySem.W.Frag) (mg : Str → Option Value) (base : Heap) (CX : CXT) (k : Nat) (C : Addr) (m : Str) (sp : Sp) : Prop where
  cl : Cls K C
  ex : ∃ f fd ps, FnOk P w K mg base CX k f fd ps sp ∧ Meth K C m f ∧ Binds K fd ps []
structure GK (P : Program) (w : World) (K : PySem.W.Frag) (mg : Str → Option Value) (base : Heap) (CX : CXT) (k : Nat) (x : Str) (C : Addr) (sp : Sp) : Prop where
  nm : mg x = some (.ref C)
  ex : ∃ f fd ps, FnOk P w K mg base CX k f fd ps sp ∧ Mk K C f ∧ Binds K fd ps []
section
variable {P : Program} {w : World} {K : PySem.W.Frag} {mg : Str → Option Value} {base : Heap} {CX : CXT} {N ps : List Str} {k : Nat} {sp : Sp} {st : Stmt} {nm qual x m : Str} {f C : Addr}
/-- what a def's body is to show -/
abbrev Bd (P : Program) (w : World) (K : PySem.W.Frag) (mg : Str → Option Value) (base : Heap) (CX : CXT) (N : List Str) (k : Nat) (sp : Sp) (st : Stmt) (qual : Str) (f : Addr) : Prop :=
  ∀ (cdv : Value) (A : Around) (outer : List Env) (s : Shared) (H : Hp) (vs : List V) (Q : VK) (E : XK), Room k (A.deeper (PyProof.Rows.envOfC qual (defScope st) s.heap.objs.size f cdv)) → sp vs H Q E →
    ∃ t, PSs (cxOf CX P w K mg base N qual (defScope st) f cdv A outer s H E) (defBody st) t ∧ t { nx := fun _ H' => Q .non H', rt := Q } (start N vs) H
abbrev Bd0 (P : Program) (w : World) (K : PySem.W.Frag) (mg : Str → Option Value) (base : Heap) (N : List Str) (k : Nat) (sp : Sp) (st : Stmt) (qual : Str) (f : Addr) : Prop :=
  ∀ (cdv : Value) (A : Around) (outer : List Env) (s : Shared) (H : Hp) (vs : List V) (Q : VK) (E : XK), Room k (A.deeper (PyProof.Rows.envOfC qual (defScope st) s.heap.objs.size f cdv)) → sp vs H Q E →
    ∃ t, PSs (cxOf CX0 P w K mg base N qual (defScope st) f cdv A outer s H E).nox (defBody st) t ∧ t { nx := fun _ H' => Q .non H', rt := Q } (start N vs) H
theorem FB.fnX (F : FB K nm qual st ps f) (S : FnScope N ps (defScope st)) (len : ∀ vs H Q E, sp vs H Q E → vs.length = ps.length) (hb : Bd P w K mg base CX N k sp st qual f) :
    ∃ fd, FnOk P w K mg base CX (k + 1) f fd ps sp ∧ PySem.W.keepIn K (.ref f) = true ∧ Binds K fd ps [] := by
  obtain ⟨fd, Fd, b⟩ := F.ex
  exact ⟨fd, Fd.ok S len hb, Fd.kp, b⟩
theorem FB.fn0 (F : FB K nm qual st ps f) (S : FnScope N ps (defScope st)) (len : ∀ vs H Q E, sp vs H Q E → vs.length = ps.length) (hb : Bd0 P w K mg base N k sp st qual f) :
    ∃ fd, FnOk P w K mg base CX0 (k + 1) f fd ps sp ∧ PySem.W.keepIn K (.ref f) = true ∧ Binds K fd ps [] :=
  F.fnX S len fun cdv A outer s H vs Q E hr h => let ⟨t, h1, h2⟩ := hb cdv A outer s H vs Q E hr h; ⟨t, h1.nox, h2⟩
theorem gf0 (F : FB K x qual st ps f) (hx : mg x = some (.ref f)) (S : FnScope N ps (defScope st)) (len : ∀ vs H Q E, sp vs H Q E → vs.length = ps.length) (hb : Bd0 P w K mg base N k sp st qual f) : GF P w K mg base CX0 (k + 1) x sp := by
  obtain ⟨fd, h1, h2, h3⟩ := F.fn0 S len hb
  exact ⟨f, fd, ps, h1, hx, h2, h3⟩
theorem gfX (F : FB K x qual st ps f) (hx : mg x = some (.ref f)) (S : FnScope N ps (defScope st)) (len : ∀ vs H Q E, sp vs H Q E → vs.length = ps.length) (hb : Bd P w K mg base (L2.CX P w) N k sp st qual f) : GF P w K mg base (L2.CX P w) (k + 1) x sp := by
  obtain ⟨fd, h1, h2, h3⟩ := F.fnX S len hb
  exact ⟨f, fd, ps, h1, hx, h2, h3⟩
theorem gm0 (F : FB K m qual st ps f) (c : Cls K C) (hm : Meth K C m f) (S : FnScope N ps (defScope st)) (len : ∀ vs H Q E, sp vs H Q E → vs.length = ps.length) (hb : Bd0 P w K mg base N k sp st qual f) : GM P w K mg base CX0 (k + 1) C m sp := by
  obtain ⟨fd, h1, h2, h3⟩ := F.fn0 S len hb
  exact ⟨c, f, fd, ps, h1, hm, h3⟩
theorem gmX (F : FB K m qual st ps f) (c : Cls K C) (hm : Meth K C m f) (S : FnScope N ps (defScope st)) (len : ∀ vs H Q E, sp vs H Q E → vs.length = ps.length) (hb : Bd P w K mg base (L2.CX P w) N k sp st qual f) : GM P w K mg base (L2.CX P w) (k + 1) C m sp := by
  obtain ⟨fd, h1, h2, h3⟩ := F.fnX S len hb
  exact ⟨c, f, fd, ps, h1, hm, h3⟩
theorem gk0 (F : FB K nm qual st ps f) (hx : mg x = some (.ref C)) (hm : Mk K C f) (S : FnScope N ps (defScope st)) (len : ∀ vs H Q E, sp vs H Q E → vs.length = ps.length) (hb : Bd0 P w K mg base N k sp st qual f) : GK P w K mg base CX0 (k + 1) x C sp := by
  obtain ⟨fd, h1, h2, h3⟩ := F.fn0 S len hb
  exact ⟨hx, f, fd, ps, h1, hm, h3⟩
theorem gkX (F : FB K nm qual st ps f) (hx : mg x = some (.ref C)) (hm : Mk K C f) (S : FnScope N ps (defScope st)) (len : ∀ vs H Q E, sp vs H Q E → vs.length = ps.length) (hb : Bd P w K mg base (L2.CX P w) N k sp st qual f) : GK P w K mg base (L2.CX P w) (k + 1) x C sp := by
  obtain ⟨fd, h1, h2, h3⟩ := F.fnX S len hb
  exact ⟨hx, f, fd, ps, h1, hm, h3⟩
end

/-! ### the calls' rules -/
def tG (sp : Sp) (E : XK) (t : TA) : TE := fun σ H Q => t σ H fun vs H1 => sp vs H1 Q E
def tGm (C : Addr) (m : Str) (sp : Sp) (E : XK) (ta : TE) (t : TA) : TE := fun σ H Q => ta σ H fun x H1 => ∃ a dx fs, x = .ref a ∧ H1 a = some (.ins C dx fs) ∧ fs.lookup m = none ∧ t σ H1 fun vs H2 => sp (x :: vs) H2 Q E
def tGk (C : Addr) (sp : Sp) (E : XK) (t : TA) : TE := fun σ H Q => t σ H fun vs H1 => ∀ x dx, H1 x = none → H1 dx = none → dx ≠ x →
  sp (.ref x :: vs) (upd (upd H1 dx (.own x)) x (.ins C dx [])) (fun v H2 => v = .non ∧ Q (.ref x) H2) E
theorem PE.of {X : Cx} {e : Expr} {t t' : TE} (h : PE X e t) (i : ∀ σ H Q, t' σ H Q → t σ H Q) : PE X e t' := ⟨fun pins s σ H Q I q => h.run pins s σ H Q I (i σ H Q q)⟩
section
variable {X : Cx} {CX : CXT} {k j : Nat} {x m : Str} {C : Addr} {sp : Sp} {E : XK} {p pos apos : Pos} {o e : Expr} {es : List Expr} {ta : TE} {t : TA}
theorem app_nil_fun {β : Type} (f : List V → β) : (fun vs : List V => f (vs ++ [])) = f := funext fun vs => by rw [List.append_nil]
theorem pe_gf (G : GF X.prog X.w X.K X.mg X.base CX k x sp) (hr : Room j X.A) (hx : Passes CX X E) (ha : PA X (e :: es) t) (hk : k ≤ j := by decide) (hg : Gl X x := by rfl) (hdb : (x == ("__debug__" : Str)) = false := by decide)
    (he : starEach (e :: es) X.env = (false, eval e X.env) :: starEach es X.env := by rfl) (hpl : (backTo pos (starEach es X.env)).any (·.1) = false := by rfl) : PE X (.Call (.Name x p) (e :: es) [] pos) (tG sp E t) := by
  obtain ⟨f, fd, ps, F, hm, kp, b⟩ := G.ex
  refine PE.of (pe_call F (hr.mono hk) hg hm kp b .nil hx ha hdb he hpl) fun σ H Q h => ?_
  show t σ H fun vs H1 => sp (vs ++ []) H1 Q E
  rw [app_nil_fun fun vs H1 => sp vs H1 Q E]
  exact h
theorem pe_gm {pl : Sem Bool} (G : GM X.prog X.w X.K X.mg X.base CX k C m sp) (ho : PE X o ta) (hr : Room j X.A) (hx : Passes CX X E) (ha : PA X (e :: es) t) (hk : k ≤ j := by decide)
    (hst : starEach (e :: es) X.env = (false, eval e X.env) :: starEach es X.env := by rfl) (hpl : (backTo pos (starEach es X.env)).any (·.1) = false := by rfl)
    (ht : eval (.Call (.Attribute o m apos) (e :: es) [] pos) X.env = (do
      let ov ← eval o X.env
      standAt apos.atName
      let (f, first) ← holding [ov] (getMethod ov m pl)
      callWith pos f first (backTo pos (starEach (e :: es) X.env)) (backToKw pos (keywordEach [] X.env))) := by rfl) :
    PE X (.Call (.Attribute o m apos) (e :: es) [] pos) (tGm C m sp E ta t) := by
  obtain ⟨f, fd, ps, F, hm, b⟩ := G.ex
  refine PE.of (pe_meth ho G.cl hm F (hr.mono hk) b .nil hx ha hst hpl ht) fun σ H Q h => ?_
  show ta σ H fun y H1 => ∃ a dx fs, y = .ref a ∧ H1 a = some (.ins C dx fs) ∧ fs.lookup m = none ∧ t σ H1 fun vs H2 => sp (y :: (vs ++ [])) H2 Q E
  have e0 : ∀ y : V, (fun (vs : List V) H2 => sp (y :: (vs ++ [])) H2 Q E) = fun vs H2 => sp (y :: vs) H2 Q E := fun y => app_nil_fun fun vs H2 => sp (y :: vs) H2 Q E
  have e1 : (fun (y : V) (H1 : Hp) => ∃ a dx fs, y = .ref a ∧ H1 a = some (.ins C dx fs) ∧ fs.lookup m = none ∧ t σ H1 fun vs H2 => sp (y :: (vs ++ [])) H2 Q E)
      = fun y H1 => ∃ a dx fs, y = .ref a ∧ H1 a = some (.ins C dx fs) ∧ fs.lookup m = none ∧ t σ H1 fun vs H2 => sp (y :: vs) H2 Q E := by
    funext y H1
    rw [e0 y]
  rw [e1]
  exact h
theorem pe_gm0 {pl : Sem Bool} (G : GM X.prog X.w X.K X.mg X.base CX k C m sp) (ho : PE X o ta) (hr : Room j X.A) (hx : Passes CX X E) (hk : k ≤ j := by decide)
    (ht : eval (.Call (.Attribute o m apos) [] [] pos) X.env = (do
      let ov ← eval o X.env
      standAt apos.atName
      let (f, first) ← holding [ov] (getMethod ov m pl)
      callWith pos f first (backTo pos (starEach [] X.env)) (backToKw pos (keywordEach [] X.env))) := by rfl) :
    PE X (.Call (.Attribute o m apos) [] [] pos) (tGm C m sp E ta tNil) := by
  obtain ⟨f, fd, ps, F, hm, b⟩ := G.ex
  exact PE.of (pe_meth0 ho G.cl hm F (hr.mono hk) b .nil hx ht) fun σ H Q h => h
theorem pe_gk (G : GK X.prog X.w X.K X.mg X.base CX k x C sp) (hr : Room j X.A) (hx : Passes CX X E) (ha : PA X (e :: es) t) (hk : k + 1 ≤ j := by decide) (hg : Gl X x := by rfl) (hdb : (x == ("__debug__" : Str)) = false := by decide)
    (he : starEach (e :: es) X.env = (false, eval e X.env) :: starEach es X.env := by rfl) (hpl : (backTo pos (starEach es X.env)).any (·.1) = false := by rfl) : PE X (.Call (.Name x p) (e :: es) [] pos) (tGk C sp E t) := by
  obtain ⟨f, fd, ps, F, hm, b⟩ := G.ex
  refine PE.of (pe_make hm F (hr.mono hk) hg G.nm b .nil hx ha hdb he hpl) fun σ H Q h => ?_
  show t σ H fun vs H1 => ∀ y dx, H1 y = none → H1 dx = none → dx ≠ y → sp (.ref y :: (vs ++ [])) (upd (upd H1 dx (.own y)) y (.ins C dx [])) (fun v H2 => v = .non ∧ Q (.ref y) H2) E
  rw [app_nil_fun fun (vs : List V) (H1 : Hp) => ∀ y dx, H1 y = none → H1 dx = none → dx ≠ y → sp (.ref y :: vs) (upd (upd H1 dx (.own y)) y (.ins C dx [])) (fun v H2 => v = .non ∧ Q (.ref y) H2) E]
  exact h
theorem pe_gk0 (G : GK X.prog X.w X.K X.mg X.base CX k x C sp) (hr : Room j X.A) (hx : Passes CX X E) (hk : k + 1 ≤ j := by decide) (hg : Gl X x := by rfl) (hdb : (x == ("__debug__" : Str)) = false := by decide) :
    PE X (.Call (.Name x p) [] [] pos) (tGk C sp E tNil) := by
  obtain ⟨f, fd, ps, F, hm, b⟩ := G.ex
  exact PE.of (pe_make0 hm F (hr.mono hk) hg G.nm b .nil hx hdb) fun σ H Q h => h
end

/-! ### the wish of a def that may raise -/
section
variable {X : Cx} {E : XK}
/-- own errors leave the def as its promise says -/
abbrev ownW (E : XK) : WX := fun cls d _ H => E cls d H
theorem passE {CXr : CXT} (tk : Takes X (ownW E)) (h : CXr = L2.CX X.prog X.w) : Passes CXr X E := by
  subst h
  exact passes_call tk fun _ _ _ _ z => z
end
/-- a refusal: the class, the word; all that was tracked stands -/
def Refused (K : PySem.W.Frag) (B : Addr) (wd : Str) (H : Hp) (cls : Value) (d : Option Addr) (H' : Hp) : Prop :=
  ∃ (C dd : Addr) (fs : List (Str × V)), cls = .ref C ∧ d = some dd ∧ XfC K C ∧ PySem.W.findIn K (.ref C) "word" = some none ∧ PySem.W.exmOne K (.ref C) (.ref B) = some true ∧
    H' dd = some (.xd fs) ∧ fs.lookup ("word" : Str) = some (.str wd) ∧ Same H H'
theorem Refused.back {K : PySem.W.Frag} {B : Addr} {wd : Str} {H0 H H' : Hp} {cls : Value} {d : Option Addr} (r : Refused K B wd H cls d H') (s : Same H0 H) : Refused K B wd H0 cls d H' := by
  obtain ⟨C, dd, fs, h1, h2, h3, h4, h5, h6, h7, h8⟩ := r
  exact ⟨C, dd, fs, h1, h2, h3, h4, h5, h6, h7, s.trans h8⟩
end Kin
set_option maxHeartbeats 4000000
/-! K60: what the head is to tell of the top, as one look (a Hook), and Txt from it. -/
namespace Kin
open PySem PySem.Spec PyProof.Rows L2
open He (eqO eqO_ok ba relB relB_ok ga ma)
/-! ### error classes -/
def oexB (K : PySem.W.Frag) (C : Addr) : Bool := match K.lookup C with
  | some ⟨.type "type", _, .cls cd, sl⟩ => (match cd.mro, sl.toList with
    | .ref C' :: bm, [_, _, _, _, some (.builtin n), _] => C' == C && (n == "ValueError.__new__" && (!cd.hasDel && (cd.hasDict && PySem.HandSPX.refsVE bm)))
    | _, _ => false)
  | _ => false
theorem oexB_ok {K : PySem.W.Frag} {C : Addr} (q : oexB K C = true) : ∃ nm q N bs bm sn sub ab col dd k0 k1 k2 k3 k5, K.lookup C = some (excClassObj nm q C N bs bm true sn sub ab col dd k0 k1 k2 k3 k5 "ValueError.__new__") ∧ PySem.HandSPX.refsVE bm = true := by
  unfold oexB at q
  split at q
  · rename_i dd cd sl ho
    split at q
    · rename_i C' bm k0 k1 k2 k3 n k5 hm hs
      obtain ⟨q1, q⟩ := ba q
      obtain ⟨q2, q⟩ := ba q
      obtain ⟨q3, q⟩ := ba q
      obtain ⟨q4, q5⟩ := ba q
      have e1 : C' = C := beq_iff_eq.mp q1
      have e2 : n = "ValueError.__new__" := beq_iff_eq.mp q2
      have e3 : cd.hasDel = false := by simpa using q3
      obtain ⟨nm, bs, mro, ns, qn, hd, sn, sub, ab, col, del⟩ := cd
      dsimp only at hm e3 q4
      subst hm e3 q4 e1 e2
      have hsl : sl = #[k0, k1, k2, k3, some (.builtin "ValueError.__new__"), k5] := by
        obtain ⟨l⟩ := sl
        simp only at hs
        rw [hs]
      subst hsl
      exact ⟨nm, qn, ns, bs, bm, sn, sub, ab, col, dd, k0, k1, k2, k3, k5, ho, q5⟩
    · cases q
  · cases q
def errB (K : PySem.W.Frag) (x : Str) : Bool :=
  oexB K (ga K x) && (eqO (PySem.W.findIn K (.ref (ga K x)) "__setattr__") (some (some (.builtin "object.__setattr__"))) && (decide (PySem.W.subIn K (.ref (ga K x)) (.type "BaseException") = some true) &&
    (decide (PySem.W.typeIn K (.ref (ga K x)) = some (.type "type")) && (PySem.W.keepIn K (.ref (ga K x)) && (eqO (PySem.W.findIn K (.ref (ga K x)) "__init__") (some (some (.ref (ma K (ga K x) "__init__")))) &&
    (decide (PySem.W.typeIn K (.ref (ma K (ga K x) "__init__")) = some (.type "function")) && (xfB K (ga K x) && (eqO (PySem.W.findIn K (.ref (ga K x)) "word") (some none) &&
    decide (PySem.W.exmOne K (.ref (ga K x)) (.ref (ga K "KinError")) = some true)))))))))
theorem errB_ok {K : PySem.W.Frag} {x : Str} (h : errB K x = true) : Err K (ga K "KinError") (ga K x) (ma K (ga K x) "__init__") := by
  obtain ⟨h1, h⟩ := ba h
  obtain ⟨h2, h⟩ := ba h
  obtain ⟨h3, h⟩ := ba h
  obtain ⟨h4, h⟩ := ba h
  obtain ⟨h5, h⟩ := ba h
  obtain ⟨h6, h⟩ := ba h
  obtain ⟨h7, h⟩ := ba h
  obtain ⟨h8, h⟩ := ba h
  obtain ⟨h9, h10⟩ := ba h
  exact ⟨⟨⟨oexB_ok h1, eqO_ok h2, of_decide_eq_true h3, of_decide_eq_true h4, h5⟩, eqO_ok h6, of_decide_eq_true h7⟩, xfB_ok h8, eqO_ok h9, of_decide_eq_true h10⟩
def cfnB (K : PySem.W.Frag) (x m : Str) : Bool :=
  PySem.W.readsIn K (ga K x) (.type "type") && (eqO (PySem.W.specialIn K (.ref (ga K x)) "__getattribute__") (some (some (.builtin "type.__getattribute__"))) &&
    ((match PySem.W.findCls K (.ref (ga K x)) (.type "type") m with
      | some (.val (.ref a)) => decide (a = ma K (ga K x) m)
      | _ => false) && PySem.W.keepIn K (.ref (ma K (ga K x) m))))
theorem cfnB_ok {K : PySem.W.Frag} {x m : Str} (h : cfnB K x m = true) : CFn K (ga K x) m (ma K (ga K x) m) := by
  obtain ⟨h1, h⟩ := ba h
  obtain ⟨h2, h⟩ := ba h
  obtain ⟨h3, h4⟩ := ba h
  refine ⟨⟨.type "type", ⟨h1, eqO_ok h2⟩, ?_⟩, h4⟩
  cases e : PySem.W.findCls K (.ref (ga K x)) (.type "type") m with
  | none => rw [e] at h3; cases h3
  | some f =>
    rw [e] at h3
    cases f with
    | val v =>
      cases v with
      | ref a =>
        have ea : a = ma K (ga K x) m := of_decide_eq_true h3
        rw [ea]
      | _ => cases h3
    | _ => cases h3
/-! ### tables -/
def valB (K : PySem.W.Frag) (q : Str × Str × Option TV) : Bool := match q.2.2 with
  | none => eqO (PySem.W.nsIn K (ga K q.1) q.2.1) (some none)
  | some d => (match PySem.W.nsIn K (ga K q.1) q.2.1 with
    | some (some u) => relB (TV.v (ga K) d) u
    | _ => false)
theorem valB_ok {K : PySem.W.Frag} {q : Str × Str × Option TV} (h : valB K q = true) : match q.2.2 with
    | none => PySem.W.nsIn K (ga K q.1) q.2.1 = some none
    | some d => ∃ u, PySem.W.nsIn K (ga K q.1) q.2.1 = some (some u) ∧ RelV (TV.v (ga K) d) u := by
  obtain ⟨t, k, d⟩ := q
  cases d with
  | none => exact eqO_ok h
  | some d =>
    have h : (match PySem.W.nsIn K (ga K t) k with
      | some (some u) => relB (TV.v (ga K) d) u
      | _ => false) = true := h
    show ∃ u, PySem.W.nsIn K (ga K t) k = some (some u) ∧ RelV (TV.v (ga K) d) u
    cases e : PySem.W.nsIn K (ga K t) k with
    | none => rw [e] at h; cases h
    | some o =>
      rw [e] at h
      cases o with
      | none => cases h
      | some u => exact ⟨u, rfl, relB_ok h⟩
/-! ### all of it -/
def txB (K : PySem.W.Frag) : Bool :=
  (gloNames.all fun x => (He.Fa.glo x).ok K) && ((freeNames.all fun x => (He.Fa.free x).ok K) && ((clsNames.all fun x => (He.Fa.cls x).ok K) && ((attrNames.all fun p => (He.Fa.noat p.1 p.2).ok K) &&
  ((methNames.all fun p => (He.Fa.meth p.1 p.2).ok K) && ((clsNames.all fun x => (He.Fa.mkr x).ok K) && ((errNames.all fun x => errB K x) && (cfnB K "KinError" "__init__" &&
  ((He.Fa.int "LONGEST" 12).ok K && ((He.Fa.int "MOST_FIGURES" 9).ok K && ((He.Fa.int "FEWEST" 2).ok K && ((He.Fa.int "MOST" 8).ok K && ((He.Fa.str "LETTERS" "abcdefghijklmnopqrstuvwxyz").ok K &&
  ((He.Fa.str "SIGNS" "abcdefghijklmnopqrstuvwxyz0123456789").ok K && ((He.Fa.str "FIGURES" "0123456789").ok K && ((tabNames.all fun x => (He.Fa.glo x).ok K) && ((tabVals.all fun q => valB K q) &&
  ((He.Fa.glo "ASKS").ok K && He.tupB K "ASKS" [.str "who", .str "count", .str "road"])))))))))))))))))
def tabs : List He.Tab := tabKeys.map fun p => ((fun K => ga K p.1), p.2)
def fnA : List He.DefD := fnPart0 ++ fnPart1
def fnB : List He.DefD := fnPart2 ++ fnPart3
abbrev LookT : Type := He.AlD × (He.AlT × Bool)
def lookK (K : PySem.W.Frag) : LookT := (He.obsD [] fnA K, (He.obsT [] fnB tabs K, txB K))
def valK (w : World) : LookT := (He.valD fnA, (He.valT fnB tabs w, true))
/-- what the module's names name, what that names, and so on: four times; and the interpreter's statics -/
def stepP (g : Addr → Option Obj) (as : List Addr) : List Addr := as.flatMap fun a => match g a with
  | some o => He.refsO o
  | none => []
def asP (g : Addr → Option Obj) : List Addr :=
  let l1 := stepP g [mainGlobals]
  let l2 := stepP g l1
  let l3 := stepP g l2
  let l4 := stepP g l3
  mainGlobals :: cStatics :: (l1 ++ (l2 ++ (l3 ++ l4)))
/-- the part of the heap that is looked at -/
def frP (g : Addr → Option Obj) : PySem.W.Frag := He.frG g (asP g)
def lookG (g : Addr → Option Obj) : LookT := lookK (frP g)
def SaysK (w : World) (K : PySem.W.Frag) : Prop := lookK K = valK w
def hookK : PySem.W.Hook where
  α := LookT
  obs := fun s => lookG s.heap.get?
  val := valK
  says := fun w h => ∃ K : PySem.W.Frag, K.In h ∧ SaysK w K
  of := fun _ _ e => ⟨_, He.frG_in, e⟩
  keeps := fun _ _ _ ⟨K, hK, c⟩ k => ⟨K, PySem.W.Frag.In.keeps hK k, c⟩
theorem lookG_eq {g : Addr → Option Obj} {s : Shared} (h : ∀ a, g a = s.heap.get? a) : lookG g = hookK.obs s := by
  have e : g = s.heap.get? := funext h
  rw [e] <;> rfl
theorem fn_plain : (fnAll.all fun d => d.dfl.isEmpty && d.kwd.isEmpty) = true := by kernel_rfl
theorem tab_key : ∀ x ∈ tabNames, ∃ (i : Nat) (ks : List Str), tabKeys[i]? = some (x, ks) := by
  intro x hx
  have hx : x ∈ tabKeys.map (·.1) := by
    have e : tabKeys.map (·.1) = tabNames := by kernel_rfl
    rw [e]; exact hx
  obtain ⟨p, hp, rfl⟩ := List.mem_map.mp hx
  obtain ⟨i, hi, e⟩ := List.getElem_of_mem hp
  exact ⟨i, p.2, by rw [List.getElem?_eq_getElem hi, e]⟩
theorem txt_of {w : World} {K : PySem.W.Frag} {h : Heap} {mg : Str → Option Value} (X : K.In h) (G : h.Ns mainGlobals mg) (c : SaysK w K) : Txt w K mg (ga K) (fun x m => ma K (ga K x) m) := by
  have cA : He.SaysD [] fnA K := congrArg Prod.fst c
  have cT : He.SaysT [] fnB tabs w K := congrArg (fun z : LookT => z.2.1) c
  have cB : txB K = true := congrArg (fun z : LookT => z.2.2) c
  obtain ⟨b1, cB⟩ := ba cB
  obtain ⟨b2, cB⟩ := ba cB
  obtain ⟨b3, cB⟩ := ba cB
  obtain ⟨b4, cB⟩ := ba cB
  obtain ⟨b5, cB⟩ := ba cB
  obtain ⟨b6, cB⟩ := ba cB
  obtain ⟨b7, cB⟩ := ba cB
  obtain ⟨b8, cB⟩ := ba cB
  obtain ⟨b9, cB⟩ := ba cB
  obtain ⟨b10, cB⟩ := ba cB
  obtain ⟨b11, cB⟩ := ba cB
  obtain ⟨b12, cB⟩ := ba cB
  obtain ⟨b13, cB⟩ := ba cB
  obtain ⟨b14, cB⟩ := ba cB
  obtain ⟨b15, cB⟩ := ba cB
  obtain ⟨b16, cB⟩ := ba cB
  obtain ⟨b17, cB⟩ := ba cB
  obtain ⟨b18, b19⟩ := ba cB
  refine {
    glo := fun x hx => He.glo_ok X G (List.all_eq_true.mp b1 x hx)
    free := fun x hx => He.free_ok X G (List.all_eq_true.mp b2 x hx)
    cls := fun x hx => He.cls_ok (List.all_eq_true.mp b3 x hx)
    noat := fun p hp => He.noat_ok (List.all_eq_true.mp b4 p hp)
    meth := fun p hp => He.meth_ok (List.all_eq_true.mp b5 p hp)
    mkr := fun x hx => He.mkr_ok (List.all_eq_true.mp b6 x hx)
    err := fun x hx => errB_ok (List.all_eq_true.mp b7 x hx)
    cfn := cfnB_ok b8
    fn := fun i d hd => ?_
    iLong := He.int_ok X G b9
    iFig := He.int_ok X G b10
    iFew := He.int_ok X G b11
    iMost := He.int_ok X G b12
    sLet := He.str_ok X G b13
    sSig := He.str_ok X G b14
    sFig := He.str_ok X G b15
    tab := fun x hx => ⟨He.glo_ok X G (List.all_eq_true.mp b16 x hx), ?_⟩
    val := fun q hq => valB_ok (List.all_eq_true.mp b17 q hq)
    asks := ⟨He.glo_ok X G b18, fun H => He.tupB_ok b19 H⟩ }
  · have hF : ∃ fd, FunD K d.name d.qual d.params d.body d.scope (d.dvs K) (d.kws K) (He.fAd K d.at_) fd := by
      have e : fnAll = fnA ++ fnB := by kernel_rfl
      rw [e] at hd
      by_cases hl : i < fnA.length
      · rw [List.getElem?_append_left hl] at hd
        exact cA.def_ i hd
      · rw [List.getElem?_append_right (by omega)] at hd
        exact cT.d.def_ _ hd
    obtain ⟨fd, F⟩ := hF
    have pl := List.all_eq_true.mp fn_plain d (List.mem_of_getElem? hd)
    obtain ⟨p1, p2⟩ := ba pl
    have e1 : d.dvs K = [] := by unfold He.DefD.dvs; rw [List.isEmpty_iff.mp p1]; rfl
    have e2 : d.kws K = [] := by unfold He.DefD.kws; rw [List.isEmpty_iff.mp p2]; rfl
    rw [e1, e2] at F
    have e3 : He.fAd K d.at_ = adr (ga K) (fun x m => ma K (ga K x) m) d.at_ := by
      obtain ⟨x, m⟩ := d.at_
      cases m <;> rfl
    rw [e3] at F
    exact ⟨fd, F⟩
  · obtain ⟨i, ks, hi⟩ := tab_key x hx
    exact cT.tab i (t := ((fun K => ga K x), ks)) (by unfold tabs; rw [List.getElem?_map, hi]; rfl)
end Kin
set_option maxHeartbeats 0
/-! K61: the top's run, by the kernel: four looks at its end, each once for each answer of the row of the world that it asks (one look at all would want too much memory). -/
namespace Kin
open PySem PySem.Spec PyProof.Rows
abbrev R : PySem.W.OpenRow := PySem.W.OpenLaw.row PySem.Challenge.rw_kinhearth_k53_whole_log_told_again
def looseK : List Str := (R.prog.main.scope.names.map (·.1)).filter fun x => !(x == "law") && !(x == "__name__")
open HandSHeadRun in
/-- the top's end, looked at by f -/
def EndIs {α : Type} (f : World → PySem.W.SharedT → α) (a : World → α) (w : World) : Prop :=
  ∀ os : OsState, (endF (stepQ (denQ tabQ) R.prog w) 20000 R.prog w os).map (fun s => f w s) = some (a w)
noncomputable def see0 (w : World) (s : PySem.W.SharedT) := (HandSHeadRun.looksF R.prog (PySem.W.boot_heap w.params) s.abs, HandSHeadRun.seenQ (PySem.W.view R.prog [96]) looseK (importedModules R.prog.main.body) (fun s => PySem.W.xlAt (PySem.W.view R.prog [96]) [] s && PySem.W.recOk R.toRowW.records s) s.abs)
def good0 (_ : World) := (true, PySem.W.openGood (PySem.W.view R.prog [96]) looseK)
def seeA (s : PySem.W.SharedT) : He.AlD := He.obsD [] fnA (frP (HandSHeadRun.getT s))
def seeB (s : PySem.W.SharedT) : He.AlT := He.obsT [] fnB tabs (frP (HandSHeadRun.getT s))
def seeC (s : PySem.W.SharedT) : Bool := txB (frP (HandSHeadRun.getT s))
def obK (s : PySem.W.SharedT) : LookT := lookG (HandSHeadRun.getT s)
theorem obK_eq (s : PySem.W.SharedT) : obK s = hookK.obs s.abs := lookG_eq (HandSHeadRun.getT_eq s)
theorem end0F (w : World) : EndIs see0 good0 (w.withFollow "special-get-raises" false) := by
  intro os
  kernel_rfl
theorem end0T (w : World) : EndIs see0 good0 (w.withFollow "special-get-raises" true) := by
  intro os
  kernel_rfl
theorem end0 (w : World) : EndIs see0 good0 w := PySem.W.byRow2 "special-get-raises" (P := fun w => EndIs see0 good0 w) end0F end0T w
theorem endAF (w : World) : EndIs (fun _ s => seeA s) (fun _ => He.valD fnA) (w.withFollow "special-get-raises" false) := by
  intro os
  kernel_rfl
theorem endAT (w : World) : EndIs (fun _ s => seeA s) (fun _ => He.valD fnA) (w.withFollow "special-get-raises" true) := by
  intro os
  kernel_rfl
theorem endA (w : World) : EndIs (fun _ s => seeA s) (fun _ => He.valD fnA) w := PySem.W.byRow2 "special-get-raises" (P := fun w => EndIs (fun _ s => seeA s) (fun _ => He.valD fnA) w) endAF endAT w
theorem endBF (w : World) : EndIs (fun _ s => seeB s) (He.valT fnB tabs) (w.withFollow "special-get-raises" false) := by
  intro os
  kernel_rfl
theorem endBT (w : World) : EndIs (fun _ s => seeB s) (He.valT fnB tabs) (w.withFollow "special-get-raises" true) := by
  intro os
  kernel_rfl
theorem endB (w : World) : EndIs (fun _ s => seeB s) (He.valT fnB tabs) w := PySem.W.byRow2 "special-get-raises" (P := fun w => EndIs (fun _ s => seeB s) (He.valT fnB tabs) w) endBF endBT w
theorem endCF (w : World) : EndIs (fun _ s => seeC s) (fun _ => true) (w.withFollow "special-get-raises" false) := by
  intro os
  kernel_rfl
theorem endCT (w : World) : EndIs (fun _ s => seeC s) (fun _ => true) (w.withFollow "special-get-raises" true) := by
  intro os
  kernel_rfl
theorem endC (w : World) : EndIs (fun _ s => seeC s) (fun _ => true) w := PySem.W.byRow2 "special-get-raises" (P := fun w => EndIs (fun _ s => seeC s) (fun _ => true) w) endCF endCT w
theorem four {σ A B C D E : Type} {x : Option σ} {f : σ → A × B} {u : σ → C} {v : σ → D} {y : σ → E} {ab : A × B} {c : C} {d : D} {e : E} (h0 : x.map f = some ab) (h1 : x.map u = some c) (h2 : x.map v = some d) (h3 : x.map y = some e) :
    x.map (fun s => ((f s).1, (f s).2, (u s, (v s, y s)))) = some (ab.1, ab.2, (c, (d, e))) := by
  cases x with
  | none => cases h0
  | some s =>
    have e0 : f s = ab := Option.some.inj h0
    have e1 : u s = c := Option.some.inj h1
    have e2 : v s = d := Option.some.inj h2
    have e3 : y s = e := Option.some.inj h3
    rw [← e0, ← e1, ← e2, ← e3]
    rfl
theorem runK (w : World) : HandSHeadRun.RunEq R (PySem.W.view R.prog [96]) hookK obK 20000 looseK w := fun os =>
  four (f := fun s => see0 w s) (u := seeA) (v := seeB) (y := seeC) (ab := good0 w) (c := He.valD fnA) (d := He.valT fnB tabs w) (e := true) (end0 w os) (endA w os) (endB w os) (endC w os)
end Kin
set_option maxHeartbeats 4000000
/-! K03: the program as plain functions: lands, books, deeds, roads, desks. -/
namespace Kin
open PySem L2

/-! ### lands -/
structure LS where
  size : Nat
  mother : List Int
  father : List Int
  wife : List Int
structure LOk (L : LS) : Prop where
  s2 : 2 ≤ L.size
  s8 : L.size ≤ 8
  m : Fit L.size L.mother
  f : Fit L.size L.father
  w : Fit L.size L.wife
def stepOf (L : LS) (k : Str) : List Int :=
  if k = "mother" then undone L.mother else if k = "father" then undone L.father else if k = "wed" then L.wife else still L.size
theorem fit_step {L : LS} (o : LOk L) (k : Str) : Fit L.size (stepOf L k) := by
  unfold stepOf
  split
  · exact fit_undone o.m
  · split
    · exact fit_undone o.f
    · split
      · exact o.w
      · exact fit_still _
def isTurn (t : List Int) : Bool := decide (t.Nodup ∧ ∀ x ∈ t, 0 ≤ x ∧ x < (t.length : Int))
theorem fit_turn {t : List Int} (h : isTurn t = true) : Fit t.length t := ⟨rfl, (of_decide_eq_true h).2⟩
def landOf (m w : List Int) : Except Str LS :=
  if isTurn m = true ∧ isTurn w = true ∧ m.length = w.length ∧ isTurn (led w m) = true ∧ 2 ≤ m.length ∧ m.length ≤ 8 then .ok ⟨m.length, m, led w m, w⟩ else .error "no land"
theorem landOf_ok {m w : List Int} {L : LS} (h : landOf m w = .ok L) : LOk L := by
  unfold landOf at h
  split at h
  · rename_i c
    obtain ⟨c1, c2, c3, c4, c5, c6⟩ := c
    cases h
    have fw : Fit m.length w := by rw [c3]; exact fit_turn c2
    exact ⟨c5, c6, fit_turn c1, fit_led fw (fit_turn c1), fw⟩
  · cases h

/-! ### facts, the state of a book -/
structure Fact where
  kind : Str
  one : Str
  other : V
  deriving DecidableEq
structure BS where
  names : List Str
  side : List (Key × V)
  facts : List (Int × Fact)
  after : Int
structure HS where
  land : LS
  st : BS
  place : List (Key × V)
  joins : JS
  past : List BS
  ahead : List BS
def nameOf : V → Str
  | .str s => s
  | _ => ""
def secOf : V → Int
  | .int i => i
  | _ => 0
def IsTie (k : Str) : Prop := k = "mother" ∨ k = "father" ∨ k = "wed" ∨ k = "sibling"
inductive FactOk (size : Nat) (names : List Str) : Fact → Prop where
  | said {one : Str} {s : Int} (h : one ∈ names) (h0 : 0 ≤ s) (h1 : s < size) : FactOk size names ⟨"said", one, .int s⟩
  | tie {k one other : Str} (hk : IsTie k) (h : one ∈ names) (h' : other ∈ names) : FactOk size names ⟨k, one, .str other⟩
theorem FactOk.mono {size : Nat} {ns ms : List Str} {f : Fact} (h : FactOk size ns f) (s : ∀ x ∈ ns, x ∈ ms) : FactOk size ms f := by
  cases h with
  | said a b c => exact .said (s _ a) b c
  | tie k a b => exact .tie k (s _ a) (s _ b)
def letters26 : Str := "abcdefghijklmnopqrstuvwxyz"
def signs36 : Str := "abcdefghijklmnopqrstuvwxyz0123456789"
def isName (x : Str) : Bool := match x.cps.toList with
  | [] => false
  | c :: r => decide (x.length ≤ 12) && (decide (c ∈ letters26.cps.toList) && (c :: r).all fun d => decide (d ∈ signs36.cps.toList))
/-- a side -/
def Sx (s : Str) : Prop := s = "man" ∨ s = "woman"
structure BOk (m size : Nat) (b : BS) : Prop where
  ln : b.names.length ≤ m
  nd : b.names.Nodup
  ls : b.side.length ≤ m
  sd : ∀ n ∈ b.names, ∃ s, valV b.side (.inr n) = some (.str s) ∧ Sx s
  ds : ∀ n v, valV b.side (.inr n) = some v → n ∈ b.names
  lf : b.facts.length ≤ m
  fo : ∀ p ∈ b.facts, FactOk size b.names p.2
  a0 : 0 ≤ b.after
  am : b.after ≤ (m : Int)
  fa : ∀ p ∈ b.facts, p.1 < b.after
  nk : ∀ n ∈ b.names, isName n = true
theorem BOk.mono {m m' size : Nat} {b : BS} (o : BOk m size b) (h : m ≤ m') : BOk m' size b :=
  ⟨Nat.le_trans o.ln h, o.nd, Nat.le_trans o.ls h, o.sd, o.ds, Nat.le_trans o.lf h, o.fo, o.a0, by have := o.am; omega, o.fa, o.nk⟩

/-! ### the groups built anew -/
def idx (pl : List (Key × V)) (n : Str) : Nat := match valV pl (.inr n) with
  | some (.int i) => i.toNat
  | _ => 0
def PlOk (n : Nat) (names : List Str) (pl : List (Key × V)) : Prop :=
  (∀ x ∈ names, (valV pl (.inr x)).isSome = true) ∧ ∀ x v, valV pl (.inr x) = some v → x ∈ names ∧ v = .int (idx pl x : Nat) ∧ idx pl x < n
def placeTo (size : Nat) (names : List Str) : List (Key × V) × JS :=
  names.foldl (fun p n => (putK p.1 (.inr n) (.int (p.2.above.length : Nat)), addJ p.2)) ([], JS.none_ size)
noncomputable def factJ (L : LS) (pl : List (Key × V)) (J : JS) (f : Fact) : JS :=
  if f.kind = "said" then (sayJ J (idx pl f.one) (secOf f.other)).1 else (tieJ J (idx pl f.one) (idx pl (nameOf f.other)) (stepOf L f.kind)).1
noncomputable def factsJ (L : LS) (pl : List (Key × V)) (J : JS) (fs : List (Int × Fact)) : JS := fs.foldl (fun J q => factJ L pl J q.2) J
noncomputable def joinsOf (L : LS) (b : BS) : JS := factsJ L (placeTo L.size b.names).1 (placeTo L.size b.names).2 b.facts
noncomputable def goTo (h : HS) (b : BS) : HS := { h with st := b, place := (placeTo h.land.size b.names).1, joins := joinsOf h.land b }

theorem idx_put {pl : List (Key × V)} {x y : Str} {k : Nat} : idx (putK pl (.inr x) (.int (k : Nat))) y = if y = x then k else idx pl y := by
  unfold idx
  rw [valV_put]
  by_cases e : y = x
  · subst e; simp
  · have : ¬ (Sum.inr y : Key) = Sum.inr x := fun q => e (Sum.inr.inj q)
    simp [e]
theorem plok_put {n : Nat} {names : List Str} {pl : List (Key × V)} (h : PlOk n names pl) (x : Str) : PlOk (n + 1) (names ++ [x]) (putK pl (.inr x) (.int (n : Nat))) := by
  refine ⟨fun y hy => ?_, fun y v e => ?_⟩
  · rw [valV_put]
    by_cases c : (Sum.inr y : Key) = Sum.inr x
    · rw [if_pos c]; rfl
    · rw [if_neg c]
      rcases List.mem_append.mp hy with hy | hy
      · exact h.1 y hy
      · exact absurd (congrArg Sum.inr (List.mem_singleton.mp hy)) c
  · rw [valV_put] at e
    rw [idx_put]
    by_cases c : y = x
    · subst c
      rw [if_pos rfl] at e ⊢
      exact ⟨by simp, (Option.some.inj e).symm, by omega⟩
    · rw [if_neg (fun q => c (Sum.inr.inj q))] at e
      rw [if_neg c]
      obtain ⟨a, b, d⟩ := h.2 y v e
      exact ⟨List.mem_append_left _ a, b, by omega⟩
theorem placeTo_snoc (size : Nat) (ns : List Str) (x : Str) : placeTo size (ns ++ [x]) = (putK (placeTo size ns).1 (.inr x) (.int ((placeTo size ns).2.above.length : Nat)), addJ (placeTo size ns).2) := by
  unfold placeTo
  rw [List.foldl_append]
  rfl
theorem length_put (kvs : List (Key × V)) (k : Key) (v : V) : (putK kvs k v).length ≤ kvs.length + 1 := length_putK kvs k v
theorem placeTo_ok {size : Nat} (h1 : 1 ≤ size) (h8 : size ≤ 8) (ns : List Str) : ∀ i, i ≤ ns.length →
    JOk i (placeTo size (ns.take i)).2 ∧ (placeTo size (ns.take i)).2.size = size ∧ PlOk i (ns.take i) (placeTo size (ns.take i)).1 ∧ (placeTo size (ns.take i)).1.length ≤ i
  | 0, _ => by
    refine ⟨jok_none h1 h8, rfl, ⟨fun x hx => by simp at hx, fun x v e => by simp [placeTo, valV] at e⟩, Nat.le_refl _⟩
  | i + 1, h => by
    obtain ⟨a, b, c, d⟩ := placeTo_ok h1 h8 ns i (by omega)
    have e : ns.take (i + 1) = ns.take i ++ [ns[i]'(by omega)] := List.take_append_getElem (by omega) |>.symm
    rw [e, placeTo_snoc]
    refine ⟨jok_add a, b, ?_, Nat.le_trans (length_put _ _ _) (by omega)⟩
    have q := plok_put c (ns[i]'(by omega))
    rw [a.la]
    exact q
theorem placeTo_all {size : Nat} (h1 : 1 ≤ size) (h8 : size ≤ 8) (ns : List Str) :
    JOk ns.length (placeTo size ns).2 ∧ (placeTo size ns).2.size = size ∧ PlOk ns.length ns (placeTo size ns).1 ∧ (placeTo size ns).1.length ≤ ns.length := by
  have q := placeTo_ok h1 h8 ns ns.length (Nat.le_refl _)
  rw [List.take_length] at q
  exact q
theorem PlOk.at {n : Nat} {names : List Str} {pl : List (Key × V)} (h : PlOk n names pl) {x : Str} (hx : x ∈ names) : valV pl (.inr x) = some (.int (idx pl x : Nat)) ∧ idx pl x < n := by
  have s := h.1 x hx
  cases e : valV pl (.inr x) with
  | none => rw [e] at s; cases s
  | some v =>
    obtain ⟨_, b, c⟩ := h.2 x v e
    exact ⟨by rw [b], c⟩
theorem factJ_ok {n : Nat} {L : LS} {names : List Str} {pl : List (Key × V)} {J : JS} {f : Fact} (o : JOk n J) (z : J.size = L.size) (l : LOk L) (p : PlOk n names pl) (fo : FactOk L.size names f) :
    JOk n (factJ L pl J f) ∧ (factJ L pl J f).size = L.size := by
  unfold factJ
  cases fo with
  | said h h0 h1 =>
    rw [if_pos rfl]
    exact ⟨jok_say o (p.at h).2 h0 (by rw [z]; exact h1), by rw [say_size]; exact z⟩
  | @tie k one other hk h h' =>
    have nk : ¬ k = ("said" : Str) := by
      rcases hk with e | e | e | e <;> subst e <;> decide +kernel
    rw [if_neg nk]
    exact ⟨jok_tie o (p.at h).2 (p.at h').2 (by rw [z]; exact fit_step l k), by rw [tie_size]; exact z⟩
theorem factsJ_snoc (L : LS) (pl : List (Key × V)) (J : JS) (fs : List (Int × Fact)) (q : Int × Fact) : factsJ L pl J (fs ++ [q]) = factJ L pl (factsJ L pl J fs) q.2 := by
  unfold factsJ; rw [List.foldl_append]; rfl
theorem factsJ_ok {n : Nat} {L : LS} {names : List Str} {pl : List (Key × V)} (l : LOk L) (p : PlOk n names pl) : ∀ {fs : List (Int × Fact)} {J : JS}, JOk n J → J.size = L.size → (∀ q ∈ fs, FactOk L.size names q.2) →
    JOk n (factsJ L pl J fs) ∧ (factsJ L pl J fs).size = L.size
  | [], _, o, z, _ => ⟨o, z⟩
  | q :: fs, J, o, z, h => by
    obtain ⟨a, b⟩ := factJ_ok o z l p (h q (List.mem_cons_self ..))
    exact factsJ_ok l p (fs := fs) a b fun r hr => h r (List.mem_cons_of_mem _ hr)

structure HOk (m : Nat) (h : HS) : Prop where
  lo : LOk h.land
  bo : BOk m h.land.size h.st
  po : PlOk h.st.names.length h.st.names h.place
  pm : h.place.length ≤ m
  jo : JOk h.st.names.length h.joins
  js : h.joins.size = h.land.size
  pl : h.past.length ≤ m
  al : h.ahead.length ≤ m
  pb : ∀ b ∈ h.past, BOk m h.land.size b
  ab : ∀ b ∈ h.ahead, BOk m h.land.size b
theorem HOk.mono {m m' : Nat} {h : HS} (o : HOk m h) (l : m ≤ m') : HOk m' h :=
  ⟨o.lo, o.bo.mono l, o.po, Nat.le_trans o.pm l, o.jo, o.js, Nat.le_trans o.pl l, Nat.le_trans o.al l, fun b hb => (o.pb b hb).mono l, fun b hb => (o.ab b hb).mono l⟩
theorem goTo_ok {m : Nat} {h : HS} {b : BS} (o : HOk m h) (bo : BOk m h.land.size b) : HOk m (goTo h b) := by
  have l := o.lo
  have h1 : 1 ≤ h.land.size := Nat.le_trans (by decide) l.s2
  obtain ⟨q1, q2, q3, q4⟩ := placeTo_all h1 l.s8 b.names
  obtain ⟨r1, r2⟩ := factsJ_ok l q3 q1 q2 bo.fo
  exact ⟨l, bo, q3, Nat.le_trans q4 bo.ln, r1, r2, o.pl, o.al, o.pb, o.ab⟩

/-! ### deeds -/
def hasF (b : BS) (k one : Str) (other : V) : Bool := b.facts.any fun p => decide (p.2 = ⟨k, one, other⟩) || (decide (k = "sibling") && decide (p.2 = ⟨k, nameOf other, .str one⟩))
def sideIs (b : BS) (n s : Str) : Bool := decide (valV b.side (.inr n) = some (.str s))
def sidesFit (b : BS) (k one other : Str) : Bool :=
  if k = "mother" then sideIs b other "woman" else if k = "father" then sideIs b other "man" else if k = "wed" then sideIs b one "man" && sideIs b other "woman" else true
def parentKept (b : BS) (k one : Str) : Bool := b.facts.any fun p => decide (p.2.kind = k) && decide (p.2.one = one)
def factAt (fs : List (Int × Fact)) (k : Int) : Fact := ((fs.find? fun p => decide (p.1 = k)).map (·.2)).getD ⟨"", "", .non⟩
def keptL (b : BS) : List (Int × Fact) := (srt (b.facts.map (·.1))).map fun k => (k, factAt b.facts k)
def parentsOf (kept : List (Int × Fact)) (n : Str) : List Str := (kept.filter fun q => decide (q.2.one = n) && (decide (q.2.kind = ("mother" : Str)) || decide (q.2.kind = ("father" : Str)))).map fun q => nameOf q.2.other
def grow (seen new : List Str) : List Str := new.foldl (fun e n => if n ∈ e then e else e ++ [n]) seen
def elderStep (kept : List (Int × Fact)) (goal : Str) (s : List Str × Nat) : Option (List Str × Nat) := match s.1[s.2]? with
  | none => none
  | some c => if c = goal then none else some (grow s.1 (parentsOf kept c), s.2 + 1)
noncomputable def elder (kept : List (Int × Fact)) (begin_ goal : Str) : Bool :=
  let s := fin (elderStep kept goal) ([begin_], 0)
  decide (s.2 < s.1.length)
noncomputable def lookH (b : BS) (k one other : Str) : Option Str :=
  if ¬ ((valV b.side (.inr one)).isSome = true ∧ (valV b.side (.inr other)).isSome = true) then some "no person"
  else if sidesFit b k one other = false then some "wrong side"
  else if hasF b k one (.str other) = true ∨ (k = "sibling" ∧ one = other) then some "told twice"
  else if k = "mother" ∨ k = "father" then
    (if parentKept b k one = true then some "told twice" else if elder (keptL b) other one = true then some "own elder" else none)
  else none
def markH (h : HS) (b : BS) : HS := { h with past := h.past ++ [b], ahead := [] }
def addFact (h : HS) (b : BS) (f : Fact) : HS := { markH h b with st := { h.st with facts := h.st.facts ++ [(h.st.after, f)], after := h.st.after + 1 } }
def personH (h : HS) (n s : Str) : Except Str HS :=
  if isName n = false then .error "no name"
  else if (valV h.st.side (.inr n)).isSome = true then .error "name taken"
  else .ok { markH h h.st with st := { h.st with names := h.st.names ++ [n], side := putK h.st.side (.inr n) (.str s) }, place := putK h.place (.inr n) (.int (h.joins.above.length : Nat)), joins := addJ h.joins }
noncomputable def tieH (h : HS) (k one other : Str) : Except Str HS := match lookH h.st k one other with
  | some e => .error e
  | none =>
    let r := tieJ h.joins (idx h.place one) (idx h.place other) (stepOf h.land k)
    if r.2 = true then .ok (addFact { h with joins := r.1 } h.st ⟨k, one, .str other⟩) else .error "barred"
noncomputable def sayH (h : HS) (n : Str) (s : Int) : Except Str HS :=
  if (valV h.st.side (.inr n)).isSome = false then .error "no person"
  else if s < 0 ∨ (h.land.size : Int) ≤ s then .error "no section"
  else if hasF h.st "said" n (.int s) = true then .error "told twice"
  else
    let r := sayJ h.joins (idx h.place n) s
    if r.2 = true then .ok (addFact { h with joins := r.1 } h.st ⟨"said", n, .int s⟩) else .error "barred"
def dropF (b : BS) (k : Int) : BS := { b with facts := b.facts.filter fun p => decide (p.1 ≠ k) }
noncomputable def takeH (h : HS) (k : Int) : Except Str HS :=
  if (h.st.facts.any fun p => decide (p.1 = k)) = false then .error "no fact" else .ok (markH (goTo h (dropF h.st k)) h.st)
noncomputable def undoH (h : HS) : Except Str HS := match h.past.getLast? with
  | none => .error "nothing left"
  | some b => .ok { goTo h b with past := h.past.dropLast, ahead := h.ahead ++ [h.st] }
noncomputable def redoH (h : HS) : Except Str HS := match h.ahead.getLast? with
  | none => .error "nothing left"
  | some b => .ok { goTo h b with past := h.past ++ [h.st], ahead := h.ahead.dropLast }
def newH (L : LS) : HS := ⟨L, ⟨[], [], [], 0⟩, [], JS.none_ L.size, [], []⟩

theorem newH_ok {L : LS} (l : LOk L) (m : Nat) : HOk m (newH L) :=
  ⟨l, ⟨Nat.zero_le _, List.nodup_nil, Nat.zero_le _, fun n h => by simp [newH] at h, fun n v e => by simp [newH, valV] at e, Nat.zero_le _, fun p h => by simp [newH] at h, Int.le_refl _, by show (0 : Int) ≤ m; omega, fun p h => by simp [newH] at h, fun n h => by simp [newH] at h⟩,
    ⟨fun x h => by simp [newH] at h, fun x v e => by simp [newH, valV] at e⟩, Nat.zero_le _, jok_none (Nat.le_trans (by decide) l.s2) l.s8, rfl, Nat.zero_le _, Nat.zero_le _, fun b h => by simp [newH] at h, fun b h => by simp [newH] at h⟩
theorem mark_ok {m : Nat} {h : HS} {b : BS} (o : HOk m h) (bo : BOk m h.land.size b) : HOk (m + 1) (markH h b) := by
  have o' := o.mono (Nat.le_succ m)
  refine ⟨o'.lo, o'.bo, o'.po, o'.pm, o'.jo, o'.js, ?_, Nat.zero_le _, fun c hc => ?_, fun c hc => by simp [markH] at hc⟩
  · show (h.past ++ [b]).length ≤ m + 1
    rw [List.length_append]; have := o.pl; simp; omega
  · rcases List.mem_append.mp hc with hc | hc
    · exact o'.pb c hc
    · rw [List.mem_singleton.mp hc]; exact bo.mono (Nat.le_succ m)
theorem addFact_ok {m : Nat} {h : HS} {b : BS} {f : Fact} (o : HOk m h) (bo : BOk m h.land.size b) (fo : FactOk h.land.size h.st.names f) : HOk (m + 1) (addFact h b f) := by
  have q := mark_ok o bo
  have e := o.bo
  refine ⟨q.lo, ⟨Nat.le_succ_of_le e.ln, e.nd, Nat.le_succ_of_le e.ls, e.sd, e.ds, ?_, fun p hp => ?_, ?_, ?_, fun p hp => ?_, e.nk⟩, q.po, q.pm, q.jo, q.js, q.pl, q.al, q.pb, q.ab⟩
  · show (h.st.facts ++ [(h.st.after, f)]).length ≤ m + 1
    rw [List.length_append]; have := e.lf; simp; omega
  · rcases List.mem_append.mp hp with hp | hp
    · exact e.fo p hp
    · rw [List.mem_singleton.mp hp]; exact fo
  · show 0 ≤ h.st.after + 1
    have := e.a0; omega
  · show h.st.after + 1 ≤ ((m + 1 : Nat) : Int)
    have := e.am; omega
  · show p.1 < h.st.after + 1
    rcases List.mem_append.mp hp with hp | hp
    · have := e.fa p hp; omega
    · rw [List.mem_singleton.mp hp]; show h.st.after < h.st.after + 1; omega
theorem personH_ok {m : Nat} {h h' : HS} {n s : Str} (o : HOk m h) (hs' : Sx s) (e : personH h n s = .ok h') : HOk (m + 1) h' := by
  unfold personH at e
  split at e
  · cases e
  · rename_i hnm
    split at e
    · cases e
    · rename_i hs
      cases e
      have q := mark_ok o o.bo
      have b := o.bo
      have hn : n ∉ h.st.names := fun hm => by
        obtain ⟨z, hz, _⟩ := b.sd n hm
        exact hs (by rw [hz]; rfl)
      have vn : valV h.st.side (.inr n) = none := by
        cases c : valV h.st.side (.inr n) with
        | none => rfl
        | some v => exact absurd (b.ds n v c) hn
      have nd2 : (h.st.names ++ [n]).Nodup := nd_snoc b.nd hn
      refine ⟨q.lo, ⟨?_, nd2, Nat.le_trans (length_put _ _ _) (by have := b.ls; omega), fun x hx => ?_, fun x v hv => ?_, Nat.le_succ_of_le b.lf, fun p hp => (b.fo p hp).mono fun x hx => List.mem_append_left _ hx, b.a0, by have := b.am; show h.st.after ≤ ((m + 1 : Nat) : Int); omega, b.fa, fun x hx => ?_⟩,
        ?_, Nat.le_trans (length_put _ _ _) (by have := o.pm; omega), ?_, o.js, q.pl, q.al, q.pb, q.ab⟩
      · show (h.st.names ++ [n]).length ≤ m + 1
        rw [List.length_append]; have := b.ln; simp; omega
      · show ∃ z, valV (putK h.st.side (.inr n) (.str s)) (.inr x) = some (.str z) ∧ Sx z
        rw [valV_put]
        by_cases c : (Sum.inr x : Key) = Sum.inr n
        · rw [if_pos c]; exact ⟨s, rfl, hs'⟩
        · rw [if_neg c]
          rcases List.mem_append.mp hx with hx | hx
          · exact b.sd x hx
          · exact absurd (congrArg Sum.inr (List.mem_singleton.mp hx)) c
      · have hv : valV (putK h.st.side (.inr n) (.str s)) (.inr x) = some v := hv
        rw [valV_put] at hv
        by_cases c : (Sum.inr x : Key) = Sum.inr n
        · exact List.mem_append_right _ (by rw [Sum.inr.inj c]; simp)
        · rw [if_neg c] at hv
          exact List.mem_append_left _ (b.ds x v hv)
      · rcases List.mem_append.mp hx with hx | hx
        · exact b.nk x hx
        · rw [List.mem_singleton.mp hx]; simpa using hnm
      · have p := plok_put o.po n
        rw [o.jo.la]
        show PlOk (h.st.names ++ [n]).length (h.st.names ++ [n]) _
        rw [List.length_append]
        exact p
      · have j := jok_add o.jo
        show JOk (h.st.names ++ [n]).length (addJ h.joins)
        rw [List.length_append]
        exact j
theorem isSome_val {α : Type} {o : Option α} (h : o.isSome = true) : ∃ v, o = some v := by
  cases o with
  | none => cases h
  | some v => exact ⟨v, rfl⟩
theorem look_side {b : BS} {k one other : Str} (h : lookH b k one other = none) : (valV b.side (.inr one)).isSome = true ∧ (valV b.side (.inr other)).isSome = true := by
  unfold lookH at h
  split at h
  · cases h
  · rename_i c
    exact Classical.not_not.mp c
theorem side_in {m size : Nat} {b : BS} (o : BOk m size b) {n : Str} (h : (valV b.side (.inr n)).isSome = true) : n ∈ b.names := by
  obtain ⟨v, e⟩ := isSome_val h
  exact o.ds n v e
theorem tieH_ok {m : Nat} {h h' : HS} {k one other : Str} (o : HOk m h) (hk : IsTie k) (e : tieH h k one other = .ok h') : HOk (m + 1) h' := by
  unfold tieH at e
  split at e
  · cases e
  · rename_i hl
    obtain ⟨s1, s2⟩ := look_side hl
    dsimp only at e
    split at e
    · cases e
      have m1 := side_in o.bo s1
      have m2 := side_in o.bo s2
      have q : HOk m { h with joins := (tieJ h.joins (idx h.place one) (idx h.place other) (stepOf h.land k)).1 } :=
        ⟨o.lo, o.bo, o.po, o.pm, jok_tie o.jo (o.po.at m1).2 (o.po.at m2).2 (by rw [o.js]; exact fit_step o.lo k), by rw [tie_size]; exact o.js, o.pl, o.al, o.pb, o.ab⟩
      exact addFact_ok q o.bo (.tie hk m1 m2)
    · cases e
theorem sayH_ok {m : Nat} {h h' : HS} {n : Str} {s : Int} (o : HOk m h) (e : sayH h n s = .ok h') : HOk (m + 1) h' := by
  unfold sayH at e
  split at e
  · cases e
  · rename_i c1
    split at e
    · cases e
    · rename_i c2
      split at e
      · cases e
      · dsimp only at e
        split at e
        · cases e
          have m1 := side_in o.bo (n := n) (by cases q : (valV h.st.side (.inr n)).isSome with
            | true => rfl
            | false => exact absurd q c1)
          have z0 : 0 ≤ s := by omega
          have z1 : s < h.land.size := by omega
          have q : HOk m { h with joins := (sayJ h.joins (idx h.place n) s).1 } :=
            ⟨o.lo, o.bo, o.po, o.pm, jok_say o.jo (o.po.at m1).2 z0 (by rw [o.js]; exact z1), by rw [say_size]; exact o.js, o.pl, o.al, o.pb, o.ab⟩
          exact addFact_ok q o.bo (.said m1 z0 z1)
        · cases e
theorem dropF_ok {m size : Nat} {b : BS} (o : BOk m size b) (k : Int) : BOk m size (dropF b k) :=
  ⟨o.ln, o.nd, o.ls, o.sd, o.ds, Nat.le_trans (List.length_filter_le _ _) o.lf, fun p hp => o.fo p (List.mem_filter.mp hp).1, o.a0, o.am, fun p hp => o.fa p (List.mem_filter.mp hp).1, o.nk⟩
theorem takeH_ok {m : Nat} {h h' : HS} {k : Int} (o : HOk m h) (e : takeH h k = .ok h') : HOk (m + 1) h' := by
  unfold takeH at e
  split at e
  · cases e
  · cases e
    exact mark_ok (goTo_ok o (dropF_ok o.bo k)) o.bo
theorem last_mem {α : Type} {l : List α} {x : α} (h : l.getLast? = some x) : x ∈ l := List.mem_of_getLast? h
theorem undoH_ok {m : Nat} {h h' : HS} (o : HOk m h) (e : undoH h = .ok h') : HOk (m + 1) h' := by
  unfold undoH at e
  split at e
  · cases e
  · rename_i b hb
    cases e
    have q := (goTo_ok o (o.pb b (last_mem hb))).mono (Nat.le_succ m)
    refine ⟨q.lo, q.bo, q.po, q.pm, q.jo, q.js, ?_, ?_, fun c hc => q.pb c ?_, fun c hc => ?_⟩
    · show h.past.dropLast.length ≤ m + 1
      rw [List.length_dropLast]; have := o.pl; omega
    · show (h.ahead ++ [h.st]).length ≤ m + 1
      rw [List.length_append]; have := o.al; simp; omega
    · exact (List.dropLast_sublist _).subset hc
    · rcases List.mem_append.mp hc with hc | hc
      · exact q.ab c hc
      · rw [List.mem_singleton.mp hc]; exact o.bo.mono (Nat.le_succ m)
theorem redoH_ok {m : Nat} {h h' : HS} (o : HOk m h) (e : redoH h = .ok h') : HOk (m + 1) h' := by
  unfold redoH at e
  split at e
  · cases e
  · rename_i b hb
    cases e
    have q := (goTo_ok o (o.ab b (last_mem hb))).mono (Nat.le_succ m)
    refine ⟨q.lo, q.bo, q.po, q.pm, q.jo, q.js, ?_, ?_, fun c hc => ?_, fun c hc => q.ab c ?_⟩
    · show (h.past ++ [h.st]).length ≤ m + 1
      rw [List.length_append]; have := o.pl; simp; omega
    · show h.ahead.dropLast.length ≤ m + 1
      rw [List.length_dropLast]; have := o.al; omega
    · rcases List.mem_append.mp hc with hc | hc
      · exact q.pb c hc
      · rw [List.mem_singleton.mp hc]; exact o.bo.mono (Nat.le_succ m)
    · exact (List.dropLast_sublist _).subset hc
end Kin
set_option maxHeartbeats 4000000
/-! K05: each def of the text, its function object and how its arguments bind (printed by gen_text.py). -/
namespace Kin
open PySem L2
section
variable {w : World} {K : PySem.W.Frag} {mg : Str → Option Value} {g : Str → Addr} {mt : Str → Str → Addr}
theorem F_KinError_init (T : Txt w K mg g mt) : FB K "__init__" "KinError.__init__" s_KinError_init ["self", "word"] (mt "KinError" "__init__") := T.fb (i := 0) rfl rfl fun _ _ _ _ _ _ us hl => match us, hl with | [_, _], _ => by kernel_rfl
theorem F_BadLand_init (T : Txt w K mg g mt) : FB K "__init__" "BadLand.__init__" s_BadLand_init ["self"] (mt "BadLand" "__init__") := T.fb (i := 1) rfl rfl fun _ _ _ _ _ _ us hl => match us, hl with | [_], _ => by kernel_rfl
theorem F_BadWord_init (T : Txt w K mg g mt) : FB K "__init__" "BadWord.__init__" s_BadWord_init ["self"] (mt "BadWord" "__init__") := T.fb (i := 2) rfl rfl fun _ _ _ _ _ _ us hl => match us, hl with | [_], _ => by kernel_rfl
theorem F_BadName_init (T : Txt w K mg g mt) : FB K "__init__" "BadName.__init__" s_BadName_init ["self"] (mt "BadName" "__init__") := T.fb (i := 3) rfl rfl fun _ _ _ _ _ _ us hl => match us, hl with | [_], _ => by kernel_rfl
theorem F_Taken_init (T : Txt w K mg g mt) : FB K "__init__" "Taken.__init__" s_Taken_init ["self"] (mt "Taken" "__init__") := T.fb (i := 4) rfl rfl fun _ _ _ _ _ _ us hl => match us, hl with | [_], _ => by kernel_rfl
theorem F_NoPerson_init (T : Txt w K mg g mt) : FB K "__init__" "NoPerson.__init__" s_NoPerson_init ["self"] (mt "NoPerson" "__init__") := T.fb (i := 5) rfl rfl fun _ _ _ _ _ _ us hl => match us, hl with | [_], _ => by kernel_rfl
theorem F_NoSection_init (T : Txt w K mg g mt) : FB K "__init__" "NoSection.__init__" s_NoSection_init ["self"] (mt "NoSection" "__init__") := T.fb (i := 6) rfl rfl fun _ _ _ _ _ _ us hl => match us, hl with | [_], _ => by kernel_rfl
theorem F_WrongSide_init (T : Txt w K mg g mt) : FB K "__init__" "WrongSide.__init__" s_WrongSide_init ["self"] (mt "WrongSide" "__init__") := T.fb (i := 7) rfl rfl fun _ _ _ _ _ _ us hl => match us, hl with | [_], _ => by kernel_rfl
theorem F_Twice_init (T : Txt w K mg g mt) : FB K "__init__" "Twice.__init__" s_Twice_init ["self"] (mt "Twice" "__init__") := T.fb (i := 8) rfl rfl fun _ _ _ _ _ _ us hl => match us, hl with | [_], _ => by kernel_rfl
theorem F_NoFact_init (T : Txt w K mg g mt) : FB K "__init__" "NoFact.__init__" s_NoFact_init ["self"] (mt "NoFact" "__init__") := T.fb (i := 9) rfl rfl fun _ _ _ _ _ _ us hl => match us, hl with | [_], _ => by kernel_rfl
theorem F_NothingLeft_init (T : Txt w K mg g mt) : FB K "__init__" "NothingLeft.__init__" s_NothingLeft_init ["self"] (mt "NothingLeft" "__init__") := T.fb (i := 10) rfl rfl fun _ _ _ _ _ _ us hl => match us, hl with | [_], _ => by kernel_rfl
theorem F_UnlikeLands_init (T : Txt w K mg g mt) : FB K "__init__" "UnlikeLands.__init__" s_UnlikeLands_init ["self"] (mt "UnlikeLands" "__init__") := T.fb (i := 11) rfl rfl fun _ _ _ _ _ _ us hl => match us, hl with | [_], _ => by kernel_rfl
theorem F_BadText_init (T : Txt w K mg g mt) : FB K "__init__" "BadText.__init__" s_BadText_init ["self"] (mt "BadText" "__init__") := T.fb (i := 12) rfl rfl fun _ _ _ _ _ _ us hl => match us, hl with | [_], _ => by kernel_rfl
theorem F_NoBook_init (T : Txt w K mg g mt) : FB K "__init__" "NoBook.__init__" s_NoBook_init ["self"] (mt "NoBook" "__init__") := T.fb (i := 13) rfl rfl fun _ _ _ _ _ _ us hl => match us, hl with | [_], _ => by kernel_rfl
theorem F_Unequal_init (T : Txt w K mg g mt) : FB K "__init__" "Unequal.__init__" s_Unequal_init ["self", "section"] (mt "Unequal" "__init__") := T.fb (i := 14) rfl rfl fun _ _ _ _ _ _ us hl => match us, hl with | [_, _], _ => by kernel_rfl
theorem F_OwnElder_init (T : Txt w K mg g mt) : FB K "__init__" "OwnElder.__init__" s_OwnElder_init ["self", "line"] (mt "OwnElder" "__init__") := T.fb (i := 15) rfl rfl fun _ _ _ _ _ _ us hl => match us, hl with | [_, _], _ => by kernel_rfl
theorem F_Barred_init (T : Txt w K mg g mt) : FB K "__init__" "Barred.__init__" s_Barred_init ["self", "whom", "walks"] (mt "Barred" "__init__") := T.fb (i := 16) rfl rfl fun _ _ _ _ _ _ us hl => match us, hl with | [_, _, _], _ => by kernel_rfl
theorem F_is_name (T : Txt w K mg g mt) : FB K "is_name" "is_name" s_is_name ["name"] (g "is_name") := T.fb (i := 17) rfl rfl fun _ _ _ _ _ _ us hl => match us, hl with | [_], _ => by kernel_rfl
theorem F_ties_of (T : Txt w K mg g mt) : FB K "ties_of" "ties_of" s_ties_of ["land", "kept"] (g "ties_of") := T.fb (i := 18) rfl rfl fun _ _ _ _ _ _ us hl => match us, hl with | [_, _], _ => by kernel_rfl
theorem F_sayings_of (T : Txt w K mg g mt) : FB K "sayings_of" "sayings_of" s_sayings_of ["kept"] (g "sayings_of") := T.fb (i := 19) rfl rfl fun _ _ _ _ _ _ us hl => match us, hl with | [_], _ => by kernel_rfl
theorem F_parents_of (T : Txt w K mg g mt) : FB K "parents_of" "parents_of" s_parents_of ["kept", "name"] (g "parents_of") := T.fb (i := 20) rfl rfl fun _ _ _ _ _ _ us hl => match us, hl with | [_, _], _ => by kernel_rfl
theorem F_line_up (T : Txt w K mg g mt) : FB K "line_up" "line_up" s_line_up ["kept", "begin", "goal"] (g "line_up") := T.fb (i := 21) rfl rfl fun _ _ _ _ _ _ us hl => match us, hl with | [_, _, _], _ => by kernel_rfl
theorem F_is_turn (T : Txt w K mg g mt) : FB K "is_turn" "is_turn" s_is_turn ["row"] (g "is_turn") := T.fb (i := 22) rfl rfl fun _ _ _ _ _ _ us hl => match us, hl with | [_], _ => by kernel_rfl
theorem F_still (T : Txt w K mg g mt) : FB K "still" "still" s_still ["size"] (g "still") := T.fb (i := 23) rfl rfl fun _ _ _ _ _ _ us hl => match us, hl with | [_], _ => by kernel_rfl
theorem F_led (T : Txt w K mg g mt) : FB K "led" "led" s_led ["first", "then"] (g "led") := T.fb (i := 24) rfl rfl fun _ _ _ _ _ _ us hl => match us, hl with | [_, _], _ => by kernel_rfl
theorem F_undone (T : Txt w K mg g mt) : FB K "undone" "undone" s_undone ["turn"] (g "undone") := T.fb (i := 25) rfl rfl fun _ _ _ _ _ _ us hl => match us, hl with | [_], _ => by kernel_rfl
theorem F_spread (T : Txt w K mg g mt) : FB K "spread" "spread" s_spread ["ties", "begin", "section"] (g "spread") := T.fb (i := 26) rfl rfl fun _ _ _ _ _ _ us hl => match us, hl with | [_, _, _], _ => by kernel_rfl
theorem F_turned_walk (T : Txt w K mg g mt) : FB K "turned_walk" "turned_walk" s_turned_walk ["walk"] (g "turned_walk") := T.fb (i := 27) rfl rfl fun _ _ _ _ _ _ us hl => match us, hl with | [_], _ => by kernel_rfl
theorem F_fault (T : Txt w K mg g mt) : FB K "fault" "fault" s_fault ["ties", "sayings", "begin", "section"] (g "fault") := T.fb (i := 28) rfl rfl fun _ _ _ _ _ _ us hl => match us, hl with | [_, _, _, _], _ => by kernel_rfl
theorem F_place_of (T : Txt w K mg g mt) : FB K "place_of" "place_of" s_place_of ["hearth", "name"] (g "place_of") := T.fb (i := 29) rfl rfl fun _ _ _ _ _ _ us hl => match us, hl with | [_, _], _ => by kernel_rfl
theorem F_open_of (T : Txt w K mg g mt) : FB K "open_of" "open_of" s_open_of ["hearth", "name"] (g "open_of") := T.fb (i := 30) rfl rfl fun _ _ _ _ _ _ us hl => match us, hl with | [_, _], _ => by kernel_rfl
theorem F_dealings (T : Txt w K mg g mt) : FB K "dealings" "dealings" s_dealings ["hearth"] (g "dealings") := T.fb (i := 31) rfl rfl fun _ _ _ _ _ _ us hl => match us, hl with | [_], _ => by kernel_rfl
theorem F_Joins_init (T : Txt w K mg g mt) : FB K "__init__" "Joins.__init__" s_Joins_init ["self", "size"] (mt "Joins" "__init__") := T.fb (i := 32) rfl rfl fun _ _ _ _ _ _ us hl => match us, hl with | [_, _], _ => by kernel_rfl
theorem F_Joins_add (T : Txt w K mg g mt) : FB K "add" "Joins.add" s_Joins_add ["self"] (mt "Joins" "add") := T.fb (i := 33) rfl rfl fun _ _ _ _ _ _ us hl => match us, hl with | [_], _ => by kernel_rfl
theorem F_Joins_head (T : Txt w K mg g mt) : FB K "head" "Joins.head" s_Joins_head ["self", "at"] (mt "Joins" "head") := T.fb (i := 34) rfl rfl fun _ _ _ _ _ _ us hl => match us, hl with | [_, _], _ => by kernel_rfl
theorem F_Joins_link (T : Txt w K mg g mt) : FB K "link" "Joins.link" s_Joins_link ["self", "one", "other", "turn"] (mt "Joins" "link") := T.fb (i := 35) rfl rfl fun _ _ _ _ _ _ us hl => match us, hl with | [_, _, _, _], _ => by kernel_rfl
theorem F_Joins_kept_room (T : Txt w K mg g mt) : FB K "kept_room" "Joins.kept_room" s_Joins_kept_room ["self", "one", "other", "turn"] (mt "Joins" "kept_room") := T.fb (i := 36) rfl rfl fun _ _ _ _ _ _ us hl => match us, hl with | [_, _, _, _], _ => by kernel_rfl
theorem F_Joins_tie (T : Txt w K mg g mt) : FB K "tie" "Joins.tie" s_Joins_tie ["self", "one", "other", "turn"] (mt "Joins" "tie") := T.fb (i := 37) rfl rfl fun _ _ _ _ _ _ us hl => match us, hl with | [_, _, _, _], _ => by kernel_rfl
theorem F_Joins_say (T : Txt w K mg g mt) : FB K "say" "Joins.say" s_Joins_say ["self", "one", "section"] (mt "Joins" "say") := T.fb (i := 38) rfl rfl fun _ _ _ _ _ _ us hl => match us, hl with | [_, _, _], _ => by kernel_rfl
theorem F_Joins_open_at (T : Txt w K mg g mt) : FB K "open_at" "Joins.open_at" s_Joins_open_at ["self", "one"] (mt "Joins" "open_at") := T.fb (i := 39) rfl rfl fun _ _ _ _ _ _ us hl => match us, hl with | [_, _], _ => by kernel_rfl
theorem F_Joins_dealt (T : Txt w K mg g mt) : FB K "dealt" "Joins.dealt" s_Joins_dealt ["self"] (mt "Joins" "dealt") := T.fb (i := 40) rfl rfl fun _ _ _ _ _ _ us hl => match us, hl with | [_], _ => by kernel_rfl
theorem F_barring (T : Txt w K mg g mt) : FB K "barring" "barring" s_barring ["land", "kept", "person"] (g "barring") := T.fb (i := 41) rfl rfl fun _ _ _ _ _ _ us hl => match us, hl with | [_, _, _], _ => by kernel_rfl
theorem F_Hearth_init (T : Txt w K mg g mt) : FB K "__init__" "Hearth.__init__" s_Hearth_init ["self", "land"] (mt "Hearth" "__init__") := T.fb (i := 42) rfl rfl fun _ _ _ _ _ _ us hl => match us, hl with | [_, _], _ => by kernel_rfl
theorem F_Hearth_state (T : Txt w K mg g mt) : FB K "state" "Hearth.state" s_Hearth_state ["self"] (mt "Hearth" "state") := T.fb (i := 43) rfl rfl fun _ _ _ _ _ _ us hl => match us, hl with | [_], _ => by kernel_rfl
theorem F_Hearth_go_to (T : Txt w K mg g mt) : FB K "go_to" "Hearth.go_to" s_Hearth_go_to ["self", "state"] (mt "Hearth" "go_to") := T.fb (i := 44) rfl rfl fun _ _ _ _ _ _ us hl => match us, hl with | [_, _], _ => by kernel_rfl
theorem F_Hearth_done_from (T : Txt w K mg g mt) : FB K "done_from" "Hearth.done_from" s_Hearth_done_from ["self", "state"] (mt "Hearth" "done_from") := T.fb (i := 45) rfl rfl fun _ _ _ _ _ _ us hl => match us, hl with | [_, _], _ => by kernel_rfl
theorem F_Hearth_forget (T : Txt w K mg g mt) : FB K "forget" "Hearth.forget" s_Hearth_forget ["self"] (mt "Hearth" "forget") := T.fb (i := 46) rfl rfl fun _ _ _ _ _ _ us hl => match us, hl with | [_], _ => by kernel_rfl
theorem F_Hearth_people (T : Txt w K mg g mt) : FB K "people" "Hearth.people" s_Hearth_people ["self"] (mt "Hearth" "people") := T.fb (i := 47) rfl rfl fun _ _ _ _ _ _ us hl => match us, hl with | [_], _ => by kernel_rfl
theorem F_Hearth_side_of (T : Txt w K mg g mt) : FB K "side_of" "Hearth.side_of" s_Hearth_side_of ["self", "name"] (mt "Hearth" "side_of") := T.fb (i := 48) rfl rfl fun _ _ _ _ _ _ us hl => match us, hl with | [_, _], _ => by kernel_rfl
theorem F_Hearth_kept (T : Txt w K mg g mt) : FB K "kept" "Hearth.kept" s_Hearth_kept ["self"] (mt "Hearth" "kept") := T.fb (i := 49) rfl rfl fun _ _ _ _ _ _ us hl => match us, hl with | [_], _ => by kernel_rfl
theorem F_Hearth_has (T : Txt w K mg g mt) : FB K "has" "Hearth.has" s_Hearth_has ["self", "kind", "one", "other"] (mt "Hearth" "has") := T.fb (i := 50) rfl rfl fun _ _ _ _ _ _ us hl => match us, hl with | [_, _, _, _], _ => by kernel_rfl
theorem F_Hearth_undoable (T : Txt w K mg g mt) : FB K "undoable" "Hearth.undoable" s_Hearth_undoable ["self"] (mt "Hearth" "undoable") := T.fb (i := 51) rfl rfl fun _ _ _ _ _ _ us hl => match us, hl with | [_], _ => by kernel_rfl
theorem F_Hearth_redoable (T : Txt w K mg g mt) : FB K "redoable" "Hearth.redoable" s_Hearth_redoable ["self"] (mt "Hearth" "redoable") := T.fb (i := 52) rfl rfl fun _ _ _ _ _ _ us hl => match us, hl with | [_], _ => by kernel_rfl
theorem F_Hearth_person (T : Txt w K mg g mt) : FB K "person" "Hearth.person" s_Hearth_person ["self", "name", "side"] (mt "Hearth" "person") := T.fb (i := 53) rfl rfl fun _ _ _ _ _ _ us hl => match us, hl with | [_, _, _], _ => by kernel_rfl
theorem F_Hearth_sides_fit (T : Txt w K mg g mt) : FB K "sides_fit" "Hearth.sides_fit" s_Hearth_sides_fit ["self", "kind", "one", "other"] (mt "Hearth" "sides_fit") := T.fb (i := 54) rfl rfl fun _ _ _ _ _ _ us hl => match us, hl with | [_, _, _, _], _ => by kernel_rfl
theorem F_Hearth_parent_kept (T : Txt w K mg g mt) : FB K "parent_kept" "Hearth.parent_kept" s_Hearth_parent_kept ["self", "kind", "one"] (mt "Hearth" "parent_kept") := T.fb (i := 55) rfl rfl fun _ _ _ _ _ _ us hl => match us, hl with | [_, _, _], _ => by kernel_rfl
theorem F_Hearth_known (T : Txt w K mg g mt) : FB K "known" "Hearth.known" s_Hearth_known ["self", "kind", "one", "other"] (mt "Hearth" "known") := T.fb (i := 56) rfl rfl fun _ _ _ _ _ _ us hl => match us, hl with | [_, _, _, _], _ => by kernel_rfl
theorem F_Hearth_look (T : Txt w K mg g mt) : FB K "look" "Hearth.look" s_Hearth_look ["self", "kind", "one", "other"] (mt "Hearth" "look") := T.fb (i := 57) rfl rfl fun _ _ _ _ _ _ us hl => match us, hl with | [_, _, _, _], _ => by kernel_rfl
theorem F_Hearth_add_fact (T : Txt w K mg g mt) : FB K "add_fact" "Hearth.add_fact" s_Hearth_add_fact ["self", "state", "kind", "one", "other"] (mt "Hearth" "add_fact") := T.fb (i := 58) rfl rfl fun _ _ _ _ _ _ us hl => match us, hl with | [_, _, _, _, _], _ => by kernel_rfl
theorem F_Hearth_tie (T : Txt w K mg g mt) : FB K "tie" "Hearth.tie" s_Hearth_tie ["self", "kind", "one", "other"] (mt "Hearth" "tie") := T.fb (i := 59) rfl rfl fun _ _ _ _ _ _ us hl => match us, hl with | [_, _, _, _], _ => by kernel_rfl
theorem F_Hearth_say (T : Txt w K mg g mt) : FB K "say" "Hearth.say" s_Hearth_say ["self", "name", "section"] (mt "Hearth" "say") := T.fb (i := 60) rfl rfl fun _ _ _ _ _ _ us hl => match us, hl with | [_, _, _], _ => by kernel_rfl
theorem F_Hearth_take (T : Txt w K mg g mt) : FB K "take" "Hearth.take" s_Hearth_take ["self", "number"] (mt "Hearth" "take") := T.fb (i := 61) rfl rfl fun _ _ _ _ _ _ us hl => match us, hl with | [_, _], _ => by kernel_rfl
theorem F_Hearth_undo (T : Txt w K mg g mt) : FB K "undo" "Hearth.undo" s_Hearth_undo ["self"] (mt "Hearth" "undo") := T.fb (i := 62) rfl rfl fun _ _ _ _ _ _ us hl => match us, hl with | [_], _ => by kernel_rfl
theorem F_Hearth_redo (T : Txt w K mg g mt) : FB K "redo" "Hearth.redo" s_Hearth_redo ["self"] (mt "Hearth" "redo") := T.fb (i := 63) rfl rfl fun _ _ _ _ _ _ us hl => match us, hl with | [_], _ => by kernel_rfl
theorem F_Land_init (T : Txt w K mg g mt) : FB K "__init__" "Land.__init__" s_Land_init ["self", "mother", "father", "wife"] (mt "Land" "__init__") := T.fb (i := 64) rfl rfl fun _ _ _ _ _ _ us hl => match us, hl with | [_, _, _, _], _ => by kernel_rfl
theorem F_Land_step (T : Txt w K mg g mt) : FB K "step" "Land.step" s_Land_step ["self", "letter"] (mt "Land" "step") := T.fb (i := 65) rfl rfl fun _ _ _ _ _ _ us hl => match us, hl with | [_, _], _ => by kernel_rfl
theorem F_land_of (T : Txt w K mg g mt) : FB K "land_of" "land_of" s_land_of ["mother", "wife"] (g "land_of") := T.fb (i := 66) rfl rfl fun _ _ _ _ _ _ us hl => match us, hl with | [_, _], _ => by kernel_rfl
theorem F_alike_lands (T : Txt w K mg g mt) : FB K "alike_lands" "alike_lands" s_alike_lands ["one", "other"] (g "alike_lands") := T.fb (i := 67) rfl rfl fun _ _ _ _ _ _ us hl => match us, hl with | [_, _], _ => by kernel_rfl
theorem F_who_is_whom (T : Txt w K mg g mt) : FB K "who_is_whom" "who_is_whom" s_who_is_whom ["one", "other", "same"] (g "who_is_whom") := T.fb (i := 68) rfl rfl fun _ _ _ _ _ _ us hl => match us, hl with | [_, _, _], _ => by kernel_rfl
theorem F_put_facts (T : Txt w K mg g mt) : FB K "put_facts" "put_facts" s_put_facts ["made", "rows", "known"] (g "put_facts") := T.fb (i := 69) rfl rfl fun _ _ _ _ _ _ us hl => match us, hl with | [_, _, _], _ => by kernel_rfl
theorem F_joined (T : Txt w K mg g mt) : FB K "joined" "joined" s_joined ["one", "other", "same"] (g "joined") := T.fb (i := 70) rfl rfl fun _ _ _ _ _ _ us hl => match us, hl with | [_, _, _], _ => by kernel_rfl
theorem F_figures_of (T : Txt w K mg g mt) : FB K "figures_of" "figures_of" s_figures_of ["turn"] (g "figures_of") := T.fb (i := 71) rfl rfl fun _ _ _ _ _ _ us hl => match us, hl with | [_], _ => by kernel_rfl
theorem F_number_in (T : Txt w K mg g mt) : FB K "number_in" "number_in" s_number_in ["word"] (g "number_in") := T.fb (i := 72) rfl rfl fun _ _ _ _ _ _ us hl => match us, hl with | [_], _ => by kernel_rfl
theorem F_turn_in (T : Txt w K mg g mt) : FB K "turn_in" "turn_in" s_turn_in ["word"] (g "turn_in") := T.fb (i := 73) rfl rfl fun _ _ _ _ _ _ us hl => match us, hl with | [_], _ => by kernel_rfl
theorem F_called_once (T : Txt w K mg g mt) : FB K "called_once" "called_once" s_called_once ["kept", "name", "letter"] (g "called_once") := T.fb (i := 74) rfl rfl fun _ _ _ _ _ _ us hl => match us, hl with | [_, _, _], _ => by kernel_rfl
theorem F_road (T : Txt w K mg g mt) : FB K "road" "road" s_road ["hearth", "name", "goal"] (g "road") := T.fb (i := 75) rfl rfl fun _ _ _ _ _ _ us hl => match us, hl with | [_, _, _], _ => by kernel_rfl
theorem F_do_open (T : Txt w K mg g mt) : FB K "do_open" "do_open" s_do_open ["desk", "words"] (g "do_open") := T.fb (i := 76) rfl rfl fun _ _ _ _ _ _ us hl => match us, hl with | [_, _], _ => by kernel_rfl
theorem F_do_person (T : Txt w K mg g mt) : FB K "do_person" "do_person" s_do_person ["desk", "words"] (g "do_person") := T.fb (i := 77) rfl rfl fun _ _ _ _ _ _ us hl => match us, hl with | [_, _], _ => by kernel_rfl
theorem F_do_tie (T : Txt w K mg g mt) : FB K "do_tie" "do_tie" s_do_tie ["desk", "words"] (g "do_tie") := T.fb (i := 78) rfl rfl fun _ _ _ _ _ _ us hl => match us, hl with | [_, _], _ => by kernel_rfl
theorem F_do_said (T : Txt w K mg g mt) : FB K "do_said" "do_said" s_do_said ["desk", "words"] (g "do_said") := T.fb (i := 79) rfl rfl fun _ _ _ _ _ _ us hl => match us, hl with | [_, _], _ => by kernel_rfl
theorem F_do_take (T : Txt w K mg g mt) : FB K "do_take" "do_take" s_do_take ["desk", "words"] (g "do_take") := T.fb (i := 80) rfl rfl fun _ _ _ _ _ _ us hl => match us, hl with | [_, _], _ => by kernel_rfl
theorem F_do_undo (T : Txt w K mg g mt) : FB K "do_undo" "do_undo" s_do_undo ["desk", "words"] (g "do_undo") := T.fb (i := 81) rfl rfl fun _ _ _ _ _ _ us hl => match us, hl with | [_, _], _ => by kernel_rfl
theorem F_do_redo (T : Txt w K mg g mt) : FB K "do_redo" "do_redo" s_do_redo ["desk", "words"] (g "do_redo") := T.fb (i := 82) rfl rfl fun _ _ _ _ _ _ us hl => match us, hl with | [_, _], _ => by kernel_rfl
theorem F_do_join (T : Txt w K mg g mt) : FB K "do_join" "do_join" s_do_join ["desk", "words"] (g "do_join") := T.fb (i := 83) rfl rfl fun _ _ _ _ _ _ us hl => match us, hl with | [_, _], _ => by kernel_rfl
theorem F_do_who (T : Txt w K mg g mt) : FB K "do_who" "do_who" s_do_who ["desk", "words"] (g "do_who") := T.fb (i := 84) rfl rfl fun _ _ _ _ _ _ us hl => match us, hl with | [_, _], _ => by kernel_rfl
theorem F_do_count (T : Txt w K mg g mt) : FB K "do_count" "do_count" s_do_count ["desk", "words"] (g "do_count") := T.fb (i := 85) rfl rfl fun _ _ _ _ _ _ us hl => match us, hl with | [_, _], _ => by kernel_rfl
theorem F_do_road (T : Txt w K mg g mt) : FB K "do_road" "do_road" s_do_road ["desk", "words"] (g "do_road") := T.fb (i := 86) rfl rfl fun _ _ _ _ _ _ us hl => match us, hl with | [_, _], _ => by kernel_rfl
theorem F_Desk_init (T : Txt w K mg g mt) : FB K "__init__" "Desk.__init__" s_Desk_init ["self"] (mt "Desk" "__init__") := T.fb (i := 87) rfl rfl fun _ _ _ _ _ _ us hl => match us, hl with | [_], _ => by kernel_rfl
theorem F_Desk_book (T : Txt w K mg g mt) : FB K "book" "Desk.book" s_Desk_book ["self", "name"] (mt "Desk" "book") := T.fb (i := 88) rfl rfl fun _ _ _ _ _ _ us hl => match us, hl with | [_, _], _ => by kernel_rfl
theorem F_Desk_free (T : Txt w K mg g mt) : FB K "free" "Desk.free" s_Desk_free ["self", "name"] (mt "Desk" "free") := T.fb (i := 89) rfl rfl fun _ _ _ _ _ _ us hl => match us, hl with | [_, _], _ => by kernel_rfl
theorem F_Desk_put (T : Txt w K mg g mt) : FB K "put" "Desk.put" s_Desk_put ["self", "name", "hearth"] (mt "Desk" "put") := T.fb (i := 90) rfl rfl fun _ _ _ _ _ _ us hl => match us, hl with | [_, _, _], _ => by kernel_rfl
theorem F_Desk_books_held (T : Txt w K mg g mt) : FB K "books_held" "Desk.books_held" s_Desk_books_held ["self"] (mt "Desk" "books_held") := T.fb (i := 91) rfl rfl fun _ _ _ _ _ _ us hl => match us, hl with | [_], _ => by kernel_rfl
theorem F_Desk_log (T : Txt w K mg g mt) : FB K "log" "Desk.log" s_Desk_log ["self"] (mt "Desk" "log") := T.fb (i := 92) rfl rfl fun _ _ _ _ _ _ us hl => match us, hl with | [_], _ => by kernel_rfl
theorem F_Desk_run (T : Txt w K mg g mt) : FB K "run" "Desk.run" s_Desk_run ["self", "row"] (mt "Desk" "run") := T.fb (i := 93) rfl rfl fun _ _ _ _ _ _ us hl => match us, hl with | [_, _], _ => by kernel_rfl
theorem F_law_cell (T : Txt w K mg g mt) : FB K "_law_cell" "_law_cell" s_law_cell ["_law_script", "_law_k"] (g "_law_cell") := T.fb (i := 94) rfl rfl fun _ _ _ _ _ _ us hl => match us, hl with | [_, _], _ => by kernel_rfl
theorem F_law_draws (T : Txt w K mg g mt) : FB K "_law_draws" "_law_draws" s_law_draws ["_law_cell_here", "_law_parts"] (g "_law_draws") := T.fb (i := 95) rfl rfl fun _ _ _ _ _ _ us hl => match us, hl with | [_, _], _ => by kernel_rfl
theorem F_law_turn (T : Txt w K mg g mt) : FB K "_law_turn" "_law_turn" s_law_turn ["_law_code", "_law_size"] (g "_law_turn") := T.fb (i := 96) rfl rfl fun _ _ _ _ _ _ us hl => match us, hl with | [_, _], _ => by kernel_rfl
theorem F_law_row (T : Txt w K mg g mt) : FB K "_law_row" "_law_row" s_law_row ["_law_cell_here", "_law_size"] (g "_law_row") := T.fb (i := 97) rfl rfl fun _ _ _ _ _ _ us hl => match us, hl with | [_, _], _ => by kernel_rfl
theorem F_law_same (T : Txt w K mg g mt) : FB K "_law_same" "_law_same" s_law_same ["_law_found", "_law_due"] (g "_law_same") := T.fb (i := 98) rfl rfl fun _ _ _ _ _ _ us hl => match us, hl with | [_, _], _ => by kernel_rfl
theorem F_law_name (T : Txt w K mg g mt) : FB K "_law_name" "_law_name" s_law_name ["_law_k", "_law_salt"] (g "_law_name") := T.fb (i := 99) rfl rfl fun _ _ _ _ _ _ us hl => match us, hl with | [_, _], _ => by kernel_rfl
theorem F_law_words (T : Txt w K mg g mt) : FB K "_law_words" "_law_words" s_law_words ["_law_cell_here", "_law_halls", "_law_pool"] (g "_law_words") := T.fb (i := 100) rfl rfl fun _ _ _ _ _ _ us hl => match us, hl with | [_, _, _], _ => by kernel_rfl
theorem F_law_open (T : Txt w K mg g mt) : FB K "_law_open" "_law_open" s_law_open ["_law_script", "_law_k", "_law_size", "_law_hall"] (g "_law_open") := T.fb (i := 101) rfl rfl fun _ _ _ _ _ _ us hl => match us, hl with | [_, _, _, _], _ => by kernel_rfl
theorem F_law_alike (T : Txt w K mg g mt) : FB K "_law_alike" "_law_alike" s_law_alike ["_law_desk", "_law_other", "_law_hall"] (g "_law_alike") := T.fb (i := 102) rfl rfl fun _ _ _ _ _ _ us hl => match us, hl with | [_, _, _], _ => by kernel_rfl
theorem F_law_rows (T : Txt w K mg g mt) : FB K "_law_rows" "_law_rows" s_law_rows ["_law_script", "_law_halls", "_law_pool", "_law_size"] (g "_law_rows") := T.fb (i := 103) rfl rfl fun _ _ _ _ _ _ us hl => match us, hl with | [_, _, _, _], _ => by kernel_rfl
theorem F_law (T : Txt w K mg g mt) : FB K "law" "law" s_law ["_law_script"] (g "law") := T.fb (i := 104) rfl rfl fun _ _ _ _ _ _ us hl => match us, hl with | [_], _ => by kernel_rfl
end
end Kin
set_option maxHeartbeats 4000000
/-! K06: helpers: heaps, new objects, comprehensions that change nothing. -/
namespace Kin
open PySem L2

/-! ### heaps -/
theorem nu {H : Hp} {o : HO} {R : Addr → Hp → Prop} (h : ∀ p H1, H p = none → Same H H1 → H1 p = some o → R p H1) : ∀ p, H p = none → R p (upd H p o) := fun p hp =>
  h p _ hp (fun b u e => by rw [upd_ne (ne_of_none e hp)]; exact e) upd_same
theorem same_new {H : Hp} {p : Addr} {o : HO} (hp : H p = none) : Same H (upd H p o) := fun b u e => by rw [upd_ne (ne_of_none e hp)]; exact e
theorem same_mut {H H' : Hp} {p : Addr} {o : HO} (s : Same H H') (hp : H p = none) : Same H (upd H' p o) := fun b u e => by rw [upd_ne (ne_of_none e hp)]; exact s b u e
/-- all but the objects of M stands -/
def Kept (M : List Addr) (H H' : Hp) : Prop := ∀ b o, H b = some o → b ∉ M → H' b = some o
theorem Kept.refl (M : List Addr) (H : Hp) : Kept M H H := fun _ _ e _ => e
theorem Kept.of_same {M : List Addr} {H H' : Hp} (s : Same H H') : Kept M H H' := fun b o e _ => s b o e
theorem Kept.trans {M : List Addr} {H H1 H2 : Hp} (a : Kept M H H1) (b : Kept M H1 H2) : Kept M H H2 := fun c o e n => b c o (a c o e n) n
theorem Kept.same {M : List Addr} {H H1 H2 : Hp} (a : Kept M H H1) (b : Same H1 H2) : Kept M H H2 := fun c o e n => b c o (a c o e n)
theorem Kept.upd {M : List Addr} {H H' : Hp} {p : Addr} {o : HO} (a : Kept M H H') (h : p ∈ M) : Kept M H (L2.upd H' p o) := fun c u e n => by
  rw [upd_ne (fun z => n (by rw [z]; exact h))]; exact a c u e n
theorem Kept.new {M : List Addr} {H H' : Hp} {p : Addr} {o : HO} (a : Kept M H H') (h : H p = none) : Kept M H (L2.upd H' p o) := fun c u e n => by
  rw [upd_ne (ne_of_none e h)]; exact a c u e n
theorem Kept.mono {M N : List Addr} {H H' : Hp} (a : Kept M H H') (h : ∀ x ∈ M, x ∈ N) : Kept N H H' := fun c u e n => a c u e fun z => n (h c z)
theorem Kept.nil {H H' : Hp} (a : Kept [] H H') : Same H H' := fun c u e => a c u e (by simp)
theorem free_of {H H' : Hp} {p : Addr} (s : Same H H') (h : H' p = none) : H p = none := s.free h
/-- a fresh address was fresh before, where what is not of M stands and M was there -/
theorem Kept.free {M : List Addr} {H H' : Hp} {p : Addr} (a : Kept M H H') (hm : ∀ m ∈ M, ∃ o, H' m = some o) (h : H' p = none) : H p = none := by
  cases e : H p with
  | none => rfl
  | some o =>
    by_cases c : p ∈ M
    · obtain ⟨u, q⟩ := hm p c
      rw [h] at q; cases q
    · rw [a p o e c] at h; cases h
theorem ndn {l : List Addr} (nd : l.Nodup) (i j : Nat) {x y : Addr} (hx : l[i]? = some x) (hy : l[j]? = some y) (h : i ≠ j) : x ≠ y := fun e => h (nd_ix nd hx (by rw [e]; exact hy))

/-! ### comprehensions whose turns change nothing -/
def outs (f : Nat → List V) (n : Nat) : List V := (List.range n).flatMap f
theorem outs_succ (f : Nat → List V) (n : Nat) : outs f (n + 1) = outs f n ++ f n := by
  unfold outs
  rw [List.range_succ, List.flatMap_append]
  simp
theorem lc_pure {J : It} {n : Nat} {G : Hp → Prop} {Y : Nat → Hp → V → Hp → Prop} (w : Walk J n G Y) {g : TG} {tt : TT} {te : TE} {vs : List Nat} {σ : St} {H1 : Hp} {D : Addr} {Qd : Hp → Prop} (f : Nat → List V) (hD : H1 D = none) (hn : n ≤ 100000)
    (hG : ∀ H, Same H1 H → G H)
    (hs : ∀ (i : Nat) (x : V) (H H' : Hp), i < n → Same H1 H → Y i H x H' → ∀ (Qe : VK) (Qn : Hp → Prop), (∀ y H4, Same H H4 → f i = [y] → Qe y H4) → (∀ H3, Same H H3 → f i = [] → Qn H3) →
      g x (wipe σ vs) H' fun σ2 H2 => wipe σ2 vs = wipe σ vs ∧ tt σ2 H2 fun b H3 => if b = true then te σ2 H3 Qe else Qn H3)
    (hd : ∀ H, Same H1 H → H D = some (.lst (outs f n)) → Qd H) :
    ∃ W : Nat → Nat → Hp → Prop, (∃ m, W 0 m (upd H1 D (.lst []))) ∧ ∀ i m H, W i m H →
      (J.stop i H ∧ Qd H) ∨ (J.go i H ∧ ∃ Nx : Hp → Prop, (∀ H', Nx H' → ∃ m', m' < m ∧ W (i + 1) m' H') ∧ ∀ x H', J.yld i H x H' → g x (wipe σ vs) H' fun σ2 H2 => wipe σ2 vs = wipe σ vs ∧ tt σ2 H2 fun b H3 =>
        if b = true then te σ2 H3 fun y H4 => ∃ acc, H4 D = some (.lst acc) ∧ acc.length < sizeLine ∧ Nx (upd H4 D (.lst (acc ++ [y]))) else Nx H3) := by
  refine lc_it w (fun i H => Same H1 H ∧ H D = some (.lst (outs f i)) ∧ (outs f i).length ≤ i) ⟨same_new hD, upd_same, Nat.le_refl _⟩ (fun i H _ p => hG H p.1) ?_ fun H p => hd H p.1 p.2.1
  rintro i x H H' hi ⟨s, hl, hz⟩ y
  refine hs i x H H' hi s y _ _ (fun v H4 s4 e => ?_) (fun H3 s3 e => ?_)
  · refine ⟨outs f i, s4 _ _ hl, Nat.lt_of_le_of_lt hz (Nat.lt_of_lt_of_le hi (Nat.le_trans hn (by decide))), same_mut (s.trans s4) hD, ?_, ?_⟩
    · rw [upd_same, outs_succ, e]
    · rw [outs_succ, e, List.length_append]
      simp
      omega
  · refine ⟨s.trans s3, ?_, ?_⟩
    · rw [outs_succ, e, List.append_nil]; exact s3 _ _ hl
    · rw [outs_succ, e, List.append_nil]; omega
/-- the items of a list, one of each -/
theorem outs_map {α : Type} {xs : List α} (f : Nat → List V) (v : α → V) (h : ∀ (i : Nat) x, xs[i]? = some x → f i = [v x]) : ∀ n, n ≤ xs.length → outs f n = (xs.take n).map v
  | 0, _ => by simp [outs]
  | n + 1, hn => by
    have e : xs[n]? = some xs[n] := List.getElem?_eq_getElem (by omega)
    have e2 : xs.take (n + 1) = xs.take n ++ [xs[n]] := (List.take_append_getElem (by omega)).symm
    rw [outs_succ, outs_map f v h n (by omega), h n _ e, e2, List.map_append]
    rfl
theorem outs_all {α : Type} {xs : List α} (f : Nat → List V) (v : α → V) (h : ∀ (i : Nat) x, xs[i]? = some x → f i = [v x]) : outs f xs.length = xs.map v := by
  rw [outs_map f v h _ (Nat.le_refl _), List.take_length]
theorem outs_filter {α : Type} {xs : List α} (f : Nat → List V) (v : α → V) (p : α → Bool) (h : ∀ (i : Nat) x, xs[i]? = some x → f i = if p x = true then [v x] else []) : ∀ n, n ≤ xs.length → outs f n = ((xs.take n).filter p).map v
  | 0, _ => by simp [outs]
  | n + 1, hn => by
    have e : xs[n]? = some xs[n] := List.getElem?_eq_getElem (by omega)
    have e2 : xs.take (n + 1) = xs.take n ++ [xs[n]] := (List.take_append_getElem (by omega)).symm
    rw [outs_succ, outs_filter f v p h n (by omega), h n _ e, e2, List.filter_append, List.map_append]
    congr 1
    by_cases c : p xs[n] = true <;> simp [c]
theorem outs_filterAll {α : Type} {xs : List α} (f : Nat → List V) (v : α → V) (p : α → Bool) (h : ∀ (i : Nat) x, xs[i]? = some x → f i = if p x = true then [v x] else []) : outs f xs.length = (xs.filter p).map v := by
  rw [outs_filter f v p h _ (Nat.le_refl _), List.take_length]
/-- the i-th of mapped items -/
theorem map_at {α β : Type} {f : α → β} {xs : List α} {i : Nat} {y : β} (h : (xs.map f)[i]? = some y) : ∃ x, xs[i]? = some x ∧ y = f x := by
  rw [List.getElem?_map] at h
  cases e : xs[i]? with
  | none => rw [e] at h; cases h
  | some x => rw [e] at h; exact ⟨x, rfl, (Option.some.inj h).symm⟩
theorem at_map {α β : Type} {f : α → β} {xs : List α} {i : Nat} {x : α} (h : xs[i]? = some x) : (xs.map f)[i]? = some (f x) := by
  rw [List.getElem?_map, h]; rfl
theorem ix_at {xs : List V} {z : Int} {v : V} (h0 : 0 ≤ z) (h : xs[z.toNat]? = some v) : atI xs z = some v := by
  have e : z = ((z.toNat : Nat) : Int) := by omega
  rw [e]
  exact atI_nat h
theorem ixN_at {n : Nat} {z : Int} (h0 : 0 ≤ z) (h : z.toNat < n) : ixN n z = some z.toNat := by
  unfold ixN
  rw [if_pos h0, if_pos (by omega)]
theorem map_set {α β : Type} (f : α → β) (xs : List α) (i : Nat) (x : α) : (xs.set i x).map f = (xs.map f).set i (f x) := List.map_set
theorem getD_of {α : Type} {l : List α} {i : Nat} {x d : α} (h : l[i]? = some x) : l.getD i d = x := by
  rw [List.getD_eq_getElem?_getD, h]; rfl
theorem iteB {b : Bool} {A B : Prop} (h1 : b = true → A) (h2 : b = false → B) : if b = true then A else B := by
  cases b with
  | true => rw [if_pos rfl]; exact h1 rfl
  | false => rw [if_neg Bool.false_ne_true]; exact h2 rfl
theorem neT {α : Type} [DecidableEq α] {a b : α} (h : (!decide (a = b)) = true) : a ≠ b := by simpa using h
theorem neF {α : Type} [DecidableEq α] {a b : α} (h : (!decide (a = b)) = false) : a = b := by simpa using h
theorem eqT {p : Prop} [Decidable p] (h : decide p = true) : p := of_decide_eq_true h
theorem eqF {p : Prop} [Decidable p] (h : decide p = false) : ¬ p := of_decide_eq_false h
theorem vnat {a b : Nat} (h : V.int (a : Int) = V.int (b : Int)) : a = b := by
  injection h with h
  omega
theorem vint {a b : Int} (h : V.int a = V.int b) : a = b := by injection h
theorem vstr {a b : Str} (h : V.str a = V.str b) : a = b := by injection h
abbrev ti (t : List Int) : HO := .tup (t.map V.int)
abbrev li (t : List Int) : HO := .lst (t.map V.int)
theorem small (n : Nat) (h : n ≤ 100000) : n ≤ sizeLine := Nat.le_trans h (by decide)
theorem smallL {n : Nat} (h : n ≤ 100000) : n < sizeLine := Nat.lt_of_le_of_lt h (by decide)
theorem rg_still (n : Nat) : rgV 0 (n : Int) = (still n).map V.int := by
  unfold rgV still
  rw [List.map_map]
  have e : ((n : Int) - 0).toNat = n := by omega
  rw [e]
  exact List.map_congr_left fun i _ => by simp
end Kin
set_option maxHeartbeats 4000000
/-! K07: enumerate(t), t a tuple. -/
namespace Kin
open PySem PySem.Spec PyProof.Rows L2
open AutoSeq1 (wpAny_loadPart')

theorem newEnumTup (l : Addr) (items : Array Value) (n : Nat) (dct : Option Addr) (sl : Array (Option Value)) :
    Meets (Builtin.«enumerate.__new__» ⟨[.type "enumerate", .ref l], []⟩) (fun _ R s =>
      s.heap.get? l = some { cls := .type "tuple", dict := dct, data := .seq items n, slots := sl } ∧
      R (.ok (.ret (.ref (s.heap.push { cls := .type "tuple_iterator", data := .fields #[.ref l, .int 0 0] }).objs.size)))
        { s with heap := (s.heap.push { cls := .type "tuple_iterator", data := .fields #[.ref l, .int 0 0] }).push { cls := .type "enumerate", data := .fields #[.none, .bool false, .ref s.heap.objs.size, rawInt 0, .none, .none] } }) :=
  .of_wp fun prog w A R s h => by
    obtain ⟨hp, g, d, tk, os⟩ := s
    obtain ⟨hl, h⟩ := h
    have hsub := sub_enumerate
    have hT : Heap.IsTuple (Shared.heap ⟨hp, g, d, tk, os⟩) l items := ⟨_, hl, rfl, n, rfl⟩
    wp_walk using wpAny_loadPart' hl
    refine wpAny_stack_any fun st => wpAny_pure ?_
    split
    · rename_i c _ _ _ _ _
      cases (c == Value.type "enumerate")
      · wp_walk using wpAny_loadPart' hl, wpAny_pyIter_tuple hT
        exact ⟨_, rfl, h⟩
      · wp_walk using wpAny_loadPart' hl, wpAny_pyIter_tuple hT
        exact ⟨_, rfl, h⟩
    · wp_walk using wpAny_loadPart' hl, wpAny_pyIter_tuple hT
      exact ⟨_, rfl, h⟩
theorem callEnumTup {prog : Program} {w : World} {A : Around} {E : Value → Shared → Prop} {s : Shared} {l : Addr} {items : Array Value} {Q : Value → Shared → Prop} (hL : s.heap.IsTuple l items)
    (h : ∀ h', IsEnum h' (s.heap.objs.size + 1) s.heap.objs.size 0 .none → h'.IsTupleIter s.heap.objs.size l 0 → h'.objs.size = s.heap.objs.size + 2 →
      (∀ b o, s.heap.get? b = some o → h'.get? b = some o) → Q (.ref (s.heap.objs.size + 1)) { s with heap := h' }) :
    wpAny (model prog w) A (call (.type "enumerate") [.ref l]) Q E s := by
  obtain ⟨⟨c, dct, dt, sl⟩, hl, hc, n, hd⟩ := hL
  replace hc : c = .type "tuple" := hc
  replace hd : dt = .seq items n := hd
  subst hc hd
  refine callType_new F.called_enumerate (by decide) (F.typeCall_enumerate_1 _) (F.newCall_enumerate_1 _)
    (fun obj => F.args_object_init_2 obj _) F.entry_enumerate_new (newEnumTup l items n dct sl) ⟨hl, ?_⟩
  let h1 := s.heap.push { cls := .type "tuple_iterator", data := .fields #[.ref l, .int 0 0] }
  have hz : h1.objs.size = s.heap.objs.size + 1 := Heap.size_push ..
  have he : IsEnum (h1.push { cls := .type "enumerate", data := .fields #[.none, .bool false, .ref s.heap.objs.size, rawInt 0, .none, .none] })
      (s.heap.objs.size + 1) s.heap.objs.size 0 .none := by
    have := Heap.get?_push_size h1 (o := { cls := .type "enumerate", data := .fields #[.none, .bool false, .ref s.heap.objs.size, rawInt 0, .none, .none] }) rfl
    rw [hz] at this
    exact this
  rw [hz]
  exact ⟨⟨_, he, rfl⟩, h _ he ⟨_, Heap.get?_push_of_some _ (Heap.get?_push_size _ rfl), rfl, rfl⟩ (by rw [Heap.size_push, hz])
    fun b o x => Heap.get?_push_of_some _ (Heap.get?_push_of_some _ x)⟩

/-- the tuple at a, its items in new pairs with their places -/
def ItEt (K : PySem.W.Frag) (a : Addr) : It :=
  ⟨fun i H => ∃ xs x, SqT K H a xs ∧ xs[i]? = some x, fun i H v H' => ∃ T x, v = .ref T ∧ H T = none ∧ H' = upd H T (.tup [.int (i : Nat), x]) ∧ ∀ xs, SqT K H a xs → xs[i]? = some x,
    fun i H => ∃ xs, SqT K H a xs ∧ xs.length ≤ i⟩
theorem turnEnumTup {P : Program} {w : World} {K : PySem.W.Frag} {elts : List Expr} {kk : Nat} {tpos : Pos} (a e it : Addr) :
    Turn P w K (.Tuple elts kk tpos) (ItEt K a) [e, it] e (fun i h => (∃ old, IsEnum h e it ((i : Nat) : Int) old) ∧ h.IsTupleIter it a i ∧ e ≠ it) where
  mem := by simp
  obj := fun i h st b hb => by
    obtain ⟨⟨old, he⟩, ⟨o, ho, hc, hd⟩, _⟩ := st
    have e' : b = e ∨ b = it := by simpa using hb
    rcases e' with z | z
    · subst z; exact ⟨_, he, fun v q => nomatch q⟩
    · subst z; exact ⟨o, ho, fun v q => by rw [hd] at q; cases q⟩
  keep := fun i h h' st k => by
    obtain ⟨⟨old, he⟩, hi, hne⟩ := st
    exact ⟨⟨old, k e (by simp) _ he⟩, hi.at fun o q => k it (by simp) o q, hne⟩
  item := by
    intro X hP hw hK hc i pins s σ H E I hf st hg
    subst hP hw hK
    obtain ⟨⟨old, he⟩, hit, hne⟩ := st
    obtain ⟨xs, x, hq, hx⟩ := hg
    obtain ⟨its, rv, p, hz⟩ := I.tuple hq
    obtain ⟨u, hu, ru⟩ := rv.get hx
    have hel : e < s.heap.objs.size := Heap.lt_size he
    have hil : it < s.heap.objs.size := by obtain ⟨_, q, _⟩ := hit; exact Heap.lt_size q
    obtain ⟨oa, hoa, _, na, hda⟩ := id p
    have hai : a ≠ it := fun z => by
      obtain ⟨o, q1, _, q2⟩ := hit
      rw [z, q1] at hoa
      cases hoa
      rw [hda] at q2
      cases q2
    have hea : e ≠ a := fun z => by
      have q : s.heap.get? e = _ := he
      rw [z, hoa] at q
      have q' := Option.some.inj q
      rw [q'] at hda
      cases hda
    have D := PySem.Draws.tuple (prog := X.prog) (w := X.w) (A := X.A.in1) (I.ok.hd hc) it a hai its.toArray
    have hlt : i < its.toArray.size := by
      have := (List.getElem?_eq_some_iff.mp hu).1
      simpa using this
    refine wpAny_pyNext_enum_itemD D he ⟨hit, p⟩ hlt hne (by simp [hne, hea]) fun y h' tk hy ho hst hT hsz hk => ?_
    have ey : y = u := by
      have q : its[i]? = some y := by simpa using hy
      rw [hu] at q
      exact (Option.some.inj q).symm
    subst ey
    refine ⟨_, rfl, wpAny_letOwnedTupleGo_enum (s := { s with heap := h', toks := tk + 1 }) ho fun h'' he' sb => ?_⟩
    have hT2 : h''.get? s.heap.objs.size = some { cls := .type "tuple", data := .seq #[.int i tk, y] } := (sb.2 _ (Nat.ne_of_gt hel)).trans hT
    have new : ObjOk X.prog X.w (upd H s.heap.objs.size (.tup [.int (i : Nat), x])) h'' s.heap.objs.size (.tup [.int (i : Nat), x]) :=
      ⟨by show 2 ≤ sizeLine; decide, [.int i tk, y], .cons ⟨_, rfl⟩ (.cons ru .nil), ⟨_, hT2, rfl, _, rfl⟩⟩
    have I1 : Inv X pins σ (upd H s.heap.objs.size (.tup [.int (i : Nat), x])) { s with heap := h'', toks := tk + 1 } :=
      I.turnedNew (ch := [e, it]) (fun b ob hb q => (sb.2 b (fun z => hb (by simp [z]))).trans (hk b ob (fun z => hb (by simp [z])) (fun z => hb (by simp [z])) q)) hf (Nat.le_refl _) new
    refine ⟨.ref s.heap.objs.size, _, I1, rfl, ⟨_, x, rfl, I.hok.fresh (Nat.le_refl _), rfl, fun ys hy => by rw [I.tuple_inj hy hq]; exact hx⟩,
      ⟨⟨y, ?_⟩, hst.1.at fun o q => (sb.2 it (Ne.symm hne)).trans q, hne⟩, fun b hb => ?_⟩
    · have e1 : ((i + 1 : Nat) : Int) = (i : Int) + 1 := by omega
      rw [e1]
      exact he'
    · have hb' : b < s.heap.objs.size := by
        have e' : b = e ∨ b = it := by simpa using hb
        rcases e' with z | z
        · subst z; exact hel
        · subst z; exact hil
      rw [upd_ne (Nat.ne_of_lt hb')]
      exact (hf b hb).1
  done := by
    intro X hP hw hK hc i pins s σ H E I hf st hg
    subst hP hw hK
    obtain ⟨⟨old, he⟩, hit, hne⟩ := st
    obtain ⟨xs, hq, hx⟩ := hg
    obtain ⟨its, rv, p, hz⟩ := I.tuple hq
    obtain ⟨f0, f1, f2, f3, f4, f5⟩ := hf it (by simp)
    have hl := rv.length
    obtain ⟨oa, hoa, _, na, hda⟩ := id p
    have hx' : its.toArray[i]? = none := by
      rw [List.getElem?_toArray]
      exact List.getElem?_eq_none (by omega)
    have hT : s.TypeIs (.ref e) "enumerate" := ⟨_, he, rfl⟩
    unfold pyNext
    refine wpAny_bind (wpAny_attempt (wpAny_callSpecial?_slot (name := Str.ofString "__next__") hT F.slot_enumerate_next
      (wpAny_call_entry F.slot_enumerate_next hT F.entry_enumerate_next ?_ (F.args_enumerate_next_1 _))))
    show wpAny _ _ (field (.ref e) 2 >>= _) _ _ _
    refine wpAny_bind (wpAny_field he rfl (x := .ref it) rfl ?_)
    refine wpAny_bind (wpAny_nextOf_tuple_end (I.ok.hd hc) hit p hx' fun h' x eb hx2 => ?_)
    obtain ⟨o, ho, hc2⟩ := hx2
    refine wpAny_bind (wpAny_isInstance (T := "StopIteration") (b := true) ⟨o, ho, hc2⟩ isSubtype_stop ?_)
    exact wpAny_pure ⟨rfl, I.turned (t' := s.toks) (fun b o hb q => eb b o hb q) f0 f1 f3 f4 f5⟩
  self := fun A i s Q E st h => by
    obtain ⟨⟨_, he⟩, _⟩ := st
    exact wpAny_pyIter_enum he h
def iEnumT (K : PySem.W.Frag) (ta : TA) : TI := fun σ H R => ta σ H fun vs H1 => ∃ a xs, vs = [.ref a] ∧ SqT K H1 a xs ∧ R (ItEt K a) H1
theorem pi_enumT {X : Cx} {e : Expr} {ta : TA} {p pos tpos : Pos} {elts : List Expr} {kk : Nat} (hg : Gl X "enumerate") (hm : X.mg "enumerate" = none) (ha : PA X [e] ta) (hs : starEach [e] X.env = [(false, eval e X.env)] := by rfl) :
    PI X (.Tuple elts kk tpos) (.Call (.Name "enumerate" p) [e] [] pos) (iEnumT X.K ta) := by
  refine ⟨fun pins s σ H R I h => ?_⟩
  refine Call_ (ld_blt I hg hm boot_enumerate (PyProof.Rows.callWith_type1 (thn (ha.run pos pins s σ H _ I h) fun us s1 ⟨vs, H1, I1, r1, q1⟩ => ?_) hs rfl))
  obtain ⟨a, xs, ex, hq, q⟩ := q1
  subst ex
  cases r1 with
  | cons r rr =>
    cases rr
    cases r
    obtain ⟨its, rv, p', hz⟩ := I1.tuple hq
    refine callEnumTup p' fun h' he hit hsz hk => wpAny_pyIter_enum he ?_
    have I2 : Inv X pins σ H1 { s1 with heap := h' } := I1.kept (t' := s1.toks) hk
    refine ⟨s1.heap.objs.size + 1, [s1.heap.objs.size + 1, s1.heap.objs.size], _, _, H1, rfl, I2, turnEnumTup a (s1.heap.objs.size + 1) s1.heap.objs.size, ⟨⟨.none, he⟩, hit, Nat.succ_ne_self _⟩, fun b hb => ?_, q⟩
    have e' : b = s1.heap.objs.size + 1 ∨ b = s1.heap.objs.size := by simpa using hb
    have hle : s1.heap.objs.size ≤ b := by
      rcases e' with z | z
      · rw [z]; exact Nat.le_add_right _ _
      · rw [z]; exact Nat.le_refl _
    exact I1.fpOk hle (I1.hok.fresh hle)
theorem walk_enumT {K : PySem.W.Frag} {a : Addr} {xs : List V} : Walk (ItEt K a) xs.length (fun H => SqT K H a xs) (YPair (fun i => some (.int (i : Nat))) (fun i => xs[i]?)) := by
  refine ⟨fun i _ hi q => ⟨xs, xs[i], q, by simp [hi]⟩, fun _ q => ⟨xs, q, Nat.le_refl _⟩, fun i H v H' _ q y => ?_⟩
  obtain ⟨T, x, h1, h2, h3, h4⟩ := y
  exact ⟨T, .int (i : Nat), x, h1, h2, h3, rfl, h4 xs q⟩
end Kin
set_option maxHeartbeats 4000000
/-! K08: frozen objects, steps of a heap, append. -/
namespace Kin
open PySem L2

/-- as[i] holds o xs[i], for each i -/
structure Each {α : Type} (Z : Hp) (o : α → HO) (as : List Addr) (xs : List α) : Prop where
  len : as.length = xs.length
  at_ : ∀ (i : Nat) x, xs[i]? = some x → ∃ a, as[i]? = some a ∧ Z a = some (o x)
theorem Each.nil {α : Type} {Z : Hp} {o : α → HO} : Each Z o [] [] := ⟨rfl, fun i x h => by simp at h⟩
theorem Each.mono {α : Type} {Z Z' : Hp} {o : α → HO} {as : List Addr} {xs : List α} (e : Each Z o as xs) (s : Same Z Z') : Each Z' o as xs :=
  ⟨e.len, fun i x h => let ⟨a, h1, h2⟩ := e.at_ i x h; ⟨a, h1, s _ _ h2⟩⟩
theorem Each.snoc {α : Type} {Z : Hp} {o : α → HO} {as : List Addr} {xs : List α} (e : Each Z o as xs) {a : Addr} {x : α} (h : Z a = some (o x)) : Each Z o (as ++ [a]) (xs ++ [x]) := by
  refine ⟨by simp [e.len], fun i y hy => ?_⟩
  by_cases hi : i < xs.length
  · rw [List.getElem?_append_left hi] at hy
    obtain ⟨b, h1, h2⟩ := e.at_ i y hy
    exact ⟨b, by rw [List.getElem?_append_left (by rw [e.len]; exact hi)]; exact h1, h2⟩
  · rw [List.getElem?_append_right (by omega)] at hy
    have hk : i - xs.length = 0 := by
      cases c : i - xs.length with
      | zero => rfl
      | succ k => rw [c] at hy; simp at hy
    rw [hk] at hy
    have : x = y := by simpa using hy
    subst this
    exact ⟨a, by rw [List.getElem?_append_right (by rw [e.len]; omega), e.len, hk]; rfl, h⟩
theorem Each.set {α : Type} {Z : Hp} {o : α → HO} {as : List Addr} {xs : List α} (e : Each Z o as xs) (j : Nat) {a : Addr} {x : α} (h : Z a = some (o x)) : Each Z o (as.set j a) (xs.set j x) := by
  refine ⟨by simp [e.len], fun i y hy => ?_⟩
  rw [List.getElem?_set] at hy
  by_cases c : j = i
  · subst c
    rw [if_pos rfl] at hy
    split at hy
    · rename_i hl
      cases hy
      exact ⟨a, by rw [List.getElem?_set, if_pos rfl, if_pos (by rw [e.len]; exact hl)], h⟩
    · cases hy
  · rw [if_neg c] at hy
    obtain ⟨b, h1, h2⟩ := e.at_ i y hy
    exact ⟨b, by rw [List.getElem?_set, if_neg c]; exact h1, h2⟩
/-- the i-th, as the list of references has it -/
theorem Each.get {α : Type} {Z : Hp} {o : α → HO} {as : List Addr} {xs : List α} (e : Each Z o as xs) {i : Nat} {x : α} (h : xs[i]? = some x) : ∃ a, (as.map V.ref)[i]? = some (.ref a) ∧ Z a = some (o x) := by
  obtain ⟨a, h1, h2⟩ := e.at_ i x h
  exact ⟨a, at_map h1, h2⟩
theorem Each.back {α : Type} {Z : Hp} {o : α → HO} {as : List Addr} {xs : List α} (e : Each Z o as xs) {i : Nat} {v : V} (h : (as.map V.ref)[i]? = some v) : ∃ a x, v = .ref a ∧ xs[i]? = some x ∧ Z a = some (o x) := by
  obtain ⟨a, h1, rfl⟩ := map_at h
  have hi : i < xs.length := by rw [← e.len]; exact (List.getElem?_eq_some_iff.mp h1).1
  obtain ⟨b, h2, h3⟩ := e.at_ i xs[i] (List.getElem?_eq_getElem hi)
  rw [h1] at h2
  cases h2
  exact ⟨a, xs[i], rfl, List.getElem?_eq_getElem hi, h3⟩
theorem Each.dropLast {α : Type} {Z : Hp} {o : α → HO} {as : List Addr} {xs : List α} (e : Each Z o as xs) : Each Z o as.dropLast xs.dropLast := by
  refine ⟨by simp [e.len], fun i x h => ?_⟩
  rw [List.getElem?_dropLast] at h
  split at h
  · rename_i c
    obtain ⟨a, h1, h2⟩ := e.at_ i x h
    exact ⟨a, by rw [List.getElem?_dropLast, if_pos (by rw [e.len]; exact c)]; exact h1, h2⟩
  · cases h

/-- what a step does: the frozen stay, all but M stands; the newly frozen are new -/
structure Step (Z H : Hp) (M : List Addr) (Z' H' : Hp) : Prop where
  zz : Same Z Z'
  kp : Kept M H H'
  nw : ∀ b o, Z' b = some o → Z b = some o ∨ H b = none
  lv : ∀ b, H' b = none → H b = none
def Live (H : Hp) (M : List Addr) : Prop := ∀ m ∈ M, ∃ o, H m = some o
/-- none of M is frozen -/
def Off (Z : Hp) (M : List Addr) : Prop := ∀ m ∈ M, Z m = none
theorem Step.refl (Z H : Hp) (M : List Addr) : Step Z H M Z H := ⟨Same.refl _, Kept.refl _ _, fun b o e => .inl e, fun b e => e⟩
theorem Step.same {Z H Z' H' H2 : Hp} {M : List Addr} (s : Step Z H M Z' H') (k : Same H' H2) : Step Z H M Z' H2 := ⟨s.zz, s.kp.same k, s.nw, fun b e => s.lv b (k.free e)⟩
theorem Step.ofSame {Z H H2 : Hp} (M : List Addr) (k : Same H H2) : Step Z H M Z H2 := (Step.refl Z H M).same k
theorem upd_none {H : Hp} {p b : Addr} {o : HO} (h : L2.upd H p o b = none) : H b = none := by
  by_cases c : b = p
  · subst c; rw [upd_same] at h; cases h
  · rw [upd_ne c] at h; exact h
theorem Step.upd {Z H Z' H' : Hp} {M : List Addr} {p : Addr} {o : HO} (s : Step Z H M Z' H') (h : p ∈ M) : Step Z H M Z' (L2.upd H' p o) := ⟨s.zz, s.kp.upd h, s.nw, fun b e => s.lv b (upd_none e)⟩
theorem Step.upd' {Z H Z' H' : Hp} {M : List Addr} {p : Addr} {o : HO} (s : Step Z H M Z' H') (h : p ∈ M ∨ H p = none) : Step Z H M Z' (L2.upd H' p o) := by
  rcases h with h | h
  · exact s.upd h
  · refine ⟨s.zz, fun b u e n => ?_, s.nw, fun b e => s.lv b (upd_none e)⟩
    rw [upd_ne (ne_of_none e h)]; exact s.kp b u e n
/-- one more frozen -/
theorem Step.freeze {Z H Z' H' : Hp} {M : List Addr} {p : Addr} {o : HO} (s : Step Z H M Z' H') (h : H p = none) (hz : Same Z H) : Step Z H M (L2.upd Z' p o) H' := by
  refine ⟨fun b u e => ?_, s.kp, fun b u e => ?_, s.lv⟩
  · rw [upd_ne (ne_of_none (hz b u e) h)]; exact s.zz b u e
  · by_cases c : b = p
    · subst c; exact .inr h
    · rw [upd_ne c] at e; exact s.nw b u e
/-- the second step's M may hold new ones -/
theorem Step.trans' {Z H Z1 H1 Z2 H2 : Hp} {M N : List Addr} (a : Step Z H M Z1 H1) (b : Step Z1 H1 N Z2 H2) (hn : ∀ x ∈ N, x ∈ M ∨ H x = none) : Step Z H M Z2 H2 := by
  refine ⟨a.zz.trans b.zz, fun c o e n => ?_, fun c o e => ?_, fun c e => a.lv c (b.lv c e)⟩
  · refine b.kp c o (a.kp c o e n) fun hc => ?_
    rcases hn c hc with q | q
    · exact n q
    · rw [q] at e; cases e
  · rcases b.nw c o e with e | e
    · exact a.nw c o e
    · exact .inr (a.lv c e)
theorem Step.trans {Z H Z1 H1 Z2 H2 : Hp} {M : List Addr} (a : Step Z H M Z1 H1) (b : Step Z1 H1 M Z2 H2) : Step Z H M Z2 H2 := a.trans' b fun x hx => .inl hx
theorem Step.mono {Z H Z1 H1 : Hp} {M N : List Addr} (a : Step Z H M Z1 H1) (h : ∀ x ∈ M, x ∈ N) : Step Z H N Z1 H1 := ⟨a.zz, a.kp.mono h, a.nw, a.lv⟩
/-- what is not frozen and was there is not frozen after -/
theorem Step.off {Z H Z' H' : Hp} {M N : List Addr} (s : Step Z H M Z' H') (o : Off Z N) (l : Live H N) : Off Z' N := fun m hm => by
  cases e : Z' m with
  | none => rfl
  | some u =>
    rcases s.nw m u e with q | q
    · rw [o m hm] at q; cases q
    · obtain ⟨v, hv⟩ := l m hm
      rw [hv] at q; cases q
theorem Live.kept {H H' : Hp} {M N : List Addr} (k : Kept M H H') (l : Live H N) (d : ∀ x ∈ N, x ∉ M) : Live H' N := fun m hm => let ⟨o, e⟩ := l m hm; ⟨o, k m o e (d m hm)⟩
theorem Live.same {H H' : Hp} {N : List Addr} (l : Live H N) (k : Same H H') : Live H' N := fun m hm => let ⟨o, e⟩ := l m hm; ⟨o, k m o e⟩
theorem Live.ne {H : Hp} {N : List Addr} (l : Live H N) {p : Addr} (h : H p = none) : p ∉ N := fun hp => by
  obtain ⟨o, e⟩ := l p hp; rw [h] at e; cases e
theorem Live.upd {H : Hp} {N : List Addr} (l : Live H N) (p : Addr) (o : HO) : Live (L2.upd H p o) N := fun m hm => by
  by_cases c : m = p
  · subst c; exact ⟨o, upd_same⟩
  · obtain ⟨u, e⟩ := l m hm; exact ⟨u, by rw [upd_ne c]; exact e⟩
theorem Off.ne {Z : Hp} {M : List Addr} (o : Off Z M) {p : Addr} {u : HO} (h : Z p = some u) : p ∉ M := fun hp => by rw [o p hp] at h; cases h
theorem same_updZ {Z H : Hp} {p : Addr} {o : HO} (s : Same Z H) (h : Z p = none) : Same Z (upd H p o) := fun b u e => by rw [upd_ne (ne_of_none e h)]; exact s b u e
theorem same_frz {Z H : Hp} {p : Addr} {o : HO} (s : Same Z H) (h : H p = some o) : Same (upd Z p o) H := fun b u e => by
  by_cases c : b = p
  · subst c; rw [upd_same] at e; rw [← e]; exact h
  · rw [upd_ne c] at e; exact s b u e
theorem off_frz {Z : Hp} {M : List Addr} {p : Addr} {o : HO} (h : Off Z M) (hp : p ∉ M) : Off (upd Z p o) M := fun m hm => by
  have n : m ≠ p := fun e => hp (by rw [← e]; exact hm)
  rw [upd_ne n]; exact h m hm

/-! ### several objects frozen at once -/
def frz (Z H : Hp) (l : List Addr) : Hp := fun b => if b ∈ l then H b else Z b
section
variable {Z H H' : Hp} {l M : List Addr} {b : Addr}
theorem frz_in (h : b ∈ l) : frz Z H l b = H b := if_pos h
theorem frz_out (h : b ∉ l) : frz Z H l b = Z b := if_neg h
theorem frz_back {o : HO} (h : frz Z H l b = some o) : (b ∈ l ∧ H b = some o) ∨ Z b = some o := by
  unfold frz at h
  split at h
  · rename_i c; exact .inl ⟨c, h⟩
  · exact .inr h
theorem same_frzL (n : ∀ b ∈ l, Z b = none) : Same Z (frz Z H l) := fun b o e => by
  rw [frz_out (fun c => by rw [n b c] at e; cases e)]; exact e
theorem frz_same (s : Same Z H) : Same (frz Z H l) H := fun b o e => by
  rcases frz_back e with ⟨_, e⟩ | e
  · exact e
  · exact s b o e
theorem off_frzL (o : Off Z M) (d : ∀ b ∈ l, b ∉ M) : Off (frz Z H l) M := fun m hm => by
  rw [frz_out (fun c => d m c hm)]; exact o m hm
theorem Step.freezeL {Z1 H0 : Hp} (s : Step Z H0 M Z1 H) (n : ∀ b ∈ l, H0 b = none) (z1 : ∀ b ∈ l, Z1 b = none) : Step Z H0 M (frz Z1 H l) H := by
  refine ⟨s.zz.trans (same_frzL z1), s.kp, fun b o e => ?_, s.lv⟩
  rcases frz_back e with ⟨c, e⟩ | e
  · exact .inr (n b c)
  · exact s.nw b o e
end
/-! ### x.f, x a name of the def -/
def Has (K : PySem.W.Frag) (H : Hp) (x : Addr) (f : Str) (v : V) : Prop := ∃ C dx fs, H x = some (.ins C dx fs) ∧ Cls K C ∧ NoAttr K C f ∧ fs.lookup f = some v
def tSf (K : PySem.W.Frag) (i : Nat) (f : Str) : TE := fun σ H Q => ∃ x v, σ[i]? = some (some (.ref x)) ∧ Has K H x f v ∧ Q v H
theorem pe_sf {X : Cx} {f x : Str} {pos apos : Pos} (i : Nat) (hN : X.N[i]? = some x := by rfl) (hv : Vis X.env.scope x := by first | exact .inl rfl | exact .inr (.inl rfl) | exact .inr (.inr rfl))
    (hd : (x == ("__debug__" : Str)) = false := by decide) (hcd : (x == ("__classdict__" : Str)) = false := by decide) (hb : attributeBase (.Name x pos) f X.env (eval (.Name x pos) X.env) = eval (.Name x pos) X.env := by rfl) :
    PE X (.Attribute (.Name x pos) f apos) (tSf X.K i f) :=
  PE.of (pe_fld (pe_var (i := i) hN hv hd hcd) hb) fun σ H Q ⟨a, v, h1, ⟨C, dx, fs, h2, h3, h4, h5⟩, q⟩ => ⟨_, h1, a, C, dx, fs, v, rfl, h2, h3, h4, h5, q⟩
/-! ### an instance in the making -/
theorem lenF (f : Str) (v : V) : ∀ fs : List (Str × V), (putF f v fs).length ≤ fs.length + 1
  | [] => Nat.le_refl _
  | (g, x) :: r => by
    unfold putF
    split
    · simp
    · have := lenF f v r
      simp only [List.length_cons]
      omega
structure Ini (C : Addr) (H0 : Hp) (x dx : Addr) (fs : List (Str × V)) (as : List (Addr × HO)) (H : Hp) : Prop where
  kp : Kept [x] H0 H
  ob : H x = some (.ins C dx fs)
  nw : ∀ q ∈ as, H0 q.1 = none ∧ H q.1 = some q.2
  nd : (x :: as.map (·.1)).Nodup
section
variable {C x dx p : Addr} {H0 H H' : Hp} {fs : List (Str × V)} {as : List (Addr × HO)}
theorem Ini.start (h : H x = some (.ins C dx fs)) : Ini C H x dx fs [] H := ⟨Kept.refl _ _, h, fun q hq => by simp at hq, by simp⟩
theorem Ini.ne (i : Ini C H0 x dx fs as H) {q : Addr × HO} (h : q ∈ as) : q.1 ≠ x := fun e => by
  have := i.nd
  rw [List.nodup_cons] at this
  exact this.1 (by rw [← e]; exact List.mem_map.mpr ⟨q, h, rfl⟩)
theorem Ini.val (i : Ini C H0 x dx fs as H) (gs : List (Str × V)) : Ini C H0 x dx gs as (upd H x (.ins C dx gs)) :=
  ⟨i.kp.upd (by simp), upd_same, fun q hq => ⟨(i.nw q hq).1, by rw [upd_ne (i.ne hq)]; exact (i.nw q hq).2⟩, i.nd⟩
theorem Ini.more (i : Ini C H0 x dx fs as H) (s : Same H H') : Ini C H0 x dx fs as H' :=
  ⟨i.kp.same s, s _ _ i.ob, fun q hq => ⟨(i.nw q hq).1, s _ _ (i.nw q hq).2⟩, i.nd⟩
theorem Ini.free (i : Ini C H0 x dx fs as H) (h : H p = none) : H0 p = none := i.kp.free (fun m hm => by rw [List.mem_singleton.mp hm]; exact ⟨_, i.ob⟩) h
theorem Ini.add (i : Ini C H0 x dx fs as H) {o : HO} (s : Same H H') (h0 : H p = none) (h : H' p = some o) : Ini C H0 x dx fs (as ++ [(p, o)]) H' := by
  have j := i.more s
  refine ⟨j.kp, j.ob, fun q hq => ?_, ?_⟩
  · rcases List.mem_append.mp hq with hq | hq
    · exact j.nw q hq
    · rw [List.mem_singleton.mp hq]; exact ⟨i.free h0, h⟩
  · have e : x :: (as ++ [(p, o)]).map (·.1) = (x :: as.map (·.1)) ++ [p] := by simp
    rw [e]
    refine nd_snoc i.nd fun hp => ?_
    rcases List.mem_cons.mp hp with rfl | hp
    · rw [i.ob] at h0; cases h0
    · obtain ⟨q, hq, rfl⟩ := List.mem_map.mp hp
      rw [(i.nw q hq).2] at h0; cases h0
theorem Ini.obj (i : Ini C H0 x dx fs as H) (h : H p = none) (o : HO) (gs : List (Str × V)) : Ini C H0 x dx gs (as ++ [(p, o)]) (upd (upd H p o) x (.ins C dx gs)) :=
  (i.add (same_new h) h upd_same).val gs
end
end Kin
set_option maxHeartbeats 4000000
/-! K10: turnings: still, led, undone, is_turn. -/
namespace Kin
open PySem L2
section
variable {P : Program} {w : World} {K : PySem.W.Frag} {mg : Str → Option Value} {g : Str → Addr} {mt : Str → Str → Addr} {base : Heap}

def spStill : Sp := fun vs H Q _ => ∃ n : Nat, vs = [.int n] ∧ n ≤ 8 ∧ ∀ p H', H p = none → Same H H' → H' p = some (ti (still n)) → Q (.ref p) H'
theorem ok_still (T : Txt w K mg g mt) : GF P w K mg base CX0 1 "still" spStill := by
  refine gf0 (F_still T) (T.glo _ (by decide +kernel)) sc_still (fun vs H Q E h => ?_) fun cdv A outer s H vs Q E hr h => ?_
  · obtain ⟨n, rfl, _⟩ := h; rfl
  · obtain ⟨n, rfl, hn, k⟩ := h
    have fT : mg "tuple" = none := T.free _ (by decide +kernel)
    have fR : mg "range" = none := T.free _ (by decide +kernel)
    refine ⟨_, pss_one (ps_ret (pe_tupRg rfl (by rfl) fT (prg_1 (by rfl) fR (pv 0)))), ?_⟩
    refine ⟨_, rfl, _, rfl, RgOk.of_le (by omega) (by omega) (by omega) (by omega), nu fun p H1 hp s1 h1 => ?_⟩
    rw [rg_still] at h1
    exact k p H1 hp s1 h1

def spLed : Sp := fun vs H Q _ => ∃ (a b : Addr) (n : Nat) (f t : List Int), vs = [.ref a, .ref b] ∧ n ≤ 9 ∧ Fit n f ∧ Fit n t ∧ H a = some (ti f) ∧ H b = some (ti t) ∧ ∀ p H', H p = none → Same H H' → H' p = some (ti (led f t)) → Q (.ref p) H'
theorem ok_led (T : Txt w K mg g mt) : GF P w K mg base CX0 1 "led" spLed := by
  refine gf0 (F_led T) (T.glo _ (by decide +kernel)) sc_led (fun vs H Q E h => ?_) fun cdv A outer s H vs Q E hr h => ?_
  · obtain ⟨a, b, n, f, t, rfl, _⟩ := h; rfl
  · obtain ⟨a, b, n, f, t, rfl, hn, ff, ft, ha, hb, k⟩ := h
    have fT : mg "tuple" = none := T.free _ (by decide +kernel)
    refine ⟨_, pss_one (ps_ret (pe_callTy call_tuple_of (by rfl) fT PyProof.Rows.boot_tuple (pa_cons
      (pe_lc (own := [("one", 2)]) (g := gName 2) (tt := tYes) rfl sc_led.nd (pi_tup (pv 0)) (blkOk_by (N := ["first", "then", "one"]) (sc := defScope s_led) (by decide +kernel)) (fun _ _ _ _ _ => pg_name (i := 2) sc_led.nd rfl (Or.inl rfl)) (fun _ _ _ _ _ => pts_nil)
        (fun _ _ _ _ _ => pe_ix (r := rIxT K) ix_tup (pv 1) (pv 2) (fun _ _ => rfl))) pa_nil))), ?_⟩
    refine ⟨_, rfl, a, rfl, ⟨_, SqT.of ha⟩, fun D hD => lc_pure (walk_tup (K := K) (a := a) (xs := f.map V.int)) (fun i => [.int (t.getD (f.getD i 0).toNat 0)]) hD (by rw [List.length_map, ff.len]; omega) (fun H1 s1 => SqT.of (s1 _ _ ha)) ?_ ?_⟩
    · rintro i x H1 H2 hi s1 ⟨rfl, hx⟩ Qe Qn qe qn
      obtain ⟨z, hz, rfl⟩ := map_at hx
      refine ⟨rfl, ?_⟩
      show (if true = true then _ else Qn H2)
      rw [if_pos rfl]
      refine ⟨_, rfl, _, rfl, b, t.map V.int, z, .int (t.getD z.toNat 0), rfl, rfl, SqT.of (s1 _ _ hb), ?_, qe _ _ (Same.refl _) ?_⟩
      · have r := ff.rng z (List.mem_of_getElem? hz)
        exact ix_at r.1 (at_map (ft.get r.1 r.2).1)
      · rw [getD_of hz]
    · intro H1 s1 hl
      have e : outs (fun i => [V.int (t.getD (f.getD i 0).toNat 0)]) (f.map V.int).length = (led f t).map V.int := by
        rw [List.length_map]
        unfold led
        rw [List.map_map]
        exact outs_all _ _ fun i x hx => by rw [getD_of hx]; rfl
      rw [e] at hl
      refine ⟨D, _, rfl, .inl ⟨SqL.of hl, nu fun p H2 hp s2 h2 => ?_⟩⟩
      exact k p H2 (s1.free hp) (s1.trans s2) h2

def spUndone : Sp := fun vs H Q _ => ∃ (a : Addr) (n : Nat) (t : List Int), vs = [.ref a] ∧ n ≤ 9 ∧ Fit n t ∧ H a = some (ti t) ∧ ∀ p H', H p = none → Same H H' → H' p = some (ti (undone t)) → Q (.ref p) H'
theorem ok_undone (T : Txt w K mg g mt) : GF P w K mg base CX0 1 "undone" spUndone := by
  refine gf0 (F_undone T) (T.glo _ (by decide +kernel)) sc_undone (fun vs H Q E h => ?_) fun cdv A outer s H vs Q E hr h => ?_
  · obtain ⟨a, n, t, rfl, _⟩ := h; rfl
  · obtain ⟨a, n, t, rfl, hn, ft, ha, k⟩ := h
    have fT : mg "tuple" = none := T.free _ (by decide +kernel)
    have fL : mg "list" = none := T.free _ (by decide +kernel)
    have fE : mg "enumerate" = none := T.free _ (by decide +kernel)
    refine ⟨_, pss_cons (ps_set (i := 1) sc_undone.nd rfl (.inl rfl) (pe_callTy call_list_of (by rfl) fL PyProof.Rows.boot_list (pa_cons (pv 0) pa_nil)))
      (pss_cons (ps_for PassesOwn.never rfl (pi_enumT (by rfl) fE (pa_cons (pv 0) pa_nil)) (pg_tup rfl (pgs_cons (pg_name (i := 2) sc_undone.nd rfl (.inl rfl)) (pgs_cons (pg_name (i := 3) sc_undone.nd rfl (.inl rfl)) pgs_nil)))
        (pss_one (ps_asg (pv 2) (pg_sub (pv 1) (pv 3) set_list))))
      (pss_one (ps_ret (pe_callTy call_tuple_of (by rfl) fT PyProof.Rows.boot_tuple (pa_cons (pv 1) pa_nil))))), ?_⟩
    refine ⟨_, rfl, a, _, rfl, .inr (SqT.of ha), nu fun F H1 hF s1 h1 => ?_⟩
    refine ⟨_, rfl, a, _, rfl, SqT.of (s1 _ _ ha), ?_⟩
    refine for_it (walk_enumT (K := K) (a := a) (xs := t.map V.int)) (fun i σ H2 => (∃ u v, σ = [some (.ref a), some (.ref F), u, v]) ∧ Same H H2 ∧ H2 F = some (li (undoneTo t i))) ⟨⟨none, none, rfl⟩, s1, h1⟩ (fun i σ H2 _ p => SqT.of (p.2.1 _ _ ha)) ?_ ?_
    · rintro i x σ H2 H3 hi ⟨⟨u, v, rfl⟩, s2, h2⟩ ⟨P, x0, x1, rfl, hP, rfl, e0, e1⟩
      obtain ⟨z, hz, rfl⟩ := map_at e1
      cases e0
      have hi' : i < n := by rw [List.length_map, ft.len] at hi; exact hi
      have rz := ft.rng z (List.mem_of_getElem? hz)
      have ez : t.getD i 0 = z := getD_of hz
      have h3 : upd H2 P (.tup [.int (i : Nat), .int z]) F = some (li (undoneTo t i)) := by rw [upd_ne (ne_of_none h2 hP)]; exact h2
      refine ⟨P, _, rfl, SqT.of upd_same, rfl, _, _, rfl, _, _, rfl, rfl, ?_⟩
      refine ⟨_, rfl, _, rfl, _, rfl, F, (undoneTo t i).map V.int, z, z.toNat, rfl, rfl, h3, ?_, ?_⟩
      · exact ixN_at rz.1 (by rw [List.length_map, undoneTo_len, ft.len]; omega)
      · refine ⟨⟨_, _, rfl⟩, ?_, ?_⟩
        · intro b o e
          rw [upd_ne (ne_of_none e hF)]
          exact (s2.trans (same_new hP)) b o e
        · rw [upd_same, undoneTo_succ, ez]
          unfold li
          rw [map_set]
    · rintro σ H2 ⟨⟨u, v, rfl⟩, s2, h2⟩
      rw [List.length_map] at h2
      refine ⟨_, rfl, F, _, rfl, .inl ⟨SqL.of h2, nu fun p H3 hp s3 h3 => k p H3 (s2.free hp) (s2.trans s3) h3⟩⟩

def spIsTurn : Sp := fun vs H Q _ => ∃ (a : Addr) (t : List Int), vs = [.ref a] ∧ t.length ≤ 9 ∧ H a = some (ti t) ∧ ∀ H', Same H H' → Q (.bl (isTurn t)) H'
/-- the first i of t are in range and no two alike -/
def turnTo (t : List Int) (i : Nat) : Prop := (t.take i).Nodup ∧ ∀ x ∈ t.take i, 0 ≤ x ∧ x < (t.length : Int)
theorem turnTo_zero (t : List Int) : turnTo t 0 := ⟨by simp, by simp⟩
theorem turnTo_succ {t : List Int} {i : Nat} {z : Int} (h : t[i]? = some z) (p : turnTo t i) (h0 : 0 ≤ z) (h1 : z < (t.length : Int)) (hn : z ∉ t.take i) : turnTo t (i + 1) := by
  have hl : i < t.length := (List.getElem?_eq_some_iff.mp h).1
  have e : t.take (i + 1) = t.take i ++ [z] := by
    rw [← List.take_append_getElem hl]
    rw [(List.getElem?_eq_some_iff.mp h).2]
  unfold turnTo
  rw [e]
  refine ⟨nd_snoc p.1 hn, fun x hx => ?_⟩
  rcases List.mem_append.mp hx with hx | hx
  · exact p.2 x hx
  · rw [List.mem_singleton.mp hx]; exact ⟨h0, h1⟩
theorem isTurn_all {t : List Int} (p : turnTo t t.length) : isTurn t = true := by
  unfold turnTo at p
  rw [List.take_length] at p
  exact decide_eq_true p
theorem isTurn_bad {t : List Int} {i : Nat} {z : Int} (h : t[i]? = some z) (b : z < 0 ∨ (t.length : Int) ≤ z ∨ z ∈ t.take i) : isTurn t = false := by
  refine decide_eq_false fun p => ?_
  have hm := List.mem_of_getElem? h
  have r := p.2 z hm
  rcases b with b | b | b
  · omega
  · omega
  · obtain ⟨j, hj, e⟩ := List.getElem_of_mem b
    rw [List.length_take] at hj
    have hl : i < t.length := (List.getElem?_eq_some_iff.mp h).1
    rw [List.getElem_take] at e
    have e2 : t[j] = t[i] := e.trans (List.getElem?_eq_some_iff.mp h).2.symm
    have := (List.getElem_inj (xs := t) (h₀ := by omega) (h₁ := hl) p.1).mp e2
    omega
theorem ok_isTurn (T : Txt w K mg g mt) : GF P w K mg base CX0 1 "is_turn" spIsTurn := by
  refine gf0 (F_is_turn T) (T.glo _ (by decide +kernel)) sc_is_turn (fun vs H Q E h => ?_) fun cdv A outer s H vs Q E hr h => ?_
  · obtain ⟨a, t, rfl, _⟩ := h; rfl
  · obtain ⟨a, t, rfl, hn, ha, k⟩ := h
    have fL : mg "len" = none := T.free _ (by decide +kernel)
    have nd := sc_is_turn.nd
    have hu := hu_of hr
    refine ⟨_, pss_cons (ps_set (i := 1) nd rfl (.inl rfl) pe_dnewK)
      (pss_cons (ps_for PassesOwn.never rfl (pi_tup (pv 0)) (pg_name (i := 2) nd rfl (.inl rfl))
        (pss_cons (ps_if (PW.pt (pw_or (pt_cmpR op_lt (pv 2) pe_int (nomark _)) (pw_or (pt_cmpR op_ge (pv 2) (pe_callB call_len_seq (by rfl) fL PySem.boot_len (pa_cons (pv 0) pa_nil)) (nomark _)) (pw_or1 (pt_cmp (pc_din hu (pv 2) (pv 1)))))))
            (pss_one (ps_ret pe_bl)) pss_nil)
          (pss_one (ps_dput hu (pv 1) (pv 2) pe_bl rfl))))
      (pss_one (ps_ret pe_bl))), ?_⟩
    refine nu fun D H1 hD s1 h1 => ?_
    refine ⟨_, rfl, a, rfl, ⟨_, SqT.of (s1 _ _ ha)⟩, ?_⟩
    refine for_it (walk_tup (K := K) (a := a) (xs := t.map V.int)) (fun i σ H2 => (∃ u, σ = [some (.ref a), some (.ref D), u]) ∧ Same H H2 ∧ turnTo t i ∧ ∃ kvs, H2 D = some (.dK kvs) ∧ kvs.length ≤ i ∧ ∀ z : Int, (valV kvs (.inl z)).isSome = true ↔ z ∈ t.take i)
      ⟨⟨none, rfl⟩, s1, turnTo_zero t, [], h1, Nat.le_refl _, fun z => by simp [valV]⟩ (fun i σ H2 _ p => SqT.of (p.2.1 _ _ ha)) ?_ ?_
    · rintro i x σ H2 H3 hi ⟨⟨u, rfl⟩, s2, tt, kvs, h2, hk, hv⟩ ⟨e23, hx⟩
      rw [e23]
      obtain ⟨z, hz, rfl⟩ := map_at hx
      have bad : isTurn t = false → Q (.bl false) H2 := fun e => by rw [← e]; exact k H2 s2
      refine ⟨_, rfl, z, 0, rfl, rfl, _, rfl, iteB (fun c => bad (isTurn_bad hz (.inl (of_decide_eq_true c)))) fun c0 => ?_⟩
      refine ⟨_, rfl, _, rfl, a, _, rfl, .inr (SqT.of (s2 _ _ ha)), z, _, rfl, rfl, _, rfl, iteB (fun c => bad (isTurn_bad hz (.inr (.inl (by have := of_decide_eq_true c; rw [List.length_map] at this; exact this))))) fun c1 => ?_⟩
      refine ⟨_, rfl, _, rfl, D, _, rfl, DGet.k (k := .inl z) h2, _, rfl, iteB (fun c => bad (isTurn_bad hz (.inr (.inr ((hv z).mp c))))) fun c2 => ?_⟩
      have hn : z ∉ t.take i := fun hm => by rw [(hv z).mpr hm] at c2; cases c2
      have e0 := of_decide_eq_false c0
      have e1 := of_decide_eq_false c1
      rw [List.length_map] at e1
      have hl : i < t.length := (List.getElem?_eq_some_iff.mp hz).1
      refine ⟨_, rfl, _, rfl, D, _, rfl, DPut.k (k := .inl z) h2 (smallL (by omega)), ⟨_, rfl⟩, same_mut s2 hD, turnTo_succ hz tt (by omega) (by omega) hn, _, upd_same, Nat.le_trans (length_put _ _ _) (by omega), fun y => ?_⟩
      rw [valV_put, ← List.take_append_getElem hl, (List.getElem?_eq_some_iff.mp hz).2]
      by_cases c : (Sum.inl y : Key) = Sum.inl z
      · rw [if_pos c, Sum.inl.inj c]; simp
      · rw [if_neg c, hv y]
        have : y ≠ z := fun q => c (by rw [q])
        simp [this]
    · rintro σ H2 ⟨⟨u, rfl⟩, s2, tt, kvs, h2, hk, hv⟩
      rw [List.length_map] at tt
      rw [← isTurn_all tt]
      exact k H2 s2
end
end Kin
set_option maxHeartbeats 4000000
/-! K11: the groups (Joins). -/
namespace Kin
open PySem L2
def jF (n : Int) (a1 a2 a3 a4 : Addr) : List (Str × V) := [("size", .int n), ("above", .ref a1), ("turning", .ref a2), ("many", .ref a3), ("room", .ref a4)]
section
variable (n : Int) (a1 a2 a3 a4 : Addr)
theorem jF_size : (jF n a1 a2 a3 a4).lookup ("size" : Str) = some (V.int n) := by kernel_rfl
theorem jF_above : (jF n a1 a2 a3 a4).lookup ("above" : Str) = some (V.ref a1) := by kernel_rfl
theorem jF_turning : (jF n a1 a2 a3 a4).lookup ("turning" : Str) = some (V.ref a2) := by kernel_rfl
theorem jF_many : (jF n a1 a2 a3 a4).lookup ("many" : Str) = some (V.ref a3) := by kernel_rfl
theorem jF_room : (jF n a1 a2 a3 a4).lookup ("room" : Str) = some (V.ref a4) := by kernel_rfl
theorem jF_made : putF "room" (.ref a4) (putF "many" (.ref a3) (putF "turning" (.ref a2) (putF "above" (.ref a1) (putF "size" (.int n) [])))) = jF n a1 a2 a3 a4 := by kernel_rfl
end
abbrev ni (A : List Nat) : HO := .lst (A.map fun n : Nat => V.int (n : Int))
structure JA (g : Str → Addr) (Z H : Hp) (jo a1 a2 a3 a4 : Addr) (J : JS) : Prop where
  zs : Same Z H
  nd : [jo, a1, a2, a3, a4].Nodup
  off : Off Z [jo, a1, a2, a3, a4]
  ob : ∃ dx, H jo = some (.ins (g "Joins") dx (jF J.size a1 a2 a3 a4))
  ab : H a1 = some (ni J.above)
  tu : ∃ ts, H a2 = some (.lst (ts.map V.ref)) ∧ Each Z ti ts J.turning
  mn : H a3 = some (li J.many)
  ro : ∃ rs, H a4 = some (.lst (rs.map V.ref)) ∧ Each Z li rs J.room
section
variable {g : Str → Addr} {Z H H' : Hp} {jo a1 a2 a3 a4 : Addr} {J : JS}
abbrev jM (jo a1 a2 a3 a4 : Addr) : List Addr := [jo, a1, a2, a3, a4]
theorem JA.same (j : JA g Z H jo a1 a2 a3 a4 J) (s : Same H H') : JA g Z H' jo a1 a2 a3 a4 J := by
  obtain ⟨z, nd, of, ⟨dx, ob⟩, ab, ⟨ts, t1, t2⟩, mn, rs, r1, r2⟩ := j
  exact ⟨z.trans s, nd, of, ⟨dx, s _ _ ob⟩, s _ _ ab, ⟨ts, s _ _ t1, t2⟩, s _ _ mn, rs, s _ _ r1, r2⟩
theorem JA.live (j : JA g Z H jo a1 a2 a3 a4 J) : Live H (jM jo a1 a2 a3 a4) := by
  obtain ⟨z, nd, of, ⟨dx, ob⟩, ab, ⟨ts, t1, t2⟩, mn, rs, r1, r2⟩ := j
  intro m hm
  simp only [List.mem_cons, List.not_mem_nil, or_false] at hm
  rcases hm with rfl | rfl | rfl | rfl | rfl
  · exact ⟨_, ob⟩
  · exact ⟨_, ab⟩
  · exact ⟨_, t1⟩
  · exact ⟨_, mn⟩
  · exact ⟨_, r1⟩
/-- other frozen ones -/
theorem JA.grow {Z' : Hp} (j : JA g Z H jo a1 a2 a3 a4 J) (z : Same Z Z') (zs : Same Z' H') (k : Kept [] H H') (o : Off Z' (jM jo a1 a2 a3 a4)) : JA g Z' H' jo a1 a2 a3 a4 J := by
  obtain ⟨_, nd, of, ⟨dx, ob⟩, ab, ⟨ts, t1, t2⟩, mn, rs, r1, r2⟩ := j
  have s := k.nil
  exact ⟨zs, nd, o, ⟨dx, s _ _ ob⟩, s _ _ ab, ⟨ts, s _ _ t1, t2.mono z⟩, s _ _ mn, rs, s _ _ r1, r2.mono z⟩
theorem JA.freeze (j : JA g Z H jo a1 a2 a3 a4 J) {p : Addr} {o : HO} (h : H p = some o) (hz : Z p = none) (hp : p ∉ jM jo a1 a2 a3 a4) : JA g (upd Z p o) H jo a1 a2 a3 a4 J :=
  j.grow (same_new hz) (same_frz j.zs h) (Kept.refl _ _) (off_frz j.off hp)
theorem JA.setAbove (j : JA g Z H jo a1 a2 a3 a4 J) (A : List Nat) : JA g Z (upd H a1 (ni A)) jo a1 a2 a3 a4 ⟨J.size, A, J.turning, J.many, J.room⟩ := by
  obtain ⟨z, nd, of, ⟨dx, ob⟩, ab, ⟨ts, t1, t2⟩, mn, rs, r1, r2⟩ := j
  refine ⟨same_updZ z (of _ (by simp)), nd, of, ⟨dx, ?_⟩, upd_same, ⟨ts, ?_, t2⟩, ?_, rs, ?_, r2⟩
  · rw [upd_ne (ndn nd 0 1 rfl rfl (by decide))]; exact ob
  · rw [upd_ne (ndn nd 2 1 rfl rfl (by decide))]; exact t1
  · rw [upd_ne (ndn nd 3 1 rfl rfl (by decide))]; exact mn
  · rw [upd_ne (ndn nd 4 1 rfl rfl (by decide))]; exact r1
theorem JA.setTurning (j : JA g Z H jo a1 a2 a3 a4 J) {ts : List Addr} {T : List (List Int)} (e : Each Z ti ts T) : JA g Z (upd H a2 (.lst (ts.map V.ref))) jo a1 a2 a3 a4 ⟨J.size, J.above, T, J.many, J.room⟩ := by
  obtain ⟨z, nd, of, ⟨dx, ob⟩, ab, _, mn, rs, r1, r2⟩ := j
  refine ⟨same_updZ z (of _ (by simp)), nd, of, ⟨dx, ?_⟩, ?_, ⟨ts, upd_same, e⟩, ?_, rs, ?_, r2⟩
  · rw [upd_ne (ndn nd 0 2 rfl rfl (by decide))]; exact ob
  · rw [upd_ne (ndn nd 1 2 rfl rfl (by decide))]; exact ab
  · rw [upd_ne (ndn nd 3 2 rfl rfl (by decide))]; exact mn
  · rw [upd_ne (ndn nd 4 2 rfl rfl (by decide))]; exact r1
theorem JA.setMany (j : JA g Z H jo a1 a2 a3 a4 J) (A : List Int) : JA g Z (upd H a3 (li A)) jo a1 a2 a3 a4 ⟨J.size, J.above, J.turning, A, J.room⟩ := by
  obtain ⟨z, nd, of, ⟨dx, ob⟩, ab, ⟨ts, t1, t2⟩, mn, rs, r1, r2⟩ := j
  refine ⟨same_updZ z (of _ (by simp)), nd, of, ⟨dx, ?_⟩, ?_, ⟨ts, ?_, t2⟩, upd_same, rs, ?_, r2⟩
  · rw [upd_ne (ndn nd 0 3 rfl rfl (by decide))]; exact ob
  · rw [upd_ne (ndn nd 1 3 rfl rfl (by decide))]; exact ab
  · rw [upd_ne (ndn nd 2 3 rfl rfl (by decide))]; exact t1
  · rw [upd_ne (ndn nd 4 3 rfl rfl (by decide))]; exact r1
theorem JA.setRoom (j : JA g Z H jo a1 a2 a3 a4 J) {rs : List Addr} {R : List (List Int)} (e : Each Z li rs R) : JA g Z (upd H a4 (.lst (rs.map V.ref))) jo a1 a2 a3 a4 ⟨J.size, J.above, J.turning, J.many, R⟩ := by
  obtain ⟨z, nd, of, ⟨dx, ob⟩, ab, ⟨ts, t1, t2⟩, mn, _, _, _⟩ := j
  refine ⟨same_updZ z (of _ (by simp)), nd, of, ⟨dx, ?_⟩, ?_, ⟨ts, ?_, t2⟩, ?_, rs, upd_same, e⟩
  · rw [upd_ne (ndn nd 0 4 rfl rfl (by decide))]; exact ob
  · rw [upd_ne (ndn nd 1 4 rfl rfl (by decide))]; exact ab
  · rw [upd_ne (ndn nd 2 4 rfl rfl (by decide))]; exact t1
  · rw [upd_ne (ndn nd 3 4 rfl rfl (by decide))]; exact mn
end
section
variable {P : Program} {w : World} {K : PySem.W.Frag} {mg : Str → Option Value} {g : Str → Addr} {mt : Str → Str → Addr} {base : Heap}
/-- a field of the groups, read -/
theorem rdJ (T : Txt w K mg g mt) {Z H : Hp} {jo a1 a2 a3 a4 : Addr} {J : JS} {f : Str} {v : V} (j : JA g Z H jo a1 a2 a3 a4 J) (hf : (("Joins" : Str), f) ∈ attrNames) (hl : (jF J.size a1 a2 a3 a4).lookup f = some v) : Has K H jo f v := by
  obtain ⟨dx, ob⟩ := j.ob
  exact ⟨_, dx, _, ob, T.cls _ (by decide +kernel), T.noat (("Joins" : Str), f) hf, hl⟩
theorem rdSize (T : Txt w K mg g mt) {Z H : Hp} {jo a1 a2 a3 a4 : Addr} {J : JS} (j : JA g Z H jo a1 a2 a3 a4 J) : Has K H jo "size" (.int J.size) := rdJ T j (f := "size") (by decide +kernel) (jF_size ..)
theorem rdAbove (T : Txt w K mg g mt) {Z H : Hp} {jo a1 a2 a3 a4 : Addr} {J : JS} (j : JA g Z H jo a1 a2 a3 a4 J) : Has K H jo "above" (.ref a1) := rdJ T j (f := "above") (by decide +kernel) (jF_above ..)
theorem rdTurning (T : Txt w K mg g mt) {Z H : Hp} {jo a1 a2 a3 a4 : Addr} {J : JS} (j : JA g Z H jo a1 a2 a3 a4 J) : Has K H jo "turning" (.ref a2) := rdJ T j (f := "turning") (by decide +kernel) (jF_turning ..)
theorem rdMany (T : Txt w K mg g mt) {Z H : Hp} {jo a1 a2 a3 a4 : Addr} {J : JS} (j : JA g Z H jo a1 a2 a3 a4 J) : Has K H jo "many" (.ref a3) := rdJ T j (f := "many") (by decide +kernel) (jF_many ..)
theorem rdRoom (T : Txt w K mg g mt) {Z H : Hp} {jo a1 a2 a3 a4 : Addr} {J : JS} (j : JA g Z H jo a1 a2 a3 a4 J) : Has K H jo "room" (.ref a4) := rdJ T j (f := "room") (by decide +kernel) (jF_room ..)
theorem nomJ (n : Int) (a1 a2 a3 a4 : Addr) : (jF n a1 a2 a3 a4).lookup ("head" : Str) = none ∧ (jF n a1 a2 a3 a4).lookup ("link" : Str) = none ∧ (jF n a1 a2 a3 a4).lookup ("kept_room" : Str) = none ∧ (jF n a1 a2 a3 a4).lookup ("add" : Str) = none ∧ (jF n a1 a2 a3 a4).lookup ("tie" : Str) = none ∧ (jF n a1 a2 a3 a4).lookup ("say" : Str) = none ∧ (jF n a1 a2 a3 a4).lookup ("open_at" : Str) = none ∧ (jF n a1 a2 a3 a4).lookup ("dealt" : Str) = none :=
  ⟨by kernel_rfl, by kernel_rfl, by kernel_rfl, by kernel_rfl, by kernel_rfl, by kernel_rfl, by kernel_rfl, by kernel_rfl⟩

/-! ### Joins(size) -/
def spJInit (g : Str → Addr) : Sp := fun vs H Q _ => ∃ (jo dx : Addr) (n : Int), vs = [.ref jo, .int n] ∧ H jo = some (.ins (g "Joins") dx []) ∧
  ∀ a1 a2 a3 a4 H', [jo, a1, a2, a3, a4].Nodup → H a1 = none → H a2 = none → H a3 = none → H a4 = none → H' jo = some (.ins (g "Joins") dx (jF n a1 a2 a3 a4)) → H' a1 = some (.lst []) → H' a2 = some (.lst []) → H' a3 = some (.lst []) → H' a4 = some (.lst []) →
    Kept [jo] H H' → Q .non H'
theorem ok_Joins_init (T : Txt w K mg g mt) : GK P w K mg base CX0 1 "Joins" (g "Joins") (spJInit g) := by
  refine gk0 (F_Joins_init T) (T.glo _ (by decide +kernel)) (T.mkr _ (by decide +kernel)) sc_Joins_init (fun vs H Q E h => ?_) fun cdv A outer s H vs Q E hr h => ?_
  · obtain ⟨jo, dx, n, rfl, _⟩ := h; rfl
  · obtain ⟨jo, dx, n, rfl, hj, k⟩ := h
    have c : Cls K (g "Joins") := T.cls _ (by decide +kernel)
    refine ⟨_, pss_cons (ps_fld (pv 0) (pv 1) rfl) (pss_cons (ps_fld (pv 0) (pe_lst pa_nil) rfl) (pss_cons (ps_fld (pv 0) (pe_lst pa_nil) rfl) (pss_cons (ps_fld (pv 0) (pe_lst pa_nil) rfl) (pss_one (ps_fld (pv 0) (pe_lst pa_nil) rfl))))), ?_⟩
    have l0 : ([] : List (Str × V)).length = 0 := rfl
    have i0 := Ini.start hj
    have l1 := lenF "size" (.int n) []
    refine ⟨_, rfl, _, rfl, jo, _, dx, _, rfl, i0.ob, c, T.noat ("Joins", "size") (by decide +kernel), by omega, ?_⟩
    have i1 := i0.val (putF "size" (.int n) [])
    refine ⟨Nat.zero_le _, fun a1 f1 => ?_⟩
    have l2 := lenF "above" (.ref a1) (putF "size" (.int n) [])
    refine ⟨_, rfl, jo, _, dx, _, rfl, (i1.more (same_new f1)).ob, c, T.noat ("Joins", "above") (by decide +kernel), by omega, ?_⟩
    have i2 := i1.obj f1 (.lst []) (putF "above" (.ref a1) (putF "size" (.int n) []))
    refine ⟨Nat.zero_le _, fun a2 f2 => ?_⟩
    have l3 := lenF "turning" (.ref a2) (putF "above" (.ref a1) (putF "size" (.int n) []))
    refine ⟨_, rfl, jo, _, dx, _, rfl, (i2.more (same_new f2)).ob, c, T.noat ("Joins", "turning") (by decide +kernel), by omega, ?_⟩
    have i3 := i2.obj f2 (.lst []) (putF "turning" (.ref a2) (putF "above" (.ref a1) (putF "size" (.int n) [])))
    refine ⟨Nat.zero_le _, fun a3 f3 => ?_⟩
    have l4 := lenF "many" (.ref a3) (putF "turning" (.ref a2) (putF "above" (.ref a1) (putF "size" (.int n) [])))
    refine ⟨_, rfl, jo, _, dx, _, rfl, (i3.more (same_new f3)).ob, c, T.noat ("Joins", "many") (by decide +kernel), by omega, ?_⟩
    have i4 := i3.obj f3 (.lst []) (putF "many" (.ref a3) (putF "turning" (.ref a2) (putF "above" (.ref a1) (putF "size" (.int n) []))))
    refine ⟨Nat.zero_le _, fun a4 f4 => ?_⟩
    refine ⟨_, rfl, jo, _, dx, _, rfl, (i4.more (same_new f4)).ob, c, T.noat ("Joins", "room") (by decide +kernel), by omega, ?_⟩
    have i5 := i4.obj f4 (.lst []) (putF "room" (.ref a4) (putF "many" (.ref a3) (putF "turning" (.ref a2) (putF "above" (.ref a1) (putF "size" (.int n) [])))))
    have ob := i5.ob
    rw [jF_made] at ob
    refine k a1 a2 a3 a4 _ i5.nd (i5.nw (a1, .lst []) (by simp)).1 (i5.nw (a2, .lst []) (by simp)).1 (i5.nw (a3, .lst []) (by simp)).1 (i5.nw (a4, .lst []) (by simp)).1 ob (i5.nw (a1, .lst []) (by simp)).2 (i5.nw (a2, .lst []) (by simp)).2 (i5.nw (a3, .lst []) (by simp)).2 (i5.nw (a4, .lst []) (by simp)).2 i5.kp
theorem rgOk8 {n : Nat} (h : n ≤ 8) : RgOk 0 (n : Int) := RgOk.of_le (by omega) (by omega) (by omega) (by omega)
theorem mkJ {Z H1 : Hp} {n : Nat} {E : XK} {Q : VK} (zs : Same Z H1) (k : ∀ jo a1 a2 a3 a4 H', (∀ m ∈ jM jo a1 a2 a3 a4, H1 m = none) → JA g Z H' jo a1 a2 a3 a4 (JS.none_ n) → Same H1 H' → Q (.ref jo) H') :
    ∀ x dx, H1 x = none → H1 dx = none → dx ≠ x → spJInit g [.ref x, .int (n : Nat)] (upd (upd H1 dx (.own x)) x (.ins (g "Joins") dx [])) (fun v H2 => v = .non ∧ Q (.ref x) H2) E := by
  intro x dx hx hd hne
  refine ⟨x, dx, n, rfl, upd_same, fun a1 a2 a3 a4 H' nd n1 n2 n3 n4 ob e1 e2 e3 e4 kp => ⟨rfl, ?_⟩⟩
  have fr : ∀ a, upd (upd H1 dx (.own x)) x (.ins (g "Joins") dx []) a = none → H1 a = none := fun a h => by
    by_cases c : a = x
    · subst c; exact hx
    · rw [upd_ne c] at h
      by_cases c2 : a = dx
      · subst c2; exact hd
      · rw [upd_ne c2] at h; exact h
  have sm : Same H1 H' := fun b o e => by
    have nb : b ≠ x := ne_of_none e hx
    have nc : b ≠ dx := ne_of_none e hd
    exact kp b o (by rw [upd_ne nb, upd_ne nc]; exact e) (by simpa using nb)
  have al : ∀ m ∈ jM x a1 a2 a3 a4, H1 m = none := fun m hm => by
    simp only [List.mem_cons, List.not_mem_nil, or_false] at hm
    rcases hm with rfl | rfl | rfl | rfl | rfl
    · exact hx
    · exact fr _ n1
    · exact fr _ n2
    · exact fr _ n3
    · exact fr _ n4
  refine k x a1 a2 a3 a4 H' al ⟨zs.trans sm, nd, fun m hm => zs.free (al m hm), ⟨dx, ob⟩, e1, ⟨[], e2, Each.nil⟩, e3, [], e4, Each.nil⟩ sm

/-! ### add -/
def spJAdd (g : Str → Addr) : Sp := fun vs H Q _ => ∃ (Z : Hp) (jo a1 a2 a3 a4 : Addr) (J : JS) (n : Nat), vs = [.ref jo] ∧ JA g Z H jo a1 a2 a3 a4 J ∧ JOk n J ∧ n ≤ 99999 ∧
  ∀ Z' H', JA g Z' H' jo a1 a2 a3 a4 (addJ J) → Step Z H (jM jo a1 a2 a3 a4) Z' H' → Q (.int (n : Nat)) H'
theorem ok_Joins_add (T : Txt w K mg g mt) : GM P w K mg base CX0 2 (g "Joins") "add" (spJAdd g) := by
  refine gm0 (F_Joins_add T) (T.cls _ (by decide +kernel)) (T.meth ("Joins", "add") (by decide +kernel)) sc_Joins_add (fun vs H Q E h => ?_) fun cdv A outer s H vs Q E hr h => ?_
  · obtain ⟨Z, jo, a1, a2, a3, a4, J, n, rfl, _⟩ := h; rfl
  · obtain ⟨Z, jo, a1, a2, a3, a4, J, n, rfl, j, o, hn, k⟩ := h
    have fL : mg "len" = none := T.free _ (by decide +kernel)
    have fR : mg "range" = none := T.free _ (by decide +kernel)
    have fl : mg "list" = none := T.free _ (by decide +kernel)
    have nd := sc_Joins_add.nd
    have S := ok_still (P := P) (base := base) T
    refine ⟨_, pss_cons (ps_set (i := 1) nd rfl (.inl rfl) (pe_callB call_len_seq (by rfl) fL PySem.boot_len (pa_cons (pe_sf 0) pa_nil)))
      (pss_cons (ps_expr (pe_bm PySem.F.plainAttrs_list PySem.F.slot_list_append PySem.F.type_list_append mt_append (pe_sf 0) (pa_cons (pv 1) pa_nil)))
      (pss_cons (ps_expr (pe_bm PySem.F.plainAttrs_list PySem.F.slot_list_append PySem.F.type_list_append mt_append (pe_sf 0) (pa_cons (pe_gf S hr pass0 (pa_cons (pe_sf 0) pa_nil)) pa_nil)))
      (pss_cons (ps_expr (pe_bm PySem.F.plainAttrs_list PySem.F.slot_list_append PySem.F.type_list_append mt_append (pe_sf 0) (pa_cons pe_int pa_nil)))
      (pss_cons (ps_expr (pe_bm PySem.F.plainAttrs_list PySem.F.slot_list_append PySem.F.type_list_append mt_append (pe_sf 0) (pa_cons (pe_listRg rfl (by rfl) fl (prg_1 (by rfl) fR (pe_sf 0))) pa_nil)))
      (pss_one (ps_ret (pv 1))))))), ?_⟩
    refine ⟨_, _, rfl, rdAbove T j, a1, _, rfl, .inl (SqL.of j.ab), ?_⟩
    rw [List.length_map, o.la]
    refine ⟨_, _, rfl, rdAbove T j, .inl ⟨rfl, _, SqL.of j.ab⟩, _, rfl, a1, _, _, rfl, rfl, j.ab, by rw [List.length_map, o.la]; exact smallL (by omega), ?_⟩
    have st0 : Step Z H (jM jo a1 a2 a3 a4) Z H := Step.refl _ _ _
    have j1 := j.setAbove (J.above ++ [n])
    have st1 := st0.upd (p := a1) (o := ni (J.above ++ [n])) (by simp)
    have e1 : upd H a1 (.lst (J.above.map (fun n : Nat => V.int (n : Int)) ++ [V.int (n : Nat)])) = upd H a1 (ni (J.above ++ [n])) := by simp [ni]
    rw [e1]
    refine ⟨_, _, rfl, rdTurning T j1, ?_⟩
    obtain ⟨ts, t1, t2⟩ := j1.tu
    refine ⟨.inl ⟨rfl, _, SqL.of t1⟩, _, _, rfl, rdSize T j1, ?_⟩
    refine ⟨J.size, rfl, o.s8, fun p H2 hp s2 h2 => ?_⟩
    have j2 := j1.same s2
    have st2 := st1.same s2
    have hpM := j1.live.ne hp
    have zp : Z p = none := j1.zs.free hp
    have hp0 : H p = none := st1.kp.free j1.live hp
    have j3 := j2.freeze h2 zp hpM
    have st3 := st2.freeze (p := p) (o := ti (still J.size)) hp0 j.zs
    refine ⟨a2, _, _, rfl, rfl, s2 _ _ t1, by rw [List.length_map, t2.len]; show J.turning.length < _; rw [o.lt]; exact smallL (by omega), ?_⟩
    have t3 : Each (upd Z p (ti (still J.size))) ti (ts ++ [p]) (J.turning ++ [still J.size]) := (t2.mono (same_new zp)).snoc upd_same
    have j4 := j3.setTurning t3
    have st4 := st3.upd (p := a2) (o := .lst ((ts ++ [p]).map V.ref)) (by simp)
    have e4 : upd H2 a2 (.lst (ts.map V.ref ++ [V.ref p])) = upd H2 a2 (.lst ((ts ++ [p]).map V.ref)) := by simp
    rw [e4]
    refine ⟨_, _, rfl, rdMany T j4, .inl ⟨rfl, _, SqL.of j4.mn⟩, a3, _, _, rfl, rfl, j4.mn, by rw [List.length_map]; show J.many.length < _; rw [o.lm]; exact smallL (by omega), ?_⟩
    have j5 := j4.setMany (J.many ++ [1])
    have st5 := st4.upd (p := a3) (o := li (J.many ++ [1])) (by simp)
    have e5 : ∀ H : Hp, upd H a3 (.lst (J.many.map V.int ++ [V.int 1])) = upd H a3 (li (J.many ++ [1])) := fun H => by simp [li]
    rw [e5]
    refine ⟨_, _, rfl, rdRoom T j5, ?_⟩
    obtain ⟨rs, r1, r2⟩ := j5.ro
    refine ⟨.inl ⟨rfl, _, SqL.of r1⟩, _, _, rfl, rdSize T j5, ?_⟩
    refine ⟨_, rfl, rgOk8 o.s8, nu fun q H6 hq s6 h6 => ?_⟩
    have j6 := j5.same s6
    have st6 := st5.same s6
    have hqM := j5.live.ne hq
    have zq : upd Z p (ti (still J.size)) q = none := j5.zs.free hq
    have hq0 : H q = none := st5.kp.free j5.live hq
    rw [rg_still] at h6
    have j7 := j6.freeze h6 zq hqM
    have st7 := st6.freeze (p := q) (o := li (still J.size)) hq0 j.zs
    refine ⟨a4, _, _, rfl, rfl, s6 _ _ r1, by rw [List.length_map, r2.len]; show J.room.length < _; rw [o.lr]; exact smallL (by omega), ?_⟩
    have r3 : Each (upd (upd Z p (ti (still J.size))) q (li (still J.size))) li (rs ++ [q]) (J.room ++ [still J.size]) := (r2.mono (same_new zq)).snoc upd_same
    have j8 := j7.setRoom r3
    have st8 := st7.upd (p := a4) (o := .lst ((rs ++ [q]).map V.ref)) (by simp)
    have e8 : upd H6 a4 (.lst (rs.map V.ref ++ [V.ref q])) = upd H6 a4 (.lst ((rs ++ [q]).map V.ref)) := by simp
    rw [e8]
    have ej : addJ J = ⟨J.size, J.above ++ [n], J.turning ++ [still J.size], J.many ++ [1], J.room ++ [still J.size]⟩ := by unfold addJ; rw [o.la]
    rw [← ej] at j8
    exact ⟨_, rfl, k _ _ j8 st8⟩

/-! ### head -/
def spHead (g : Str → Addr) : Sp := fun vs H Q _ => ∃ (Z : Hp) (jo a1 a2 a3 a4 : Addr) (J : JS) (n i : Nat), vs = [.ref jo, .int (i : Nat)] ∧ JA g Z H jo a1 a2 a3 a4 J ∧ JOk n J ∧ i < n ∧ n ≤ 99999 ∧
  ∀ r t H', Same H H' → H' t = some (ti (head J i).2) → H' r = some (.tup [.int ((head J i).1 : Nat), .ref t]) → Q (.ref r) H'
theorem ok_Joins_head (T : Txt w K mg g mt) : GM P w K mg base CX0 2 (g "Joins") "head" (spHead g) := by
  refine gm0 (F_Joins_head T) (T.cls _ (by decide +kernel)) (T.meth ("Joins", "head") (by decide +kernel)) sc_Joins_head (fun vs H Q E h => ?_) fun cdv A outer s H vs Q E hr h => ?_
  · obtain ⟨Z, jo, a1, a2, a3, a4, J, n, i, rfl, _⟩ := h; rfl
  · obtain ⟨Z, jo, a1, a2, a3, a4, J, n, i, rfl, j, o, hi, hn, k⟩ := h
    have nd := sc_Joins_head.nd
    have S := ok_still (P := P) (base := base) T
    have L := ok_led (P := P) (base := base) T
    refine ⟨_, pss_cons (ps_set (i := 2) nd rfl (.inl rfl) (pe_gf S hr pass0 (pa_cons (pe_sf 0) pa_nil)))
      (pss_cons (ps_while PassesOwn.never (pt_cmpR op_ne (pe_ix ix_list (pe_sf 0) (pv 1) (fun _ _ => rfl)) (pv 1) (nomark _))
        (pss_cons (ps_set (i := 2) nd rfl (.inl rfl) (pe_gf L hr pass0 (pa_cons (pv 2) (pa_cons (pe_ix ix_list (pe_sf 0) (pv 1) (fun _ _ => rfl)) pa_nil))))
          (pss_one (ps_set (i := 1) nd rfl (.inl rfl) (pe_ix ix_list (pe_sf 0) (pv 1) (fun _ _ => rfl))))))
      (pss_one (ps_ret (pe_tup (pa_cons (pv 1) (pa_cons (pv 2) pa_nil)))))), ?_⟩
    refine ⟨_, _, rfl, rdSize T j, ?_⟩
    refine ⟨J.size, rfl, o.s8, fun p H1 hp s1 h1 => ?_⟩
    obtain ⟨m0, ov⟩ := headOver o hi (still J.size)
    have e0 : iter (headStep J) m0 (i, still J.size) = head J i := (fin_eq ov).symm
    refine ⟨fun m σ H2 => ∃ (x : Nat × List Int) (q : Addr), σ = [some (.ref jo), some (.int (x.1 : Nat)), some (.ref q)] ∧ Same H H2 ∧ H2 q = some (ti x.2) ∧ x.1 < n ∧ Fit J.size x.2 ∧ Over (headStep J) m x ∧ iter (headStep J) m x = head J i,
      ⟨m0, (i, still J.size), p, rfl, s1, h1, hi, fit_still _, ov, e0⟩, ?_⟩
    rintro m σ H2 ⟨⟨x, t⟩, q, rfl, s2, h2, hx, ft, ov2, e2⟩
    have j2 := j.same s2
    obtain ⟨pa, pl⟩ := par_lt o hx
    refine ⟨_, _, rfl, rdAbove T j2, _, rfl, a1, _, _, _, rfl, rfl, SqL.of j2.ab, ix_at (by omega) (at_map pa), _, rfl, rfl, _, rfl, ?_⟩
    refine iteB (fun c => ?_) (fun c => ?_)
    · have c' : ¬ par J.above x = x := fun e => neT c (by rw [e])
      have hs : headStep J (x, t) = some (par J.above x, led t (J.turning.getD x [])) := by unfold headStep; rw [if_neg c']
      obtain ⟨m', rfl, ov3⟩ := over_step hs ov2
      rw [iter_some hs] at e2
      obtain ⟨ta, tf⟩ := turn_at o hx
      obtain ⟨ts, t1, t2⟩ := j2.tu
      obtain ⟨b, b1, b2⟩ := t2.get ta
      refine ⟨fun σ' H' => ∃ q, σ' = [some (.ref jo), some (.int (par J.above x : Nat)), some (.ref q)] ∧ Same H H' ∧ H' q = some (ti (led t (J.turning.getD x []))), fun σ' H' p => ?_, ?_⟩
      · obtain ⟨q, e1, e3, e4⟩ := p
        exact ⟨m', Nat.lt_succ_self _, (par J.above x, led t (J.turning.getD x [])), q, e1, e3, e4, pl, fit_led ft tf, ov3, e2⟩
      · refine ⟨_, rfl, _, _, rfl, rdTurning T j2, _, rfl, a2, _, _, _, rfl, rfl, SqL.of t1, ix_at (by omega) b1, ?_⟩
        refine ⟨q, b, J.size, t, J.turning.getD x [], rfl, by have := o.s8; omega, ft, tf, h2, j2.zs _ _ b2, fun p2 H3 hp3 s3 h3 => ?_⟩
        have j3 := j2.same s3
        refine ⟨_, _, rfl, rdAbove T j3, _, rfl, a1, _, _, _, rfl, rfl, SqL.of j3.ab, ix_at (by omega) (at_map pa), p2, rfl, s2.trans s3, h3⟩
    · have c' : par J.above x = x := vnat (neF c)
      have hs : headStep J (x, t) = none := by unfold headStep; rw [if_pos c']
      rw [iter_none hs] at e2
      refine ⟨_, rfl, _, rfl, by show 2 ≤ sizeLine; decide, nu fun r H3 hr3 s3 h3 => ?_⟩
      refine k r q H3 (s2.trans s3) ?_ ?_
      · rw [← e2]; exact s3 _ _ h2
      · rw [← e2]; exact h3

/-! ### link -/
def spLink (g : Str → Addr) : Sp := fun vs H Q _ => ∃ (Z : Hp) (jo a1 a2 a3 a4 : Addr) (J : JS) (n x y : Nat) (p : Addr) (t : List Int), vs = [.ref jo, .int (x : Nat), .int (y : Nat), .ref p] ∧ JA g Z H jo a1 a2 a3 a4 J ∧ JOk n J ∧ x < n ∧ y < n ∧ n ≤ 99999 ∧ Fit J.size t ∧ H p = some (ti t) ∧
  ∀ r q H', H p = some (ti t) → Same H H' → H q = none → H' q = some (ti (across J x y t)) → H' r = some (.tup [.int ((head J x).1 : Nat), .int ((head J y).1 : Nat), .ref q]) → Q (.ref r) H'
theorem ok_Joins_link (T : Txt w K mg g mt) : GM P w K mg base CX0 3 (g "Joins") "link" (spLink g) := by
  refine gm0 (F_Joins_link T) (T.cls _ (by decide +kernel)) (T.meth ("Joins", "link") (by decide +kernel)) sc_Joins_link (fun vs H Q E h => ?_) fun cdv A outer s H vs Q E hr h => ?_
  · obtain ⟨Z, jo, a1, a2, a3, a4, J, n, x, y, p, t, rfl, _⟩ := h; rfl
  · obtain ⟨Z, jo, a1, a2, a3, a4, J, n, x, y, p, t, rfl, j, o, hx, hy, hn, ft, hp, k⟩ := h
    have nd := sc_Joins_link.nd
    have Hd := ok_Joins_head (P := P) (base := base) T
    have L := ok_led (P := P) (base := base) T
    have U := ok_undone (P := P) (base := base) T
    refine ⟨_, pss_cons (ps_asg (pe_gm Hd (pv 0) hr pass0 (pa_cons (pv 1) pa_nil)) (pg_tup rfl (pgs_cons (pg_name (i := 4) nd rfl (.inl rfl)) (pgs_cons (pg_name (i := 5) nd rfl (.inl rfl)) pgs_nil))))
      (pss_cons (ps_asg (pe_gm Hd (pv 0) hr pass0 (pa_cons (pv 2) pa_nil)) (pg_tup rfl (pgs_cons (pg_name (i := 6) nd rfl (.inl rfl)) (pgs_cons (pg_name (i := 7) nd rfl (.inl rfl)) pgs_nil))))
      (pss_one (ps_ret (pe_tup (pa_cons (pv 4) (pa_cons (pv 6) (pa_cons (pe_gf L hr pass0 (pa_cons (pe_gf L hr pass0 (pa_cons (pe_gf U hr pass0 (pa_cons (pv 5) pa_nil)) (pa_cons (pv 3) pa_nil))) (pa_cons (pv 7) pa_nil))) pa_nil))))))), ?_⟩
    obtain ⟨dx, ob⟩ := j.ob
    refine ⟨_, rfl, jo, dx, _, rfl, ob, (nomJ ..).1, _, rfl, ?_⟩
    refine ⟨Z, jo, a1, a2, a3, a4, J, n, x, rfl, j, o, hx, hn, fun r1 t1 H1 s1 h1 e1 => ?_⟩
    refine ⟨r1, _, rfl, SqT.of e1, rfl, _, _, rfl, _, _, rfl, rfl, ?_⟩
    have j1 := j.same s1
    refine ⟨_, rfl, jo, dx, _, rfl, s1 _ _ ob, (nomJ ..).1, _, rfl, ?_⟩
    refine ⟨Z, jo, a1, a2, a3, a4, J, n, y, rfl, j1, o, hy, hn, fun r2 t2 H2 s2 h2 e2 => ?_⟩
    refine ⟨r2, _, rfl, SqT.of e2, rfl, _, _, rfl, _, _, rfl, rfl, ?_⟩
    have o8 := o.s8
    have fx := (head_ok o hx).2.1
    have fy := (head_ok o hy).2.1
    refine ⟨_, rfl, _, rfl, _, rfl, t1, J.size, _, rfl, by omega, fx, s2 _ _ h1, fun p3 H3 hp3 s3 h3 => ?_⟩
    refine ⟨_, rfl, p3, p, J.size, _, t, rfl, by omega, fit_undone fx, ft, h3, s3 _ _ (s2 _ _ (s1 _ _ hp)), fun p4 H4 hp4 s4 h4 => ?_⟩
    refine ⟨_, rfl, p4, t2, J.size, _, _, rfl, by omega, fit_led (fit_undone fx) ft, fy, h4, s4 _ _ (s3 _ _ h2), fun p5 H5 hp5 s5 h5 => ?_⟩
    have ss : Same H H4 := s1.trans (s2.trans (s3.trans s4))
    refine ⟨by show 3 ≤ sizeLine; decide, nu fun r H6 hr6 s6 h6 => ?_⟩
    exact k r p5 H6 hp (ss.trans (s5.trans s6)) (ss.free hp5) (s6 _ _ h5) h6

theorem flat_ints (l : List Int) : (l.map V.int).all flatV = true := by
  rw [List.all_map, List.all_eq_true]
  intro x _
  rfl
theorem inV_ints (x : Int) (l : List Int) : inV (.int x) (l.map V.int) = decide (x ∈ l) := by
  unfold inV
  rw [List.any_map]
  induction l with
  | nil => rfl
  | cons a r ih =>
    rw [List.any_cons, ih]
    show (a == x || decide (x ∈ r)) = _
    by_cases c : a = x
    · subst c; simp
    · simp [c, Ne.symm c]

/-! ### kept_room -/
def spKept (g : Str → Addr) : Sp := fun vs H Q _ => ∃ (Z : Hp) (jo a1 a2 a3 a4 : Addr) (J : JS) (n x y : Nat) (p : Addr) (t : List Int), vs = [.ref jo, .int (x : Nat), .int (y : Nat), .ref p] ∧ JA g Z H jo a1 a2 a3 a4 J ∧ JOk n J ∧ x < n ∧ y < n ∧ n ≤ 99999 ∧ Fit J.size t ∧ H p = some (ti t) ∧
  ∀ q H', Same H H' → H q = none → H' q = some (li (keptRoom J x y t)) → Q (.ref q) H'
theorem ok_Joins_kept_room (T : Txt w K mg g mt) : GM P w K mg base CX0 4 (g "Joins") "kept_room" (spKept g) := by
  refine gm0 (F_Joins_kept_room T) (T.cls _ (by decide +kernel)) (T.meth ("Joins", "kept_room") (by decide +kernel)) sc_Joins_kept_room (fun vs H Q E h => ?_) fun cdv A outer s H vs Q E hr h => ?_
  · obtain ⟨Z, jo, a1, a2, a3, a4, J, n, x, y, p, t, rfl, _⟩ := h; rfl
  · obtain ⟨Z, jo, a1, a2, a3, a4, J, n, x, y, p, t, rfl, j, o, hx, hy, hn, ft, hp, k⟩ := h
    have nd := sc_Joins_kept_room.nd
    have Lk := ok_Joins_link (P := P) (base := base) T
    refine ⟨_, pss_cons (ps_asg (pe_gm Lk (pv 0) hr pass0 (pa_cons (pv 1) (pa_cons (pv 2) (pa_cons (pv 3) pa_nil)))) (pg_tup rfl (pgs_cons (pg_name (i := 4) nd rfl (by first | exact .inl rfl | exact .inr rfl)) (pgs_cons (pg_name (i := 5) nd rfl (by first | exact .inl rfl | exact .inr rfl)) (pgs_cons (pg_name (i := 6) nd rfl (by first | exact .inl rfl | exact .inr rfl)) pgs_nil)))))
      (pss_cons (ps_if (pt_cmpR op_eq (pv 4) (pv 5) (nomark _))
        (pss_one (ps_ret (pe_lc (own := [("at", 7)]) (g := gName 7) (tt := _) rfl nd (pi_list (pe_ix ix_list (pe_sf 0) (pv 4) (fun _ _ => rfl))) (blkOk_by (N := ["self", "one", "other", "turn", "here", "there", "across", "at"]) (sc := defScope s_Joins_kept_room) (by decide +kernel)) (fun _ _ _ _ _ => pg_name (i := 7) nd rfl (Or.inl rfl))
          (fun _ _ _ _ _ => pts_one (pt_cmpR op_eq (pe_ix (r := rIxT K) ix_tup (pv 6) (pv 7) (fun _ _ => rfl)) (pv 7) (nomark _))) (fun _ _ _ _ _ => pv 7))))
        pss_nil)
      (pss_one (ps_ret (pe_lc (own := [("at", 7)]) (g := gName 7) (tt := _) rfl nd (pi_list (pe_ix ix_list (pe_sf 0) (pv 4) (fun _ _ => rfl))) (blkOk_by (N := ["self", "one", "other", "turn", "here", "there", "across", "at"]) (sc := defScope s_Joins_kept_room) (by decide +kernel)) (fun _ _ _ _ _ => pg_name (i := 7) nd rfl (Or.inl rfl))
          (fun _ _ _ _ _ => pts_one (pt_cmpR (r := rIn K false) op_in_seq (pe_ix (r := rIxT K) ix_tup (pv 6) (pv 7) (fun _ _ => rfl)) (pe_ix (r := rIxL K) ix_list (show PE _ _ (tSf K 0 "room") from pe_sf 0) (pv 5) (fun _ _ => rfl)) rfl)) (fun _ _ _ _ _ => pv 7))))), ?_⟩
    obtain ⟨dx, ob⟩ := j.ob
    refine ⟨_, rfl, jo, dx, _, rfl, ob, (nomJ ..).2.1, _, rfl, _, rfl, _, rfl, ?_⟩
    refine ⟨Z, jo, a1, a2, a3, a4, J, n, x, y, p, t, rfl, j, o, hx, hy, hn, ft, hp, fun r q H1 _ s1 hq0 hq e1 => ?_⟩
    refine ⟨r, _, rfl, SqT.of e1, rfl, _, _, rfl, _, _, rfl, _, _, rfl, rfl, ?_⟩
    have j1 := j.same s1
    have o8 := o.s8
    obtain ⟨hA, _, _⟩ := head_ok o hx
    obtain ⟨hB, _, _⟩ := head_ok o hy
    obtain ⟨ra, rl, rr⟩ := room_at o hA
    obtain ⟨rb, bl, br⟩ := room_at o hB
    have af := across_fit o hx hy ft
    obtain ⟨rs, r1, r2⟩ := j1.ro
    obtain ⟨b, b1, b2⟩ := r2.get ra
    obtain ⟨c, c1, c2⟩ := r2.get rb
    have b3 := j1.zs _ _ b2
    have c3 := j1.zs _ _ c2
    refine ⟨_, rfl, _, rfl, rfl, _, rfl, iteB (fun ch => ?_) (fun ch => ?_)⟩
    · have ee : (head J x).1 = (head J y).1 := vnat (eqT ch)
      refine ⟨_, _, rfl, rdRoom T j1, _, rfl, a4, _, _, _, rfl, rfl, SqL.of r1, ix_at (by omega) b1, b, rfl, ⟨_, SqL.of b3⟩, fun D hD => lc_pure (walk_list (K := K) (a := b) (xs := (J.room.getD (head J x).1 []).map V.int))
        (fun i => if decide ((across J x y t).getD ((J.room.getD (head J x).1 []).getD i 0).toNat 0 = (J.room.getD (head J x).1 []).getD i 0) = true then [.int ((J.room.getD (head J x).1 []).getD i 0)] else []) hD (by rw [List.length_map]; omega) (fun H2 s2 => SqL.of (s2 _ _ b3)) ?_ ?_⟩
      · rintro i v H2 H3 hi s2 ⟨e3, hv⟩ Qe Qn qe qn
        rw [e3]
        obtain ⟨z, hz, rfl⟩ := map_at hv
        have r := rr z (List.mem_of_getElem? hz)
        have ez : (J.room.getD (head J x).1 []).getD i 0 = z := getD_of hz
        rw [ez] at qe qn
        refine ⟨rfl, ?_⟩
        refine ⟨_, rfl, _, rfl, q, _, _, _, rfl, rfl, SqT.of (s2 _ _ hq), ix_at r.1 (at_map (af.get r.1 r.2).1), _, rfl, rfl, _, rfl, ?_⟩
        refine iteB (fun c => ?_) (fun c => ?_)
        · exact ⟨_, rfl, qe _ _ (Same.refl _) (by rw [if_pos (decide_eq_true (vint (eqT c)))])⟩
        · exact qn _ (Same.refl _) (if_neg fun e => eqF c (by rw [eqT e]))
      · intro H2 s2 hl
        rw [List.length_map, outs_filterAll (xs := J.room.getD (head J x).1 []) _ V.int (fun z => decide ((across J x y t).getD z.toNat 0 = z)) (fun i z hz => by rw [getD_of hz])] at hl
        refine k D H2 (s1.trans s2) (s1.free hD) ?_
        unfold keptRoom
        rw [if_pos ee]
        exact hl
    · have ee : ¬ (head J x).1 = (head J y).1 := fun e => eqF ch (by rw [e])
      refine ⟨_, _, rfl, rdRoom T j1, _, rfl, a4, _, _, _, rfl, rfl, SqL.of r1, ix_at (by omega) b1, b, rfl, ⟨_, SqL.of b3⟩, fun D hD => lc_pure (walk_list (K := K) (a := b) (xs := (J.room.getD (head J x).1 []).map V.int))
        (fun i => if decide ((across J x y t).getD ((J.room.getD (head J x).1 []).getD i 0).toNat 0 ∈ J.room.getD (head J y).1 []) = true then [.int ((J.room.getD (head J x).1 []).getD i 0)] else []) hD (by rw [List.length_map]; omega) (fun H2 s2 => SqL.of (s2 _ _ b3)) ?_ ?_⟩
      · rintro i v H2 H3 hi s2 ⟨e3, hv⟩ Qe Qn qe qn
        rw [e3]
        obtain ⟨z, hz, rfl⟩ := map_at hv
        have r := rr z (List.mem_of_getElem? hz)
        have ez : (J.room.getD (head J x).1 []).getD i 0 = z := getD_of hz
        rw [ez] at qe qn
        refine ⟨rfl, ?_⟩
        refine ⟨_, rfl, _, rfl, q, _, _, _, rfl, rfl, SqT.of (s2 _ _ hq), ix_at r.1 (at_map (af.get r.1 r.2).1), ?_⟩
        refine ⟨_, _, rfl, rdRoom T (j1.same s2), _, rfl, a4, _, _, _, rfl, rfl, SqL.of (s2 _ _ r1), ix_at (by omega) c1, ?_⟩
        refine ⟨c, _, rfl, .inl (SqL.of (s2 _ _ c3)), rfl, flat_ints _, _, rfl, ?_⟩
        rw [if_neg Bool.false_ne_true, inV_ints]
        refine iteB (fun c => ?_) (fun c => ?_)
        · exact ⟨_, rfl, qe _ _ (Same.refl _) (by rw [if_pos c])⟩
        · exact qn _ (Same.refl _) (if_neg fun e => by rw [e] at c; cases c)
      · intro H2 s2 hl
        rw [List.length_map, outs_filterAll (xs := J.room.getD (head J x).1 []) _ V.int (fun z => decide ((across J x y t).getD z.toNat 0 ∈ J.room.getD (head J y).1 [])) (fun i z hz => by rw [getD_of hz])] at hl
        refine k D H2 (s1.trans s2) (s1.free hD) ?_
        unfold keptRoom
        rw [if_neg ee]
        exact hl
end
end Kin
set_option maxHeartbeats 4000000
/-! K12: the groups: tie, say, open_at, dealt. -/
namespace Kin
open PySem L2
section
variable {P : Program} {w : World} {K : PySem.W.Frag} {mg : Str → Option Value} {g : Str → Addr} {mt : Str → Str → Addr} {base : Heap}
theorem tie_hang {J : JS} {x y : Nat} {t : List Int} (e : ¬ keptRoom J x y t = []) (ne : (head J x).1 ≠ (head J y).1) (lt : J.many.getD (head J x).1 0 < J.many.getD (head J y).1 0) :
    tieJ J x y t = (⟨J.size, J.above.set (head J x).1 (head J y).1, J.turning.set (head J x).1 (across J x y t), J.many.set (head J y).1 (J.many.getD (head J y).1 0 + J.many.getD (head J x).1 0), J.room.set (head J y).1 (srt ((keptRoom J x y t).map fun z => (across J x y t).getD z.toNat 0))⟩, true) := by
  unfold tieJ
  rw [if_neg e]
  dsimp only
  rw [if_pos ⟨ne, lt⟩]
theorem tie_take {J : JS} {x y : Nat} {t : List Int} (e : ¬ keptRoom J x y t = []) (ne : (head J x).1 ≠ (head J y).1) (lt : ¬ J.many.getD (head J x).1 0 < J.many.getD (head J y).1 0) :
    tieJ J x y t = (⟨J.size, J.above.set (head J y).1 (head J x).1, J.turning.set (head J y).1 (undone (across J x y t)), J.many.set (head J x).1 (J.many.getD (head J x).1 0 + J.many.getD (head J y).1 0), J.room.set (head J x).1 (keptRoom J x y t)⟩, true) := by
  unfold tieJ
  rw [if_neg e]
  dsimp only
  rw [if_neg (fun c => lt c.2), if_pos ne]
theorem tie_same {J : JS} {x y : Nat} {t : List Int} (e : ¬ keptRoom J x y t = []) (ne : (head J x).1 = (head J y).1) :
    tieJ J x y t = (⟨J.size, J.above, J.turning, J.many, J.room.set (head J x).1 (keptRoom J x y t)⟩, true) := by
  unfold tieJ
  rw [if_neg e]
  dsimp only
  rw [if_neg (fun c => c.1 ne), if_neg (fun c => c ne)]
/-- what follows an if that does not hold, shown once -/
theorem fall_once {G F : Prop} (c : Prop) (h : (c → F) → G) (fall : c → F) : G := h fall
def spJTie (g : Str → Addr) : Sp := fun vs H Q _ => ∃ (Z : Hp) (jo a1 a2 a3 a4 : Addr) (J : JS) (n x y : Nat) (p : Addr) (t : List Int), vs = [.ref jo, .int (x : Nat), .int (y : Nat), .ref p] ∧ JA g Z H jo a1 a2 a3 a4 J ∧ JOk n J ∧ x < n ∧ y < n ∧ n ≤ 99999 ∧ Fit J.size t ∧ H p = some (ti t) ∧
  ((tieJ J x y t).2 = false → ∀ H', Same H H' → Q (.bl false) H') ∧ ((tieJ J x y t).2 = true → ∀ Z' H', JA g Z' H' jo a1 a2 a3 a4 (tieJ J x y t).1 → Step Z H (jM jo a1 a2 a3 a4) Z' H' → Q (.bl true) H')
theorem ni_set (A : List Nat) (i x : Nat) : HO.lst ((A.map fun n : Nat => V.int (n : Int)).set i (.int (x : Nat))) = ni (A.set i x) := by
  unfold ni; rw [List.map_set]
theorem li_set (A : List Int) (i : Nat) (x : Int) : HO.lst ((A.map V.int).set i (.int x)) = li (A.set i x) := by
  unfold li; rw [List.map_set]
theorem refs_set (A : List Addr) (i : Nat) (x : Addr) : HO.lst ((A.map V.ref).set i (.ref x)) = .lst ((A.set i x).map V.ref) := by rw [List.map_set]
theorem ok_Joins_tie (T : Txt w K mg g mt) : GM P w K mg base CX0 5 (g "Joins") "tie" (spJTie g) := by
  refine gm0 (F_Joins_tie T) (T.cls _ (by decide +kernel)) (T.meth ("Joins", "tie") (by decide +kernel)) sc_Joins_tie (fun vs H Q E h => ?_) fun cdv A outer s H vs Q E hr h => ?_
  · obtain ⟨Z, jo, a1, a2, a3, a4, J, n, x, y, p, t, rfl, _⟩ := h; rfl
  · obtain ⟨Z, jo, a1, a2, a3, a4, J, n, x, y, p, t, rfl, j, o, hx, hy, hn, ft, hp, k⟩ := h
    have nd := sc_Joins_tie.nd
    have fS : mg "sorted" = none := T.free _ (by decide +kernel)
    have Kr := ok_Joins_kept_room (P := P) (base := base) T
    have Lk := ok_Joins_link (P := P) (base := base) T
    have U := ok_undone (P := P) (base := base) T
    refine ⟨_, pss_cons (ps_set (i := 4) nd rfl (.inl rfl) (pe_gm Kr (pv 0) hr pass0 (pa_cons (pv 1) (pa_cons (pv 2) (pa_cons (pv 3) pa_nil)))))
      (pss_cons (ps_if (pt_cmpR (op_eqNil hr.units) (pv 4) (pe_lst pa_nil) (nomark _)) (pss_one (ps_ret pe_bl)) pss_nil)
      (pss_cons (ps_asg (pe_gm Lk (pv 0) hr pass0 (pa_cons (pv 1) (pa_cons (pv 2) (pa_cons (pv 3) pa_nil)))) (pg_tup rfl (pgs_cons (pg_name (i := 5) nd rfl (.inl rfl)) (pgs_cons (pg_name (i := 6) nd rfl (.inl rfl)) (pgs_cons (pg_name (i := 7) nd rfl (.inr rfl)) pgs_nil)))))
      (pss_cons (ps_if (PW.pt (pw_and (pt_cmpR op_ne (pv 5) (pv 6) (nomark _)) (pw_and1 (pt_cmpR op_lt (pe_ix ix_list (pe_sf 0) (pv 5) (fun _ _ => rfl)) (pe_ix ix_list (pe_sf 0) (pv 6) (fun _ _ => rfl)) (nomark _)))))
        (pss_cons (ps_asg (pv 6) (pg_sub (pe_sf 0) (pv 5) set_list))
        (pss_cons (ps_asg (pv 7) (pg_sub (pe_sf 0) (pv 5) set_list))
        (pss_cons (ps_augS (pe_sf 0) (pv 6) get_list (pe_ix ix_list (pe_sf 0) (pv 5) (fun _ _ => rfl)) ip_add set_list)
        (pss_cons (ps_asg (pe_callB cr_sortedI (by rfl) fS (by decide +kernel) (pa_cons (pe_lc (own := [("at", 8)]) (g := gName 8) (tt := _) rfl nd (pi_list (pv 4)) (blkOk_by (N := ["self", "one", "other", "turn", "kept", "here", "there", "across", "at"]) (sc := defScope s_Joins_tie) (by decide +kernel)) (fun _ _ _ _ _ => pg_name (i := 8) nd rfl (Or.inl rfl))
          (fun _ _ _ _ _ => pts_nil) (fun _ _ _ _ _ => pe_ix (r := rIxT K) ix_tup (pv 7) (pv 8) (fun _ _ => rfl))) pa_nil)) (pg_sub (pe_sf 0) (pv 6) set_list))
        (pss_one (ps_ret pe_bl)))))) pss_nil)
      (pss_cons (ps_asg (pv 4) (pg_sub (pe_sf 0) (pv 5) set_list))
      (pss_cons (ps_if (pt_cmpR op_ne (pv 5) (pv 6) (nomark _))
        (pss_cons (ps_asg (pv 5) (pg_sub (pe_sf 0) (pv 6) set_list))
        (pss_cons (ps_asg (pe_gf U hr pass0 (pa_cons (pv 7) pa_nil)) (pg_sub (pe_sf 0) (pv 6) set_list))
        (pss_one (ps_augS (pe_sf 0) (pv 5) get_list (pe_ix ix_list (pe_sf 0) (pv 6) (fun _ _ => rfl)) ip_add set_list)))) pss_nil)
      (pss_one (ps_ret pe_bl))))))), ?_⟩
    obtain ⟨dx, ob⟩ := j.ob
    refine ⟨_, rfl, jo, dx, _, rfl, ob, (nomJ ..).2.2.1, _, rfl, _, rfl, _, rfl, ?_⟩
    refine ⟨Z, jo, a1, a2, a3, a4, J, n, x, y, p, t, rfl, j, o, hx, hy, hn, ft, hp, fun kq H1 s1 hk0 hk => ?_⟩
    refine ⟨_, rfl, Nat.zero_le _, fun em hem => ?_⟩
    have s2 := same_new (o := .lst []) hem
    have h2 : upd H1 em (.lst []) em = some (.lst []) := upd_same
    generalize upd H1 em (.lst []) = H2 at s2 h2 ⊢
    refine ⟨kq, em, _, rfl, rfl, SqL.of (s2 _ _ hk), SqL.of h2, _, rfl, iteB (fun c => ?_) (fun c => ?_)⟩
    · have e : keptRoom J x y t = [] := by
        have : ((keptRoom J x y t).map V.int).isEmpty = true := c
        simpa using this
      have et : tieJ J x y t = (J, false) := by unfold tieJ; rw [if_pos e]
      exact k.1 (by rw [et]) H2 (s1.trans s2)
    · have e : ¬ keptRoom J x y t = [] := fun e => by rw [e] at c; cases c
      have j2 := j.same (s1.trans s2)
      have ss2 := s1.trans s2
      refine ⟨_, rfl, jo, dx, _, rfl, ss2 _ _ ob, (nomJ ..).2.1, _, rfl, _, rfl, _, rfl, ?_⟩
      refine ⟨Z, jo, a1, a2, a3, a4, J, n, x, y, p, t, rfl, j2, o, hx, hy, hn, ft, ss2 _ _ hp, fun r q H3 _ s3 hq0 hq e1 => ?_⟩
      refine ⟨r, _, rfl, SqT.of e1, rfl, _, _, rfl, _, _, rfl, _, _, rfl, rfl, ?_⟩
      have j3 := j2.same s3
      have ss3 := ss2.trans s3
      have hk3 : H3 kq = some (li (keptRoom J x y t)) := s3 _ _ (s2 _ _ hk)
      have o8 := o.s8
      obtain ⟨hA, _, _⟩ := head_ok o hx
      obtain ⟨hB, _, _⟩ := head_ok o hy
      have af := across_fit o hx hy ft
      have kr := kept_ok o hx hy (t := t)
      have mA := many_at o hA
      have mB := many_at o hB
      have hq00 : H q = none := ss2.free hq0
      have zq : Z q = none := j.zs.free hq00
      have zk : Z kq = none := j.zs.free hk0
      have st3 : Step Z H (jM jo a1 a2 a3 a4) Z H3 := Step.ofSame _ ss3
      have nqM : q ∉ jM jo a1 a2 a3 a4 := j.live.ne hq00
      have nkM : kq ∉ jM jo a1 a2 a3 a4 := j.live.ne hk0
      apply fall_once (¬ ((head J x).1 ≠ (head J y).1 ∧ J.many.getD (head J x).1 0 < J.many.getD (head J y).1 0))
      · intro fall
        refine ⟨_, rfl, _, rfl, rfl, _, rfl, iteB (fun cn => ?_) (fun cn => ?_)⟩
        · have ne : (head J x).1 ≠ (head J y).1 := fun e => neT cn (by rw [e])
          refine ⟨_, _, rfl, rdMany T j3, _, rfl, a3, _, _, _, rfl, rfl, SqL.of j3.mn, ix_at (by omega) (at_map mA), ?_⟩
          refine ⟨_, _, rfl, rdMany T j3, _, rfl, a3, _, _, _, rfl, rfl, SqL.of j3.mn, ix_at (by omega) (at_map mB), _, _, rfl, rfl, _, rfl, ?_⟩
          refine iteB (fun cl => ?_) (fun cl => ?_)
          · have lt := eqT cl
            rw [tie_hang e ne lt] at k
            -- self.above[here] = there
            refine ⟨_, rfl, _, _, rfl, rdAbove T j3, _, rfl, a1, _, _, (head J x).1, rfl, rfl, j3.ab, ixN_at (by omega) (by rw [List.length_map, o.la]; exact hA), ?_⟩
            rw [ni_set]
            have j4 := j3.setAbove (J.above.set (head J x).1 (head J y).1)
            have st4 := st3.upd (p := a1) (o := ni (J.above.set (head J x).1 (head J y).1)) (by simp)
            have hk4 : upd H3 a1 (ni (J.above.set (head J x).1 (head J y).1)) kq = some (li (keptRoom J x y t)) := by rw [upd_ne (fun e => nkM (by simp [e]))]; exact hk3
            have hq4 : upd H3 a1 (ni (J.above.set (head J x).1 (head J y).1)) q = some (ti (across J x y t)) := by rw [upd_ne (fun e => nqM (by simp [e]))]; exact hq
            generalize upd H3 a1 _ = H4 at j4 st4 hk4 hq4 ⊢
            -- self.turning[here] = across
            have j5 := j4.freeze hq4 zq nqM
            have st5 := st4.freeze (p := q) (o := ti (across J x y t)) hq00 j.zs
            obtain ⟨ts, t1, t2⟩ := j5.tu
            have tl : ts.length = n := by rw [t2.len]; exact o.lt
            refine ⟨_, rfl, _, _, rfl, rdTurning T j5, _, rfl, a2, _, _, (head J x).1, rfl, rfl, t1, ixN_at (by omega) (by rw [List.length_map, tl]; exact hA), ?_⟩
            rw [refs_set]
            have j6 := j5.setTurning (t2.set (head J x).1 (a := q) (x := across J x y t) upd_same)
            have st6 := st5.upd (p := a2) (o := .lst ((ts.set (head J x).1 q).map V.ref)) (by simp)
            have hk6 : upd H4 a2 (.lst ((ts.set (head J x).1 q).map V.ref)) kq = some (li (keptRoom J x y t)) := by rw [upd_ne (fun e => nkM (by simp [e]))]; exact hk4
            have hq6 : upd H4 a2 (.lst ((ts.set (head J x).1 q).map V.ref)) q = some (ti (across J x y t)) := by rw [upd_ne (fun e => nqM (by simp [e]))]; exact hq4
            generalize upd H4 a2 _ = H6 at j6 st6 hk6 hq6 ⊢
            -- self.many[there] += self.many[here]
            refine ⟨_, _, rfl, rdMany T j6, _, rfl, a3, _, (head J y).1, _, rfl, rfl, SqL.of j6.mn, at_map mB, ?_⟩
            refine ⟨_, _, rfl, rdMany T j6, _, rfl, a3, _, _, _, rfl, rfl, SqL.of j6.mn, ix_at (by omega) (at_map mA), _, _, rfl, rfl, ?_⟩
            refine ⟨a3, _, _, (head J y).1, rfl, rfl, j6.mn, ixN_at (by omega) (by rw [List.length_map]; show _ < J.many.length; rw [o.lm]; exact hB), ?_⟩
            rw [li_set]
            have j7 := j6.setMany (J.many.set (head J y).1 (J.many.getD (head J y).1 0 + J.many.getD (head J x).1 0))
            have st7 := st6.upd (p := a3) (o := li (J.many.set (head J y).1 (J.many.getD (head J y).1 0 + J.many.getD (head J x).1 0))) (by simp)
            have hk7 : upd H6 a3 (li (J.many.set (head J y).1 (J.many.getD (head J y).1 0 + J.many.getD (head J x).1 0))) kq = some (li (keptRoom J x y t)) := by rw [upd_ne (fun e => nkM (by simp [e]))]; exact hk6
            have hq7 : upd H6 a3 (li (J.many.set (head J y).1 (J.many.getD (head J y).1 0 + J.many.getD (head J x).1 0))) q = some (ti (across J x y t)) := by rw [upd_ne (fun e => nqM (by simp [e]))]; exact hq6
            generalize upd H6 a3 _ = H7 at j7 st7 hk7 hq7 ⊢
            -- self.room[there] = sorted(..)
            refine ⟨_, rfl, kq, rfl, ⟨_, SqL.of hk7⟩, fun D hD => lc_pure (walk_list (K := K) (a := kq) (xs := (keptRoom J x y t).map V.int)) (fun i => [.int ((across J x y t).getD ((keptRoom J x y t).getD i 0).toNat 0)]) hD (by rw [List.length_map]; omega) (fun H8 s8 => SqL.of (s8 _ _ hk7)) ?_ ?_⟩
            · rintro i v H8 H9 hi s8 ⟨e3, hv⟩ Qe Qn qe qn
              rw [e3]
              obtain ⟨z, hz, rfl⟩ := map_at hv
              have r := kr.2 z (List.mem_of_getElem? hz)
              have ez : (keptRoom J x y t).getD i 0 = z := getD_of hz
              rw [ez] at qe
              refine ⟨rfl, ?_⟩
              show (if true = true then _ else Qn H8)
              rw [if_pos rfl]
              exact ⟨_, rfl, _, rfl, q, _, _, _, rfl, rfl, SqT.of (s8 _ _ hq7), ix_at r.1 (at_map (af.get r.1 r.2).1), qe _ _ (Same.refl _) rfl⟩
            · intro H8 s8 hl
              rw [List.length_map, outs_all (xs := keptRoom J x y t) _ (fun z => V.int ((across J x y t).getD z.toNat 0)) (fun i z hz => by rw [getD_of hz])] at hl
              have e9 : (keptRoom J x y t).map (fun z => V.int ((across J x y t).getD z.toNat 0)) = ((keptRoom J x y t).map fun z => (across J x y t).getD z.toNat 0).map V.int := by rw [List.map_map]; rfl
              rw [e9] at hl
              refine ⟨D, _, rfl, SqL.of hl, fun ns S pm pw hS => ?_⟩
              have es := srt_eq pm pw
              subst es
              have j8 := (j7.same s8).same (same_new (o := li (srt ((keptRoom J x y t).map fun z => (across J x y t).getD z.toNat 0))) hS)
              have st8 := (st7.same s8).same (same_new (o := li (srt ((keptRoom J x y t).map fun z => (across J x y t).getD z.toNat 0))) hS)
              have hS0 : H S = none := (st7.same s8).kp.free (j7.same s8).live hS
              have zS := (j7.same s8).zs.free hS
              have hSv : upd H8 S (li (srt ((keptRoom J x y t).map fun z => (across J x y t).getD z.toNat 0))) S = _ := upd_same
              show gSub _ _ _ _ _ (upd H8 S (li (srt ((keptRoom J x y t).map fun z => (across J x y t).getD z.toNat 0)))) _
              generalize upd H8 S (li (srt ((keptRoom J x y t).map fun z => (across J x y t).getD z.toNat 0))) = H9 at j8 st8 hSv ⊢
              have j9 := j8.freeze hSv zS (j.live.ne hS0)
              have st9 := st8.freeze (p := S) (o := li (srt ((keptRoom J x y t).map fun z => (across J x y t).getD z.toNat 0))) hS0 j.zs
              obtain ⟨rs, r1, r2⟩ := j9.ro
              refine ⟨_, _, rfl, rdRoom T j9, _, rfl, a4, _, _, (head J y).1, rfl, rfl, r1, ixN_at (by omega) (by rw [List.length_map, r2.len]; show _ < J.room.length; rw [o.lr]; exact hB), ?_⟩
              rw [refs_set]
              have jA := j9.setRoom (r2.set (head J y).1 (a := S) (x := srt ((keptRoom J x y t).map fun z => (across J x y t).getD z.toNat 0)) upd_same)
              have stA := st9.upd (p := a4) (o := .lst ((rs.set (head J y).1 S).map V.ref)) (by simp)
              exact k.2 rfl _ _ jA stA
          · exact fall fun c => eqF cl c.2
        · exact fall fun c => c.1 (vnat (neF cn))
      · intro nh
        refine ⟨_, rfl, _, _, rfl, rdRoom T j3, _, rfl, ?_⟩
        have j4 := j3.freeze hk3 zk nkM
        have st4 := st3.freeze (p := kq) (o := li (keptRoom J x y t)) hk0 j.zs
        obtain ⟨rs, r1, r2⟩ := j4.ro
        refine ⟨a4, _, _, (head J x).1, rfl, rfl, r1, ixN_at (by omega) (by rw [List.length_map, r2.len]; show _ < J.room.length; rw [o.lr]; exact hA), ?_⟩
        rw [refs_set]
        have j5 := j4.setRoom (r2.set (head J x).1 (a := kq) (x := keptRoom J x y t) upd_same)
        have st5 := st4.upd (p := a4) (o := .lst ((rs.set (head J x).1 kq).map V.ref)) (by simp)
        have hq5 : upd H3 a4 (.lst ((rs.set (head J x).1 kq).map V.ref)) q = some (ti (across J x y t)) := by rw [upd_ne (fun e => nqM (by simp [e]))]; exact hq
        generalize upd H3 a4 _ = H5 at j5 st5 hq5 ⊢
        refine ⟨_, rfl, _, rfl, rfl, _, rfl, iteB (fun cn => ?_) (fun cn => ?_)⟩
        · have ne : (head J x).1 ≠ (head J y).1 := fun e => neT cn (by rw [e])
          rw [tie_take e ne (fun l => nh ⟨ne, l⟩)] at k
          refine ⟨_, rfl, _, _, rfl, rdAbove T j5, _, rfl, a1, _, _, (head J y).1, rfl, rfl, j5.ab, ixN_at (by omega) (by rw [List.length_map]; show _ < J.above.length; rw [o.la]; exact hB), ?_⟩
          rw [ni_set]
          have j6 := j5.setAbove (J.above.set (head J y).1 (head J x).1)
          have st6 := st5.upd (p := a1) (o := ni (J.above.set (head J y).1 (head J x).1)) (by simp)
          have hq6 : upd H5 a1 (ni (J.above.set (head J y).1 (head J x).1)) q = some (ti (across J x y t)) := by rw [upd_ne (fun e => nqM (by simp [e]))]; exact hq5
          show tSeq _ _ _ _ (upd H5 a1 (ni (J.above.set (head J y).1 (head J x).1)))
          generalize upd H5 a1 _ = H6 at j6 st6 hq6 ⊢
          refine ⟨_, rfl, q, J.size, _, rfl, by omega, af, hq6, fun uq H7 hu s7 h7 => ?_⟩
          have j7 := j6.same s7
          have st7 := st6.same s7
          have hu0 : H uq = none := st6.kp.free j6.live hu
          have zu := j6.zs.free hu
          have j8 := j7.freeze h7 zu (j.live.ne hu0)
          have st8 := st7.freeze (p := uq) (o := ti (undone (across J x y t))) hu0 j.zs
          obtain ⟨ts, t1, t2⟩ := j8.tu
          refine ⟨_, _, rfl, rdTurning T j8, _, rfl, a2, _, _, (head J y).1, rfl, rfl, t1, ixN_at (by omega) (by rw [List.length_map, t2.len]; show _ < J.turning.length; rw [o.lt]; exact hB), ?_⟩
          rw [refs_set]
          have j9 := j8.setTurning (t2.set (head J y).1 (a := uq) (x := undone (across J x y t)) upd_same)
          have st9 := st8.upd (p := a2) (o := .lst ((ts.set (head J y).1 uq).map V.ref)) (by simp)
          generalize upd H7 a2 _ = H9 at j9 st9 ⊢
          refine ⟨_, _, rfl, rdMany T j9, _, rfl, a3, _, (head J x).1, _, rfl, rfl, SqL.of j9.mn, at_map mA, ?_⟩
          refine ⟨_, _, rfl, rdMany T j9, _, rfl, a3, _, _, _, rfl, rfl, SqL.of j9.mn, ix_at (by omega) (at_map mB), _, _, rfl, rfl, ?_⟩
          refine ⟨a3, _, _, (head J x).1, rfl, rfl, j9.mn, ixN_at (by omega) (by rw [List.length_map]; show _ < J.many.length; rw [o.lm]; exact hA), ?_⟩
          rw [li_set]
          exact k.2 rfl _ _ (j9.setMany _) (st9.upd (by simp))
        · have ne : (head J x).1 = (head J y).1 := vnat (neF cn)
          rw [tie_same e ne] at k
          exact k.2 rfl _ _ j5 st5
end
end Kin
set_option maxHeartbeats 4000000
/-! K13: the groups: say, open_at, dealt. -/
namespace Kin
open PySem L2
section
variable {P : Program} {w : World} {K : PySem.W.Frag} {mg : Str → Option Value} {g : Str → Addr} {mt : Str → Str → Addr} {base : Heap}
theorem walk_r0 {n : Nat} : Walk (Itr 0 n) n (fun _ => True) (fun i H v H' => H' = H ∧ v = .int (i : Nat)) :=
  walk_range.mono (fun _ h => h) fun i H x H' _ _ y => ⟨y.1, by rw [y.2]; show V.int (0 + (i : Int)) = _; rw [Int.zero_add]⟩
def spJSay (g : Str → Addr) : Sp := fun vs H Q _ => ∃ (Z : Hp) (jo a1 a2 a3 a4 : Addr) (J : JS) (n x : Nat) (z : Int), vs = [.ref jo, .int (x : Nat), .int z] ∧ JA g Z H jo a1 a2 a3 a4 J ∧ JOk n J ∧ x < n ∧ n ≤ 99999 ∧ 0 ≤ z ∧ z < J.size ∧
  ((sayJ J x z).2 = false → ∀ H', Same H H' → Q (.bl false) H') ∧ ((sayJ J x z).2 = true → ∀ Z' H', JA g Z' H' jo a1 a2 a3 a4 (sayJ J x z).1 → Step Z H (jM jo a1 a2 a3 a4) Z' H' → Q (.bl true) H')
theorem say_yes {J : JS} {x : Nat} {z : Int} (h : (head J x).2.getD z.toNat 0 ∈ J.room.getD (head J x).1 []) : sayJ J x z = (⟨J.size, J.above, J.turning, J.many, J.room.set (head J x).1 [(head J x).2.getD z.toNat 0]⟩, true) := by
  unfold sayJ; rw [if_pos h]
theorem say_no {J : JS} {x : Nat} {z : Int} (h : ¬ (head J x).2.getD z.toNat 0 ∈ J.room.getD (head J x).1 []) : sayJ J x z = (J, false) := by
  unfold sayJ; rw [if_neg h]
theorem ok_Joins_say (T : Txt w K mg g mt) : GM P w K mg base CX0 3 (g "Joins") "say" (spJSay g) := by
  refine gm0 (F_Joins_say T) (T.cls _ (by decide +kernel)) (T.meth ("Joins", "say") (by decide +kernel)) sc_Joins_say (fun vs H Q E h => ?_) fun cdv A outer s H vs Q E hr h => ?_
  · obtain ⟨Z, jo, a1, a2, a3, a4, J, n, x, z, rfl, _⟩ := h; rfl
  · obtain ⟨Z, jo, a1, a2, a3, a4, J, n, x, z, rfl, j, o, hx, hn, z0, z1, k⟩ := h
    have nd := sc_Joins_say.nd
    have Hd := ok_Joins_head (P := P) (base := base) T
    refine ⟨_, pss_cons (ps_asg (pe_gm Hd (pv 0) hr pass0 (pa_cons (pv 1) pa_nil)) (pg_tup rfl (pgs_cons (pg_name (i := 3) nd rfl (.inl rfl)) (pgs_cons (pg_name (i := 4) nd rfl (.inl rfl)) pgs_nil))))
      (pss_cons (ps_if (pt_cmpR op_notIn_seq (pe_ix ix_tup (pv 4) (pv 2) (fun _ _ => rfl)) (pe_ix ix_list (pe_sf 0) (pv 3) (fun _ _ => rfl)) rfl) (pss_one (ps_ret pe_bl)) pss_nil)
      (pss_cons (ps_asg (pe_lst (pa_cons (pe_ix ix_tup (pv 4) (pv 2) (fun _ _ => rfl)) pa_nil)) (pg_sub (pe_sf 0) (pv 3) set_list))
      (pss_one (ps_ret pe_bl)))), ?_⟩
    obtain ⟨dx, ob⟩ := j.ob
    refine ⟨_, rfl, jo, dx, _, rfl, ob, (nomJ ..).1, _, rfl, ?_⟩
    refine ⟨Z, jo, a1, a2, a3, a4, J, n, x, rfl, j, o, hx, hn, fun r t H1 s1 h1 e1 => ?_⟩
    refine ⟨r, _, rfl, SqT.of e1, rfl, _, _, rfl, _, _, rfl, rfl, ?_⟩
    have j1 := j.same s1
    obtain ⟨hA, fa, _⟩ := head_ok o hx
    obtain ⟨ra, rl, rr⟩ := room_at o hA
    obtain ⟨rs, r1, r2⟩ := j1.ro
    obtain ⟨b, b1, b2⟩ := r2.get ra
    have b3 := j1.zs _ _ b2
    have ez := (fa.get z0 z1).1
    refine ⟨_, rfl, _, rfl, t, _, _, _, rfl, rfl, SqT.of h1, ix_at z0 (at_map ez), ?_⟩
    refine ⟨_, _, rfl, rdRoom T j1, _, rfl, a4, _, _, _, rfl, rfl, SqL.of r1, ix_at (by omega) b1, ?_⟩
    refine ⟨b, _, rfl, .inl (SqL.of b3), rfl, flat_ints _, _, rfl, ?_⟩
    rw [if_pos rfl, inV_ints]
    refine iteB (fun c => ?_) (fun c => ?_)
    · have e : ¬ (head J x).2.getD z.toNat 0 ∈ J.room.getD (head J x).1 [] := by simpa using c
      rw [say_no e] at k
      exact k.1 rfl _ s1
    · have e : (head J x).2.getD z.toNat 0 ∈ J.room.getD (head J x).1 [] := by simpa using c
      rw [say_yes e] at k
      refine ⟨_, rfl, _, rfl, t, _, _, _, rfl, rfl, SqT.of h1, ix_at z0 (at_map ez), by show 1 ≤ sizeLine; decide, fun D hD => ?_⟩
      have s2 := same_new (o := .lst [.int ((head J x).2.getD z.toNat 0)]) hD
      have h2 : upd H1 D (.lst [.int ((head J x).2.getD z.toNat 0)]) D = some (li [(head J x).2.getD z.toNat 0]) := upd_same
      generalize upd H1 D _ = H2 at s2 h2 ⊢
      have j2 := j1.same s2
      have hD0 : H D = none := s1.free hD
      have j3 := j2.freeze h2 (j1.zs.free hD) (j.live.ne hD0)
      have st3 := (Step.ofSame (Z := Z) (jM jo a1 a2 a3 a4) (s1.trans s2)).freeze (p := D) (o := li [(head J x).2.getD z.toNat 0]) hD0 j.zs
      obtain ⟨rs, r1, r2⟩ := j3.ro
      refine ⟨_, _, rfl, rdRoom T j3, _, rfl, a4, _, _, (head J x).1, rfl, rfl, r1, ixN_at (by omega) (by rw [List.length_map, r2.len]; show _ < J.room.length; rw [o.lr]; exact hA), ?_⟩
      rw [refs_set]
      exact k.2 rfl _ _ (j3.setRoom (r2.set (head J x).1 (a := D) (x := [(head J x).2.getD z.toNat 0]) upd_same)) (st3.upd (by simp))

def spOpen (g : Str → Addr) : Sp := fun vs H Q _ => ∃ (Z : Hp) (jo a1 a2 a3 a4 : Addr) (J : JS) (n x : Nat), vs = [.ref jo, .int (x : Nat)] ∧ JA g Z H jo a1 a2 a3 a4 J ∧ JOk n J ∧ x < n ∧ n ≤ 99999 ∧
  ∀ q H', Same H H' → H' q = some (li (openAt J x)) → Q (.ref q) H'
theorem ok_Joins_open_at (T : Txt w K mg g mt) : GM P w K mg base CX0 3 (g "Joins") "open_at" (spOpen g) := by
  refine gm0 (F_Joins_open_at T) (T.cls _ (by decide +kernel)) (T.meth ("Joins", "open_at") (by decide +kernel)) sc_Joins_open_at (fun vs H Q E h => ?_) fun cdv A outer s H vs Q E hr h => ?_
  · obtain ⟨Z, jo, a1, a2, a3, a4, J, n, x, rfl, _⟩ := h; rfl
  · obtain ⟨Z, jo, a1, a2, a3, a4, J, n, x, rfl, j, o, hx, hn, k⟩ := h
    have nd := sc_Joins_open_at.nd
    have fS : mg "sorted" = none := T.free _ (by decide +kernel)
    have Hd := ok_Joins_head (P := P) (base := base) T
    have U := ok_undone (P := P) (base := base) T
    refine ⟨_, pss_cons (ps_asg (pe_gm Hd (pv 0) hr pass0 (pa_cons (pv 1) pa_nil)) (pg_tup rfl (pgs_cons (pg_name (i := 2) nd rfl (by first | exact .inl rfl | exact .inr rfl)) (pgs_cons (pg_name (i := 3) nd rfl (by first | exact .inl rfl | exact .inr rfl)) pgs_nil))))
      (pss_cons (ps_set (i := 4) nd rfl (by first | exact .inl rfl | exact .inr rfl) (pe_gf U hr pass0 (pa_cons (pv 3) pa_nil)))
      (pss_one (ps_ret (pe_callB cr_sortedI (by rfl) fS (by decide +kernel) (pa_cons (pe_lc (own := [("at", 5)]) (g := gName 5) (tt := _) rfl nd (pi_list (pe_ix ix_list (pe_sf 0) (pv 2) (fun _ _ => rfl))) (blkOk_by (N := ["self", "one", "head", "up", "down", "at"]) (sc := defScope s_Joins_open_at) (by decide +kernel)) (fun _ _ _ _ _ => pg_name (i := 5) nd rfl (Or.inl rfl))
          (fun _ _ _ _ _ => pts_nil) (fun _ _ _ _ _ => pe_ix (r := rIxT K) ix_tup (pv 4) (pv 5) (fun _ _ => rfl))) pa_nil))))), ?_⟩
    obtain ⟨dx, ob⟩ := j.ob
    refine ⟨_, rfl, jo, dx, _, rfl, ob, (nomJ ..).1, _, rfl, ?_⟩
    refine ⟨Z, jo, a1, a2, a3, a4, J, n, x, rfl, j, o, hx, hn, fun r t H1 s1 h1 e1 => ?_⟩
    refine ⟨r, _, rfl, SqT.of e1, rfl, _, _, rfl, _, _, rfl, rfl, ?_⟩
    obtain ⟨hA, fa, _⟩ := head_ok o hx
    obtain ⟨ra, rl, rr⟩ := room_at o hA
    have o8 := o.s8
    refine ⟨_, rfl, t, J.size, _, rfl, by omega, fa, h1, fun u H2 hu s2 h2 => ?_⟩
    have j2 := (j.same s1).same s2
    obtain ⟨rs, r1, r2⟩ := j2.ro
    obtain ⟨b, b1, b2⟩ := r2.get ra
    have b3 := j2.zs _ _ b2
    have fu := fit_undone fa
    refine ⟨_, _, rfl, rdRoom T j2, _, rfl, a4, _, _, _, rfl, rfl, SqL.of r1, ix_at (by omega) b1, b, rfl, ⟨_, SqL.of b3⟩, fun D hD => lc_pure (walk_list (K := K) (a := b) (xs := (J.room.getD (head J x).1 []).map V.int)) (fun i => [.int ((undone (head J x).2).getD ((J.room.getD (head J x).1 []).getD i 0).toNat 0)]) hD (by rw [List.length_map]; omega) (fun H8 s8 => SqL.of (s8 _ _ b3)) ?_ ?_⟩
    · rintro i v H8 H9 hi s8 ⟨e3, hv⟩ Qe Qn qe qn
      rw [e3]
      obtain ⟨z, hz, rfl⟩ := map_at hv
      have r := rr z (List.mem_of_getElem? hz)
      have ez : (J.room.getD (head J x).1 []).getD i 0 = z := getD_of hz
      rw [ez] at qe
      refine ⟨rfl, ?_⟩
      show (if true = true then _ else Qn H8)
      rw [if_pos rfl]
      exact ⟨_, rfl, _, rfl, u, _, _, _, rfl, rfl, SqT.of (s8 _ _ h2), ix_at r.1 (at_map (fu.get r.1 r.2).1), qe _ _ (Same.refl _) rfl⟩
    · intro H8 s8 hl
      rw [List.length_map, outs_all (xs := J.room.getD (head J x).1 []) _ (fun z => V.int ((undone (head J x).2).getD z.toNat 0)) (fun i z hz => by rw [getD_of hz])] at hl
      have e9 : (J.room.getD (head J x).1 []).map (fun z => V.int ((undone (head J x).2).getD z.toNat 0)) = ((J.room.getD (head J x).1 []).map fun z => (undone (head J x).2).getD z.toNat 0).map V.int := by rw [List.map_map]; rfl
      rw [e9] at hl
      refine ⟨D, _, rfl, SqL.of hl, fun ns S pm pw hS => ?_⟩
      have es := srt_eq pm pw
      subst es
      exact k S _ ((s1.trans s2).trans (s8.trans (same_new hS))) upd_same

def spDealt (g : Str → Addr) : Sp := fun vs H Q _ => ∃ (Z : Hp) (jo a1 a2 a3 a4 : Addr) (J : JS) (n : Nat), vs = [.ref jo] ∧ JA g Z H jo a1 a2 a3 a4 J ∧ JOk n J ∧ n ≤ 99999 ∧
  ∀ H', Same H H' → Q (.int (dealt J)) H'
theorem ok_Joins_dealt (T : Txt w K mg g mt) : GM P w K mg base CX0 1 (g "Joins") "dealt" (spDealt g) := by
  refine gm0 (F_Joins_dealt T) (T.cls _ (by decide +kernel)) (T.meth ("Joins", "dealt") (by decide +kernel)) sc_Joins_dealt (fun vs H Q E h => ?_) fun cdv A outer s H vs Q E hr h => ?_
  · obtain ⟨Z, jo, a1, a2, a3, a4, J, n, rfl, _⟩ := h; rfl
  · obtain ⟨Z, jo, a1, a2, a3, a4, J, n, rfl, j, o, hn, k⟩ := h
    have nd := sc_Joins_dealt.nd
    have fL : mg "len" = none := T.free _ (by decide +kernel)
    have fR : mg "range" = none := T.free _ (by decide +kernel)
    refine ⟨_, pss_cons (ps_set (i := 1) nd rfl (.inl rfl) pe_int)
      (pss_cons (ps_for PassesOwn.never rfl (pi_range1 rfl fR (pa_cons (pe_callB call_len_seq (by rfl) fL PySem.boot_len (pa_cons (pe_sf 0) pa_nil)) pa_nil)) (pg_name (i := 2) nd rfl (.inl rfl))
        (pss_one (ps_if (pt_cmpR op_eq (pe_ix ix_list (pe_sf 0) (pv 2) (fun _ _ => rfl)) (pv 2) (nomark _))
          (pss_one (ps_set (i := 1) nd rfl (.inl rfl) (pe_op op_mul (pv 1) (pe_callB call_len_seq (by rfl) fL PySem.boot_len (pa_cons (pe_ix ix_list (pe_sf 0) (pv 2) (fun _ _ => rfl)) pa_nil))))) pss_nil)))
      (pss_one (ps_ret (pv 1)))), ?_⟩
    refine ⟨_, _, rfl, rdAbove T j, a1, _, rfl, .inl (SqL.of j.ab), ?_⟩
    rw [List.length_map, o.la]
    refine ⟨_, rfl, by omega, by omega, ?_⟩
    refine for_it (walk_r0 (n := n)) (fun i σ H2 => (∃ u, σ = [some (.ref jo), some (.int (dealtTo J i)), u]) ∧ Same H H2) ⟨⟨none, rfl⟩, Same.refl _⟩ (fun i σ H2 _ p => trivial) ?_ ?_
    · rintro i v σ H2 H3 hi ⟨⟨u, rfl⟩, s2⟩ ⟨rfl, rfl⟩
      have j2 := j.same s2
      obtain ⟨pa, pl⟩ := par_lt o hi
      obtain ⟨ra, rl, rr⟩ := room_at o hi
      obtain ⟨rs, r1, r2⟩ := j2.ro
      obtain ⟨b, b1, b2⟩ := r2.get ra
      have b3 := j2.zs _ _ b2
      refine ⟨_, _, rfl, rdAbove T j2, _, rfl, a1, _, _, _, rfl, rfl, SqL.of j2.ab, ix_at (by omega) (at_map pa), _, rfl, rfl, _, rfl, iteB (fun c => ?_) (fun c => ?_)⟩
      · have e : par J.above i = i := vnat (eqT c)
        refine ⟨_, rfl, _, _, rfl, rdRoom T j2, _, rfl, a4, _, _, _, rfl, rfl, SqL.of r1, ix_at (by omega) b1, b, _, rfl, .inl (SqL.of b3), _, _, rfl, rfl, .inr ?_, ?_⟩
        · rw [List.length_map]; omega
        · rw [List.length_map]
          exact ⟨⟨_, by rw [dealtTo_succ, if_pos e]; rfl⟩, s2⟩
      · have e : ¬ par J.above i = i := fun e => eqF c (by rw [e])
        exact ⟨⟨_, by rw [dealtTo_succ, if_neg e]; rfl⟩, s2⟩
    · rintro σ H2 ⟨⟨u, rfl⟩, s2⟩
      have e : dealt J = dealtTo J n := by unfold dealt; rw [o.la]
      rw [e] at k
      exact ⟨_, rfl, k H2 s2⟩
end
end Kin
set_option maxHeartbeats 4000000
/-! K14: the errors' making (the last part printed by gen_errors.py). -/
namespace Kin
open PySem L2
/-- an error's __init__ at a new exception: a dict of its own, with its word in it -/
def spErr (K : PySem.W.Frag) (C : Addr) (n : Nat) (wd : Str) : Sp := fun vs H Q _ => ∃ (a : Addr) (us : List V), vs = .ref a :: us ∧ us.length = n ∧ OexC K C ∧ PySem.W.findIn K (.ref C) "word" = some none ∧ H a = some (exo a C none) ∧
  ∀ dx fs H', H dx = none → dx ≠ a → H' a = some (exo a C (some dx)) → H' dx = some (exd dx fs) → fs.lookup ("word" : Str) = some (.str wd) → (∀ b, b ≠ a → b ≠ dx → H' b = H b) → Q .non H'
/-- KinError.__init__, its word given -/
def spKin (K : PySem.W.Frag) : Sp := fun vs H Q _ => ∃ (a C : Addr) (wd : Str), vs = [.ref a, .str wd] ∧ OexC K C ∧ PySem.W.findIn K (.ref C) "word" = some none ∧ H a = some (exo a C none) ∧
  ∀ dx H', H dx = none → dx ≠ a → H' a = some (exo a C (some dx)) → H' dx = some (exd dx [("word", .str wd)]) → (∀ b, b ≠ a → b ≠ dx → H' b = H b) → Q .non H'
/-- an error of the text: its name, its word, how many it takes -/
def GE (P : Program) (w : World) (K : PySem.W.Frag) (mg : Str → Option Value) (base : Heap) (B : Addr) (k : Nat) (x wd : Str) (n : Nat) : Prop :=
  ∃ (C fI : Addr) (fd : FuncData) (ps : List Str), mg x = some (.ref C) ∧ Err K B C fI ∧ FnOk P w K mg base CX0 k fI fd ps (spErr K C n wd) ∧ Binds K fd ps []
section
variable {X : Cx} {B : Addr} {k j n : Nat} {x wd : Str} {E : XK}
theorem kMk_err {K : PySem.W.Frag} {C fI : Addr} {us : List V} {H : Hp} {Q : XK} (e : Err K B C fI) (hl : us.length = n) (q : ∀ cls d H', Refused K B wd H cls d H' → Q cls d H') : kMk C (spErr K C n wd) us H Q := by
  intro a ha
  refine ⟨a, us, rfl, hl, e.oex.cl, e.nw, upd_same, fun dx fs H' hd hne h1 h2 h3 h4 => ⟨rfl, dx, fs, h1, h2, ?_, ?_⟩⟩
  · rw [upd_ne hne] at hd; exact hd
  · have hd0 : H dx = none := by rw [upd_ne hne] at hd; exact hd
    refine q _ _ _ ⟨C, dx, fs, rfl, rfl, e.xf, e.nw, e.ex, upd_same, h3, fun b o eb => ?_⟩
    have na : b ≠ a := ne_of_none eb ha
    have nd : b ≠ dx := ne_of_none eb hd0
    rw [upd_ne nd, del_ne na, h4 b na nd, upd_ne na]
    exact eb
theorem ps_ref0 {p pos pos' : Pos} (G : GE X.prog X.w X.K X.mg X.base B k x wd 0) (hr : Room j X.A) (hc : X.calm = true) (tk : Takes X (ownW E)) (hk : k + 1 ≤ j := by decide) (hg : Gl X x := by rfl) (hdb : (x == ("__debug__" : Str)) = false := by decide) :
    PS X (.Raise (some (.Call (.Name x p) [] [] pos)) none pos') (fun D σ H => ∀ cls d H', Refused X.K B wd H cls d H' → E cls d H') := by
  obtain ⟨C, fI, fd, ps, hm, e, F, b⟩ := G
  have h := ps_raise (pos := pos') hc tk (pmk_0 (p := p) (pos := pos) e.oex F (hr.mono hk) b pass0 hg hm hdb)
  exact ⟨fun pins s σ H D I q => h.run pins s σ H D I (kMk_err e rfl q)⟩
theorem ps_refN {p pos pos' : Pos} {e : Expr} {es : List Expr} {ta : TA} (G : GE X.prog X.w X.K X.mg X.base B k x wd n) (hr : Room j X.A) (hc : X.calm = true) (tk : Takes X (ownW E)) (ha : PA X (e :: es) ta)
    (mono : ∀ σ H (Q Q' : List V → Hp → Prop), (∀ v H1, Q v H1 → Q' v H1) → ta σ H Q → ta σ H Q') (h9 : n ≤ 9 := by decide)
    (hk : k + 1 ≤ j := by decide) (hg : Gl X x := by rfl) (hdb : (x == ("__debug__" : Str)) = false := by decide)
    (he : starEach (e :: es) X.env = (false, eval e X.env) :: starEach es X.env := by rfl) (hpl : (backTo pos (starEach es X.env)).any (·.1) = false := by rfl) :
    PS X (.Raise (some (.Call (.Name x p) (e :: es) [] pos)) none pos') (fun D σ H => ta σ H fun vs H1 => vs.length = n ∧ ∀ cls d H', Refused X.K B wd H1 cls d H' → E cls d H') := by
  obtain ⟨C, fI, fd, ps, hm, er, F, b⟩ := G
  have h := ps_raise (pos := pos') hc tk (pmk_n (p := p) (pos := pos) er.oex F (hr.mono hk) b pass0 hg hm ha hdb he hpl)
  exact ⟨fun pins s σ H D I q => h.run pins s σ H D I (mono _ _ _ _ (fun vs H1 ⟨hl, q⟩ => ⟨by omega, kMk_err er hl q⟩) q)⟩
end
section
variable {P : Program} {w : World} {K : PySem.W.Frag} {mg : Str → Option Value} {g : Str → Addr} {mt : Str → Str → Addr} {base : Heap}
theorem ok_KinError_init (T : Txt w K mg g mt) : ∃ fd, FnOk P w K mg base CX0 1 (mt "KinError" "__init__") fd ["self", "word"] (spKin K) ∧ Binds K fd ["self", "word"] [] := by
  obtain ⟨fd, h1, h2, h3⟩ := (F_KinError_init T).fn0 (P := P) (mg := mg) (base := base) (k := 0) (sp := spKin K) sc_KinError_init (fun vs H Q E h => by obtain ⟨a, C, wd, rfl, _⟩ := h; rfl) (fun cdv A outer s H vs Q E hr h => by
    obtain ⟨a, C, wd, rfl, c, nw, ha, k⟩ := h
    refine ⟨_, pss_one (ps_ost (pv 0) (pv 1) rfl), ?_⟩
    refine ⟨_, rfl, _, rfl, a, C, rfl, c, nw, .inl ⟨ha, fun dx hd hne => ?_⟩⟩
    refine k dx _ hd hne upd_same ?_ (fun b n1 n2 => ?_)
    · rw [upd_ne hne]; exact upd_same
    · rw [upd_ne n1, upd_ne n2])
  exact ⟨fd, h1, h3⟩
theorem ok_BadLand (T : Txt w K mg g mt) : GE P w K mg base (g "KinError") 2 "BadLand" "no land" 0 := by
  obtain ⟨fk, Fk, bk⟩ := ok_KinError_init (P := P) (base := base) T
  have e := T.err "BadLand" (by decide +kernel)
  obtain ⟨fd, h1, h2, h3⟩ := (F_BadLand_init T).fn0 (P := P) (mg := mg) (base := base) (k := 1) (sp := spErr K (g "BadLand") 0 "no land") sc_BadLand_init (fun vs H Q E h => by obtain ⟨a, us, rfl, hl, _⟩ := h; rw [List.length_cons, hl]; rfl) (fun cdv A outer s H vs Q E hr h => by
    obtain ⟨a, us, rfl, hl, c, nw, ha, k⟩ := h
    obtain rfl := List.eq_nil_of_length_eq_zero hl
    refine ⟨_, pss_one (ps_expr (pe_cfn T.cfn Fk hr bk pass0 (pe_glob (v := .ref (g "KinError")) rfl (T.glo "KinError" (by decide +kernel)) rfl) (pa_cons (pv 0) (pa_cons pe_str pa_nil)))), ?_⟩
    exact ⟨rfl, _, rfl, a, g "BadLand", "no land", rfl, c, nw, ha, fun dx H' n1 n2 n3 n4 n5 => k dx _ H' n1 n2 n3 n4 rfl n5⟩)
  exact ⟨g "BadLand", _, fd, _, T.glo _ (by decide +kernel), e, h1, h3⟩
theorem ok_BadWord (T : Txt w K mg g mt) : GE P w K mg base (g "KinError") 2 "BadWord" "no word" 0 := by
  obtain ⟨fk, Fk, bk⟩ := ok_KinError_init (P := P) (base := base) T
  have e := T.err "BadWord" (by decide +kernel)
  obtain ⟨fd, h1, h2, h3⟩ := (F_BadWord_init T).fn0 (P := P) (mg := mg) (base := base) (k := 1) (sp := spErr K (g "BadWord") 0 "no word") sc_BadWord_init (fun vs H Q E h => by obtain ⟨a, us, rfl, hl, _⟩ := h; rw [List.length_cons, hl]; rfl) (fun cdv A outer s H vs Q E hr h => by
    obtain ⟨a, us, rfl, hl, c, nw, ha, k⟩ := h
    obtain rfl := List.eq_nil_of_length_eq_zero hl
    refine ⟨_, pss_one (ps_expr (pe_cfn T.cfn Fk hr bk pass0 (pe_glob (v := .ref (g "KinError")) rfl (T.glo "KinError" (by decide +kernel)) rfl) (pa_cons (pv 0) (pa_cons pe_str pa_nil)))), ?_⟩
    exact ⟨rfl, _, rfl, a, g "BadWord", "no word", rfl, c, nw, ha, fun dx H' n1 n2 n3 n4 n5 => k dx _ H' n1 n2 n3 n4 rfl n5⟩)
  exact ⟨g "BadWord", _, fd, _, T.glo _ (by decide +kernel), e, h1, h3⟩
theorem ok_BadName (T : Txt w K mg g mt) : GE P w K mg base (g "KinError") 2 "BadName" "no name" 0 := by
  obtain ⟨fk, Fk, bk⟩ := ok_KinError_init (P := P) (base := base) T
  have e := T.err "BadName" (by decide +kernel)
  obtain ⟨fd, h1, h2, h3⟩ := (F_BadName_init T).fn0 (P := P) (mg := mg) (base := base) (k := 1) (sp := spErr K (g "BadName") 0 "no name") sc_BadName_init (fun vs H Q E h => by obtain ⟨a, us, rfl, hl, _⟩ := h; rw [List.length_cons, hl]; rfl) (fun cdv A outer s H vs Q E hr h => by
    obtain ⟨a, us, rfl, hl, c, nw, ha, k⟩ := h
    obtain rfl := List.eq_nil_of_length_eq_zero hl
    refine ⟨_, pss_one (ps_expr (pe_cfn T.cfn Fk hr bk pass0 (pe_glob (v := .ref (g "KinError")) rfl (T.glo "KinError" (by decide +kernel)) rfl) (pa_cons (pv 0) (pa_cons pe_str pa_nil)))), ?_⟩
    exact ⟨rfl, _, rfl, a, g "BadName", "no name", rfl, c, nw, ha, fun dx H' n1 n2 n3 n4 n5 => k dx _ H' n1 n2 n3 n4 rfl n5⟩)
  exact ⟨g "BadName", _, fd, _, T.glo _ (by decide +kernel), e, h1, h3⟩
theorem ok_Taken (T : Txt w K mg g mt) : GE P w K mg base (g "KinError") 2 "Taken" "name taken" 0 := by
  obtain ⟨fk, Fk, bk⟩ := ok_KinError_init (P := P) (base := base) T
  have e := T.err "Taken" (by decide +kernel)
  obtain ⟨fd, h1, h2, h3⟩ := (F_Taken_init T).fn0 (P := P) (mg := mg) (base := base) (k := 1) (sp := spErr K (g "Taken") 0 "name taken") sc_Taken_init (fun vs H Q E h => by obtain ⟨a, us, rfl, hl, _⟩ := h; rw [List.length_cons, hl]; rfl) (fun cdv A outer s H vs Q E hr h => by
    obtain ⟨a, us, rfl, hl, c, nw, ha, k⟩ := h
    obtain rfl := List.eq_nil_of_length_eq_zero hl
    refine ⟨_, pss_one (ps_expr (pe_cfn T.cfn Fk hr bk pass0 (pe_glob (v := .ref (g "KinError")) rfl (T.glo "KinError" (by decide +kernel)) rfl) (pa_cons (pv 0) (pa_cons pe_str pa_nil)))), ?_⟩
    exact ⟨rfl, _, rfl, a, g "Taken", "name taken", rfl, c, nw, ha, fun dx H' n1 n2 n3 n4 n5 => k dx _ H' n1 n2 n3 n4 rfl n5⟩)
  exact ⟨g "Taken", _, fd, _, T.glo _ (by decide +kernel), e, h1, h3⟩
theorem ok_NoPerson (T : Txt w K mg g mt) : GE P w K mg base (g "KinError") 2 "NoPerson" "no person" 0 := by
  obtain ⟨fk, Fk, bk⟩ := ok_KinError_init (P := P) (base := base) T
  have e := T.err "NoPerson" (by decide +kernel)
  obtain ⟨fd, h1, h2, h3⟩ := (F_NoPerson_init T).fn0 (P := P) (mg := mg) (base := base) (k := 1) (sp := spErr K (g "NoPerson") 0 "no person") sc_NoPerson_init (fun vs H Q E h => by obtain ⟨a, us, rfl, hl, _⟩ := h; rw [List.length_cons, hl]; rfl) (fun cdv A outer s H vs Q E hr h => by
    obtain ⟨a, us, rfl, hl, c, nw, ha, k⟩ := h
    obtain rfl := List.eq_nil_of_length_eq_zero hl
    refine ⟨_, pss_one (ps_expr (pe_cfn T.cfn Fk hr bk pass0 (pe_glob (v := .ref (g "KinError")) rfl (T.glo "KinError" (by decide +kernel)) rfl) (pa_cons (pv 0) (pa_cons pe_str pa_nil)))), ?_⟩
    exact ⟨rfl, _, rfl, a, g "NoPerson", "no person", rfl, c, nw, ha, fun dx H' n1 n2 n3 n4 n5 => k dx _ H' n1 n2 n3 n4 rfl n5⟩)
  exact ⟨g "NoPerson", _, fd, _, T.glo _ (by decide +kernel), e, h1, h3⟩
theorem ok_NoSection (T : Txt w K mg g mt) : GE P w K mg base (g "KinError") 2 "NoSection" "no section" 0 := by
  obtain ⟨fk, Fk, bk⟩ := ok_KinError_init (P := P) (base := base) T
  have e := T.err "NoSection" (by decide +kernel)
  obtain ⟨fd, h1, h2, h3⟩ := (F_NoSection_init T).fn0 (P := P) (mg := mg) (base := base) (k := 1) (sp := spErr K (g "NoSection") 0 "no section") sc_NoSection_init (fun vs H Q E h => by obtain ⟨a, us, rfl, hl, _⟩ := h; rw [List.length_cons, hl]; rfl) (fun cdv A outer s H vs Q E hr h => by
    obtain ⟨a, us, rfl, hl, c, nw, ha, k⟩ := h
    obtain rfl := List.eq_nil_of_length_eq_zero hl
    refine ⟨_, pss_one (ps_expr (pe_cfn T.cfn Fk hr bk pass0 (pe_glob (v := .ref (g "KinError")) rfl (T.glo "KinError" (by decide +kernel)) rfl) (pa_cons (pv 0) (pa_cons pe_str pa_nil)))), ?_⟩
    exact ⟨rfl, _, rfl, a, g "NoSection", "no section", rfl, c, nw, ha, fun dx H' n1 n2 n3 n4 n5 => k dx _ H' n1 n2 n3 n4 rfl n5⟩)
  exact ⟨g "NoSection", _, fd, _, T.glo _ (by decide +kernel), e, h1, h3⟩
theorem ok_WrongSide (T : Txt w K mg g mt) : GE P w K mg base (g "KinError") 2 "WrongSide" "wrong side" 0 := by
  obtain ⟨fk, Fk, bk⟩ := ok_KinError_init (P := P) (base := base) T
  have e := T.err "WrongSide" (by decide +kernel)
  obtain ⟨fd, h1, h2, h3⟩ := (F_WrongSide_init T).fn0 (P := P) (mg := mg) (base := base) (k := 1) (sp := spErr K (g "WrongSide") 0 "wrong side") sc_WrongSide_init (fun vs H Q E h => by obtain ⟨a, us, rfl, hl, _⟩ := h; rw [List.length_cons, hl]; rfl) (fun cdv A outer s H vs Q E hr h => by
    obtain ⟨a, us, rfl, hl, c, nw, ha, k⟩ := h
    obtain rfl := List.eq_nil_of_length_eq_zero hl
    refine ⟨_, pss_one (ps_expr (pe_cfn T.cfn Fk hr bk pass0 (pe_glob (v := .ref (g "KinError")) rfl (T.glo "KinError" (by decide +kernel)) rfl) (pa_cons (pv 0) (pa_cons pe_str pa_nil)))), ?_⟩
    exact ⟨rfl, _, rfl, a, g "WrongSide", "wrong side", rfl, c, nw, ha, fun dx H' n1 n2 n3 n4 n5 => k dx _ H' n1 n2 n3 n4 rfl n5⟩)
  exact ⟨g "WrongSide", _, fd, _, T.glo _ (by decide +kernel), e, h1, h3⟩
theorem ok_Twice (T : Txt w K mg g mt) : GE P w K mg base (g "KinError") 2 "Twice" "told twice" 0 := by
  obtain ⟨fk, Fk, bk⟩ := ok_KinError_init (P := P) (base := base) T
  have e := T.err "Twice" (by decide +kernel)
  obtain ⟨fd, h1, h2, h3⟩ := (F_Twice_init T).fn0 (P := P) (mg := mg) (base := base) (k := 1) (sp := spErr K (g "Twice") 0 "told twice") sc_Twice_init (fun vs H Q E h => by obtain ⟨a, us, rfl, hl, _⟩ := h; rw [List.length_cons, hl]; rfl) (fun cdv A outer s H vs Q E hr h => by
    obtain ⟨a, us, rfl, hl, c, nw, ha, k⟩ := h
    obtain rfl := List.eq_nil_of_length_eq_zero hl
    refine ⟨_, pss_one (ps_expr (pe_cfn T.cfn Fk hr bk pass0 (pe_glob (v := .ref (g "KinError")) rfl (T.glo "KinError" (by decide +kernel)) rfl) (pa_cons (pv 0) (pa_cons pe_str pa_nil)))), ?_⟩
    exact ⟨rfl, _, rfl, a, g "Twice", "told twice", rfl, c, nw, ha, fun dx H' n1 n2 n3 n4 n5 => k dx _ H' n1 n2 n3 n4 rfl n5⟩)
  exact ⟨g "Twice", _, fd, _, T.glo _ (by decide +kernel), e, h1, h3⟩
theorem ok_NoFact (T : Txt w K mg g mt) : GE P w K mg base (g "KinError") 2 "NoFact" "no fact" 0 := by
  obtain ⟨fk, Fk, bk⟩ := ok_KinError_init (P := P) (base := base) T
  have e := T.err "NoFact" (by decide +kernel)
  obtain ⟨fd, h1, h2, h3⟩ := (F_NoFact_init T).fn0 (P := P) (mg := mg) (base := base) (k := 1) (sp := spErr K (g "NoFact") 0 "no fact") sc_NoFact_init (fun vs H Q E h => by obtain ⟨a, us, rfl, hl, _⟩ := h; rw [List.length_cons, hl]; rfl) (fun cdv A outer s H vs Q E hr h => by
    obtain ⟨a, us, rfl, hl, c, nw, ha, k⟩ := h
    obtain rfl := List.eq_nil_of_length_eq_zero hl
    refine ⟨_, pss_one (ps_expr (pe_cfn T.cfn Fk hr bk pass0 (pe_glob (v := .ref (g "KinError")) rfl (T.glo "KinError" (by decide +kernel)) rfl) (pa_cons (pv 0) (pa_cons pe_str pa_nil)))), ?_⟩
    exact ⟨rfl, _, rfl, a, g "NoFact", "no fact", rfl, c, nw, ha, fun dx H' n1 n2 n3 n4 n5 => k dx _ H' n1 n2 n3 n4 rfl n5⟩)
  exact ⟨g "NoFact", _, fd, _, T.glo _ (by decide +kernel), e, h1, h3⟩
theorem ok_NothingLeft (T : Txt w K mg g mt) : GE P w K mg base (g "KinError") 2 "NothingLeft" "nothing left" 0 := by
  obtain ⟨fk, Fk, bk⟩ := ok_KinError_init (P := P) (base := base) T
  have e := T.err "NothingLeft" (by decide +kernel)
  obtain ⟨fd, h1, h2, h3⟩ := (F_NothingLeft_init T).fn0 (P := P) (mg := mg) (base := base) (k := 1) (sp := spErr K (g "NothingLeft") 0 "nothing left") sc_NothingLeft_init (fun vs H Q E h => by obtain ⟨a, us, rfl, hl, _⟩ := h; rw [List.length_cons, hl]; rfl) (fun cdv A outer s H vs Q E hr h => by
    obtain ⟨a, us, rfl, hl, c, nw, ha, k⟩ := h
    obtain rfl := List.eq_nil_of_length_eq_zero hl
    refine ⟨_, pss_one (ps_expr (pe_cfn T.cfn Fk hr bk pass0 (pe_glob (v := .ref (g "KinError")) rfl (T.glo "KinError" (by decide +kernel)) rfl) (pa_cons (pv 0) (pa_cons pe_str pa_nil)))), ?_⟩
    exact ⟨rfl, _, rfl, a, g "NothingLeft", "nothing left", rfl, c, nw, ha, fun dx H' n1 n2 n3 n4 n5 => k dx _ H' n1 n2 n3 n4 rfl n5⟩)
  exact ⟨g "NothingLeft", _, fd, _, T.glo _ (by decide +kernel), e, h1, h3⟩
theorem ok_UnlikeLands (T : Txt w K mg g mt) : GE P w K mg base (g "KinError") 2 "UnlikeLands" "unlike lands" 0 := by
  obtain ⟨fk, Fk, bk⟩ := ok_KinError_init (P := P) (base := base) T
  have e := T.err "UnlikeLands" (by decide +kernel)
  obtain ⟨fd, h1, h2, h3⟩ := (F_UnlikeLands_init T).fn0 (P := P) (mg := mg) (base := base) (k := 1) (sp := spErr K (g "UnlikeLands") 0 "unlike lands") sc_UnlikeLands_init (fun vs H Q E h => by obtain ⟨a, us, rfl, hl, _⟩ := h; rw [List.length_cons, hl]; rfl) (fun cdv A outer s H vs Q E hr h => by
    obtain ⟨a, us, rfl, hl, c, nw, ha, k⟩ := h
    obtain rfl := List.eq_nil_of_length_eq_zero hl
    refine ⟨_, pss_one (ps_expr (pe_cfn T.cfn Fk hr bk pass0 (pe_glob (v := .ref (g "KinError")) rfl (T.glo "KinError" (by decide +kernel)) rfl) (pa_cons (pv 0) (pa_cons pe_str pa_nil)))), ?_⟩
    exact ⟨rfl, _, rfl, a, g "UnlikeLands", "unlike lands", rfl, c, nw, ha, fun dx H' n1 n2 n3 n4 n5 => k dx _ H' n1 n2 n3 n4 rfl n5⟩)
  exact ⟨g "UnlikeLands", _, fd, _, T.glo _ (by decide +kernel), e, h1, h3⟩
theorem ok_BadText (T : Txt w K mg g mt) : GE P w K mg base (g "KinError") 2 "BadText" "no text" 0 := by
  obtain ⟨fk, Fk, bk⟩ := ok_KinError_init (P := P) (base := base) T
  have e := T.err "BadText" (by decide +kernel)
  obtain ⟨fd, h1, h2, h3⟩ := (F_BadText_init T).fn0 (P := P) (mg := mg) (base := base) (k := 1) (sp := spErr K (g "BadText") 0 "no text") sc_BadText_init (fun vs H Q E h => by obtain ⟨a, us, rfl, hl, _⟩ := h; rw [List.length_cons, hl]; rfl) (fun cdv A outer s H vs Q E hr h => by
    obtain ⟨a, us, rfl, hl, c, nw, ha, k⟩ := h
    obtain rfl := List.eq_nil_of_length_eq_zero hl
    refine ⟨_, pss_one (ps_expr (pe_cfn T.cfn Fk hr bk pass0 (pe_glob (v := .ref (g "KinError")) rfl (T.glo "KinError" (by decide +kernel)) rfl) (pa_cons (pv 0) (pa_cons pe_str pa_nil)))), ?_⟩
    exact ⟨rfl, _, rfl, a, g "BadText", "no text", rfl, c, nw, ha, fun dx H' n1 n2 n3 n4 n5 => k dx _ H' n1 n2 n3 n4 rfl n5⟩)
  exact ⟨g "BadText", _, fd, _, T.glo _ (by decide +kernel), e, h1, h3⟩
theorem ok_NoBook (T : Txt w K mg g mt) : GE P w K mg base (g "KinError") 2 "NoBook" "no book" 0 := by
  obtain ⟨fk, Fk, bk⟩ := ok_KinError_init (P := P) (base := base) T
  have e := T.err "NoBook" (by decide +kernel)
  obtain ⟨fd, h1, h2, h3⟩ := (F_NoBook_init T).fn0 (P := P) (mg := mg) (base := base) (k := 1) (sp := spErr K (g "NoBook") 0 "no book") sc_NoBook_init (fun vs H Q E h => by obtain ⟨a, us, rfl, hl, _⟩ := h; rw [List.length_cons, hl]; rfl) (fun cdv A outer s H vs Q E hr h => by
    obtain ⟨a, us, rfl, hl, c, nw, ha, k⟩ := h
    obtain rfl := List.eq_nil_of_length_eq_zero hl
    refine ⟨_, pss_one (ps_expr (pe_cfn T.cfn Fk hr bk pass0 (pe_glob (v := .ref (g "KinError")) rfl (T.glo "KinError" (by decide +kernel)) rfl) (pa_cons (pv 0) (pa_cons pe_str pa_nil)))), ?_⟩
    exact ⟨rfl, _, rfl, a, g "NoBook", "no book", rfl, c, nw, ha, fun dx H' n1 n2 n3 n4 n5 => k dx _ H' n1 n2 n3 n4 rfl n5⟩)
  exact ⟨g "NoBook", _, fd, _, T.glo _ (by decide +kernel), e, h1, h3⟩
theorem ok_Unequal (T : Txt w K mg g mt) : GE P w K mg base (g "KinError") 2 "Unequal" "unequal parents" 1 := by
  obtain ⟨fk, Fk, bk⟩ := ok_KinError_init (P := P) (base := base) T
  have e := T.err "Unequal" (by decide +kernel)
  obtain ⟨fd, h1, h2, h3⟩ := (F_Unequal_init T).fn0 (P := P) (mg := mg) (base := base) (k := 1) (sp := spErr K (g "Unequal") 1 "unequal parents") sc_Unequal_init (fun vs H Q E h => by obtain ⟨a, us, rfl, hl, _⟩ := h; rw [List.length_cons, hl]; rfl) (fun cdv A outer s H vs Q E hr h => by
    obtain ⟨a, us, rfl, hl, c, nw, ha, k⟩ := h
    match us, hl with
    | [a1], _ =>
    refine ⟨_, pss_cons (ps_expr (pe_cfn T.cfn Fk hr bk pass0 (pe_glob (v := .ref (g "KinError")) rfl (T.glo "KinError" (by decide +kernel)) rfl) (pa_cons (pv 0) (pa_cons pe_str pa_nil)))) (pss_one (ps_ost (pv 0) (pv 1) rfl)), ?_⟩
    refine ⟨rfl, _, rfl, a, g "Unequal", "unequal parents", rfl, c, nw, ha, fun dx H1 n1 n2 n3 n4 n5 => ?_⟩
    refine ⟨_, rfl, _, rfl, a, g "Unequal", rfl, c, T.noat ("Unequal", "section") (by decide +kernel), .inr ⟨dx, _, n3, n4, (by simp), ?_⟩⟩
    have m0a : upd H1 dx (exd dx ((("section" : Str), a1) :: [(("word" : Str), V.str "unequal parents")])) a = some (exo a (g "Unequal") (some dx)) := by rw [upd_ne (Ne.symm n2)]; exact n3
    have m0b : upd H1 dx (exd dx ((("section" : Str), a1) :: [(("word" : Str), V.str "unequal parents")])) dx = some _ := upd_same
    have m0c : ∀ b, b ≠ a → b ≠ dx → upd H1 dx (exd dx ((("section" : Str), a1) :: [(("word" : Str), V.str "unequal parents")])) b = H b := fun b y z => by rw [upd_ne z]; exact n5 b y z
    exact k dx _ _ n1 n2 m0a m0b (by kernel_rfl) m0c)
  exact ⟨g "Unequal", _, fd, _, T.glo _ (by decide +kernel), e, h1, h3⟩
theorem ok_OwnElder (T : Txt w K mg g mt) : GE P w K mg base (g "KinError") 2 "OwnElder" "own elder" 1 := by
  obtain ⟨fk, Fk, bk⟩ := ok_KinError_init (P := P) (base := base) T
  have e := T.err "OwnElder" (by decide +kernel)
  obtain ⟨fd, h1, h2, h3⟩ := (F_OwnElder_init T).fn0 (P := P) (mg := mg) (base := base) (k := 1) (sp := spErr K (g "OwnElder") 1 "own elder") sc_OwnElder_init (fun vs H Q E h => by obtain ⟨a, us, rfl, hl, _⟩ := h; rw [List.length_cons, hl]; rfl) (fun cdv A outer s H vs Q E hr h => by
    obtain ⟨a, us, rfl, hl, c, nw, ha, k⟩ := h
    match us, hl with
    | [a1], _ =>
    refine ⟨_, pss_cons (ps_expr (pe_cfn T.cfn Fk hr bk pass0 (pe_glob (v := .ref (g "KinError")) rfl (T.glo "KinError" (by decide +kernel)) rfl) (pa_cons (pv 0) (pa_cons pe_str pa_nil)))) (pss_one (ps_ost (pv 0) (pv 1) rfl)), ?_⟩
    refine ⟨rfl, _, rfl, a, g "OwnElder", "own elder", rfl, c, nw, ha, fun dx H1 n1 n2 n3 n4 n5 => ?_⟩
    refine ⟨_, rfl, _, rfl, a, g "OwnElder", rfl, c, T.noat ("OwnElder", "line") (by decide +kernel), .inr ⟨dx, _, n3, n4, (by simp), ?_⟩⟩
    have m0a : upd H1 dx (exd dx ((("line" : Str), a1) :: [(("word" : Str), V.str "own elder")])) a = some (exo a (g "OwnElder") (some dx)) := by rw [upd_ne (Ne.symm n2)]; exact n3
    have m0b : upd H1 dx (exd dx ((("line" : Str), a1) :: [(("word" : Str), V.str "own elder")])) dx = some _ := upd_same
    have m0c : ∀ b, b ≠ a → b ≠ dx → upd H1 dx (exd dx ((("line" : Str), a1) :: [(("word" : Str), V.str "own elder")])) b = H b := fun b y z => by rw [upd_ne z]; exact n5 b y z
    exact k dx _ _ n1 n2 m0a m0b (by kernel_rfl) m0c)
  exact ⟨g "OwnElder", _, fd, _, T.glo _ (by decide +kernel), e, h1, h3⟩
theorem ok_Barred (T : Txt w K mg g mt) : GE P w K mg base (g "KinError") 2 "Barred" "barred" 2 := by
  obtain ⟨fk, Fk, bk⟩ := ok_KinError_init (P := P) (base := base) T
  have e := T.err "Barred" (by decide +kernel)
  obtain ⟨fd, h1, h2, h3⟩ := (F_Barred_init T).fn0 (P := P) (mg := mg) (base := base) (k := 1) (sp := spErr K (g "Barred") 2 "barred") sc_Barred_init (fun vs H Q E h => by obtain ⟨a, us, rfl, hl, _⟩ := h; rw [List.length_cons, hl]; rfl) (fun cdv A outer s H vs Q E hr h => by
    obtain ⟨a, us, rfl, hl, c, nw, ha, k⟩ := h
    match us, hl with
    | [a1, a2], _ =>
    refine ⟨_, pss_cons (ps_expr (pe_cfn T.cfn Fk hr bk pass0 (pe_glob (v := .ref (g "KinError")) rfl (T.glo "KinError" (by decide +kernel)) rfl) (pa_cons (pv 0) (pa_cons pe_str pa_nil)))) (pss_cons (ps_ost (pv 0) (pv 1) rfl) (pss_one (ps_ost (pv 0) (pv 2) rfl))), ?_⟩
    refine ⟨rfl, _, rfl, a, g "Barred", "barred", rfl, c, nw, ha, fun dx H1 n1 n2 n3 n4 n5 => ?_⟩
    refine ⟨_, rfl, _, rfl, a, g "Barred", rfl, c, T.noat ("Barred", "whom") (by decide +kernel), .inr ⟨dx, _, n3, n4, (by simp), ?_⟩⟩
    have m0a : upd H1 dx (exd dx ((("whom" : Str), a1) :: [(("word" : Str), V.str "barred")])) a = some (exo a (g "Barred") (some dx)) := by rw [upd_ne (Ne.symm n2)]; exact n3
    have m0b : upd H1 dx (exd dx ((("whom" : Str), a1) :: [(("word" : Str), V.str "barred")])) dx = some _ := upd_same
    have m0c : ∀ b, b ≠ a → b ≠ dx → upd H1 dx (exd dx ((("whom" : Str), a1) :: [(("word" : Str), V.str "barred")])) b = H b := fun b y z => by rw [upd_ne z]; exact n5 b y z
    refine ⟨_, rfl, _, rfl, a, g "Barred", rfl, c, T.noat ("Barred", "walks") (by decide +kernel), .inr ⟨dx, _, m0a, m0b, (by simp), ?_⟩⟩
    have m1a : upd (upd H1 dx (exd dx ((("whom" : Str), a1) :: [(("word" : Str), V.str "barred")]))) dx (exd dx ((("walks" : Str), a2) :: (("whom" : Str), a1) :: [(("word" : Str), V.str "barred")])) a = some (exo a (g "Barred") (some dx)) := by rw [upd_ne (Ne.symm n2)]; exact m0a
    have m1b : upd (upd H1 dx (exd dx ((("whom" : Str), a1) :: [(("word" : Str), V.str "barred")]))) dx (exd dx ((("walks" : Str), a2) :: (("whom" : Str), a1) :: [(("word" : Str), V.str "barred")])) dx = some _ := upd_same
    have m1c : ∀ b, b ≠ a → b ≠ dx → upd (upd H1 dx (exd dx ((("whom" : Str), a1) :: [(("word" : Str), V.str "barred")]))) dx (exd dx ((("walks" : Str), a2) :: (("whom" : Str), a1) :: [(("word" : Str), V.str "barred")])) b = H b := fun b y z => by rw [upd_ne z]; exact m0c b y z
    exact k dx _ _ n1 n2 m1a m1b (by kernel_rfl) m1c)
  exact ⟨g "Barred", _, fd, _, T.glo _ (by decide +kernel), e, h1, h3⟩
end
end Kin
set_option maxHeartbeats 4000000
/-! K15: lands. -/
namespace Kin
open PySem L2
def lF (n : Int) (m f w : Addr) : List (Str × V) := [("size", .int n), ("mother", .ref m), ("father", .ref f), ("wife", .ref w)]
section
variable (n : Int) (m f w : Addr)
theorem lF_size : (lF n m f w).lookup ("size" : Str) = some (V.int n) := by kernel_rfl
theorem lF_mother : (lF n m f w).lookup ("mother" : Str) = some (V.ref m) := by kernel_rfl
theorem lF_father : (lF n m f w).lookup ("father" : Str) = some (V.ref f) := by kernel_rfl
theorem lF_wife : (lF n m f w).lookup ("wife" : Str) = some (V.ref w) := by kernel_rfl
theorem lF_step : (lF n m f w).lookup ("step" : Str) = none := by kernel_rfl
theorem lF_made : putF "wife" (.ref w) (putF "father" (.ref f) (putF "mother" (.ref m) (putF "size" (.int n) []))) = lF n m f w := by kernel_rfl
end
structure LA (g : Str → Addr) (H : Hp) (lo : Addr) (L : LS) : Prop where
  ex : ∃ dx m f w, H lo = some (.ins (g "Land") dx (lF L.size m f w)) ∧ H m = some (ti L.mother) ∧ H f = some (ti L.father) ∧ H w = some (ti L.wife)
/-- the land's objects named -/
def LA4 (g : Str → Addr) (H : Hp) (lo m f w : Addr) (L : LS) : Prop := ∃ dx, H lo = some (.ins (g "Land") dx (lF L.size m f w)) ∧ H m = some (ti L.mother) ∧ H f = some (ti L.father) ∧ H w = some (ti L.wife)
theorem LA4.la {g : Str → Addr} {H : Hp} {lo m f w : Addr} {L : LS} (h : LA4 g H lo m f w L) : LA g H lo L := let ⟨dx, a, b, c, d⟩ := h; ⟨dx, m, f, w, a, b, c, d⟩
theorem LA.same {g : Str → Addr} {H H' : Hp} {lo : Addr} {L : LS} (h : LA g H lo L) (s : Same H H') : LA g H' lo L :=
  let ⟨dx, m, f, w, a, b, c, d⟩ := h.ex; ⟨dx, m, f, w, s _ _ a, s _ _ b, s _ _ c, s _ _ d⟩
section
variable {P : Program} {w : World} {K : PySem.W.Frag} {mg : Str → Option Value} {g : Str → Addr} {mt : Str → Str → Addr} {base : Heap}
theorem hasL (T : Txt w K mg g mt) {H : Hp} {lo dx m f w : Addr} {n : Int} {x : Str} {v : V} (h : H lo = some (.ins (g "Land") dx (lF n m f w))) (hf : (("Land" : Str), x) ∈ attrNames) (hl : (lF n m f w).lookup x = some v) : Has K H lo x v :=
  ⟨_, dx, _, h, T.cls _ (by decide +kernel), T.noat (("Land" : Str), x) hf, hl⟩
/-- the letters that facts use -/
def letK (l k : Str) : Prop := (l = "m" ∧ k = "mother") ∨ (l = "f" ∧ k = "father") ∨ (l = "w" ∧ k = "wed") ∨ (l = "s" ∧ k = "sibling")
def spStep (g : Str → Addr) : Sp := fun vs H Q _ => ∃ (lo : Addr) (L : LS) (l k : Str), vs = [.ref lo, .str l] ∧ letK l k ∧ LA g H lo L ∧ LOk L ∧ ∀ t H', Same H H' → H' t = some (ti (stepOf L k)) → Q (.ref t) H'
theorem ok_Land_step (T : Txt w K mg g mt) : GM P w K mg base CX0 2 (g "Land") "step" (spStep g) := by
  refine gm0 (F_Land_step T) (T.cls _ (by decide +kernel)) (T.meth ("Land", "step") (by decide +kernel)) sc_Land_step (fun vs H Q E h => ?_) fun cdv A outer s H vs Q E hr h => ?_
  · obtain ⟨lo, L, l, k, rfl, _⟩ := h; rfl
  · obtain ⟨lo, L, l, k, rfl, hk, ⟨dx, m, f, wi, h1, h2, h3, h4⟩, o, q⟩ := h
    have U := ok_undone (P := P) (base := base) T
    have S := ok_still (P := P) (base := base) T
    have o8 := o.s8
    refine ⟨_, pss_cons (ps_if (pt_cmpR op_eq (pv 1) pe_str (nomark _)) (pss_one (ps_ret (pe_sf 0))) pss_nil)
      (pss_cons (ps_if (pt_cmpR op_eq (pv 1) pe_str (nomark _)) (pss_one (ps_ret (pe_sf 0))) pss_nil)
      (pss_cons (ps_if (pt_cmpR op_eq (pv 1) pe_str (nomark _)) (pss_one (ps_ret (pe_sf 0))) pss_nil)
      (pss_cons (ps_if (pt_cmpR op_eq (pv 1) pe_str (nomark _)) (pss_one (ps_ret (pe_gf U hr pass0 (pa_cons (pe_sf 0) pa_nil)))) pss_nil)
      (pss_cons (ps_if (pt_cmpR op_eq (pv 1) pe_str (nomark _)) (pss_one (ps_ret (pe_gf U hr pass0 (pa_cons (pe_sf 0) pa_nil)))) pss_nil)
      (pss_cons (ps_if (pt_cmpR op_eq (pv 1) pe_str (nomark _)) (pss_one (ps_ret (pe_gf U hr pass0 (pa_cons (pe_sf 0) pa_nil)))) pss_nil)
      (pss_cons (ps_if (pt_cmpR op_eq (pv 1) pe_str (nomark _)) (pss_one (ps_ret (pe_gf S hr pass0 (pa_cons (pe_sf 0) pa_nil)))) pss_nil)
      (pss_one ps_never))))))), ?_⟩
    have kM := hasL T h1 (x := "mother") (by decide +kernel) (lF_mother ..)
    have kF := hasL T h1 (x := "father") (by decide +kernel) (lF_father ..)
    have kW := hasL T h1 (x := "wife") (by decide +kernel) (lF_wife ..)
    have kS := hasL T h1 (x := "size") (by decide +kernel) (lF_size ..)
    rcases hk with ⟨rfl, rfl⟩ | ⟨rfl, rfl⟩ | ⟨rfl, rfl⟩ | ⟨rfl, rfl⟩
    · have es : stepOf L "mother" = undone L.mother := by unfold stepOf; rw [if_pos rfl]
      refine ⟨_, rfl, rfl, _, rfl, iteB (fun c => absurd (vstr (eqT c)) (by decide +kernel)) (fun _ => ?_)⟩
      refine ⟨_, rfl, rfl, _, rfl, iteB (fun c => absurd (vstr (eqT c)) (by decide +kernel)) (fun _ => ?_)⟩
      refine ⟨_, rfl, rfl, _, rfl, iteB (fun c => absurd (vstr (eqT c)) (by decide +kernel)) (fun _ => ?_)⟩
      refine ⟨_, rfl, rfl, _, rfl, iteB (fun _ => ?_) (fun c => absurd rfl (eqF c))⟩
      rw [es] at q
      exact ⟨_, _, rfl, kM, m, L.size, _, rfl, by omega, o.m, h2, fun p H' _ s' h' => q p H' s' h'⟩
    · have es : stepOf L "father" = undone L.father := by unfold stepOf; rw [if_neg (by decide +kernel), if_pos rfl]
      refine ⟨_, rfl, rfl, _, rfl, iteB (fun c => absurd (vstr (eqT c)) (by decide +kernel)) (fun _ => ?_)⟩
      refine ⟨_, rfl, rfl, _, rfl, iteB (fun c => absurd (vstr (eqT c)) (by decide +kernel)) (fun _ => ?_)⟩
      refine ⟨_, rfl, rfl, _, rfl, iteB (fun c => absurd (vstr (eqT c)) (by decide +kernel)) (fun _ => ?_)⟩
      refine ⟨_, rfl, rfl, _, rfl, iteB (fun c => absurd (vstr (eqT c)) (by decide +kernel)) (fun _ => ?_)⟩
      refine ⟨_, rfl, rfl, _, rfl, iteB (fun _ => ?_) (fun c => absurd rfl (eqF c))⟩
      rw [es] at q
      exact ⟨_, _, rfl, kF, f, L.size, _, rfl, by omega, o.f, h3, fun p H' _ s' h' => q p H' s' h'⟩
    · have es : stepOf L "wed" = L.wife := by unfold stepOf; rw [if_neg (by decide +kernel), if_neg (by decide +kernel), if_pos rfl]
      refine ⟨_, rfl, rfl, _, rfl, iteB (fun c => absurd (vstr (eqT c)) (by decide +kernel)) (fun _ => ?_)⟩
      refine ⟨_, rfl, rfl, _, rfl, iteB (fun c => absurd (vstr (eqT c)) (by decide +kernel)) (fun _ => ?_)⟩
      refine ⟨_, rfl, rfl, _, rfl, iteB (fun _ => ?_) (fun c => absurd rfl (eqF c))⟩
      rw [es] at q
      exact ⟨_, _, rfl, kW, q wi H (Same.refl _) h4⟩
    · have es : stepOf L "sibling" = still L.size := by unfold stepOf; rw [if_neg (by decide +kernel), if_neg (by decide +kernel), if_neg (by decide +kernel)]
      refine ⟨_, rfl, rfl, _, rfl, iteB (fun c => absurd (vstr (eqT c)) (by decide +kernel)) (fun _ => ?_)⟩
      refine ⟨_, rfl, rfl, _, rfl, iteB (fun c => absurd (vstr (eqT c)) (by decide +kernel)) (fun _ => ?_)⟩
      refine ⟨_, rfl, rfl, _, rfl, iteB (fun c => absurd (vstr (eqT c)) (by decide +kernel)) (fun _ => ?_)⟩
      refine ⟨_, rfl, rfl, _, rfl, iteB (fun c => absurd (vstr (eqT c)) (by decide +kernel)) (fun _ => ?_)⟩
      refine ⟨_, rfl, rfl, _, rfl, iteB (fun c => absurd (vstr (eqT c)) (by decide +kernel)) (fun _ => ?_)⟩
      refine ⟨_, rfl, rfl, _, rfl, iteB (fun c => absurd (vstr (eqT c)) (by decide +kernel)) (fun _ => ?_)⟩
      refine ⟨_, rfl, rfl, _, rfl, iteB (fun _ => ?_) (fun c => absurd rfl (eqF c))⟩
      rw [es] at q
      exact ⟨_, _, rfl, kS, L.size, rfl, by omega, fun p H' _ s' h' => q p H' s' h'⟩

/-! ### Land(..) as land_of makes it -/
def good (M W : List Int) : Prop := isTurn M = true ∧ isTurn (led W M) = true ∧ isTurn W = true ∧ W.length = M.length ∧ 2 ≤ M.length ∧ M.length ≤ 8
def spLInit (K : PySem.W.Frag) (g : Str → Addr) : Sp := fun vs H Q E => ∃ (x dx m f w : Addr) (M W : List Int), vs = [.ref x, .ref m, .ref f, .ref w] ∧ M.length ≤ 9 ∧ W.length = M.length ∧ H x = some (.ins (g "Land") dx []) ∧ H m = some (ti M) ∧ H f = some (ti (led W M)) ∧ H w = some (ti W) ∧ Fit M.length W ∧ Fit M.length M ∧
  (good M W → ∀ H', H' x = some (.ins (g "Land") dx (lF M.length m f w)) → Kept [x] H H' → Q .non H') ∧ (¬ good M W → ∀ cls d H', Refused K (g "KinError") "no land" H cls d H' → E cls d H')
theorem ok_Land_init (T : Txt w K mg g mt) : GK P w K mg base (L2.CX P w) 4 "Land" (g "Land") (spLInit K g) := by
  refine gkX (F_Land_init T) (T.glo _ (by decide +kernel)) (T.mkr _ (by decide +kernel)) sc_Land_init (fun vs H Q E h => ?_) fun cdv A outer s H vs Q E hr h => ?_
  · obtain ⟨x, dx, m, f, wi, M, W, rfl, _⟩ := h; rfl
  · obtain ⟨x, dx, m, f, wi, M, W, rfl, h9, hl, hx, hm, hf, hw, fw, fm, q1, q2⟩ := h
    have nd := sc_Land_init.nd
    have c : Cls K (g "Land") := T.cls _ (by decide +kernel)
    have fL : mg "len" = none := T.free _ (by decide +kernel)
    have fR : mg "range" = none := T.free _ (by decide +kernel)
    have fT : mg "tuple" = none := T.free _ (by decide +kernel)
    have iF : ∃ t, mg "FEWEST" = some (.int 2 t) := T.iFew
    have iM : ∃ t, mg "MOST" = some (.int 8 t) := T.iMost
    obtain ⟨tF, iF⟩ := iF
    obtain ⟨tM, iM⟩ := iM
    have I := ok_isTurn (P := P) (base := base) T
    have B := ok_BadLand (P := P) (base := base) T
    have tk := takes_of (X := cxOf (L2.CX P w) P w K mg base ["self", "mother", "father", "wife", "turn", "at"] "Land.__init__" (defScope s_Land_init) (mt "Land" "__init__") cdv A outer s H E) rfl rfl rfl rfl
    refine ⟨_, pss_cons (ps_for (passes_of rfl) rfl (pi_tup (pe_tup (pa_cons (pv 1) (pa_cons (pv 2) (pa_cons (pv 3) pa_nil))))) (pg_name (i := 4) nd rfl (.inl rfl))
        (pss_one (ps_if (PW.pt (pw_or (pt_not (pt_val (pe_gf I hr pass0 (pa_cons (pv 4) pa_nil)))) (pw_or1 (pt_cmpR op_ne (pe_callB call_len_seq (by rfl) fL PySem.boot_len (pa_cons (pv 4) pa_nil)) (pe_callB call_len_seq (by rfl) fL PySem.boot_len (pa_cons (pv 1) pa_nil)) (nomark _)))))
          (pss_one (ps_ref0 B hr rfl tk)) pss_nil)))
      (pss_cons (ps_if (PW.pt (pw_or (pt_cmpR op_lt (pe_callB call_len_seq (by rfl) fL PySem.boot_len (pa_cons (pv 1) pa_nil)) (pe_glob (v := .int 2) rfl iF ⟨_, rfl⟩) (nomark _)) (pw_or1 (pt_cmpR op_gt (pe_callB call_len_seq (by rfl) fL PySem.boot_len (pa_cons (pv 1) pa_nil)) (pe_glob (v := .int 8) rfl iM ⟨_, rfl⟩) (nomark _)))))
          (pss_one (ps_ref0 B hr rfl tk)) pss_nil)
      (pss_cons (ps_for (passes_of rfl) rfl (pi_range1 rfl fR (pa_cons (pe_callB call_len_seq (by rfl) fL PySem.boot_len (pa_cons (pv 3) pa_nil)) pa_nil)) (pg_name (i := 5) nd rfl (.inl rfl))
        (pss_one (ps_if (pt_cmpR op_ne (pe_ix ix_tup (pv 1) (pe_ix ix_tup (pv 3) (pv 5) (fun _ _ => rfl)) (fun _ _ => rfl)) (pe_ix ix_tup (pv 2) (pv 5) (fun _ _ => rfl)) (nomark _)) (pss_one ps_never) pss_nil)))
      (pss_cons (ps_fld (pv 0) (pe_callB call_len_seq (by rfl) fL PySem.boot_len (pa_cons (pv 1) pa_nil)) rfl)
      (pss_cons (ps_fld (pv 0) (pe_callTy call_tuple_of (by rfl) fT PyProof.Rows.boot_tuple (pa_cons (pv 1) pa_nil)) rfl)
      (pss_cons (ps_fld (pv 0) (pe_callTy call_tuple_of (by rfl) fT PyProof.Rows.boot_tuple (pa_cons (pv 2) pa_nil)) rfl)
      (pss_one (ps_fld (pv 0) (pe_callTy call_tuple_of (by rfl) fT PyProof.Rows.boot_tuple (pa_cons (pv 3) pa_nil)) rfl))))))), ?_⟩
    refine ⟨_, rfl, _, rfl, _, rfl, by show 3 ≤ sizeLine; decide, fun tp htp => ?_⟩
    have s1 := same_new (o := .tup [.ref m, .ref f, .ref wi]) htp
    have h1 : upd H tp (.tup [.ref m, .ref f, .ref wi]) tp = some _ := upd_same
    generalize upd H tp (.tup [.ref m, .ref f, .ref wi]) = H1 at s1 h1 ⊢
    have nx : x ≠ tp := ne_of_none hx htp
    have ll : (led W M).length = M.length := by unfold led; rw [List.length_map]; exact hl
    refine ⟨tp, rfl, ⟨_, SqT.of h1⟩, ?_⟩
    refine for_it (walk_tup (K := K) (a := tp) (xs := [.ref m, .ref f, .ref wi])) (fun i σ H2 => (∃ u, σ = [some (.ref x), some (.ref m), some (.ref f), some (.ref wi), u, none]) ∧ Same H1 H2 ∧ ∀ j, j < i → ∀ t, [M, led W M, W][j]? = some t → isTurn t = true)
      ⟨⟨none, rfl⟩, Same.refl _, fun j hj => absurd hj (Nat.not_lt_zero _)⟩ (fun i σ H2 _ p => SqT.of (p.2.1 _ _ h1)) ?_ ?_
    · rintro i v σ H2 H3 hi ⟨⟨u, rfl⟩, s2, ht⟩ ⟨e3, hv⟩
      rw [e3]
      have ss := s1.trans s2
      have go : ∃ (a : Addr) (t : List Int), v = .ref a ∧ [M, led W M, W][i]? = some t ∧ H2 a = some (ti t) ∧ t.length = M.length := by
        match i, hv with
        | 0, hv => exact ⟨m, M, (Option.some.inj hv).symm, rfl, ss _ _ hm, rfl⟩
        | 1, hv => exact ⟨f, led W M, (Option.some.inj hv).symm, rfl, ss _ _ hf, ll⟩
        | 2, hv => exact ⟨wi, W, (Option.some.inj hv).symm, rfl, ss _ _ hw, hl⟩
      obtain ⟨a, t, rfl, ht2, ha, htl⟩ := go
      refine ⟨_, rfl, a, t, rfl, by omega, ha, fun H4 s4 => ?_⟩
      refine ⟨_, rfl, iteB (fun cb => ?_) (fun cb => ?_)⟩
      · have bad : ¬ good M W := fun ⟨g1, g2, g3, _⟩ => by
          have e : isTurn t = true := by
            match i, ht2 with
            | 0, ht2 => cases ht2; exact g1
            | 1, ht2 => cases ht2; exact g2
            | 2, ht2 => cases ht2; exact g3
          rw [e] at cb; cases cb
        exact fun cls d H' r => q2 bad cls d H' (r.back (ss.trans s4))
      · have et : isTurn t = true := by simpa using cb
        refine ⟨_, rfl, a, _, rfl, .inr (SqT.of (s4 _ _ ha)), _, rfl, m, _, rfl, .inr (SqT.of (s4 _ _ (ss _ _ hm))), rfl, _, rfl, ?_⟩
        rw [List.length_map, List.length_map, htl]
        refine iteB (fun cb => absurd rfl (neT cb)) (fun _ => ?_)
        refine ⟨⟨_, rfl⟩, s2.trans s4, fun j hj t' h' => ?_⟩
        rcases Nat.lt_succ_iff_lt_or_eq.mp hj with hj | rfl
        · exact ht j hj t' h'
        · rw [ht2] at h'; cases h'; exact et
    · rintro σ H2 ⟨⟨u, rfl⟩, s2, ht⟩
      have t1 := ht 0 (Nat.zero_lt_succ _) M rfl
      have t2 := ht 1 (by show 1 < 3; decide) (led W M) rfl
      have t3 := ht 2 (by show 2 < 3; decide) W rfl
      have ss := s1.trans s2
      refine ⟨_, rfl, m, _, rfl, .inr (SqT.of (ss _ _ hm)), _, _, rfl, rfl, _, rfl, ?_⟩
      rw [List.length_map]
      refine iteB (fun cb => ?_) (fun c2 => ?_)
      · have := eqT cb
        exact fun cls d H' r => q2 (fun gd => by have := gd.2.2.2.2.1; omega) cls d H' (r.back ss)
      · refine ⟨_, rfl, m, _, rfl, .inr (SqT.of (ss _ _ hm)), _, _, rfl, rfl, _, rfl, ?_⟩
        rw [List.length_map]
        refine iteB (fun cb => ?_) (fun c8 => ?_)
        · have := eqT cb
          exact fun cls d H' r => q2 (fun gd => by have := gd.2.2.2.2.2; omega) cls d H' (r.back ss)
        · have g2 := eqF c2
          have g8 := eqF c8
          have gd : good M W := ⟨t1, t2, t3, hl, by omega, by omega⟩
          refine ⟨_, rfl, wi, _, rfl, .inr (SqT.of (ss _ _ hw)), ?_⟩
          rw [List.length_map]
          refine ⟨_, rfl, by omega, by omega, ?_⟩
          refine for_it (walk_r0 (n := W.length)) (fun i σ H3 => (∃ z, σ = [some (.ref x), some (.ref m), some (.ref f), some (.ref wi), u, z]) ∧ Same H1 H3) ⟨⟨none, rfl⟩, s2⟩ (fun _ _ _ _ _ => trivial) ?_ ?_
          · rintro i v σ H3 H4 hi ⟨⟨z, rfl⟩, s3⟩ ⟨rfl, rfl⟩
            have s4 := s1.trans s3
            have hi' : i < M.length := by omega
            obtain ⟨y, y1, y2, y3, y4⟩ := fw.at hi'
            have mg1 := (fm.get y3 y4).1
            have eL : (led W M)[i]? = some (M.getD y.toNat 0) := by unfold led; rw [List.getElem?_map, y1]; rfl
            refine ⟨_, rfl, _, rfl, _, rfl, wi, _, _, _, rfl, rfl, SqT.of (s4 _ _ hw), ix_at (by omega) (at_map y1), m, _, _, _, rfl, rfl, SqT.of (s4 _ _ hm), ix_at y3 (at_map mg1), ?_⟩
            refine ⟨_, rfl, _, rfl, f, _, _, _, rfl, rfl, SqT.of (s4 _ _ hf), ix_at (by omega) (at_map eL), rfl, _, rfl, iteB (fun cb => absurd rfl (neT cb)) (fun _ => ⟨⟨_, rfl⟩, s3⟩)⟩
          · rintro σ H3 ⟨⟨z, rfl⟩, s3⟩
            have s4 := s1.trans s3
            have l0 : ([] : List (Str × V)).length = 0 := rfl
            have i0 : Ini (g "Land") H3 x dx [] [] H3 := Ini.start (s4 _ _ hx)
            refine ⟨_, rfl, m, _, rfl, .inr (SqT.of (s4 _ _ hm)), _, rfl, x, _, dx, _, rfl, i0.ob, c, T.noat ("Land", "size") (by decide +kernel), by omega, ?_⟩
            rw [List.length_map]
            have keep : ∀ (H5 : Hp) (fs : List (Str × V)) (a : Addr) (o : HO), a ≠ x → H5 a = some o → upd H5 x (.ins (g "Land") dx fs) a = some o := fun H5 fs a o n e => by rw [upd_ne n]; exact e
            have xm : m ≠ x := fun e => by rw [e] at hm; rw [hx] at hm; cases hm
            have xf : f ≠ x := fun e => by rw [e] at hf; rw [hx] at hf; cases hf
            have xw : wi ≠ x := fun e => by rw [e] at hw; rw [hx] at hw; cases hw
            have l1 := lenF "size" (.int (M.length : Nat)) []
            have i1 := i0.val (putF "size" (.int (M.length : Nat)) [])
            have m1 := keep H3 (putF "size" (.int (M.length : Nat)) []) m _ xm (s4 _ _ hm)
            have f1 := keep H3 (putF "size" (.int (M.length : Nat)) []) f _ xf (s4 _ _ hf)
            have w1 := keep H3 (putF "size" (.int (M.length : Nat)) []) wi _ xw (s4 _ _ hw)
            generalize upd H3 x (.ins (g "Land") dx (putF "size" (.int (M.length : Nat)) [])) = G1 at i1 m1 f1 w1 ⊢
            refine ⟨_, rfl, m, _, rfl, .inr ⟨SqT.of m1, _, rfl, x, _, dx, _, rfl, i1.ob, c, T.noat ("Land", "mother") (by decide +kernel), by omega, ?_⟩⟩
            have l2 := lenF "mother" (.ref m) (putF "size" (.int (M.length : Nat)) [])
            have i2 := i1.val (putF "mother" (.ref m) (putF "size" (.int (M.length : Nat)) []))
            have f2 := keep G1 (putF "mother" (.ref m) (putF "size" (.int (M.length : Nat)) [])) f _ xf f1
            have w2 := keep G1 (putF "mother" (.ref m) (putF "size" (.int (M.length : Nat)) [])) wi _ xw w1
            generalize upd G1 x (.ins (g "Land") dx (putF "mother" (.ref m) (putF "size" (.int (M.length : Nat)) []))) = G2 at i2 f2 w2 ⊢
            refine ⟨_, rfl, f, _, rfl, .inr ⟨SqT.of f2, _, rfl, x, _, dx, _, rfl, i2.ob, c, T.noat ("Land", "father") (by decide +kernel), by omega, ?_⟩⟩
            have l3 := lenF "father" (.ref f) (putF "mother" (.ref m) (putF "size" (.int (M.length : Nat)) []))
            have i3 := i2.val (putF "father" (.ref f) (putF "mother" (.ref m) (putF "size" (.int (M.length : Nat)) [])))
            have w3 := keep G2 (putF "father" (.ref f) (putF "mother" (.ref m) (putF "size" (.int (M.length : Nat)) []))) wi _ xw w2
            generalize upd G2 x (.ins (g "Land") dx (putF "father" (.ref f) (putF "mother" (.ref m) (putF "size" (.int (M.length : Nat)) [])))) = G3 at i3 w3 ⊢
            refine ⟨_, rfl, wi, _, rfl, .inr ⟨SqT.of w3, _, rfl, x, _, dx, _, rfl, i3.ob, c, T.noat ("Land", "wife") (by decide +kernel), by omega, ?_⟩⟩
            have i4 := i3.val (putF "wife" (.ref wi) (putF "father" (.ref f) (putF "mother" (.ref m) (putF "size" (.int (M.length : Nat)) []))))
            have ob := i4.ob
            rw [lF_made] at ob
            exact q1 gd _ ob (fun b o e n => i4.kp b o (s4 b o e) n)
/-! ### land_of -/
def spLandOf (K : PySem.W.Frag) (g : Str → Addr) : Sp := fun vs H Q E => ∃ (m w : Addr) (M W : List Int), vs = [.ref m, .ref w] ∧ M.length ≤ 9 ∧ W.length ≤ 9 ∧ H m = some (ti M) ∧ H w = some (ti W) ∧
  (∀ L, landOf M W = .ok L → ∀ lo fa H', Same H H' → H lo = none → H fa = none → LA4 g H' lo m fa w L → Q (.ref lo) H') ∧ (∀ e, landOf M W = .error e → ∀ cls d H', Refused K (g "KinError") e H cls d H' → E cls d H')
theorem landOf_bad {M W : List Int} (h : ¬ (isTurn M = true ∧ isTurn W = true ∧ M.length = W.length ∧ isTurn (led W M) = true ∧ 2 ≤ M.length ∧ M.length ≤ 8)) : landOf M W = .error "no land" := by
  unfold landOf; rw [if_neg h]
theorem landOf_good {M W : List Int} (h : isTurn M = true ∧ isTurn W = true ∧ M.length = W.length ∧ isTurn (led W M) = true ∧ 2 ≤ M.length ∧ M.length ≤ 8) : landOf M W = .ok ⟨M.length, M, led W M, W⟩ := by
  unfold landOf; rw [if_pos h]
theorem ok_land_of (T : Txt w K mg g mt) : GF P w K mg base (L2.CX P w) 6 "land_of" (spLandOf K g) := by
  refine gfX (F_land_of T) (T.glo _ (by decide +kernel)) sc_land_of (fun vs H Q E h => ?_) fun cdv A outer s H vs Q E hr h => ?_
  · obtain ⟨m, wi, M, W, rfl, _⟩ := h; rfl
  · obtain ⟨m, wi, M, W, rfl, m9, w9, hm, hw, q1, q2⟩ := h
    have nd := sc_land_of.nd
    have fL : mg "len" = none := T.free _ (by decide +kernel)
    have I := ok_isTurn (P := P) (base := base) T
    have Ld := ok_led (P := P) (base := base) T
    have LI := ok_Land_init (P := P) (base := base) T
    have B := ok_BadLand (P := P) (base := base) T
    have tk := takes_of (X := cxOf (L2.CX P w) P w K mg base ["mother", "wife"] "land_of" (defScope s_land_of) (g "land_of") cdv A outer s H E) rfl rfl rfl rfl
    refine ⟨_, pss_cons (ps_if (PW.pt (pw_or (pt_not (pt_val (pe_gf I hr pass0 (pa_cons (pv 0) pa_nil)))) (pw_or (pt_not (pt_val (pe_gf I hr pass0 (pa_cons (pv 1) pa_nil)))) (pw_or1 (pt_cmpR op_ne (pe_callB call_len_seq (by rfl) fL PySem.boot_len (pa_cons (pv 0) pa_nil)) (pe_callB call_len_seq (by rfl) fL PySem.boot_len (pa_cons (pv 1) pa_nil)) (nomark _))))))
        (pss_one (ps_ref0 B hr rfl tk)) pss_nil)
      (pss_one (ps_ret (pe_gk LI hr (passE tk rfl) (pa_cons (pv 0) (pa_cons (pe_gf Ld hr pass0 (pa_cons (pv 1) (pa_cons (pv 0) pa_nil))) (pa_cons (pv 1) pa_nil)))))), ?_⟩
    refine ⟨_, rfl, m, M, rfl, m9, hm, fun H1 s1 => ⟨_, rfl, iteB (fun c => ?_) (fun c1 => ?_)⟩⟩
    · refine fun cls d H' r => q2 _ (landOf_bad fun h => ?_) cls d H' (r.back s1)
      rw [h.1] at c; cases c
    have t1 : isTurn M = true := by simpa using c1
    refine ⟨_, rfl, wi, W, rfl, w9, s1 _ _ hw, fun H2 s2 => ⟨_, rfl, iteB (fun c => ?_) (fun c2 => ?_)⟩⟩
    · refine fun cls d H' r => q2 _ (landOf_bad fun h => ?_) cls d H' (r.back (s1.trans s2))
      rw [h.2.1] at c; cases c
    have t2 : isTurn W = true := by simpa using c2
    have s3 := s1.trans s2
    refine ⟨_, rfl, m, _, rfl, .inr (SqT.of (s3 _ _ hm)), _, rfl, wi, _, rfl, .inr (SqT.of (s3 _ _ hw)), rfl, _, rfl, ?_⟩
    rw [List.length_map, List.length_map]
    refine iteB (fun c => ?_) (fun c3 => ?_)
    · refine fun cls d H' r => q2 _ (landOf_bad fun h => ?_) cls d H' (r.back s3)
      rw [h.2.2.1] at c
      exact neT c rfl
    have el : M.length = W.length := vnat (neF c3)
    have fm : Fit M.length M := fit_turn t1
    have fw : Fit M.length W := by rw [el]; exact fit_turn t2
    refine ⟨_, rfl, _, rfl, _, rfl, wi, m, M.length, W, M, rfl, by omega, fw, fm, s3 _ _ hw, s3 _ _ hm, fun fa H3 hfa s4 h4 => ⟨_, rfl, fun x dx hx hdx hne => ?_⟩⟩
    have s5 := s3.trans s4
    have nf : ∀ b o, H3 b = some o → b ≠ x := fun b o e => ne_of_none e hx
    have nd' : ∀ b o, H3 b = some o → b ≠ dx := fun b o e => ne_of_none e hdx
    have kp : ∀ b o, H3 b = some o → upd (upd H3 dx (.own x)) x (.ins (g "Land") dx []) b = some o := fun b o e => by rw [upd_ne (nf b o e), upd_ne (nd' b o e)]; exact e
    refine ⟨x, dx, m, fa, wi, M, W, rfl, m9, el.symm, upd_same, kp _ _ (s5 _ _ hm), kp _ _ h4, kp _ _ (s5 _ _ hw), fw, fm, fun gd H' e1 k1 => ⟨rfl, ?_⟩, fun ng cls d H' r => ?_⟩
    · have sH : Same H3 H' := fun b o e => k1 b o (kp b o e) (by simpa using nf b o e)
      refine q1 _ (landOf_good ⟨t1, t2, el, gd.2.1, gd.2.2.2.2.1, gd.2.2.2.2.2⟩) x fa H' (s5.trans sH) (s5.free hx) (s3.free hfa) ⟨dx, e1, sH _ _ (s5 _ _ hm), sH _ _ h4, sH _ _ (s5 _ _ hw)⟩
    · exact q2 _ (landOf_bad fun h => ng ⟨h.1, h.2.2.2.1, h.2.1, h.2.2.1.symm, h.2.2.2.2.1, h.2.2.2.2.2⟩) cls d H' (r.back fun b o e => kp b o (s5 b o e))

/-! ### alike_lands -/
theorem eqvInts (a b : List Int) : PyData.eqvAll (a.map PyData.int) (b.map PyData.int) = decide (a = b) := by
  induction a generalizing b with
  | nil => cases b with
    | nil => simp [PyData.eqvAll]
    | cons y r => simp [PyData.eqvAll]
  | cons x xs ih => cases b with
    | nil => simp [PyData.eqvAll]
    | cons y r =>
      rw [List.map_cons, List.map_cons, PyData.eqvAll, ih r]
      simp only [PyData.eqv]
      by_cases c : x = y
      · subst c; simp
      · simp [c]
theorem dpInts {H : Hp} {a : Addr} {t : List Int} (h : H a = some (ti t)) : Dp K H (.ref a) (.tuple (t.map PyData.int)) := by
  refine .tup (SqT.of h) ?_
  clear h
  induction t with
  | nil => exact .nil
  | cons x xs ih => exact .cons (.int x) ih
theorem shInts {t : List Int} : SeqAt.shaped (.tuple (t.map PyData.int)) = true := by
  have h1 : ∀ t : List Int, PyData.canLayAll0 (t.map PyData.int) = true ∧ PyData.depthAll (t.map PyData.int) = 0 := fun t => by
    induction t with
    | nil => exact ⟨by simp [PyData.canLayAll0], by simp [PyData.depthAll]⟩
    | cons x xs ih => exact ⟨by rw [List.map_cons, PyData.canLayAll0, ih.1]; rfl, by rw [List.map_cons, PyData.depthAll, ih.2]; rfl⟩
  unfold SeqAt.shaped
  rw [PyData.canLay0, (h1 t).1, PyData.depth, (h1 t).2]
  rfl
def spAlike (g : Str → Addr) : Sp := fun vs H Q _ => ∃ (a b : Addr) (L M : LS), vs = [.ref a, .ref b] ∧ LA g H a L ∧ LA g H b M ∧ ∀ H', Same H H' → Q (.bl (decide (L.mother = M.mother ∧ L.father = M.father ∧ L.wife = M.wife))) H'
theorem ok_alike (T : Txt w K mg g mt) : GF P w K mg base CX0 1 "alike_lands" (spAlike g) := by
  refine gf0 (F_alike_lands T) (T.glo _ (by decide +kernel)) sc_alike_lands (fun vs H Q E h => ?_) fun cdv A outer s H vs Q E hr h => ?_
  · obtain ⟨a, b, L, M, rfl, _⟩ := h; rfl
  · obtain ⟨a, b, L, M, rfl, ⟨dx, m, f, wi, h1, h2, h3, h4⟩, ⟨dy, n, e, v, k1, k2, k3, k4⟩, q⟩ := h
    have hu := hr.units
    refine ⟨_, pss_one (ps_ret (pe_and (pe_cmpR (op_eqD hu) (pe_sf 0) (pe_sf 1) (nomark _)) (pe_and (pe_cmpR (op_eqD hu) (pe_sf 0) (pe_sf 1) (nomark _)) (pe_one (pe_cmpR (op_eqD hu) (pe_sf 0) (pe_sf 1) (nomark _)))))), ?_⟩
    refine ⟨_, _, rfl, hasL T h1 (x := "mother") (by decide +kernel) (lF_mother ..), _, _, rfl, hasL T k1 (x := "mother") (by decide +kernel) (lF_mother ..), _, _, dpInts h2, dpInts k2, shInts, shInts, _, rfl, ?_⟩
    rw [PyData.eqv, eqvInts]
    refine iteB (fun c1 => ?_) (fun c1 => ?_)
    · refine ⟨_, _, rfl, hasL T h1 (x := "father") (by decide +kernel) (lF_father ..), _, _, rfl, hasL T k1 (x := "father") (by decide +kernel) (lF_father ..), _, _, dpInts h3, dpInts k3, shInts, shInts, _, rfl, ?_⟩
      rw [PyData.eqv, eqvInts]
      refine iteB (fun c2 => ?_) (fun c2 => ?_)
      · refine ⟨_, _, rfl, hasL T h1 (x := "wife") (by decide +kernel) (lF_wife ..), _, _, rfl, hasL T k1 (x := "wife") (by decide +kernel) (lF_wife ..), _, _, dpInts h4, dpInts k4, shInts, shInts, ?_⟩
        rw [PyData.eqv, eqvInts]
        have := q H (Same.refl _)
        rw [decide_eq_decide.mpr (⟨fun x => x.2.2, fun x => ⟨eqT c1, eqT c2, x⟩⟩ : (L.mother = M.mother ∧ L.father = M.father ∧ L.wife = M.wife) ↔ L.wife = M.wife)] at this
        exact this
      · have := q H (Same.refl _)
        rw [decide_eq_false (fun x => eqF c2 x.2.1)] at this
        exact this
    · have := q H (Same.refl _)
      rw [decide_eq_false (fun x => eqF c1 x.1)] at this
      exact this
end
end Kin
set_option maxHeartbeats 4000000
/-! K16: a book in the heap (printed by gen_books.py). -/
namespace Kin
open PySem L2

/-! ### a list of references, each as R says -/
structure EachR {α : Type} (R : Addr → α → Prop) (as : List Addr) (xs : List α) : Prop where
  len : as.length = xs.length
  at_ : ∀ (i : Nat) x, xs[i]? = some x → ∃ a, as[i]? = some a ∧ R a x
theorem EachR.nil {α : Type} {R : Addr → α → Prop} : EachR R [] [] := ⟨rfl, fun i x h => by simp at h⟩
theorem EachR.mono {α : Type} {R R' : Addr → α → Prop} {as : List Addr} {xs : List α} (e : EachR R as xs) (s : ∀ a x, R a x → R' a x) : EachR R' as xs :=
  ⟨e.len, fun i x h => let ⟨a, h1, h2⟩ := e.at_ i x h; ⟨a, h1, s _ _ h2⟩⟩
theorem EachR.snoc {α : Type} {R : Addr → α → Prop} {as : List Addr} {xs : List α} (e : EachR R as xs) {a : Addr} {x : α} (h : R a x) : EachR R (as ++ [a]) (xs ++ [x]) := by
  refine ⟨by simp [e.len], fun i y hy => ?_⟩
  by_cases hi : i < xs.length
  · rw [List.getElem?_append_left hi] at hy
    obtain ⟨b, h1, h2⟩ := e.at_ i y hy
    exact ⟨b, by rw [List.getElem?_append_left (by rw [e.len]; exact hi)]; exact h1, h2⟩
  · rw [List.getElem?_append_right (by omega)] at hy
    have hk : i - xs.length = 0 := by
      cases c : i - xs.length with
      | zero => rfl
      | succ k => rw [c] at hy; simp at hy
    rw [hk] at hy
    have : x = y := by simpa using hy
    subst this
    exact ⟨a, by rw [List.getElem?_append_right (by rw [e.len]; omega), e.len, hk]; rfl, h⟩
theorem EachR.dropLast {α : Type} {R : Addr → α → Prop} {as : List Addr} {xs : List α} (e : EachR R as xs) : EachR R as.dropLast xs.dropLast := by
  refine ⟨by simp [e.len], fun i x h => ?_⟩
  rw [List.getElem?_dropLast] at h
  split at h
  · rename_i c
    obtain ⟨a, h1, h2⟩ := e.at_ i x h
    exact ⟨a, by rw [List.getElem?_dropLast, if_pos (by rw [e.len]; exact c)]; exact h1, h2⟩
  · cases h
theorem EachR.last {α : Type} {R : Addr → α → Prop} {as : List Addr} {xs : List α} (e : EachR R as xs) {x : α} (h : xs.getLast? = some x) : ∃ a, (as.map V.ref)[(as.map V.ref).length - 1]? = some (.ref a) ∧ R a x := by
  rw [List.getLast?_eq_getElem?] at h
  obtain ⟨a, h1, h2⟩ := e.at_ _ x h
  exact ⟨a, by rw [List.length_map, e.len]; exact at_map h1, h2⟩

/-! ### facts in a dict -/
def factO (f : Fact) : HO := .tup [.str f.kind, .str f.one, f.other]
inductive FA (Z : Hp) : List (Key × V) → List (Int × Fact) → Prop where
  | nil : FA Z [] []
  | cons {a : Addr} {k : Int} {f : Fact} {fs : List (Key × V)} {qs : List (Int × Fact)} : Z a = some (factO f) → FA Z fs qs → FA Z ((.inl k, .ref a) :: fs) ((k, f) :: qs)
theorem FA.mono {Z Z' : Hp} {fs : List (Key × V)} {qs : List (Int × Fact)} (h : FA Z fs qs) (s : Same Z Z') : FA Z' fs qs := by
  induction h with
  | nil => exact .nil
  | cons e _ ih => exact .cons (s _ _ e) ih
theorem FA.len {Z : Hp} {fs : List (Key × V)} {qs : List (Int × Fact)} (h : FA Z fs qs) : fs.length = qs.length := by
  induction h with
  | nil => rfl
  | cons _ _ ih => simp [ih]
theorem FA.snoc {Z : Hp} {fs : List (Key × V)} {qs : List (Int × Fact)} (h : FA Z fs qs) {a : Addr} {k : Int} {f : Fact} (e : Z a = some (factO f)) : FA Z (fs ++ [(.inl k, .ref a)]) (qs ++ [(k, f)]) := by
  induction h with
  | nil => exact .cons e .nil
  | cons e' _ ih => exact .cons e' ih
theorem FA.at {Z : Hp} {fs : List (Key × V)} {qs : List (Int × Fact)} (h : FA Z fs qs) : ∀ (i : Nat) k v, fs[i]? = some (k, v) → ∃ q a, qs[i]? = some q ∧ k = .inl q.1 ∧ v = .ref a ∧ Z a = some (factO q.2) := by
  induction h with
  | nil => intro i k v e; simp at e
  | @cons a k0 f fs qs e _ ih =>
    intro i k v h
    cases i with
    | zero =>
      have h' : (Sum.inl k0, V.ref a) = (k, v) := Option.some.inj h
      cases h'
      exact ⟨(k0, f), a, rfl, rfl, rfl, e⟩
    | succ i => exact ih i k v (by simpa using h)
theorem FA.val {Z : Hp} {fs : List (Key × V)} {qs : List (Int × Fact)} (h : FA Z fs qs) (k : Int) : (valV fs (.inl k) = none ∧ (qs.any fun p => decide (p.1 = k)) = false) ∨ ∃ a, valV fs (.inl k) = some (.ref a) ∧ Z a = some (factO (factAt qs k)) ∧ (qs.any fun p => decide (p.1 = k)) = true := by
  induction h with
  | nil => exact .inl ⟨rfl, rfl⟩
  | @cons a k0 f fs qs e _ ih =>
    by_cases c : k0 = k
    · subst c
      exact .inr ⟨a, valV_pos rfl, by unfold factAt; simp [e], by simp⟩
    · have n : ¬ (Sum.inl k0 : Key) = Sum.inl k := fun z => c (Sum.inl.inj z)
      have ef : factAt ((k0, f) :: qs) k = factAt qs k := by unfold factAt; simp [List.find?_cons, c]
      rw [valV_neg (p := (Sum.inl k0, V.ref a)) n, ef]
      rcases ih with ⟨h1, h2⟩ | ⟨b, h1, h2, h3⟩
      · exact .inl ⟨h1, by simp [c]; simpa using h2⟩
      · exact .inr ⟨b, h1, h2, by simp [c]; simpa using h3⟩
theorem FA.drop {Z : Hp} {fs : List (Key × V)} {qs : List (Int × Fact)} (h : FA Z fs qs) (k : Int) : FA Z (dropK fs (.inl k)) (qs.filter fun p => decide (p.1 ≠ k)) := by
  induction h with
  | nil => exact .nil
  | @cons a k0 f fs qs e _ ih =>
    unfold dropK at ih ⊢
    by_cases c : k0 = k
    · subst c
      simpa [List.filter_cons] using ih
    · have n : ¬ (Sum.inl k0 : Key) = Sum.inl k := fun z => c (Sum.inl.inj z)
      simp only [List.filter_cons, c, n, ne_eq, not_false_eq_true, decide_true, if_true]
      exact .cons e ih
theorem FA.keys {Z : Hp} {fs : List (Key × V)} {qs : List (Int × Fact)} (h : FA Z fs qs) : fs.map (·.1) = (qs.map (·.1)).map Sum.inl := by
  induction h with
  | nil => rfl
  | cons _ _ ih => simp [ih]

/-! ### a state that was put by -/
structure StA (Z : Hp) (a : Addr) (b : BS) : Prop where
  ex : ∃ l d f fs, Z a = some (.tup [.ref l, .ref d, .ref f, .int b.after]) ∧ Z l = some (.lst (b.names.map V.str)) ∧ Z d = some (.dK b.side) ∧ Z f = some (.dK fs) ∧ FA Z fs b.facts
theorem StA.mono {Z Z' : Hp} {a : Addr} {b : BS} (h : StA Z a b) (s : Same Z Z') : StA Z' a b :=
  let ⟨l, d, f, fs, h1, h2, h3, h4, h5⟩ := h.ex; ⟨l, d, f, fs, s _ _ h1, s _ _ h2, s _ _ h3, s _ _ h4, h5.mono s⟩

/-! ### a book -/
structure HM where
  p : Addr
  nl : Addr
  sd : Addr
  fd : Addr
  pd : Addr
  pa : Addr
  ah : Addr
  jo : Addr
  a1 : Addr
  a2 : Addr
  a3 : Addr
  a4 : Addr
def HM.l (m : HM) : List Addr := [m.p, m.nl, m.sd, m.fd, m.pd, m.pa, m.ah, m.jo, m.a1, m.a2, m.a3, m.a4]
def HM.j (m : HM) : List Addr := jM m.jo m.a1 m.a2 m.a3 m.a4
theorem HM.j_sub {m : HM} : ∀ x ∈ m.j, x ∈ m.l := fun x hx => by
  unfold HM.j at hx
  unfold HM.l
  simp only [List.mem_cons, List.not_mem_nil, or_false] at hx ⊢
  rcases hx with h | h | h | h | h <;> simp [h]
def hF (lo nl sd fd : Addr) (af : Int) (pd jo pa ah : Addr) : List (Str × V) := [("land", .ref lo), ("names", .ref nl), ("side", .ref sd), ("facts", .ref fd), ("after", .int af), ("place", .ref pd), ("joins", .ref jo), ("past", .ref pa), ("ahead", .ref ah)]
structure HC (g : Str → Addr) (Z H : Hp) (m : HM) (h : HS) : Prop where
  nl : H m.nl = some (.lst (h.st.names.map V.str))
  sd : H m.sd = some (.dK h.st.side)
  fd : ∃ fs, H m.fd = some (.dK fs) ∧ FA Z fs h.st.facts
  pd : H m.pd = some (.dK h.place)
  pa : ∃ as, H m.pa = some (.lst (as.map V.ref)) ∧ EachR (StA Z) as h.past
  ah : ∃ as, H m.ah = some (.lst (as.map V.ref)) ∧ EachR (StA Z) as h.ahead
  jo : JA g Z H m.jo m.a1 m.a2 m.a3 m.a4 h.joins
structure HA (g : Str → Addr) (Z H : Hp) (m : HM) (h : HS) : Prop where
  nd : m.l.Nodup
  off : Off Z m.l
  zs : Same Z H
  ob : ∃ dx lo, H m.p = some (.ins (g "Hearth") dx (hF lo m.nl m.sd m.fd h.st.after m.pd m.jo m.pa m.ah)) ∧ LA g Z lo h.land
  c : HC g Z H m h
section
variable {g : Str → Addr} {Z Z' H H' : Hp} {m : HM} {h : HS}
theorem HA.live (a : HA g Z H m h) : Live H m.l := by
  obtain ⟨dx, lo, ob, _⟩ := a.ob
  obtain ⟨h1, h2, ⟨fs, h3, _⟩, h4, ⟨as, h5, _⟩, ⟨bs, h6, _⟩, j⟩ := a.c
  have jl := j.live
  intro x hx
  unfold HM.l at hx
  simp only [List.mem_cons, List.not_mem_nil, or_false] at hx
  rcases hx with rfl | rfl | rfl | rfl | rfl | rfl | rfl | hj
  · exact ⟨_, ob⟩
  · exact ⟨_, h1⟩
  · exact ⟨_, h2⟩
  · exact ⟨_, h3⟩
  · exact ⟨_, h4⟩
  · exact ⟨_, h5⟩
  · exact ⟨_, h6⟩
  · exact jl x (by simpa using hj)
theorem HA.ndj (a : HA g Z H m h) (i : Nat) {x y : Addr} (hi : i < 7) (hx : m.l[i]? = some x) (hy : y ∈ m.j) : x ≠ y := by
  have nd := a.nd
  have e : m.l = [m.p, m.nl, m.sd, m.fd, m.pd, m.pa, m.ah] ++ m.j := rfl
  rw [e] at nd hx
  rw [List.getElem?_append_left hi] at hx
  exact fun z => (List.nodup_append.mp nd).2.2 x (List.mem_of_getElem? hx) y hy z
theorem JA.frame {M : List Addr} {jo a1 a2 a3 a4 : Addr} {J : JS} (j : JA g Z H jo a1 a2 a3 a4 J) (st : Step Z H M Z' H') (zs : Same Z' H') (d : ∀ x ∈ jM jo a1 a2 a3 a4, x ∉ M) : JA g Z' H' jo a1 a2 a3 a4 J := by
  have off := st.off j.off j.live
  obtain ⟨z, nd, of, ⟨dx, ob⟩, ab, ⟨ts, t1, t2⟩, mn, rs, r1, r2⟩ := j
  have k : ∀ b o, H b = some o → b ∉ M → H' b = some o := st.kp
  exact ⟨zs, nd, off, ⟨dx, k _ _ ob (d _ (by simp))⟩, k _ _ ab (d _ (by simp)), ⟨ts, k _ _ t1 (d _ (by simp)), t2.mono st.zz⟩, k _ _ mn (d _ (by simp)), rs, k _ _ r1 (d _ (by simp)), r2.mono st.zz⟩
/-- a step that leaves the book alone -/
theorem HA.frame {M : List Addr} (a : HA g Z H m h) (st : Step Z H M Z' H') (zs : Same Z' H') (d : ∀ x ∈ m.l, x ∉ M) : HA g Z' H' m h := by
  have off := st.off a.off a.live
  obtain ⟨nd, _, _, ⟨dx, lo, ob, la⟩, ⟨h1, h2, ⟨fs, h3, f3⟩, h4, ⟨as, h5, f5⟩, ⟨bs, h6, f6⟩, j⟩⟩ := a
  have k : ∀ b o, H b = some o → b ∈ m.l → H' b = some o := fun b o e hb => st.kp b o e (d b hb)
  have L : ∀ x, x ∈ [m.p, m.nl, m.sd, m.fd, m.pd, m.pa, m.ah] → x ∈ m.l := fun x hx => by
    unfold HM.l
    simp only [List.mem_cons, List.not_mem_nil, or_false] at hx ⊢
    rcases hx with e | e | e | e | e | e | e <;> simp [e]
  exact ⟨nd, off, zs, ⟨dx, lo, k _ _ ob (L _ (by simp)), la.same st.zz⟩, ⟨k _ _ h1 (L _ (by simp)), k _ _ h2 (L _ (by simp)), ⟨fs, k _ _ h3 (L _ (by simp)), f3.mono st.zz⟩, k _ _ h4 (L _ (by simp)),
    ⟨as, k _ _ h5 (L _ (by simp)), f5.mono fun _ _ x => x.mono st.zz⟩, ⟨bs, k _ _ h6 (L _ (by simp)), f6.mono fun _ _ x => x.mono st.zz⟩, j.frame st zs fun x hx => d x (HM.j_sub x hx)⟩⟩
theorem HA.same (a : HA g Z H m h) (s : Same H H') : HA g Z H' m h := a.frame (M := []) (Step.ofSame _ s) (a.zs.trans s) (fun _ _ => by simp)
theorem HA.freezeL (a : HA g Z H m h) {l : List Addr} (hz : ∀ b ∈ l, Z b = none) (hm : ∀ b ∈ l, b ∉ m.l) : HA g (frz Z H l) H m h := by
  have s := same_frzL (H := H) hz
  obtain ⟨nd, off, zs, ⟨dx, lo, ob, la⟩, ⟨h1, h2, ⟨fs, h3, f3⟩, h4, ⟨as, h5, f5⟩, ⟨bs, h6, f6⟩, j⟩⟩ := a
  exact ⟨nd, off_frzL off hm, frz_same zs, ⟨dx, lo, ob, la.same s⟩, ⟨h1, h2, ⟨fs, h3, f3.mono s⟩, h4, ⟨as, h5, f5.mono fun _ _ x => x.mono s⟩, ⟨bs, h6, f6.mono fun _ _ x => x.mono s⟩,
    j.grow s (frz_same zs) (Kept.refl _ _) (off_frzL j.off fun b hb hj => hm b hb (HM.j_sub b hj))⟩⟩
theorem HA.setJ (a : HA g Z H m h) {J : JS} (st : Step Z H m.j Z' H') (j : JA g Z' H' m.jo m.a1 m.a2 m.a3 m.a4 J) : HA g Z' H' m ⟨h.land, h.st, h.place, J, h.past, h.ahead⟩ := by
  have n : ∀ i x, i < 7 → m.l[i]? = some x → x ∉ m.j := fun i x hi hx hm => a.ndj i hi hx hm rfl
  have off := st.off a.off a.live
  obtain ⟨nd, _, _, ⟨dx, lo, ob, la⟩, ⟨h1, h2, ⟨fs, h3, f3⟩, h4, ⟨as, h5, f5⟩, ⟨bs, h6, f6⟩, _⟩⟩ := a
  exact ⟨nd, off, j.zs, ⟨dx, lo, st.kp _ _ ob (n 0 _ (by decide) rfl), la.same st.zz⟩, ⟨st.kp _ _ h1 (n 1 _ (by decide) rfl), st.kp _ _ h2 (n 2 _ (by decide) rfl), ⟨fs, st.kp _ _ h3 (n 3 _ (by decide) rfl), f3.mono st.zz⟩, st.kp _ _ h4 (n 4 _ (by decide) rfl),
    ⟨as, st.kp _ _ h5 (n 5 _ (by decide) rfl), f5.mono fun _ _ x => x.mono st.zz⟩, ⟨bs, st.kp _ _ h6 (n 6 _ (by decide) rfl), f6.mono fun _ _ x => x.mono st.zz⟩, j⟩⟩
theorem HA.set_nl (a : HA g Z H m h) (ns : List Str) : HA g Z (upd H m.nl (.lst (ns.map V.str))) m ⟨h.land, ⟨ns, h.st.side, h.st.facts, h.st.after⟩, h.place, h.joins, h.past, h.ahead⟩ := by
  have jn : ∀ x ∈ m.j, x ∉ [m.nl] := fun x hx hm => a.ndj 1 (by decide) rfl hx (List.mem_singleton.mp hm).symm
  obtain ⟨nd, off, zs, ⟨dx, lo, ob, la⟩, ⟨h1, h2, h3, h4, h5, h6, j⟩⟩ := a
  have zs' : Same Z (upd H m.nl (.lst (ns.map V.str))) := same_updZ zs (off _ (List.mem_of_getElem? (i := 1) rfl))
  refine ⟨nd, off, zs', ⟨dx, lo, ?_, la⟩, ⟨?_, ?_, ?_, ?_, ?_, ?_, j.frame ((Step.refl Z H [m.nl]).upd (by simp)) zs' jn⟩⟩
  · rw [upd_ne (ndn nd 0 1 rfl rfl (by decide))]; exact ob
  · exact upd_same
  · rw [upd_ne (ndn nd 2 1 rfl rfl (by decide))]; exact h2
  · rw [upd_ne (ndn nd 3 1 rfl rfl (by decide))]; exact h3
  · rw [upd_ne (ndn nd 4 1 rfl rfl (by decide))]; exact h4
  · rw [upd_ne (ndn nd 5 1 rfl rfl (by decide))]; exact h5
  · rw [upd_ne (ndn nd 6 1 rfl rfl (by decide))]; exact h6
theorem HA.set_sd (a : HA g Z H m h) (d : List (Key × V)) : HA g Z (upd H m.sd (.dK d)) m ⟨h.land, ⟨h.st.names, d, h.st.facts, h.st.after⟩, h.place, h.joins, h.past, h.ahead⟩ := by
  have jn : ∀ x ∈ m.j, x ∉ [m.sd] := fun x hx hm => a.ndj 2 (by decide) rfl hx (List.mem_singleton.mp hm).symm
  obtain ⟨nd, off, zs, ⟨dx, lo, ob, la⟩, ⟨h1, h2, h3, h4, h5, h6, j⟩⟩ := a
  have zs' : Same Z (upd H m.sd (.dK d)) := same_updZ zs (off _ (List.mem_of_getElem? (i := 2) rfl))
  refine ⟨nd, off, zs', ⟨dx, lo, ?_, la⟩, ⟨?_, ?_, ?_, ?_, ?_, ?_, j.frame ((Step.refl Z H [m.sd]).upd (by simp)) zs' jn⟩⟩
  · rw [upd_ne (ndn nd 0 2 rfl rfl (by decide))]; exact ob
  · rw [upd_ne (ndn nd 1 2 rfl rfl (by decide))]; exact h1
  · exact upd_same
  · rw [upd_ne (ndn nd 3 2 rfl rfl (by decide))]; exact h3
  · rw [upd_ne (ndn nd 4 2 rfl rfl (by decide))]; exact h4
  · rw [upd_ne (ndn nd 5 2 rfl rfl (by decide))]; exact h5
  · rw [upd_ne (ndn nd 6 2 rfl rfl (by decide))]; exact h6
theorem HA.set_fd (a : HA g Z H m h) {fs : List (Key × V)} {qs : List (Int × Fact)} (f : FA Z fs qs) : HA g Z (upd H m.fd (.dK fs)) m ⟨h.land, ⟨h.st.names, h.st.side, qs, h.st.after⟩, h.place, h.joins, h.past, h.ahead⟩ := by
  have jn : ∀ x ∈ m.j, x ∉ [m.fd] := fun x hx hm => a.ndj 3 (by decide) rfl hx (List.mem_singleton.mp hm).symm
  obtain ⟨nd, off, zs, ⟨dx, lo, ob, la⟩, ⟨h1, h2, h3, h4, h5, h6, j⟩⟩ := a
  have zs' : Same Z (upd H m.fd (.dK fs)) := same_updZ zs (off _ (List.mem_of_getElem? (i := 3) rfl))
  refine ⟨nd, off, zs', ⟨dx, lo, ?_, la⟩, ⟨?_, ?_, ?_, ?_, ?_, ?_, j.frame ((Step.refl Z H [m.fd]).upd (by simp)) zs' jn⟩⟩
  · rw [upd_ne (ndn nd 0 3 rfl rfl (by decide))]; exact ob
  · rw [upd_ne (ndn nd 1 3 rfl rfl (by decide))]; exact h1
  · rw [upd_ne (ndn nd 2 3 rfl rfl (by decide))]; exact h2
  · exact ⟨fs, upd_same, f⟩
  · rw [upd_ne (ndn nd 4 3 rfl rfl (by decide))]; exact h4
  · rw [upd_ne (ndn nd 5 3 rfl rfl (by decide))]; exact h5
  · rw [upd_ne (ndn nd 6 3 rfl rfl (by decide))]; exact h6
theorem HA.set_pd (a : HA g Z H m h) (d : List (Key × V)) : HA g Z (upd H m.pd (.dK d)) m ⟨h.land, h.st, d, h.joins, h.past, h.ahead⟩ := by
  have jn : ∀ x ∈ m.j, x ∉ [m.pd] := fun x hx hm => a.ndj 4 (by decide) rfl hx (List.mem_singleton.mp hm).symm
  obtain ⟨nd, off, zs, ⟨dx, lo, ob, la⟩, ⟨h1, h2, h3, h4, h5, h6, j⟩⟩ := a
  have zs' : Same Z (upd H m.pd (.dK d)) := same_updZ zs (off _ (List.mem_of_getElem? (i := 4) rfl))
  refine ⟨nd, off, zs', ⟨dx, lo, ?_, la⟩, ⟨?_, ?_, ?_, ?_, ?_, ?_, j.frame ((Step.refl Z H [m.pd]).upd (by simp)) zs' jn⟩⟩
  · rw [upd_ne (ndn nd 0 4 rfl rfl (by decide))]; exact ob
  · rw [upd_ne (ndn nd 1 4 rfl rfl (by decide))]; exact h1
  · rw [upd_ne (ndn nd 2 4 rfl rfl (by decide))]; exact h2
  · rw [upd_ne (ndn nd 3 4 rfl rfl (by decide))]; exact h3
  · exact upd_same
  · rw [upd_ne (ndn nd 5 4 rfl rfl (by decide))]; exact h5
  · rw [upd_ne (ndn nd 6 4 rfl rfl (by decide))]; exact h6
theorem HA.set_pa (a : HA g Z H m h) {as : List Addr} {bs : List BS} (f : EachR (StA Z) as bs) : HA g Z (upd H m.pa (.lst (as.map V.ref))) m ⟨h.land, h.st, h.place, h.joins, bs, h.ahead⟩ := by
  have jn : ∀ x ∈ m.j, x ∉ [m.pa] := fun x hx hm => a.ndj 5 (by decide) rfl hx (List.mem_singleton.mp hm).symm
  obtain ⟨nd, off, zs, ⟨dx, lo, ob, la⟩, ⟨h1, h2, h3, h4, h5, h6, j⟩⟩ := a
  have zs' : Same Z (upd H m.pa (.lst (as.map V.ref))) := same_updZ zs (off _ (List.mem_of_getElem? (i := 5) rfl))
  refine ⟨nd, off, zs', ⟨dx, lo, ?_, la⟩, ⟨?_, ?_, ?_, ?_, ?_, ?_, j.frame ((Step.refl Z H [m.pa]).upd (by simp)) zs' jn⟩⟩
  · rw [upd_ne (ndn nd 0 5 rfl rfl (by decide))]; exact ob
  · rw [upd_ne (ndn nd 1 5 rfl rfl (by decide))]; exact h1
  · rw [upd_ne (ndn nd 2 5 rfl rfl (by decide))]; exact h2
  · rw [upd_ne (ndn nd 3 5 rfl rfl (by decide))]; exact h3
  · rw [upd_ne (ndn nd 4 5 rfl rfl (by decide))]; exact h4
  · exact ⟨as, upd_same, f⟩
  · rw [upd_ne (ndn nd 6 5 rfl rfl (by decide))]; exact h6
theorem HA.set_ah (a : HA g Z H m h) {as : List Addr} {bs : List BS} (f : EachR (StA Z) as bs) : HA g Z (upd H m.ah (.lst (as.map V.ref))) m ⟨h.land, h.st, h.place, h.joins, h.past, bs⟩ := by
  have jn : ∀ x ∈ m.j, x ∉ [m.ah] := fun x hx hm => a.ndj 6 (by decide) rfl hx (List.mem_singleton.mp hm).symm
  obtain ⟨nd, off, zs, ⟨dx, lo, ob, la⟩, ⟨h1, h2, h3, h4, h5, h6, j⟩⟩ := a
  have zs' : Same Z (upd H m.ah (.lst (as.map V.ref))) := same_updZ zs (off _ (List.mem_of_getElem? (i := 6) rfl))
  refine ⟨nd, off, zs', ⟨dx, lo, ?_, la⟩, ⟨?_, ?_, ?_, ?_, ?_, ?_, j.frame ((Step.refl Z H [m.ah]).upd (by simp)) zs' jn⟩⟩
  · rw [upd_ne (ndn nd 0 6 rfl rfl (by decide))]; exact ob
  · rw [upd_ne (ndn nd 1 6 rfl rfl (by decide))]; exact h1
  · rw [upd_ne (ndn nd 2 6 rfl rfl (by decide))]; exact h2
  · rw [upd_ne (ndn nd 3 6 rfl rfl (by decide))]; exact h3
  · rw [upd_ne (ndn nd 4 6 rfl rfl (by decide))]; exact h4
  · rw [upd_ne (ndn nd 5 6 rfl rfl (by decide))]; exact h5
  · exact ⟨as, upd_same, f⟩
/-- the object's fields anew -/
theorem HA.reob (a : HA g Z H m h) {m' : HM} {h' : HS} {dx lo : Addr} (hp : m'.p = m.p) (nd : m'.l.Nodup) (off : Off Z m'.l) (c : HC g Z H m' h') (la : LA g Z lo h'.land) :
    HA g Z (upd H m.p (.ins (g "Hearth") dx (hF lo m'.nl m'.sd m'.fd h'.st.after m'.pd m'.jo m'.pa m'.ah))) m' h' := by
  have jn : ∀ x ∈ m'.j, x ∉ [m.p] := fun x hx hm => by
    have e : m'.l = [m'.p, m'.nl, m'.sd, m'.fd, m'.pd, m'.pa, m'.ah] ++ m'.j := rfl
    rw [e] at nd
    exact (List.nodup_append.mp nd).2.2 m'.p (by simp) x hx (hp.trans (List.mem_singleton.mp hm).symm)
  have zs' : Same Z (upd H m.p (.ins (g "Hearth") dx (hF lo m'.nl m'.sd m'.fd h'.st.after m'.pd m'.jo m'.pa m'.ah))) := same_updZ a.zs (a.off _ (List.mem_of_getElem? (i := 0) rfl))
  obtain ⟨h1, h2, h3, h4, h5, h6, j⟩ := c
  have n : ∀ i x, i ≠ 0 → m'.l[i]? = some x → x ≠ m.p := fun i x hi hx => by rw [← hp]; exact ndn nd i 0 hx rfl hi
  refine ⟨nd, off, zs', ⟨dx, lo, ?_, la⟩, ⟨?_, ?_, ?_, ?_, ?_, ?_, j.frame ((Step.refl Z H [m.p]).upd (by simp)) zs' jn⟩⟩
  · rw [hp]; exact upd_same
  · rw [upd_ne (n 1 _ (by decide) rfl)]; exact h1
  · rw [upd_ne (n 2 _ (by decide) rfl)]; exact h2
  · rw [upd_ne (n 3 _ (by decide) rfl)]; exact h3
  · rw [upd_ne (n 4 _ (by decide) rfl)]; exact h4
  · rw [upd_ne (n 5 _ (by decide) rfl)]; exact h5
  · rw [upd_ne (n 6 _ (by decide) rfl)]; exact h6
end
section
variable (lo nl sd fd : Addr) (af : Int) (pd jo pa ah : Addr)
theorem hF_land : (hF lo nl sd fd af pd jo pa ah).lookup ("land" : Str) = some (V.ref lo) := by kernel_rfl
theorem hF_names : (hF lo nl sd fd af pd jo pa ah).lookup ("names" : Str) = some (V.ref nl) := by kernel_rfl
theorem hF_side : (hF lo nl sd fd af pd jo pa ah).lookup ("side" : Str) = some (V.ref sd) := by kernel_rfl
theorem hF_facts : (hF lo nl sd fd af pd jo pa ah).lookup ("facts" : Str) = some (V.ref fd) := by kernel_rfl
theorem hF_after : (hF lo nl sd fd af pd jo pa ah).lookup ("after" : Str) = some (V.int af) := by kernel_rfl
theorem hF_place : (hF lo nl sd fd af pd jo pa ah).lookup ("place" : Str) = some (V.ref pd) := by kernel_rfl
theorem hF_joins : (hF lo nl sd fd af pd jo pa ah).lookup ("joins" : Str) = some (V.ref jo) := by kernel_rfl
theorem hF_past : (hF lo nl sd fd af pd jo pa ah).lookup ("past" : Str) = some (V.ref pa) := by kernel_rfl
theorem hF_ahead : (hF lo nl sd fd af pd jo pa ah).lookup ("ahead" : Str) = some (V.ref ah) := by kernel_rfl
theorem hP_names (z : Addr) : putF "names" (V.ref z) (hF lo nl sd fd af pd jo pa ah) = hF lo z sd fd af pd jo pa ah := by kernel_rfl
theorem hP_side (z : Addr) : putF "side" (V.ref z) (hF lo nl sd fd af pd jo pa ah) = hF lo nl z fd af pd jo pa ah := by kernel_rfl
theorem hP_facts (z : Addr) : putF "facts" (V.ref z) (hF lo nl sd fd af pd jo pa ah) = hF lo nl sd z af pd jo pa ah := by kernel_rfl
theorem hP_after (z : Int) : putF "after" (V.int z) (hF lo nl sd fd af pd jo pa ah) = hF lo nl sd fd z pd jo pa ah := by kernel_rfl
theorem hP_place (z : Addr) : putF "place" (V.ref z) (hF lo nl sd fd af pd jo pa ah) = hF lo nl sd fd af z jo pa ah := by kernel_rfl
theorem hP_joins (z : Addr) : putF "joins" (V.ref z) (hF lo nl sd fd af pd jo pa ah) = hF lo nl sd fd af pd z pa ah := by kernel_rfl
theorem hP_past (z : Addr) : putF "past" (V.ref z) (hF lo nl sd fd af pd jo pa ah) = hF lo nl sd fd af pd jo z ah := by kernel_rfl
theorem hP_ahead (z : Addr) : putF "ahead" (V.ref z) (hF lo nl sd fd af pd jo pa ah) = hF lo nl sd fd af pd jo pa z := by kernel_rfl
theorem hF_made : putF "ahead" (V.ref ah) (putF "past" (V.ref pa) (putF "joins" (V.ref jo) (putF "place" (V.ref pd) (putF "after" (V.int af) (putF "facts" (V.ref fd) (putF "side" (V.ref sd) (putF "names" (V.ref nl) (putF "land" (V.ref lo) [])))))))) = hF lo nl sd fd af pd jo pa ah := by kernel_rfl
theorem hN_state : (hF lo nl sd fd af pd jo pa ah).lookup ("state" : Str) = none := by kernel_rfl
theorem hN_go_to : (hF lo nl sd fd af pd jo pa ah).lookup ("go_to" : Str) = none := by kernel_rfl
theorem hN_done_from : (hF lo nl sd fd af pd jo pa ah).lookup ("done_from" : Str) = none := by kernel_rfl
theorem hN_forget : (hF lo nl sd fd af pd jo pa ah).lookup ("forget" : Str) = none := by kernel_rfl
theorem hN_people : (hF lo nl sd fd af pd jo pa ah).lookup ("people" : Str) = none := by kernel_rfl
theorem hN_side_of : (hF lo nl sd fd af pd jo pa ah).lookup ("side_of" : Str) = none := by kernel_rfl
theorem hN_kept : (hF lo nl sd fd af pd jo pa ah).lookup ("kept" : Str) = none := by kernel_rfl
theorem hN_has : (hF lo nl sd fd af pd jo pa ah).lookup ("has" : Str) = none := by kernel_rfl
theorem hN_undoable : (hF lo nl sd fd af pd jo pa ah).lookup ("undoable" : Str) = none := by kernel_rfl
theorem hN_redoable : (hF lo nl sd fd af pd jo pa ah).lookup ("redoable" : Str) = none := by kernel_rfl
theorem hN_person : (hF lo nl sd fd af pd jo pa ah).lookup ("person" : Str) = none := by kernel_rfl
theorem hN_sides_fit : (hF lo nl sd fd af pd jo pa ah).lookup ("sides_fit" : Str) = none := by kernel_rfl
theorem hN_parent_kept : (hF lo nl sd fd af pd jo pa ah).lookup ("parent_kept" : Str) = none := by kernel_rfl
theorem hN_known : (hF lo nl sd fd af pd jo pa ah).lookup ("known" : Str) = none := by kernel_rfl
theorem hN_look : (hF lo nl sd fd af pd jo pa ah).lookup ("look" : Str) = none := by kernel_rfl
theorem hN_add_fact : (hF lo nl sd fd af pd jo pa ah).lookup ("add_fact" : Str) = none := by kernel_rfl
theorem hN_tie : (hF lo nl sd fd af pd jo pa ah).lookup ("tie" : Str) = none := by kernel_rfl
theorem hN_say : (hF lo nl sd fd af pd jo pa ah).lookup ("say" : Str) = none := by kernel_rfl
theorem hN_take : (hF lo nl sd fd af pd jo pa ah).lookup ("take" : Str) = none := by kernel_rfl
theorem hN_undo : (hF lo nl sd fd af pd jo pa ah).lookup ("undo" : Str) = none := by kernel_rfl
theorem hN_redo : (hF lo nl sd fd af pd jo pa ah).lookup ("redo" : Str) = none := by kernel_rfl
end
section
variable {w : World} {K : PySem.W.Frag} {mg : Str → Option Value} {g : Str → Addr} {mt : Str → Str → Addr}
theorem hasH (T : Txt w K mg g mt) {H : Hp} {p dx : Addr} {fs : List (Str × V)} {x : Str} {v : V} (h : H p = some (.ins (g "Hearth") dx fs)) (hf : (("Hearth" : Str), x) ∈ attrNames) (hl : fs.lookup x = some v) : Has K H p x v :=
  ⟨_, dx, _, h, T.cls _ (by decide +kernel), T.noat (("Hearth" : Str), x) hf, hl⟩
theorem rd_names (T : Txt w K mg g mt) {Z H : Hp} {m : HM} {h : HS} (a : HA g Z H m h) : Has K H m.p "names" (.ref m.nl) := by
  obtain ⟨dx, lo, ob, la⟩ := a.ob
  exact hasH T ob (by decide +kernel) (hF_names ..)
theorem rd_side (T : Txt w K mg g mt) {Z H : Hp} {m : HM} {h : HS} (a : HA g Z H m h) : Has K H m.p "side" (.ref m.sd) := by
  obtain ⟨dx, lo, ob, la⟩ := a.ob
  exact hasH T ob (by decide +kernel) (hF_side ..)
theorem rd_facts (T : Txt w K mg g mt) {Z H : Hp} {m : HM} {h : HS} (a : HA g Z H m h) : Has K H m.p "facts" (.ref m.fd) := by
  obtain ⟨dx, lo, ob, la⟩ := a.ob
  exact hasH T ob (by decide +kernel) (hF_facts ..)
theorem rd_after (T : Txt w K mg g mt) {Z H : Hp} {m : HM} {h : HS} (a : HA g Z H m h) : Has K H m.p "after" (.int h.st.after) := by
  obtain ⟨dx, lo, ob, la⟩ := a.ob
  exact hasH T ob (by decide +kernel) (hF_after ..)
theorem rd_place (T : Txt w K mg g mt) {Z H : Hp} {m : HM} {h : HS} (a : HA g Z H m h) : Has K H m.p "place" (.ref m.pd) := by
  obtain ⟨dx, lo, ob, la⟩ := a.ob
  exact hasH T ob (by decide +kernel) (hF_place ..)
theorem rd_joins (T : Txt w K mg g mt) {Z H : Hp} {m : HM} {h : HS} (a : HA g Z H m h) : Has K H m.p "joins" (.ref m.jo) := by
  obtain ⟨dx, lo, ob, la⟩ := a.ob
  exact hasH T ob (by decide +kernel) (hF_joins ..)
theorem rd_past (T : Txt w K mg g mt) {Z H : Hp} {m : HM} {h : HS} (a : HA g Z H m h) : Has K H m.p "past" (.ref m.pa) := by
  obtain ⟨dx, lo, ob, la⟩ := a.ob
  exact hasH T ob (by decide +kernel) (hF_past ..)
theorem rd_ahead (T : Txt w K mg g mt) {Z H : Hp} {m : HM} {h : HS} (a : HA g Z H m h) : Has K H m.p "ahead" (.ref m.ah) := by
  obtain ⟨dx, lo, ob, la⟩ := a.ob
  exact hasH T ob (by decide +kernel) (hF_ahead ..)
theorem rd_land (T : Txt w K mg g mt) {Z H : Hp} {m : HM} {h : HS} (a : HA g Z H m h) : ∃ lo, Has K H m.p "land" (.ref lo) ∧ LA g Z lo h.land := by
  obtain ⟨dx, lo, ob, la⟩ := a.ob
  exact ⟨lo, hasH T ob (by decide +kernel) (hF_land ..), la⟩
end
end Kin
set_option maxHeartbeats 4000000
/-! K17: names, parents, lines of elders. -/
namespace Kin
open PySem L2

/-! ### names -/
theorem isName_parts {x : Str} (h : isName x = true) : x.length ≤ 12 ∧ ∀ c ∈ x.cps.toList, c ∈ signs36.cps.toList := by
  unfold isName at h
  split at h
  · cases h
  · rename_i c r e
    rw [e]
    simp only [Bool.and_eq_true, decide_eq_true_eq] at h
    exact ⟨h.1, fun d hd => by
      have := List.all_eq_true.mp h.2.2 d hd
      exact of_decide_eq_true this⟩
theorem sign_small : ∀ c ∈ signs36.cps.toList, c < 128 := by decide +kernel
theorem isName_ok {x : Str} (h : isName x = true) : PyData.strOk x = true := by
  unfold PyData.strOk
  rw [← Array.all_toList, List.all_eq_true]
  intro c hc
  have := sign_small c ((isName_parts h).2 c hc)
  exact decide_eq_true (by omega)
/-- rows of kept facts -/
def rowO (q : Int × Fact) : HO := .tup [.int q.1, .str q.2.kind, .str q.2.one, q.2.other]
section
variable {P : Program} {w : World} {K : PySem.W.Frag} {mg : Str → Option Value} {g : Str → Addr} {mt : Str → Str → Addr} {base : Heap}
theorem len_cps (x : Str) : x.length = x.cps.size := rfl
def spIsName : Sp := fun vs H Q _ => ∃ x : Str, vs = [.str x] ∧ x.length ≤ sizeLine ∧ ∀ H', Same H H' → Q (.bl (isName x)) H'
theorem ok_is_name (T : Txt w K mg g mt) : GF P w K mg base CX0 1 "is_name" spIsName := by
  refine gf0 (F_is_name T) (T.glo _ (by decide +kernel)) sc_is_name (fun vs H Q E h => ?_) fun cdv A outer s H vs Q E hr h => ?_
  · obtain ⟨x, rfl, _⟩ := h; rfl
  · obtain ⟨x, rfl, hz, k⟩ := h
    have nd := sc_is_name.nd
    have fL : mg "len" = none := T.free _ (by decide +kernel)
    obtain ⟨t1, i1⟩ := T.iLong
    obtain ⟨t2, i2⟩ := T.sLet
    obtain ⟨t3, i3⟩ := T.sSig
    refine ⟨_, pss_cons (ps_if (PW.pt (pw_or (pt_cmpR op_eq (pv 0) pe_str (nomark _)) (pw_or (pt_cmpR op_gt (pe_callB call_len_str (by rfl) fL PySem.boot_len (pa_cons (pv 0) pa_nil)) (pe_glob (v := .int 12) rfl i1 ⟨_, rfl⟩) (nomark _))
          (pw_or1 (pt_cmpR op_notIn_sign (pe_item_str (pv 0) pe_int (fun _ _ => rfl)) (pe_glob (v := .str letters26) rfl i2 ⟨_, rfl⟩) rfl)))))
        (pss_one (ps_ret pe_bl)) pss_nil)
      (pss_cons (ps_for PassesOwn.never rfl (pi_str (pv 0)) (pg_name (i := 1) nd rfl (.inl rfl))
        (pss_one (ps_if (pt_cmpR op_notIn_sign (pv 1) (pe_glob (v := .str signs36) rfl i3 ⟨_, rfl⟩) rfl) (pss_one (ps_ret pe_bl)) pss_nil)))
      (pss_one (ps_ret pe_bl))), ?_⟩
    have out : ∀ b, isName x = b → Q (.bl b) H := fun b e => by rw [← e]; exact k H (Same.refl _)
    refine ⟨_, rfl, rfl, _, rfl, iteB (fun c => ?_) (fun c => ?_)⟩
    · refine out _ ?_
      have e := vstr (eqT c)
      subst e
      rfl
    have ne : ¬ x = ("" : Str) := fun e => eqF c (by rw [e])
    obtain ⟨c0, r0, ec⟩ : ∃ c r, x.cps.toList = c :: r := by
      cases e : x.cps.toList with
      | nil =>
        refine absurd ?_ ne
        obtain ⟨a⟩ := x
        have e' : a = #[] := by simpa using e
        rw [e']; rfl
      | cons c r => exact ⟨c, r, rfl⟩
    have hlen : 0 < x.cps.size := by
      have : x.cps.toList.length = r0.length + 1 := by rw [ec]; rfl
      rw [Array.length_toList] at this; omega
    have hget : x.cps[0]? = some c0 := by
      rw [← Array.getElem?_toList, ec]; rfl
    have en : isName x = (decide (x.length ≤ 12) && (decide (c0 ∈ letters26.cps.toList) && (c0 :: r0).all fun d => decide (d ∈ signs36.cps.toList))) := by
      unfold isName; rw [ec]
    refine ⟨_, rfl, x, rfl, hz, _, _, rfl, rfl, _, rfl, iteB (fun c => ?_) (fun c1 => ?_)⟩
    · refine out _ ?_
      rw [en, decide_eq_false (by have := eqT c; omega)]; rfl
    refine ⟨_, rfl, x, 0, c0, rfl, rfl, by omega, by decide, by rw [len_cps]; omega, hget, c0, letters26, rfl, rfl, _, rfl, iteB (fun c => ?_) (fun c2 => ?_)⟩
    · refine out _ ?_
      have : decide (c0 ∈ letters26.cps.toList) = false := by simpa using c
      rw [en, this, Bool.false_and, Bool.and_false]
    have h1 : decide (x.length ≤ 12) = true := decide_eq_true (by have := eqF c1; omega)
    have h2 : decide (c0 ∈ letters26.cps.toList) = true := by simpa using c2
    rw [h1, h2, Bool.true_and, Bool.true_and, ← ec] at en
    refine ⟨_, rfl, x, rfl, ?_⟩
    refine for_it (walk_str (z := x)) (fun i σ H2 => (∃ u, σ = [some (.str x), u]) ∧ H2 = H ∧ ∀ d ∈ x.cps.toList.take i, d ∈ signs36.cps.toList) ⟨⟨none, rfl⟩, rfl, fun d hd => by simp at hd⟩ (fun _ _ _ _ _ => trivial) ?_ ?_
    · rintro i v σ H2 H3 hi ⟨⟨u, rfl⟩, rfl, hd⟩ ⟨e3, c, hc, rfl⟩
      rw [e3]
      refine ⟨_, rfl, c, signs36, rfl, rfl, _, rfl, iteB (fun cb => ?_) (fun cb => ?_)⟩
      · refine out _ ?_
        have hn : ¬ c ∈ signs36.cps.toList := by simpa using cb
        rw [en]
        refine List.all_eq_false.mpr ⟨c, ?_, by simpa using hn⟩
        exact List.mem_of_getElem? (i := i) (by rw [Array.getElem?_toList]; exact hc)
      · have hy : c ∈ signs36.cps.toList := by simpa using cb
        refine ⟨⟨_, rfl⟩, rfl, fun d hm => ?_⟩
        have hl : i < x.cps.toList.length := by rw [Array.length_toList]; exact hi
        rw [← List.take_append_getElem hl] at hm
        rcases List.mem_append.mp hm with hm | hm
        · exact hd d hm
        · rw [List.mem_singleton.mp hm]
          have : x.cps.toList[i]? = some c := by rw [Array.getElem?_toList]; exact hc
          rw [(List.getElem?_eq_some_iff.mp this).2]; exact hy
    · rintro σ H2 ⟨⟨u, rfl⟩, rfl, hd⟩
      refine out _ ?_
      rw [en, List.all_eq_true]
      intro d hm
      refine decide_eq_true (hd d ?_)
      rw [← Array.length_toList, List.take_length]; exact hm

/-! ### parents_of -/
theorem fact_flat {size : Nat} {names : List Str} {f : Fact} (o : FactOk size names f) (h : f.kind = ("mother" : Str) ∨ f.kind = ("father" : Str)) : ∃ s : Str, f.other = .str s ∧ s ∈ names := by
  cases o with
  | said _ _ _ =>
    have n1 : ¬ (("said" : Str) = "mother") := by decide +kernel
    have n2 : ¬ (("said" : Str) = "father") := by decide +kernel
    rcases h with h | h
    · exact absurd h n1
    · exact absurd h n2
  | @tie k one other hk a b => exact ⟨other, rfl, b⟩
theorem parents_mem {size : Nat} {names : List Str} {L : List (Int × Fact)} {n x : Str} (hf : ∀ q ∈ L, FactOk size names q.2) (h : x ∈ parentsOf L n) : x ∈ names := by
  obtain ⟨q, hq, rfl⟩ := List.mem_map.mp h
  obtain ⟨h1, h2⟩ := List.mem_filter.mp hq
  simp only [Bool.and_eq_true, Bool.or_eq_true, decide_eq_true_eq] at h2
  obtain ⟨s, e, hs⟩ := fact_flat (hf q h1) h2.2
  rw [e]; exact hs
theorem take_snoc {α : Type} {l : List α} {i : Nat} {x : α} (h : l[i]? = some x) : l.take (i + 1) = l.take i ++ [x] := by
  have hl : i < l.length := (List.getElem?_eq_some_iff.mp h).1
  rw [← List.take_append_getElem hl, (List.getElem?_eq_some_iff.mp h).2]
def spParents : Sp := fun vs H Q _ => ∃ (k : Addr) (n : Str) (as : List Addr) (L : List (Int × Fact)) (size : Nat) (names : List Str), vs = [.ref k, .str n] ∧ H k = some (.lst (as.map V.ref)) ∧ Each H rowO as L ∧ (∀ q ∈ L, FactOk size names q.2) ∧ L.length ≤ 99999 ∧
  ∀ p H', H p = none → Same H H' → H' p = some (.lst ((parentsOf L n).map V.str)) → Q (.ref p) H'
theorem ok_parents_of (T : Txt w K mg g mt) : GF P w K mg base CX0 1 "parents_of" spParents := by
  refine gf0 (F_parents_of T) (T.glo _ (by decide +kernel)) sc_parents_of (fun vs H Q E h => ?_) fun cdv A outer s H vs Q E hr h => ?_
  · obtain ⟨k, n, as, L, size, names, rfl, _⟩ := h; rfl
  · obtain ⟨k, n, as, L, size, names, rfl, hk, ea, hf, hz, q⟩ := h
    have nd := sc_parents_of.nd
    refine ⟨_, pss_cons (ps_set (i := 2) nd rfl (.inl rfl) (pe_lst pa_nil))
      (pss_cons (ps_for PassesOwn.never rfl (pi_list (pv 0)) (pg_tup rfl (pgs_cons (pg_name (i := 3) nd rfl (.inl rfl)) (pgs_cons (pg_name (i := 4) nd rfl (.inl rfl)) (pgs_cons (pg_name (i := 5) nd rfl (.inl rfl)) (pgs_cons (pg_name (i := 6) nd rfl (.inl rfl)) pgs_nil)))))
        (pss_one (ps_if (PW.pt (pw_and (pt_cmpR op_eq (pv 5) (pv 1) (nomark _)) (pw_and1 (PW.pt (pw_or (pt_cmpR op_eq (pv 4) pe_str (nomark _)) (pw_or1 (pt_cmpR op_eq (pv 4) pe_str (nomark _))))))))
          (pss_one (ps_expr (pe_bm PySem.F.plainAttrs_list PySem.F.slot_list_append PySem.F.type_list_append mt_append (pv 2) (pa_cons (pv 6) pa_nil)))) pss_nil)))
      (pss_one (ps_ret (pv 2)))), ?_⟩
    refine ⟨Nat.zero_le _, fun D hD => ?_⟩
    have s1 := same_new (o := .lst []) hD
    have h1 : upd H D (.lst []) D = some (.lst []) := upd_same
    generalize upd H D (.lst []) = H1 at s1 h1 ⊢
    refine ⟨_, rfl, k, rfl, ⟨_, SqL.of (s1 _ _ hk)⟩, ?_⟩
    refine for_it (walk_list (K := K) (a := k) (xs := as.map V.ref)) (fun i σ H2 => (∃ u1 u2 u3 u4, σ = [some (.ref k), some (.str n), some (.ref D), u1, u2, u3, u4]) ∧ Same H H2 ∧ H2 D = some (.lst ((parentsOf (L.take i) n).map V.str)) ∧ (parentsOf (L.take i) n).length ≤ i)
      ⟨⟨none, none, none, none, rfl⟩, s1, h1, Nat.le_refl _⟩ (fun i σ H2 _ p => SqL.of (p.2.1 _ _ hk)) ?_ ?_
    · rintro i v σ H2 H3 hi ⟨⟨u1, u2, u3, u4, rfl⟩, s2, h2, z2⟩ ⟨e3, hv⟩
      rw [e3]
      obtain ⟨a, x, rfl, hx, ha⟩ := ea.back hv
      obtain ⟨num, kind, one, other⟩ := x
      have hm := List.mem_of_getElem? hx
      have fo := hf _ hm
      have hil : i < L.length := (List.getElem?_eq_some_iff.mp hx).1
      refine ⟨a, _, rfl, SqT.of (s2 _ _ ha), rfl, _, _, rfl, _, _, rfl, _, _, rfl, _, _, rfl, rfl, ?_⟩
      have et := take_snoc hx
      apply fall_once (¬ (one = n ∧ (kind = ("mother" : Str) ∨ kind = ("father" : Str))))
      · intro fall
        have yes : (one = n ∧ (kind = ("mother" : Str) ∨ kind = ("father" : Str))) → parentsOf (L.take (i + 1)) n = parentsOf (L.take i) n ++ [nameOf other] := fun c => by
          rw [et]; unfold parentsOf; rw [List.filter_append, List.map_append]; simp [c.1, c.2]
        have app : (one = n ∧ (kind = ("mother" : Str) ∨ kind = ("father" : Str))) → upd H2 D (.lst ((parentsOf (L.take i) n).map V.str ++ [other])) D = some (.lst ((parentsOf (L.take (i + 1)) n).map V.str)) ∧ (parentsOf (L.take (i + 1)) n).length ≤ i + 1 := fun c => by
          obtain ⟨sx, eo, _⟩ := fact_flat fo c.2
          have eo' : other = .str sx := eo
          rw [yes c, upd_same, eo']
          refine ⟨by simp [nameOf], ?_⟩
          rw [List.length_append]; simp; omega
        have sm : Same H (upd H2 D (.lst ((parentsOf (L.take i) n).map V.str ++ [other]))) := same_mut s2 hD
        refine ⟨_, rfl, _, rfl, rfl, _, rfl, iteB (fun c1 => ?_) (fun c1 => fall fun c => eqF c1 (by rw [c.1]))⟩
        have e1 := vstr (eqT c1)
        refine ⟨_, rfl, rfl, _, rfl, iteB (fun c2 => ?_) (fun c2 => ?_)⟩
        · have c := And.intro e1 (Or.inl (b := kind = ("father" : Str)) (vstr (eqT c2)))
          exact ⟨_, rfl, .inl ⟨rfl, _, SqL.of h2⟩, _, rfl, D, _, _, rfl, rfl, h2, by rw [List.length_map]; exact smallL (by omega), ⟨_, _, _, _, rfl⟩, sm, (app c).1, (app c).2⟩
        · refine ⟨_, rfl, rfl, _, rfl, iteB (fun c3 => ?_) (fun c3 => fall fun c => ?_)⟩
          · have c := And.intro e1 (Or.inr (a := kind = ("mother" : Str)) (vstr (eqT c3)))
            exact ⟨_, rfl, .inl ⟨rfl, _, SqL.of h2⟩, _, rfl, D, _, _, rfl, rfl, h2, by rw [List.length_map]; exact smallL (by omega), ⟨_, _, _, _, rfl⟩, sm, (app c).1, (app c).2⟩
          · rcases c.2 with e | e
            · exact eqF c2 (by rw [e])
            · exact eqF c3 (by rw [e])
      · intro c
        have no : parentsOf (L.take (i + 1)) n = parentsOf (L.take i) n := by
          rw [et]; unfold parentsOf; rw [List.filter_append, List.map_append]
          have : (decide (one = n) && (decide (kind = ("mother" : Str)) || decide (kind = ("father" : Str)))) = false := by
            simpa using c
          simp [List.filter_cons, this]
        refine ⟨⟨_, _, _, _, rfl⟩, s2, ?_, ?_⟩
        · rw [no]; exact h2
        · rw [no]; omega
    · rintro σ H2 ⟨⟨u1, u2, u3, u4, rfl⟩, s2, h2, z2⟩
      rw [List.length_map, ea.len, List.take_length] at h2
      exact ⟨_, rfl, q D H2 hD s2 h2⟩
end
end Kin
set_option maxHeartbeats 4000000
/-! K18: lines of elders (line_up). -/
namespace Kin
open PySem L2

/-! ### plain -/
theorem nodup_len : ∀ {l m : List Str}, l.Nodup → (∀ x ∈ l, x ∈ m) → l.length ≤ m.length
  | [], _, _, _ => Nat.zero_le _
  | x :: r, m, nd, h => by
    obtain ⟨h1, h2⟩ := List.nodup_cons.mp nd
    have hx := h x (List.mem_cons_self ..)
    have := nodup_len (l := r) (m := m.erase x) h2 fun y hy => (List.mem_erase_of_ne (fun e => h1 (by rw [← e]; exact hy))).mpr (h y (List.mem_cons_of_mem _ hy))
    rw [List.length_erase_of_mem hx] at this
    have hp := List.length_pos_of_mem hx
    simp only [List.length_cons]
    omega
def One (E names : List Str) : Prop := E.Nodup ∧ ∀ x ∈ E, x ∈ names
theorem one_add {E names : List Str} (o : One E names) {x : Str} (h : x ∈ names) (n : x ∉ E) : One (E ++ [x]) names :=
  ⟨nd_snoc o.1 n, fun y hy => by
    rcases List.mem_append.mp hy with hy | hy
    · exact o.2 y hy
    · rw [List.mem_singleton.mp hy]; exact h⟩
theorem grow_snoc (E new : List Str) (x : Str) : grow E (new ++ [x]) = if x ∈ grow E new then grow E new else grow E new ++ [x] := by
  unfold grow; rw [List.foldl_append]; rfl
theorem one_grow {names : List Str} : ∀ {new E : List Str}, One E names → (∀ x ∈ new, x ∈ names) → One (grow E new) names
  | [], _, o, _ => o
  | x :: r, E, o, h => by
    have : grow E (x :: r) = grow (if x ∈ E then E else E ++ [x]) r := rfl
    rw [this]
    refine one_grow (new := r) ?_ fun y hy => h y (List.mem_cons_of_mem _ hy)
    split
    · exact o
    · exact one_add o (h x (List.mem_cons_self ..)) ‹_›
theorem grow_le : ∀ (new E : List Str), E.length ≤ (grow E new).length
  | [], _ => Nat.le_refl _
  | x :: r, E => by
    have : grow E (x :: r) = grow (if x ∈ E then E else E ++ [x]) r := rfl
    rw [this]
    refine Nat.le_trans ?_ (grow_le r _)
    split
    · exact Nat.le_refl _
    · simp
theorem elder_over {size : Nat} {names : List Str} {L : List (Int × Fact)} (hf : ∀ q ∈ L, FactOk size names q.2) (goal : Str) {E : List Str} (o : One E names) (at_ : Nat) : Over (elderStep L goal) (names.length - at_) (E, at_) := by
  refine over_of (fun s => One s.1 names) (fun s => names.length - s.2) (fun s t i e => ?_) _ (E, at_) o (Nat.le_refl _)
  unfold elderStep at e
  split at e
  · cases e
  · rename_i c hc
    split at e
    · cases e
    · cases e
      have hl : s.2 < s.1.length := (List.getElem?_eq_some_iff.mp hc).1
      have := nodup_len i.1 i.2
      exact ⟨one_grow i fun x hx => parents_mem hf hx, by show names.length - (s.2 + 1) < names.length - s.2; omega⟩
section
variable {P : Program} {w : World} {K : PySem.W.Frag} {mg : Str → Option Value} {g : Str → Addr} {mt : Str → Str → Addr} {base : Heap}
/-- the lines at as end as E -/
structure Lines (names : List Str) (H : Hp) (ln : Addr) (as : List Addr) (E : List Str) : Prop where
  len : as.length = E.length
  at_ : ∀ (i : Nat) e, E[i]? = some e → ∃ a pre, as[i]? = some a ∧ a ≠ ln ∧ H a = some (.lst (pre ++ [.str e])) ∧ pre.length ≤ i ∧ ∀ x ∈ pre, ∃ n ∈ names, x = .str n
theorem Lines.keep {names : List Str} {H H' : Hp} {ln sn : Addr} {as : List Addr} {E : List Str} {kvs : List (Key × V)} (l : Lines names H ln as E) (hs : H sn = some (.dK kvs)) (k : Kept [ln, sn] H H') : Lines names H' ln as E :=
  ⟨l.len, fun i e h => by
    obtain ⟨a, pre, h1, h2, h3, h4, h5⟩ := l.at_ i e h
    have n : a ≠ sn := fun e => by rw [e, hs] at h3; cases h3
    exact ⟨a, pre, h1, h2, k _ _ h3 (by simp [h2, n]), h4, h5⟩⟩
def spLine : Sp := fun vs H Q _ => ∃ (k : Addr) (b goal : Str) (as : List Addr) (L : List (Int × Fact)) (size : Nat) (names : List Str), vs = [.ref k, .str b, .str goal] ∧ H k = some (.lst (as.map V.ref)) ∧ Each H rowO as L ∧ (∀ q ∈ L, FactOk size names q.2) ∧ L.length ≤ 99999 ∧
  b ∈ names ∧ names.length ≤ 99999 ∧ ∀ r xs H', Same H H' → H' r = some (.lst xs) → xs.isEmpty = !elder L b goal → (∀ x ∈ xs, ∃ n ∈ names, x = .str n) → Q (.ref r) H'
theorem ok_line_up (T : Txt w K mg g mt) : GF P w K mg base CX0 2 "line_up" spLine := by
  refine gf0 (F_line_up T) (T.glo _ (by decide +kernel)) sc_line_up (fun vs H Q E h => ?_) fun cdv A outer s H vs Q E hr h => ?_
  · obtain ⟨k, b, goal, as, L, size, names, rfl, _⟩ := h; rfl
  · obtain ⟨k, b, goal, as, L, size, names, rfl, hk, ea, hf, hz, hb, hnz, q⟩ := h
    have nd := sc_line_up.nd
    have hu := hu_of hr
    have fL : mg "len" = none := T.free _ (by decide +kernel)
    have Pa := ok_parents_of (P := P) (base := base) T
    refine ⟨_, pss_cons (ps_set (i := 3) nd rfl (.inl rfl) (pe_lst (pa_cons (pe_lst (pa_cons (pv 1) pa_nil)) pa_nil)))
      (pss_cons (ps_set (i := 4) nd rfl (.inl rfl) (pe_disp (pps_cons (pv 1) pe_bl pps_nil) (by rfl) (by rfl) (fun z => by cases z) (by decide)))
      (pss_cons (ps_set (i := 5) nd rfl (.inl rfl) pe_int)
      (pss_cons (ps_while PassesOwn.never (pt_cmpR op_lt (pv 5) (pe_callB call_len_seq (by rfl) fL PySem.boot_len (pa_cons (pv 3) pa_nil)) (nomark _))
        (pss_cons (ps_set (i := 6) nd rfl (.inl rfl) (pe_ix ix_list (pv 3) (pv 5) (fun _ _ => rfl)))
        (pss_cons (ps_if (pt_cmpR op_eq (pe_ix ix_list (pv 6) (pe_un un_neg pe_int) (fun _ _ => rfl)) (pv 2) (nomark _)) (pss_one (ps_ret (pv 6))) pss_nil)
        (pss_cons (ps_for PassesOwn.never rfl (pi_list (pe_gf Pa hr pass0 (pa_cons (pv 0) (pa_cons (pe_ix ix_list (pv 6) (pe_un un_neg pe_int) (fun _ _ => rfl)) pa_nil)))) (pg_name (i := 7) nd rfl (.inl rfl))
          (pss_one (ps_if (pt_cmp (pc_dnotin hu (pv 7) (pv 4)))
            (pss_cons (ps_dput hu (pv 4) (pv 7) pe_bl rfl)
            (pss_one (ps_expr (pe_bm PySem.F.plainAttrs_list PySem.F.slot_list_append PySem.F.type_list_append mt_append (pv 3) (pa_cons (pe_op op_cat (pv 6) (pe_lst (pa_cons (pv 7) pa_nil))) pa_nil))))) pss_nil)))
        (pss_one (ps_aug (i := 5) nd rfl (.inl rfl) pe_int ip_add))))))
      (pss_one (ps_ret (pe_lst pa_nil)))))), ?_⟩
    refine ⟨_, rfl, by show 1 ≤ sizeLine; decide, fun l0 hl0 => ⟨by show 1 ≤ sizeLine; decide, fun ln hln => ?_⟩⟩
    have s1 := same_new (o := .lst [.str b]) hl0
    have h1 : upd H l0 (.lst [.str b]) l0 = some (.lst [.str b]) := upd_same
    generalize upd H l0 (.lst [.str b]) = H1 at s1 h1 hln ⊢
    have s2 := same_new (o := .lst [.ref l0]) hln
    have h2 : upd H1 ln (.lst [.ref l0]) ln = some (.lst ([l0].map V.ref)) := upd_same
    generalize upd H1 ln (.lst [.ref l0]) = H2 at s2 h2 ⊢
    refine fun sn hsn => ⟨_, rfl, upd_same, [(.inr b, .bl true)], rfl, by simp, ?_⟩
    have e3 : upd (upd H2 sn (.dK [])) sn (.dK (mergeK [] [(Sum.inr b, V.bl true)])) = upd H2 sn (.dK [(.inr b, .bl true)]) := by
      funext z
      by_cases c : z = sn
      · subst c; rw [upd_same, upd_same]; rfl
      · rw [upd_ne c, upd_ne c, upd_ne c]
    rw [e3]
    have s3 := same_new (o := .dK [(.inr b, .bl true)]) hsn
    have h3 : upd H2 sn (.dK [(.inr b, .bl true)]) sn = some (.dK [(.inr b, .bl true)]) := upd_same
    generalize upd H2 sn (.dK [(.inr b, .bl true)]) = H3 at s3 h3 ⊢
    have ss : Same H H3 := s1.trans (s2.trans s3)
    have fln : H ln = none := s1.free hln
    have fsn : H sn = none := (s1.trans s2).free hsn
    have nls : ln ≠ sn := ne_of_none h2 hsn
    have n0 : l0 ≠ ln := ne_of_none h1 hln
    have L0 : Lines names H3 ln [l0] [b] := ⟨rfl, fun i e he => by
      cases i with
      | zero =>
        cases he
        exact ⟨l0, [], rfl, n0, (s2.trans s3) _ _ h1, Nat.le_refl _, fun x hx => by simp at hx⟩
      | succ i => simp at he⟩
    have one0 : One [b] names := ⟨by simp, fun x hx => by rw [List.mem_singleton.mp hx]; exact hb⟩
    have ov0 := elder_over hf goal one0 0
    have e0 : iter (elderStep L goal) (names.length - 0) ([b], 0) = fin (elderStep L goal) ([b], 0) := (fin_eq ov0).symm
    refine ⟨fun m σ G => ∃ (E : List Str) (at_ : Nat) (bs : List Addr) (kvs : List (Key × V)) (u v : Option V), σ = [some (.ref k), some (.str b), some (.str goal), some (.ref ln), some (.ref sn), some (.int (at_ : Nat)), u, v] ∧ Kept [ln, sn] H3 G ∧ G ln = some (.lst (bs.map V.ref)) ∧ Lines names G ln bs E ∧
        G sn = some (.dK kvs) ∧ kvs.length ≤ E.length ∧ (∀ x : Str, (valV kvs (.inr x)).isSome = true ↔ x ∈ E) ∧ One E names ∧ at_ ≤ 99999 ∧ Over (elderStep L goal) m (E, at_) ∧ iter (elderStep L goal) m (E, at_) = fin (elderStep L goal) ([b], 0),
      ⟨_, [b], 0, [l0], _, none, none, rfl, Kept.refl _ _, s3 _ _ h2, L0, h3, Nat.le_refl _, fun x => ?_, one0, by omega, ov0, e0⟩, ?_⟩
    · by_cases c : x = b
      · subst c; simp [valV]
      · have : ¬ (Sum.inr b : Key) = Sum.inr x := fun z => c (Sum.inr.inj z).symm
        simp [valV, c, Ne.symm c]
    rintro m σ G ⟨E, at_, bs, kvs, u, v, rfl, kp, gl, LE, gs, kz, kv, one, az, ov, ei⟩
    have EZ := nodup_len one.1 one.2
    have sG : Same H G := fun c o e => kp c o (ss c o e) (by
      have a1 : c ≠ ln := ne_of_none e fln
      have a2 : c ≠ sn := ne_of_none e fsn
      simp [a1, a2])
    refine ⟨_, rfl, _, rfl, ln, _, rfl, .inl (SqL.of gl), _, _, rfl, rfl, _, rfl, ?_⟩
    rw [List.length_map, LE.len]
    refine iteB (fun c => ?_) (fun c => ?_)
    · have hat : at_ < E.length := by have := eqT c; omega
      have hc : E[at_]? = some E[at_] := List.getElem?_eq_getElem hat
      obtain ⟨la, pre, la1, la2, la3, la4, la5⟩ := LE.at_ at_ E[at_] hc
      generalize E[at_] = cur at hc la3
      have curN : cur ∈ names := one.2 cur (List.mem_of_getElem? hc)
      refine ⟨fun σ' G' => ∃ m', m' < m ∧ ∃ (E : List Str) (at_ : Nat) (bs : List Addr) (kvs : List (Key × V)) (u v : Option V), σ' = [some (.ref k), some (.str b), some (.str goal), some (.ref ln), some (.ref sn), some (.int (at_ : Nat)), u, v] ∧ Kept [ln, sn] H3 G' ∧ G' ln = some (.lst (bs.map V.ref)) ∧ Lines names G' ln bs E ∧
        G' sn = some (.dK kvs) ∧ kvs.length ≤ E.length ∧ (∀ x : Str, (valV kvs (.inr x)).isSome = true ↔ x ∈ E) ∧ One E names ∧ at_ ≤ 99999 ∧ Over (elderStep L goal) m' (E, at_) ∧ iter (elderStep L goal) m' (E, at_) = fin (elderStep L goal) ([b], 0), fun σ' G' p => p, ?_⟩
      refine ⟨_, rfl, _, rfl, ln, _, _, _, rfl, rfl, SqL.of gl, ix_at (by omega) (at_map la1), ?_⟩
      refine ⟨_, rfl, _, rfl, la, _, _, _, rfl, rfl, SqL.of la3, atI_last _ _, _, rfl, rfl, _, rfl, iteB (fun cg => ?_) (fun cg => ?_)⟩
      · have eg : cur = goal := vstr (eqT cg)
        have hs : elderStep L goal (E, at_) = none := by unfold elderStep; simp only [hc, if_pos eg]
        rw [iter_none hs] at ei
        refine ⟨_, rfl, q la _ G sG la3 ?_ ?_⟩
        · have : elder L b goal = true := by unfold elder; simp only [← ei]; exact decide_eq_true hat
          rw [this]; simp
        · intro x hx
          rcases List.mem_append.mp hx with hx | hx
          · exact la5 x hx
          · exact ⟨cur, curN, List.mem_singleton.mp hx⟩
      · have eg : ¬ cur = goal := fun e => eqF cg (by rw [e])
        have hs : elderStep L goal (E, at_) = some (grow E (parentsOf L cur), at_ + 1) := by unfold elderStep; simp only [hc, if_neg eg]
        obtain ⟨m', rfl, ov'⟩ := over_step hs ov
        rw [iter_some hs] at ei
        have pN : ∀ x ∈ parentsOf L cur, x ∈ names := fun x hx => parents_mem hf hx
        have pz : (parentsOf L cur).length ≤ 99999 := by
          unfold parentsOf
          rw [List.length_map]
          exact Nat.le_trans (List.length_filter_le _ _) hz
        refine ⟨_, rfl, _, rfl, _, rfl, la, _, _, _, rfl, rfl, SqL.of la3, atI_last _ _, ?_⟩
        refine ⟨k, cur, as, L, size, names, rfl, sG _ _ hk, ⟨ea.len, fun i x h => let ⟨a, h1, h2⟩ := ea.at_ i x h; ⟨a, h1, sG _ _ h2⟩⟩, hf, hz, fun pl G1 hpl s4 hl4 => ?_⟩
        refine ⟨pl, rfl, ⟨_, SqL.of hl4⟩, ?_⟩
        have npl : pl ≠ ln := fun e => by rw [e, gl] at hpl; cases hpl
        have nps : pl ≠ sn := fun e => by rw [e, gs] at hpl; cases hpl
        have ola : la ≠ sn := fun e => by rw [e, gs] at la3; cases la3
        refine for_it (walk_list (K := K) (a := pl) (xs := (parentsOf L cur).map V.str)) (fun j σ G' => ∃ (bs : List Addr) (kvs : List (Key × V)) (v : Option V), σ = [some (.ref k), some (.str b), some (.str goal), some (.ref ln), some (.ref sn), some (.int (at_ : Nat)), some (.ref la), v] ∧ Kept [ln, sn] G1 G' ∧ G' ln = some (.lst (bs.map V.ref)) ∧
            Lines names G' ln bs (grow E ((parentsOf L cur).take j)) ∧ G' sn = some (.dK kvs) ∧ kvs.length ≤ (grow E ((parentsOf L cur).take j)).length ∧ (∀ x : Str, (valV kvs (.inr x)).isSome = true ↔ x ∈ grow E ((parentsOf L cur).take j)) ∧ One (grow E ((parentsOf L cur).take j)) names)
          ⟨bs, kvs, _, rfl, Kept.refl _ _, s4 _ _ gl, LE.keep gs (Kept.of_same s4), s4 _ _ gs, kz, kv, one⟩ (fun j σ G' _ p => ?_) ?_ ?_
        · obtain ⟨bs', kvs', v', _, kp', _⟩ := p
          exact SqL.of (kp' _ _ hl4 (by simp [npl, nps]))
        · rintro j x σ G2 G3 hj ⟨bs', kvs', v', rfl, kp', gl', LE', gs', kz', kv', one'⟩ ⟨e3, hx⟩
          rw [e3]
          obtain ⟨nm, hnm, rfl⟩ := map_at hx
          have nmN : nm ∈ names := pN nm (List.mem_of_getElem? hnm)
          have et := take_snoc hnm
          have eg2 : grow E ((parentsOf L cur).take (j + 1)) = if nm ∈ grow E ((parentsOf L cur).take j) then grow E ((parentsOf L cur).take j) else grow E ((parentsOf L cur).take j) ++ [nm] := by rw [et, grow_snoc]
          have EZ' := nodup_len one'.1 one'.2
          refine ⟨_, rfl, _, rfl, sn, _, rfl, DGet.k (k := .inr nm) gs', _, rfl, iteB (fun cn => ?_) (fun cn => ?_)⟩
          · have nin : nm ∉ grow E ((parentsOf L cur).take j) := fun h => by
              have := (kv' nm).mpr h
              rw [this] at cn; cases cn
            rw [if_neg nin] at eg2
            refine ⟨_, rfl, _, rfl, sn, _, rfl, DPut.k (k := .inr nm) gs' (smallL (by omega)), ?_⟩
            have k5 : Kept [ln, sn] G2 (upd G2 sn (.dK (putK kvs' (.inr nm) (.bl true)))) := (Kept.refl _ _).upd (by simp)
            have gs5 : upd G2 sn (.dK (putK kvs' (.inr nm) (.bl true))) sn = some (.dK (putK kvs' (.inr nm) (.bl true))) := upd_same
            have gl5 : upd G2 sn (.dK (putK kvs' (.inr nm) (.bl true))) ln = some (.lst (bs'.map V.ref)) := by rw [upd_ne nls]; exact gl'
            have LE5 := LE'.keep gs' k5
            have la6 : upd G2 sn (.dK (putK kvs' (.inr nm) (.bl true))) la = some (.lst (pre ++ [.str cur])) := by rw [upd_ne ola]; exact kp' _ _ (s4 _ _ la3) (by simp [la2, ola])
            generalize upd G2 sn (.dK (putK kvs' (.inr nm) (.bl true))) = G5 at k5 gs5 gl5 LE5 la6 ⊢
            refine ⟨_, rfl, .inl ⟨rfl, _, SqL.of gl5⟩, _, rfl, _, rfl, by show 1 ≤ sizeLine; decide, fun tp htp => ?_⟩
            have s6 := same_new (o := .lst [.str nm]) htp
            have h6 : upd G5 tp (.lst [.str nm]) tp = some (.lst [.str nm]) := upd_same
            generalize upd G5 tp (.lst [.str nm]) = G6 at s6 h6 ⊢
            refine ⟨la, tp, _, _, rfl, rfl, s6 _ _ la6, h6, ?_, fun cp hcp => ?_⟩
            · refine small _ ?_
              simp only [List.length_append, List.length_cons, List.length_nil]
              omega
            have s7 := same_new (o := .lst (pre ++ [.str cur] ++ [.str nm])) hcp
            have h7 : upd G6 cp (.lst (pre ++ [.str cur] ++ [.str nm])) cp = some (.lst (pre ++ [.str cur] ++ [.str nm])) := upd_same
            generalize upd G6 cp (.lst (pre ++ [.str cur] ++ [.str nm])) = G7 at s7 h7 ⊢
            have gl7 := s7 _ _ (s6 _ _ gl5)
            have gs7 := s7 _ _ (s6 _ _ gs5)
            have ncl : cp ≠ ln := fun e => by rw [e, s6 _ _ gl5] at hcp; cases hcp
            have LE7 := LE5.keep gs5 (Kept.of_same (s6.trans s7))
            refine ⟨ln, _, _, rfl, rfl, gl7, by rw [List.length_map, LE'.len]; exact smallL (by omega), ?_⟩
            refine ⟨bs' ++ [cp], putK kvs' (.inr nm) (.bl true), _, rfl, ?_, ?_, ?_, ?_, ?_, ?_, ?_⟩
            · exact ((kp'.trans k5).same (s6.trans s7)).upd (by simp)
            · rw [upd_same]; simp
            · rw [eg2]
              have k8 : Kept [ln, sn] G7 (upd G7 ln (.lst (bs'.map V.ref ++ [.ref cp]))) := (Kept.refl _ _).upd (by simp)
              have LE8 := LE7.keep gs7 k8
              refine ⟨by simp [LE'.len], fun i e he => ?_⟩
              by_cases hi : i < (grow E ((parentsOf L cur).take j)).length
              · rw [List.getElem?_append_left hi] at he
                obtain ⟨a, pre', r1, r2, r3, r4, r5⟩ := LE8.at_ i e he
                exact ⟨a, pre', by rw [List.getElem?_append_left (by rw [LE'.len]; exact hi)]; exact r1, r2, r3, r4, r5⟩
              · rw [List.getElem?_append_right (by omega)] at he
                have hk0 : i - (grow E ((parentsOf L cur).take j)).length = 0 := by
                  cases c : i - (grow E ((parentsOf L cur).take j)).length with
                  | zero => rfl
                  | succ z => rw [c] at he; simp at he
                rw [hk0] at he
                have en : nm = e := by simpa using he
                subst en
                refine ⟨cp, pre ++ [.str cur], ?_, ncl, ?_, ?_, ?_⟩
                · rw [List.getElem?_append_right (by rw [LE'.len]; omega), LE'.len, hk0]; rfl
                · rw [upd_ne ncl]; exact h7
                · rw [List.length_append]
                  simp only [List.length_cons, List.length_nil]
                  have : E.length ≤ (grow E ((parentsOf L cur).take j)).length := grow_le _ _
                  omega
                · intro x hx
                  rcases List.mem_append.mp hx with hx | hx
                  · exact la5 x hx
                  · exact ⟨cur, curN, List.mem_singleton.mp hx⟩
            · rw [upd_ne (Ne.symm nls)]; exact gs7
            · rw [eg2, List.length_append]
              exact Nat.le_trans (length_put _ _ _) (by simp; omega)
            · intro x
              rw [valV_put, eg2]
              by_cases c : (Sum.inr x : Key) = Sum.inr nm
              · rw [if_pos c, Sum.inr.inj c]; simp
              · have c' : x ≠ nm := fun e => c (by rw [e])
                rw [if_neg c, kv' x]; simp [c']
            · rw [eg2]; exact one_add one' nmN nin
          · have yin : nm ∈ grow E ((parentsOf L cur).take j) := by
              refine (kv' nm).mp ?_
              simpa using cn
            rw [if_pos yin] at eg2
            rw [← eg2] at LE' kz' kv' one'
            exact ⟨bs', kvs', _, rfl, kp', gl', LE', gs', kz', kv', one'⟩
        · rintro σ G2 ⟨bs', kvs', v', rfl, kp', gl', LE', gs', kz', kv', one'⟩
          rw [List.length_map, List.take_length] at LE' kz' kv' one'
          refine ⟨_, rfl, _, _, rfl, rfl, m', Nat.lt_succ_self _, _, at_ + 1, bs', kvs', _, _, rfl, ?_, gl', LE', gs', kz', kv', one', by omega, ov', ei⟩
          exact (kp.same s4).trans kp'
    · have hs : elderStep L goal (E, at_) = none := by
        have : E[at_]? = none := List.getElem?_eq_none (by have := eqF c; omega)
        unfold elderStep; simp only [this]
      rw [iter_none hs] at ei
      refine ⟨Nat.zero_le _, nu fun r G' hr s' h' => q r [] G' (sG.trans s') h' ?_ (fun x hx => by simp at hx)⟩
      have : elder L b goal = false := by unfold elder; simp only [← ei]; exact decide_eq_false (by have := eqF c; omega)
      rw [this]; rfl
end
end Kin
set_option maxHeartbeats 4000000
/-! K19: what is barred (ties_of, spread, fault, barring): only that it gives an answer. -/
namespace Kin
open PySem L2
section
variable {P : Program} {w : World} {K : PySem.W.Frag} {mg : Str → Option Value} {g : Str → Addr} {mt : Str → Str → Addr} {base : Heap}
/-! ### tables -/
theorem tabGet (T : Txt w K mg g mt) {t k : Str} {d : TV} (i : Nat) (h : tabVals[i]? = some (t, k, some d)) (ht : t ∈ tabNames) : KDct K w (g t) k (TV.v g d) := by
  obtain ⟨_, es, n, D⟩ := T.tab t ht
  obtain ⟨u, h1, h2⟩ := T.val _ (List.mem_of_getElem? h)
  exact ⟨es, n, u, D.at_, D.lit, h1, h2⟩
/-- the letter of a kind -/
def letOf (k : Str) : Str := if k = "mother" then "m" else if k = "father" then "f" else if k = "wed" then "w" else "s"
theorem letOf_ok {k : Str} (h : IsTie k) : letK (letOf k) k := by
  rcases h with rfl | rfl | rfl | rfl
  · exact .inl ⟨by decide +kernel, rfl⟩
  · exact .inr (.inl ⟨by decide +kernel, rfl⟩)
  · exact .inr (.inr (.inl ⟨by decide +kernel, rfl⟩))
  · exact .inr (.inr (.inr ⟨by decide +kernel, rfl⟩))
theorem letter_at (T : Txt w K mg g mt) {k : Str} (h : IsTie k) : KDct K w (g "LETTER") k (.str (letOf k)) := by
  rcases h with rfl | rfl | rfl | rfl
  · exact tabGet T (d := .str "m") 0 (by kernel_rfl) (by decide +kernel)
  · exact tabGet T (d := .str "f") 1 (by kernel_rfl) (by decide +kernel)
  · exact tabGet T (d := .str "w") 2 (by kernel_rfl) (by decide +kernel)
  · exact tabGet T (d := .str "s") 3 (by kernel_rfl) (by decide +kernel)
/-! ### ties, sayings -/
def TieAt (names : List Str) (size : Nat) (H : Hp) (a : Addr) : Prop := ∃ (n : Int) (one other : Str) (ta : Addr) (t : List Int), H a = some (.tup [.int n, .str one, .str other, .ref ta]) ∧ H ta = some (ti t) ∧ Fit size t ∧ one ∈ names ∧ other ∈ names
def SayAt (names : List Str) (size : Nat) (H : Hp) (a : Addr) : Prop := ∃ (n : Int) (one : Str) (s : Int), H a = some (.tup [.int n, .str one, .int s])
theorem TieAt.keep {names : List Str} {size : Nat} {M : List Addr} {H H' : Hp} {a : Addr} (h : TieAt names size H a) (k : Kept M H H') (hm : ∀ m ∈ M, ∀ xs, H m ≠ some (.tup xs)) : TieAt names size H' a := by
  obtain ⟨n, one, other, ta, t, h1, h2, h3, h4, h5⟩ := h
  exact ⟨n, one, other, ta, t, k _ _ h1 (fun c => hm _ c _ h1), k _ _ h2 (fun c => hm _ c _ h2), h3, h4, h5⟩
theorem SayAt.keep {names : List Str} {size : Nat} {M : List Addr} {H H' : Hp} {a : Addr} (h : SayAt names size H a) (k : Kept M H H') (hm : ∀ m ∈ M, ∀ xs, H m ≠ some (.tup xs)) : SayAt names size H' a := by
  obtain ⟨n, one, s, h1⟩ := h
  exact ⟨n, one, s, k _ _ h1 (fun c => hm _ c _ h1)⟩
theorem no_tup {H : Hp} {m : Addr} {ys : List V} (h : H m = some (.lst ys)) : ∀ xs, H m ≠ some (.tup xs) := fun xs e => by rw [h] at e; cases e
/-- the kept rows at k -/
structure Rows (H : Hp) (k : Addr) (size : Nat) (names : List Str) (L : List (Int × Fact)) : Prop where
  ex : ∃ as, H k = some (.lst (as.map V.ref)) ∧ Each H rowO as L
  ok : ∀ q ∈ L, FactOk size names q.2
  sz : L.length ≤ 99999
theorem Rows.same {H H' : Hp} {k : Addr} {size : Nat} {names : List Str} {L : List (Int × Fact)} (r : Rows H k size names L) (s : Same H H') : Rows H' k size names L :=
  ⟨let ⟨as, h1, h2⟩ := r.ex; ⟨as, s _ _ h1, h2.mono s⟩, r.ok, r.sz⟩
def spTiesOf (g : Str → Addr) : Sp := fun vs H Q _ => ∃ (lo k : Addr) (L : LS) (rows : List (Int × Fact)) (names : List Str), vs = [.ref lo, .ref k] ∧ LA g H lo L ∧ LOk L ∧ Rows H k L.size names rows ∧
  ∀ (p : Addr) (as : List Addr) (H' : Hp), Same H H' → H p = none → H' p = some (.lst (as.map V.ref)) → (∀ a ∈ as, TieAt names L.size H' a) → as.length ≤ 99999 → Q (.ref p) H'
theorem ok_ties_of (T : Txt w K mg g mt) : GF P w K mg base CX0 3 "ties_of" (spTiesOf g) := by
  refine gf0 (F_ties_of T) (T.glo _ (by decide +kernel)) sc_ties_of (fun vs H Q E h => ?_) fun cdv A outer s H vs Q E hr h => ?_
  · obtain ⟨lo, k, L, rows, names, rfl, _⟩ := h; rfl
  · obtain ⟨lo, k, L, rows, names, rfl, la, lok, ⟨⟨ks, hk, ek⟩, fo, sz⟩, q⟩ := h
    have nd := sc_ties_of.nd
    have St := ok_Land_step (P := P) (base := base) T
    have gl : mg "LETTER" = some (.ref (g "LETTER")) := (T.tab "LETTER" (by decide +kernel)).1
    refine ⟨_, pss_one (ps_ret (pe_lc (own := [("number", 2), ("kind", 3), ("one", 4), ("other", 5)]) (g := gTup K 4 (gCons (gName 2) (gCons (gName 3) (gCons (gName 4) (gCons (gName 5) gNil))))) (tt := _) rfl nd (pi_list (pv 1)) (blkOk_by (N := ["land", "kept", "number", "kind", "one", "other"]) (sc := defScope s_ties_of) (by decide +kernel))
      (fun _ _ _ _ _ => pg_tup rfl (pgs_cons (pg_name (i := 2) nd rfl (Or.inl rfl)) (pgs_cons (pg_name (i := 3) nd rfl (Or.inl rfl)) (pgs_cons (pg_name (i := 4) nd rfl (Or.inl rfl)) (pgs_cons (pg_name (i := 5) nd rfl (Or.inl rfl)) pgs_nil)))))
      (fun _ _ _ _ _ => pts_one (pt_cmpR op_ne (pv 3) pe_str (nomark _)))
      (fun _ _ _ _ _ => pe_tup (pa_cons (pv 2) (pa_cons (pv 4) (pa_cons (pv 5) (pa_cons (pe_gm (E := E0) St (pv 0) hr pass0 (pa_cons (pe_ix (r := rIxD K w) ix_kdict (pe_glob (v := .ref (g "LETTER")) rfl gl rfl) (pv 3) (fun _ _ => rfl)) pa_nil)) pa_nil))))))), ?_⟩
    refine ⟨_, rfl, k, rfl, ⟨_, SqL.of hk⟩, fun D hD => ?_⟩
    refine lc_it (walk_list (K := K) (a := k) (xs := ks.map V.ref)) (fun i H2 => Same H H2 ∧ ∃ as, H2 D = some (.lst (as.map V.ref)) ∧ as.length ≤ i ∧ ∀ a ∈ as, TieAt names L.size H2 a)
      ⟨same_new hD, [], upd_same, Nat.le_refl _, fun a ha => by simp at ha⟩ (fun i H2 _ p => SqL.of (p.1 _ _ hk)) ?_ ?_
    · rintro i v H2 H3 hi ⟨s2, as, h2, z2, ta⟩ ⟨e3, hv⟩
      rw [e3]
      obtain ⟨a, x, rfl, hx, ha⟩ := ek.back hv
      have hil : i < rows.length := (List.getElem?_eq_some_iff.mp hx).1
      have fx := fo x (List.mem_of_getElem? hx)
      refine ⟨a, _, rfl, SqT.of (s2 _ _ ha), rfl, _, _, rfl, _, _, rfl, _, _, rfl, _, _, rfl, rfl, rfl, ?_⟩
      refine ⟨_, rfl, rfl, _, rfl, iteB (fun c => ?_) (fun c => ⟨s2, as, h2, by omega, ta⟩)⟩
      obtain ⟨num, kind, one, other⟩ := x
      have nk : ¬ kind = ("said" : Str) := fun e => neT c (by rw [e])
      cases fx with
      | said _ _ _ => exact absurd rfl nk
      | @tie kind one other hkd hn hn' =>
        obtain ⟨dx, m, f, wi, l1, l2, l3, l4⟩ := la.ex
        refine ⟨_, rfl, _, rfl, _, rfl, _, rfl, lo, dx, _, rfl, s2 _ _ l1, lF_step .., _, rfl, g "LETTER", kind, _, rfl, rfl, letter_at T hkd, ?_⟩
        refine ⟨lo, L, letOf kind, kind, rfl, letOf_ok hkd, la.same s2, lok, fun t H4 s4 h4 => ⟨by show 4 ≤ sizeLine; decide, fun tp htp => ?_⟩⟩
        have s5 := same_new (o := .tup [.int num, .str one, .str other, .ref t]) htp
        have h5 : upd H4 tp (.tup [.int num, .str one, .str other, .ref t]) tp = some _ := upd_same
        have ss := s4.trans s5
        have sH := s2.trans ss
        refine ⟨as.map V.ref, ss _ _ h2, by rw [List.length_map]; exact smallL (by omega), ?_⟩
        generalize upd H4 tp (.tup [.int num, .str one, .str other, .ref t]) = H5 at s5 h5 ss sH ⊢
        have k6 : Kept [D] H5 (upd H5 D (.lst (as.map V.ref ++ [.ref tp]))) := (Kept.refl _ _).upd (by simp)
        have nt : ∀ m ∈ [D], ∀ xs, H5 m ≠ some (.tup xs) := fun m hm => by rw [List.mem_singleton.mp hm]; exact no_tup (ss _ _ h2)
        refine ⟨same_mut sH hD, as ++ [tp], by rw [upd_same]; simp, by simp; omega, fun a ha => ?_⟩
        rcases List.mem_append.mp ha with ha | ha
        · exact ((ta a ha).keep (Kept.of_same (M := []) ss) (fun m hm => by simp at hm)).keep k6 nt
        · rw [List.mem_singleton.mp ha]
          have tq : TieAt names L.size H5 tp := ⟨num, one, other, t, stepOf L kind, h5, s5 _ _ h4, fit_step lok kind, hn, hn'⟩
          exact tq.keep k6 nt
    · rintro H2 ⟨s2, as, h2, z2, ta⟩
      rw [List.length_map, ek.len] at z2
      exact q D as H2 s2 hD h2 ta (by omega)
end
end Kin
set_option maxHeartbeats 4000000
/-! K20: sayings_of, turned_walk, spread. -/
namespace Kin
open PySem L2
/-- no test in a comprehension -/
theorem yesT {σ : St} {H : Hp} {A B : Hp → Prop} (h : A H) : tYes σ H (fun b H3 => if b = true then A H3 else B H3) := by
  show (if true = true then A H else B H)
  rw [if_pos rfl]; exact h
section
variable {P : Program} {w : World} {K : PySem.W.Frag} {mg : Str → Option Value} {g : Str → Addr} {mt : Str → Str → Addr} {base : Heap}
def spSayingsOf : Sp := fun vs H Q _ => ∃ (k : Addr) (size : Nat) (rows : List (Int × Fact)) (names : List Str), vs = [.ref k] ∧ Rows H k size names rows ∧
  ∀ (p : Addr) (as : List Addr) (H' : Hp), Same H H' → H p = none → H' p = some (.lst (as.map V.ref)) → (∀ a ∈ as, SayAt names size H' a) → as.length ≤ 99999 → Q (.ref p) H'
theorem ok_sayings_of (T : Txt w K mg g mt) : GF P w K mg base CX0 1 "sayings_of" spSayingsOf := by
  refine gf0 (F_sayings_of T) (T.glo _ (by decide +kernel)) sc_sayings_of (fun vs H Q E h => ?_) fun cdv A outer s H vs Q E hr h => ?_
  · obtain ⟨k, size, rows, names, rfl, _⟩ := h; rfl
  · obtain ⟨k, size, rows, names, rfl, ⟨⟨ks, hk, ek⟩, fo, sz⟩, q⟩ := h
    have nd := sc_sayings_of.nd
    refine ⟨_, pss_one (ps_ret (pe_lc (own := [("number", 1), ("kind", 2), ("one", 3), ("section", 4)]) (g := gTup K 4 (gCons (gName 1) (gCons (gName 2) (gCons (gName 3) (gCons (gName 4) gNil))))) (tt := _) rfl nd (pi_list (pv 0)) (blkOk_by (N := ["kept", "number", "kind", "one", "section"]) (sc := defScope s_sayings_of) (by decide +kernel))
      (fun _ _ _ _ _ => pg_tup rfl (pgs_cons (pg_name (i := 1) nd rfl (Or.inl rfl)) (pgs_cons (pg_name (i := 2) nd rfl (Or.inl rfl)) (pgs_cons (pg_name (i := 3) nd rfl (Or.inl rfl)) (pgs_cons (pg_name (i := 4) nd rfl (Or.inl rfl)) pgs_nil)))))
      (fun _ _ _ _ _ => pts_one (pt_cmpR op_eq (pv 2) pe_str (nomark _)))
      (fun _ _ _ _ _ => pe_tup (pa_cons (pv 1) (pa_cons (pv 3) (pa_cons (pv 4) pa_nil)))))), ?_⟩
    refine ⟨_, rfl, k, rfl, ⟨_, SqL.of hk⟩, fun D hD => ?_⟩
    refine lc_it (walk_list (K := K) (a := k) (xs := ks.map V.ref)) (fun i H2 => Same H H2 ∧ ∃ as : List Addr, H2 D = some (.lst (as.map V.ref)) ∧ as.length ≤ i ∧ ∀ a ∈ as, SayAt names size H2 a)
      ⟨same_new hD, [], upd_same, Nat.le_refl _, fun a ha => by simp at ha⟩ (fun i H2 _ p => SqL.of (p.1 _ _ hk)) ?_ ?_
    · rintro i v H2 H3 hi ⟨s2, as, h2, z2, ta⟩ ⟨e3, hv⟩
      rw [e3]
      obtain ⟨a, x, rfl, hx, ha⟩ := ek.back hv
      have hil : i < rows.length := (List.getElem?_eq_some_iff.mp hx).1
      have fx := fo x (List.mem_of_getElem? hx)
      refine ⟨a, _, rfl, SqT.of (s2 _ _ ha), rfl, _, _, rfl, _, _, rfl, _, _, rfl, _, _, rfl, rfl, rfl, ?_⟩
      refine ⟨_, rfl, rfl, _, rfl, iteB (fun c => ?_) (fun c => ⟨s2, as, h2, by omega, ta⟩)⟩
      obtain ⟨num, kind, one, other⟩ := x
      have ek : kind = ("said" : Str) := vstr (eqT c)
      cases fx with
      | @tie kind one other hkd hn hn' =>
        exfalso
        have ek' : kind = ("said" : Str) := ek
        subst ek'
        rcases hkd with e | e | e | e
        · exact absurd e (by decide +kernel)
        · exact absurd e (by decide +kernel)
        · exact absurd e (by decide +kernel)
        · exact absurd e (by decide +kernel)
      | @said one sc hn h0 h1 =>
        refine ⟨_, rfl, _, rfl, _, rfl, by show 3 ≤ sizeLine; decide, fun tp htp => ?_⟩
        have s5 := same_new (o := .tup [.int num, .str one, .int sc]) htp
        have h5 : upd H2 tp (.tup [.int num, .str one, .int sc]) tp = some _ := upd_same
        have sH := s2.trans s5
        refine ⟨as.map V.ref, s5 _ _ h2, by rw [List.length_map]; exact smallL (by omega), ?_⟩
        generalize upd H2 tp (.tup [.int num, .str one, .int sc]) = H5 at s5 h5 sH ⊢
        have k6 : Kept [D] H5 (upd H5 D (.lst (as.map V.ref ++ [.ref tp]))) := (Kept.refl _ _).upd (by simp)
        have nt : ∀ m ∈ [D], ∀ xs, H5 m ≠ some (.tup xs) := fun m hm => by rw [List.mem_singleton.mp hm]; exact no_tup (s5 _ _ h2)
        refine ⟨same_mut sH hD, as ++ [tp], by rw [upd_same]; simp, by simp; omega, fun a ha => ?_⟩
        rcases List.mem_append.mp ha with ha | ha
        · exact ((ta a ha).keep (Kept.of_same (M := []) s5) (fun m hm => by simp at hm)).keep k6 nt
        · rw [List.mem_singleton.mp ha]
          have tq : SayAt names size H5 tp := ⟨num, one, sc, h5⟩
          exact tq.keep k6 nt
    · rintro H2 ⟨s2, as, h2, z2, ta⟩
      rw [List.length_map, ek.len] at z2
      exact q D as H2 s2 hD h2 ta (by omega)

/-! ### walks -/
def StepAt (H : Hp) (v : V) : Prop := ∃ (p : Addr) (n d : Int), v = .ref p ∧ H p = some (.tup [.int n, .int d])
theorem StepAt.keep {M : List Addr} {H H' : Hp} {v : V} (h : StepAt H v) (k : Kept M H H') (hm : ∀ m ∈ M, ∀ xs, H m ≠ some (.tup xs)) : StepAt H' v := by
  obtain ⟨p, n, d, e, h1⟩ := h
  exact ⟨p, n, d, e, k _ _ h1 fun c => hm _ c _ h1⟩
theorem StepAt.same {H H' : Hp} {v : V} (h : StepAt H v) (k : Same H H') : StepAt H' v := h.keep (M := []) (Kept.of_same k) fun m hm => by simp at hm
def spTurned : Sp := fun vs H Q _ => ∃ (k : Addr) (ws : List V), vs = [.ref k] ∧ H k = some (.lst ws) ∧ (∀ v ∈ ws, StepAt H v) ∧ ws.length ≤ 99999 ∧
  ∀ (p : Addr) (ws' : List V) (H' : Hp), Same H H' → H' p = some (.lst ws') → ws'.length ≤ 99999 → Q (.ref p) H'
theorem ok_turned_walk (T : Txt w K mg g mt) : GF P w K mg base CX0 1 "turned_walk" spTurned := by
  refine gf0 (F_turned_walk T) (T.glo _ (by decide +kernel)) sc_turned_walk (fun vs H Q E h => ?_) fun cdv A outer s H vs Q E hr h => ?_
  · obtain ⟨k, ws, rfl, _⟩ := h; rfl
  · obtain ⟨k, ws, rfl, hk, hw, sz, q⟩ := h
    have nd := sc_turned_walk.nd
    refine ⟨_, pss_one (ps_ret (pe_lc (own := [("number", 1), ("way", 2)]) (g := gTup K 2 (gCons (gName 1) (gCons (gName 2) gNil))) (tt := _) rfl nd (pi_list (pe_revL (pv 0))) (blkOk_by (N := ["walk", "number", "way"]) (sc := defScope s_turned_walk) (by decide +kernel))
      (fun _ _ _ _ _ => pg_tup rfl (pgs_cons (pg_name (i := 1) nd rfl (Or.inl rfl)) (pgs_cons (pg_name (i := 2) nd rfl (Or.inl rfl)) pgs_nil)))
      (fun _ _ _ _ _ => pts_nil)
      (fun _ _ _ _ _ => pe_tup (pa_cons (pv 1) (pa_cons (pe_op op_sub pe_int (pv 2)) pa_nil))))), ?_⟩
    refine ⟨_, rfl, k, _, rfl, SqL.of hk, fun rp hrp => ?_⟩
    have s1 := same_new (o := .lst ws.reverse) hrp
    have h1 : upd H rp (.lst ws.reverse) rp = some (.lst ws.reverse) := upd_same
    generalize upd H rp (.lst ws.reverse) = H1 at s1 h1 ⊢
    refine ⟨rp, rfl, ⟨_, SqL.of h1⟩, fun D hD => ?_⟩
    refine lc_it (walk_list (K := K) (a := rp) (xs := ws.reverse)) (fun i H2 => Same H1 H2 ∧ ∃ as : List V, H2 D = some (.lst as) ∧ as.length ≤ i)
      ⟨same_new hD, [], upd_same, Nat.le_refl _⟩ (fun i H2 _ p => SqL.of (p.1 _ _ h1)) ?_ ?_
    · rintro i v H2 H3 hi ⟨s2, as, h2, z2⟩ ⟨e3, hv⟩
      rw [e3]
      rw [List.length_reverse] at hi
      have hm : v ∈ ws := List.mem_reverse.mp (List.mem_of_getElem? hv)
      obtain ⟨p, n, d, rfl, hp⟩ := hw v hm
      refine ⟨p, _, rfl, SqT.of (s2 _ _ (s1 _ _ hp)), rfl, _, _, rfl, _, _, rfl, rfl, rfl, ?_⟩
      refine yesT ?_
      refine ⟨_, rfl, _, rfl, _, _, rfl, rfl, by show 2 ≤ sizeLine; decide, fun tp htp => ?_⟩
      have s5 := same_new (o := .tup [.int n, .int (0 - d)]) htp
      refine ⟨as, s5 _ _ h2, smallL (by omega), same_mut (s2.trans s5) hD, as ++ [.ref tp], by rw [upd_same], by simp; omega⟩
    · rintro H2 ⟨s2, as, h2, z2⟩
      rw [List.length_reverse] at z2
      exact q D as H2 (s1.trans s2) h2 (by omega)
end
end Kin
set_option maxHeartbeats 4000000
/-! K21: spread. -/
namespace Kin
open PySem L2
/-! ### a cut behind a statement, behind an expression -/
def tCut (t : TS) : TS := fun D σ H => ∃ I : St → Hp → Prop, t { D with nx := I } σ H ∧ ∀ σ' H', I σ' H' → D.nx σ' H'
theorem ps_cut {X : Cx} {st : Stmt} {t : TS} (h : PS X st t) : PS X st (tCut t) := by
  refine ⟨fun pins s σ H D I h' => ?_⟩
  obtain ⟨J, h1, h2⟩ := h'
  refine thn (h.run pins s σ H _ I h1) fun f s' q => ?_
  cases f with
  | next => exact let ⟨σ', H', a, b⟩ := q; ⟨σ', H', a, h2 _ _ b⟩
  | brk => exact q
  | cont => exact q
  | ret u => exact q
def tCutE (t : TE) : TE := fun σ H Q => ∃ I : V → Hp → Prop, t σ H I ∧ ∀ v H', I v H' → Q v H'
theorem pe_cut {X : Cx} {e : Expr} {t : TE} (h : PE X e t) : PE X e (tCutE t) := by
  refine ⟨fun pins s σ H Q I h' => ?_⟩
  obtain ⟨J, h1, h2⟩ := h'
  refine thn (h.run pins s σ H _ I h1) fun f s' q => ?_
  exact let ⟨v, H', a, b, c⟩ := q; ⟨v, H', a, b, h2 _ _ c⟩

def FoundAt (size : Nat) (fd rl : Addr) (B : Nat) (H : Hp) (v : V) : Prop := ∃ (a wl : Addr) (ws : List V) (now : Int), v = .ref a ∧ H a = some (.tup [.int now, .ref wl]) ∧ H wl = some (.lst ws) ∧ wl ≠ rl ∧ (∀ x ∈ ws, StepAt H x) ∧ ws.length ≤ B ∧ 0 ≤ now ∧ now < size
theorem FoundAt.keep {size : Nat} {fd rl : Addr} {B B' : Nat} {H H' : Hp} {v : V} {kvs : List (Key × V)} {E : List V} (h : FoundAt size fd rl B H v) (k : Kept [fd, rl] H H') (hf : H fd = some (.dK kvs)) (hr : H rl = some (.lst E)) (hb : B ≤ B') : FoundAt size fd rl B' H' v := by
  obtain ⟨a, wl, ws, now, h1, h2, h3, h4, h5, h6, h7⟩ := h
  have nt : ∀ m ∈ [fd, rl], ∀ xs, H m ≠ some (.tup xs) := fun m hm xs e => by
    rcases List.mem_cons.mp hm with rfl | hm
    · rw [hf] at e; cases e
    · rw [List.mem_singleton.mp hm, hr] at e; cases e
  have nwf : wl ≠ fd := fun e => by rw [e, hf] at h3; cases h3
  exact ⟨a, wl, ws, now, h1, k _ _ h2 (fun c => nt _ c _ h2), k _ _ h3 (by simp [nwf, h4]), h4, fun x hx => (h5 x hx).keep k nt, Nat.le_trans h6 hb, h7⟩
structure SI (size : Nat) (names : List Str) (fd rl : Addr) (H0 H : Hp) (E : List Str) (kvs : List (Key × V)) : Prop where
  kp : Kept [fd, rl] H0 H
  hl : H rl = some (.lst (E.map V.str))
  hd : H fd = some (.dK kvs)
  kz : kvs.length ≤ E.length
  kv : ∀ x : Str, (valV kvs (.inr x)).isSome = true ↔ x ∈ E
  fo : ∀ (x : Str) v, valV kvs (.inr x) = some v → FoundAt size fd rl E.length H v
  one : One E names
section
variable {size : Nat} {names : List Str} {fd rl : Addr} {H0 H H1 : Hp} {E : List Str} {kvs : List (Key × V)}
theorem SI.same (s : SI size names fd rl H0 H E kvs) (k : Same H H1) : SI size names fd rl H0 H1 E kvs :=
  ⟨s.kp.same k, k _ _ s.hl, k _ _ s.hd, s.kz, s.kv, fun x v e => (s.fo x v e).keep (Kept.of_same k) s.hd s.hl (Nat.le_refl _), s.one⟩
theorem SI.add (s : SI size names fd rl H0 H E kvs) {x : Str} {tp : Addr} (hn : x ∈ names) (hx : x ∉ E) (hne : fd ≠ rl) (f : FoundAt size fd rl (E.length + 1) H (.ref tp)) :
    SI size names fd rl H0 (upd (upd H fd (.dK (putK kvs (.inr x) (.ref tp)))) rl (.lst (E.map V.str ++ [.str x]))) (E ++ [x]) (putK kvs (.inr x) (.ref tp)) := by
  have k : Kept [fd, rl] H (upd (upd H fd (.dK (putK kvs (.inr x) (.ref tp)))) rl (.lst (E.map V.str ++ [.str x]))) := ((Kept.refl _ _).upd (by simp)).upd (by simp)
  refine ⟨s.kp.trans k, by rw [upd_same]; simp, by rw [upd_ne hne, upd_same], ?_, fun y => ?_, fun y v e => ?_, one_add s.one hn hx⟩
  · rw [List.length_append]
    have := length_put kvs (.inr x) (.ref tp)
    have := s.kz
    simp; omega
  · rw [valV_put]
    by_cases c : (Sum.inr y : Key) = Sum.inr x
    · rw [if_pos c, Sum.inr.inj c]; simp
    · have c' : y ≠ x := fun e => c (by rw [e])
      rw [if_neg c, s.kv y]; simp [c']
  · rw [valV_put] at e
    rw [List.length_append]
    by_cases c : (Sum.inr y : Key) = Sum.inr x
    · rw [if_pos c] at e; cases e
      exact f.keep k s.hd s.hl (Nat.le_refl _)
    · rw [if_neg c] at e
      exact (s.fo y v e).keep k s.hd s.hl (by simp)
end
theorem newFound {size : Nat} {fd rl p1 p2 p3 p4 : Addr} {B : Nat} {G : Hp} {ws : List V} {n d now : Int} {o : HO} (hr : G rl = some o) (hs : ∀ x ∈ ws, StepAt G x) (hb : ws.length + 1 ≤ B) (n0 : 0 ≤ now) (n1 : now < size)
    (h1 : G p1 = none) (h2 : upd G p1 (.tup [.int n, .int d]) p2 = none) (h3 : upd (upd G p1 (.tup [.int n, .int d])) p2 (.lst [.ref p1]) p3 = none)
    (h4 : upd (upd (upd G p1 (.tup [.int n, .int d])) p2 (.lst [.ref p1])) p3 (.lst (ws ++ [.ref p1])) p4 = none) :
    FoundAt size fd rl B (upd (upd (upd (upd G p1 (.tup [.int n, .int d])) p2 (.lst [.ref p1])) p3 (.lst (ws ++ [.ref p1]))) p4 (.tup [.int now, .ref p3])) (.ref p4) ∧ Same G (upd (upd (upd (upd G p1 (.tup [.int n, .int d])) p2 (.lst [.ref p1])) p3 (.lst (ws ++ [.ref p1]))) p4 (.tup [.int now, .ref p3])) := by
  have e1 : upd G p1 (.tup [.int n, .int d]) p1 = some (.tup [.int n, .int d]) := upd_same
  have s1 := same_new (o := .tup [.int n, .int d]) h1
  have s2 := same_new (o := .lst [.ref p1]) h2
  have s3 := same_new (o := .lst (ws ++ [.ref p1])) h3
  have e3 : upd (upd (upd G p1 (.tup [.int n, .int d])) p2 (.lst [.ref p1])) p3 (.lst (ws ++ [.ref p1])) p3 = some (.lst (ws ++ [.ref p1])) := upd_same
  have s4 := same_new (o := .tup [.int now, .ref p3]) h4
  have r3 := s2 _ _ (s1 _ _ hr)
  refine ⟨⟨p4, p3, ws ++ [.ref p1], now, rfl, upd_same, s4 _ _ e3, (ne_of_none r3 h3).symm, fun x hx => ?_, by rw [List.length_append]; simpa using hb, n0, n1⟩, s1.trans (s2.trans (s3.trans s4))⟩
  rcases List.mem_append.mp hx with hx | hx
  · exact (hs x hx).same (s1.trans (s2.trans (s3.trans s4)))
  · rw [List.mem_singleton.mp hx]
    exact ⟨p1, n, d, rfl, s4 _ _ (s3 _ _ (s2 _ _ e1))⟩
/-- the ends of the tie at a -/
def TieE (H : Hp) (a : Addr) (one other : Str) : Prop := ∃ (n : Int) (ta : Addr), H a = some (.tup [.int n, .str one, .str other, .ref ta])
section
variable {P : Program} {w : World} {K : PySem.W.Frag} {mg : Str → Option Value} {g : Str → Addr} {mt : Str → Str → Addr} {base : Heap}
def spSpread : Sp := fun vs H Q _ => ∃ (tl : Addr) (b : Str) (sec : Int) (as : List Addr) (size : Nat) (names : List Str), vs = [.ref tl, .str b, .int sec] ∧ H tl = some (.lst (as.map V.ref)) ∧ (∀ a ∈ as, TieAt names size H a) ∧ as.length ≤ 99999 ∧
  b ∈ names ∧ names.length ≤ 99999 ∧ 0 ≤ sec ∧ sec < size ∧ size ≤ 8 ∧ ∀ (fd rl : Addr) (E : List Str) (kvs : List (Key × V)) (H' : Hp), Same H H' → SI size names fd rl H H' E kvs → (∀ a ∈ as, ∀ one other, TieE H a one other → (one ∈ E ↔ other ∈ E)) → Q (.ref fd) H'
theorem ok_spread (T : Txt w K mg g mt) : GF P w K mg base CX0 2 "spread" spSpread := by
  refine gf0 (F_spread T) (T.glo _ (by decide +kernel)) sc_spread (fun vs H Q E h => ?_) fun cdv A outer s H vs Q E hr h => ?_
  · obtain ⟨tl, b, sec, as, size, names, rfl, _⟩ := h; rfl
  · obtain ⟨tl, b, sec, as, size, names, rfl, ht, ta, az, hb, nz, z0, z1, s8, q⟩ := h
    have nd := sc_spread.nd
    have hu := hu_of hr
    have fL : mg "len" = none := T.free _ (by decide +kernel)
    have U := ok_undone (P := P) (base := base) T
    refine ⟨_, pss_cons (ps_set (i := 3) nd rfl (.inl rfl) (pe_disp (pps_cons (pv 1) (pe_tup (pa_cons (pv 2) (pa_cons (pe_lst pa_nil) pa_nil))) pps_nil) (by rfl) (by rfl) (fun z => by cases z) (by decide)))
      (pss_cons (ps_set (i := 4) nd rfl (.inl rfl) (pe_lst (pa_cons (pv 1) pa_nil)))
      (pss_cons (ps_set (i := 5) nd rfl (.inl rfl) pe_int)
      (pss_cons (ps_while PassesOwn.never (pt_cmpR op_lt (pv 5) (pe_callB call_len_seq (by rfl) fL PySem.boot_len (pa_cons (pv 4) pa_nil)) (nomark _))
        (pss_cons (ps_set (i := 6) nd rfl (.inl rfl) (pe_ix ix_list (pv 4) (pv 5) (fun _ _ => rfl)))
        (pss_cons (ps_asg (pe_dget hu (pv 3) (pv 6) (fun _ _ => rfl)) (pg_tup rfl (pgs_cons (pg_name (i := 7) nd rfl (.inl rfl)) (pgs_cons (pg_name (i := 8) nd rfl (.inl rfl)) pgs_nil))))
        (pss_cons (ps_for PassesOwn.never rfl (pi_list (pv 0)) (pg_tup rfl (pgs_cons (pg_name (i := 9) nd rfl (.inl rfl)) (pgs_cons (pg_name (i := 10) nd rfl (.inl rfl)) (pgs_cons (pg_name (i := 11) nd rfl (.inl rfl)) (pgs_cons (pg_name (i := 12) nd rfl (.inl rfl)) pgs_nil)))))
          (pss_cons (ps_cut (ps_if (PW.pt (pw_and (pt_cmpR op_eq (pv 10) (pv 6) (nomark _)) (pw_and1 (pt_cmp (pc_dnotin hu (pv 11) (pv 3))))))
            (pss_cons (ps_dput hu (pv 3) (pv 11) (pe_tup (pa_cons (pe_ix ix_tup (pv 12) (pv 7) (fun _ _ => rfl)) (pa_cons (pe_op op_cat (pv 8) (pe_lst (pa_cons (pe_tup (pa_cons (pv 9) (pa_cons pe_int pa_nil))) pa_nil))) pa_nil))) rfl)
              (pss_one (ps_expr (pe_bm PySem.F.plainAttrs_list PySem.F.slot_list_append PySem.F.type_list_append mt_append (pv 4) (pa_cons (pv 11) pa_nil))))) pss_nil))
          (pss_one (ps_if (PW.pt (pw_and (pt_cmpR op_eq (pv 11) (pv 6) (nomark _)) (pw_and1 (pt_cmp (pc_dnotin hu (pv 10) (pv 3))))))
            (pss_cons (ps_dput hu (pv 3) (pv 10) (pe_tup (pa_cons (pe_ix ix_tup (pe_gf U hr pass0 (pa_cons (pv 12) pa_nil)) (pv 7) (fun _ _ => rfl)) (pa_cons (pe_op op_cat (pv 8) (pe_lst (pa_cons (pe_tup (pa_cons (pv 9) (pa_cons (pe_un un_neg pe_int) pa_nil))) pa_nil))) pa_nil))) rfl)
              (pss_one (ps_expr (pe_bm PySem.F.plainAttrs_list PySem.F.slot_list_append PySem.F.type_list_append mt_append (pv 4) (pa_cons (pv 10) pa_nil))))) pss_nil))))
        (pss_one (ps_aug (i := 5) nd rfl (.inl rfl) pe_int ip_add))))))
      (pss_one (ps_ret (pv 3)))))), ?_⟩
    refine fun fd hfd => ⟨_, rfl, _, rfl, Nat.zero_le _, fun w0 hw0 => ⟨by show 2 ≤ sizeLine; decide, fun tp htp => ?_⟩⟩
    have s0 := same_new (o := .dK []) hfd
    have h0 : upd H fd (.dK []) fd = some (.dK []) := upd_same
    generalize upd H fd (.dK []) = G0 at s0 h0 hw0 htp ⊢
    have s1 := same_new (o := .lst []) hw0
    have h1 : upd G0 w0 (.lst []) w0 = some (.lst []) := upd_same
    generalize upd G0 w0 (.lst []) = G1 at s1 h1 htp ⊢
    have s2 := same_new (o := .tup [.int sec, .ref w0]) htp
    have h2 : upd G1 tp (.tup [.int sec, .ref w0]) tp = some (.tup [.int sec, .ref w0]) := upd_same
    generalize upd G1 tp (.tup [.int sec, .ref w0]) = G2 at s2 h2 ⊢
    refine ⟨s2 _ _ (s1 _ _ h0), [(.inr b, .ref tp)], rfl, by simp, ?_⟩
    have em : mergeK [] [((Sum.inr b : Key), V.ref tp)] = [(.inr b, .ref tp)] := rfl
    rw [em]
    have f3 : upd G2 fd (.dK [(.inr b, .ref tp)]) fd = some (.dK [(.inr b, .ref tp)]) := upd_same
    have ntf : tp ≠ fd := fun e => by rw [e] at h2; rw [s2 _ _ (s1 _ _ h0)] at h2; cases h2
    have nwf : w0 ≠ fd := fun e => by rw [e] at h1; rw [s1 _ _ h0] at h1; cases h1
    have t3 : upd G2 fd (.dK [(.inr b, .ref tp)]) tp = some (.tup [.int sec, .ref w0]) := by rw [upd_ne ntf]; exact h2
    have w3 : upd G2 fd (.dK [(.inr b, .ref tp)]) w0 = some (.lst []) := by rw [upd_ne nwf]; exact s2 _ _ h1
    have k3 : Same H (upd G2 fd (.dK [(.inr b, .ref tp)])) := same_mut (s0.trans (s1.trans s2)) hfd
    generalize upd G2 fd (.dK [(.inr b, .ref tp)]) = G3 at f3 t3 w3 k3 ⊢
    refine ⟨_, rfl, by show 1 ≤ sizeLine; decide, fun rl hrl => ?_⟩
    have s4 := same_new (o := .lst [.str b]) hrl
    have r4 : upd G3 rl (.lst [.str b]) rl = some (.lst ([b].map V.str)) := upd_same
    generalize upd G3 rl (.lst [.str b]) = G4 at s4 r4 ⊢
    have nfr : fd ≠ rl := ne_of_none f3 hrl
    have nwr : w0 ≠ rl := ne_of_none w3 hrl
    have hrl0 : H rl = none := k3.free hrl
    have one0 : One [b] names := ⟨by simp, fun x hx => by rw [List.mem_singleton.mp hx]; exact hb⟩
    have SI0 : SI size names fd rl H G4 [b] [(.inr b, .ref tp)] := by
      refine ⟨Kept.of_same (k3.trans s4), r4, s4 _ _ f3, Nat.le_refl _, fun x => ?_, fun x v e => ?_, one0⟩
      · by_cases c : x = b
        · subst c; simp [valV]
        · have : ¬ (Sum.inr b : Key) = Sum.inr x := fun z => c (Sum.inr.inj z).symm
          simp [valV, c, Ne.symm c]
      · by_cases c : (Sum.inr b : Key) = Sum.inr x
        · rw [valV_pos c] at e; cases e
          exact ⟨tp, w0, [], sec, rfl, s4 _ _ t3, s4 _ _ w3, nwr, fun x hx => by simp at hx, Nat.zero_le _, z0, z1⟩
        · rw [valV_neg c] at e; cases e
    refine ⟨fun m σ G => ∃ (E : List Str) (at_ : Nat) (kvs : List (Key × V)) (u6 u7 u8 u9 u10 u11 u12 : Option V), σ = [some (.ref tl), some (.str b), some (.int sec), some (.ref fd), some (.ref rl), some (.int (at_ : Nat)), u6, u7, u8, u9, u10, u11, u12] ∧ SI size names fd rl H G E kvs ∧
        at_ ≤ E.length ∧ m = names.length - at_ ∧ ∀ i x, i < at_ → E[i]? = some x → ∀ a ∈ as, ∀ one other, TieE H a one other → (one = x → other ∈ E) ∧ (other = x → one ∈ E),
      ⟨_, [b], 0, _, none, none, none, none, none, none, none, rfl, SI0, Nat.zero_le _, rfl, fun i x hi => absurd hi (Nat.not_lt_zero _)⟩, ?_⟩
    rintro m σ G ⟨E, at_, kvs, u6, u7, u8, u9, u10, u11, u12, rfl, S, hae, rfl, cl⟩
    have EZ := nodup_len S.one.1 S.one.2
    refine ⟨_, rfl, _, rfl, rl, _, rfl, .inl (SqL.of S.hl), _, _, rfl, rfl, _, rfl, ?_⟩
    rw [List.length_map]
    refine iteB (fun c => ?_) (fun c => ?_)
    · have hat : at_ < E.length := by have := eqT c; omega
      have hc : E[at_]? = some E[at_] := List.getElem?_eq_getElem hat
      generalize E[at_] = here at hc
      have hereE : here ∈ E := List.mem_of_getElem? hc
      obtain ⟨v, hv⟩ := isSome_val ((S.kv here).mpr hereE)
      obtain ⟨fa, wl, ws, now, rfl, a1, a2, a3, a4, a5, a6, a7⟩ := S.fo here v hv
      have nwlf : wl ≠ fd := fun e => by rw [e, S.hd] at a2; cases a2
      refine ⟨fun σ' G' => ∃ (E : List Str) (kvs : List (Key × V)) (u6 u7 u8 u9 u10 u11 u12 : Option V), σ' = [some (.ref tl), some (.str b), some (.int sec), some (.ref fd), some (.ref rl), some (.int ((at_ + 1 : Nat) : Int)), u6, u7, u8, u9, u10, u11, u12] ∧ SI size names fd rl H G' E kvs ∧
        at_ + 1 ≤ E.length ∧ ∀ i x, i < at_ + 1 → E[i]? = some x → ∀ a ∈ as, ∀ one other, TieE H a one other → (one = x → other ∈ E) ∧ (other = x → one ∈ E), fun σ' G' ⟨E', kvs', v6, v7, v8, v9, v10, v11, v12, e, S', hl', cl'⟩ => ⟨names.length - (at_ + 1), by omega, E', at_ + 1, kvs', v6, v7, v8, v9, v10, v11, v12, e, S', hl', rfl, cl'⟩, ?_⟩
      refine ⟨_, rfl, _, rfl, rl, _, _, _, rfl, rfl, SqL.of S.hl, ix_at (by omega) (at_map hc), ?_⟩
      refine ⟨_, rfl, _, rfl, fd, _, rfl, hv ▸ DGet.k (k := .inr here) S.hd, fa, _, rfl, SqT.of a1, rfl, _, _, rfl, _, _, rfl, rfl, ?_⟩
      have sG : Same H G := fun c o e => S.kp c o e (by
        have n1 : c ≠ fd := ne_of_none e hfd
        have n2 : c ≠ rl := ne_of_none e hrl0
        simp [n1, n2])
      refine ⟨_, rfl, tl, rfl, ⟨_, SqL.of (sG _ _ ht)⟩, ?_⟩
      -- the ties
      refine for_it (walk_list (K := K) (a := tl) (xs := as.map V.ref)) (fun j σ G' => ∃ (E' : List Str) (kvs' : List (Key × V)) (u9 u10 u11 u12 : Option V), σ = [some (.ref tl), some (.str b), some (.int sec), some (.ref fd), some (.ref rl), some (.int (at_ : Nat)), some (.str here), some (.int now), some (.ref wl), u9, u10, u11, u12] ∧ SI size names fd rl G G' E' kvs' ∧
          (∃ r, E' = E ++ r) ∧ ∀ a ∈ as.take j, ∀ one other, TieE H a one other → (one = here → other ∈ E') ∧ (other = here → one ∈ E'))
        ⟨E, kvs, _, _, _, _, rfl, ⟨Kept.refl _ _, S.hl, S.hd, S.kz, S.kv, S.fo, S.one⟩, ⟨[], by simp⟩, fun a ha => by simp at ha⟩ (fun j σ G' _ p => ?_) ?_ ?_
      · obtain ⟨E', kvs', w9, w10, w11, w12, _, S', _⟩ := p
        have n1 : tl ≠ fd := ne_of_none ht hfd
        have n2 : tl ≠ rl := ne_of_none ht hrl0
        exact SqL.of (S'.kp _ _ (sG _ _ ht) (by simp [n1, n2]))
      · rintro j v σ G2 G3 hj ⟨E', kvs', w9, w10, w11, w12, rfl, S', ⟨r, rfl⟩, cl'⟩ ⟨e3, hv'⟩
        rw [e3]
        obtain ⟨a, ha, rfl⟩ := map_at hv'
        obtain ⟨n, one, other, tt, t, t1, t2, t3, t4, t5⟩ := ta a (List.mem_of_getElem? ha)
        have sG2 : Same H G2 := fun c o e => S'.kp c o (sG c o e) (by
          have n1 : c ≠ fd := ne_of_none e hfd
          have n2 : c ≠ rl := ne_of_none e hrl0
          simp [n1, n2])
        have EZ' := nodup_len S'.one.1 S'.one.2
        have nf : ∀ m ∈ [fd, rl], ∀ xs, G m ≠ some (.tup xs) := fun m hm xs e => by
          rcases List.mem_cons.mp hm with rfl | hm
          · rw [S.hd] at e; cases e
          · rw [List.mem_singleton.mp hm, S.hl] at e; cases e
        have ws2 : ∀ x ∈ ws, StepAt G2 x := fun x hx => (a4 x hx).keep S'.kp nf
        have wl2 : G2 wl = some (.lst ws) := S'.kp _ _ a2 (by simp [nwlf, a3])
        have nowt := t3.get a6 a7
        refine ⟨a, _, rfl, SqT.of (sG2 _ _ t1), rfl, _, _, rfl, _, _, rfl, _, _, rfl, _, _, rfl, rfl, ?_⟩
        refine ⟨fun σ' G' => σ' = [some (.ref tl), some (.str b), some (.int sec), some (.ref fd), some (.ref rl), some (.int (at_ : Nat)), some (.str here), some (.int now), some (.ref wl), some (.int n), some (.str one), some (.str other), some (.ref tt)] ∧
          ∃ (E2 : List Str) (kvs2 : List (Key × V)), SI size names fd rl G G' E2 kvs2 ∧ (∃ r', E2 = E ++ r') ∧ (∀ x ∈ E ++ r, x ∈ E2) ∧ (one = here → other ∈ E2) ∧ E2.length ≤ (E ++ r).length + 1, ?_, ?_⟩
        · have stay : (one = here → other ∈ E ++ r) → _ ∧ ∃ (E2 : List Str) (kvs2 : List (Key × V)), SI size names fd rl G G2 E2 kvs2 ∧ (∃ r', E2 = E ++ r') ∧ (∀ x ∈ E ++ r, x ∈ E2) ∧ (one = here → other ∈ E2) ∧ E2.length ≤ (E ++ r).length + 1 :=
            fun h => ⟨trivial, E ++ r, kvs', S', ⟨r, rfl⟩, fun x hx => hx, h, by omega⟩
          refine ⟨_, rfl, _, rfl, rfl, _, rfl, iteB (fun c1 => ?_) (fun c1 => ⟨rfl, (stay fun e => absurd (by rw [e]) (eqF c1)).2⟩)⟩
          have e1 := vstr (eqT c1)
          refine ⟨_, rfl, _, rfl, fd, _, rfl, DGet.k (k := .inr other) S'.hd, _, rfl, iteB (fun c2 => ?_) (fun c2 => ⟨rfl, (stay fun _ => (S'.kv other).mp (by simpa using c2)).2⟩)⟩
          have nin : other ∉ E ++ r := fun h => by
            have := (S'.kv other).mpr h
            rw [this] at c2; cases c2
          refine ⟨_, rfl, _, rfl, tt, _, _, _, rfl, rfl, SqT.of (sG2 _ _ t2), ix_at a6 (at_map nowt.1), ?_⟩
          refine ⟨_, rfl, _, rfl, by show 2 ≤ sizeLine; decide, fun p1 h1 => ⟨by show 1 ≤ sizeLine; decide, fun p2 h2 => ?_⟩⟩
          refine ⟨wl, p2, _, _, rfl, rfl, (same_new h2) _ _ ((same_new h1) _ _ wl2), upd_same, ?_, fun p3 h3 => ⟨by show 2 ≤ sizeLine; decide, fun p4 h4 => ?_⟩⟩
          · refine small _ ?_
            simp only [List.length_cons, List.length_nil]
            omega
          obtain ⟨nfd, sn⟩ := newFound (size := size) (fd := fd) (rl := rl) (B := (E ++ r).length + 1) S'.hl ws2 (by rw [List.length_append]; omega) nowt.2.1 nowt.2.2 h1 h2 h3 h4
          have S5 := S'.same sn
          generalize upd (upd (upd (upd G2 p1 _) p2 _) p3 _) p4 _ = G5 at nfd sn S5 ⊢
          refine ⟨_, rfl, _, rfl, fd, _, rfl, DPut.k (k := .inr other) S5.hd (smallL (by have := S5.kz; omega)), ?_⟩
          have S6 := S5.add t5 nin nfr nfd
          refine ⟨_, rfl, .inl ⟨rfl, _, SqL.of (by rw [upd_ne (Ne.symm nfr)]; exact S5.hl)⟩, _, rfl, rl, _, _, rfl, rfl, by rw [upd_ne (Ne.symm nfr)]; exact S5.hl, by rw [List.length_map]; exact smallL (by omega), ?_⟩
          exact ⟨rfl, _, _, S6, ⟨r ++ [other], by simp⟩, fun x hx => List.mem_append_left _ hx, fun _ => by simp, by simp only [List.length_append, List.length_cons, List.length_nil]; omega⟩
        · rintro σ' G' ⟨rfl, E2, kvs2, S2, ⟨r2, rfl⟩, sub2, cl2, ez2⟩
          have EZ2 := nodup_len S2.one.1 S2.one.2
          have sG' : Same H G' := fun c o e => S2.kp c o (sG c o e) (by
            have n1 : c ≠ fd := ne_of_none e hfd
            have n2 : c ≠ rl := ne_of_none e hrl0
            simp [n1, n2])
          have ws2 : ∀ x ∈ ws, StepAt G' x := fun x hx => (a4 x hx).keep S2.kp nf
          have wl2 : G' wl = some (.lst ws) := S2.kp _ _ a2 (by simp [nwlf, a3])
          have step : ∀ (G6 : Hp) (E3 : List Str) (kvs3 : List (Key × V)), SI size names fd rl G G6 E3 kvs3 → (∃ r', E3 = E ++ r') → (∀ x ∈ E ++ r2, x ∈ E3) → (other = here → one ∈ E3) → SI size names fd rl G G6 E3 kvs3 ∧ (∃ r', E3 = E ++ r') ∧ ∀ a ∈ as.take (j + 1), ∀ one other, TieE H a one other → (one = here → other ∈ E3) ∧ (other = here → one ∈ E3) := by
            intro G6 E3 kvs3 S3 hr3 sub3 cl3
            refine ⟨S3, hr3, fun a' ha' one' other' te => ?_⟩
            rw [take_snoc ha] at ha'
            rcases List.mem_append.mp ha' with ha' | ha'
            · have q := cl' a' ha' one' other' te
              exact ⟨fun e => sub3 _ (sub2 _ (q.1 e)), fun e => sub3 _ (sub2 _ (q.2 e))⟩
            · rw [List.mem_singleton.mp ha'] at te
              obtain ⟨n', ta', e'⟩ := te
              rw [t1] at e'
              cases e'
              exact ⟨fun e => sub3 _ (cl2 e), cl3⟩
          have stay : (other = here → one ∈ E ++ r2) → _ := fun h => step G' _ _ S2 ⟨r2, rfl⟩ (fun x hx => hx) h
          refine ⟨_, rfl, _, rfl, rfl, _, rfl, iteB (fun c1 => ?_) (fun c1 => ⟨_, _, _, _, _, _, rfl, stay fun e => absurd (by rw [e]) (eqF c1)⟩)⟩
          have e1 := vstr (eqT c1)
          refine ⟨_, rfl, _, rfl, fd, _, rfl, DGet.k (k := .inr one) S2.hd, _, rfl, iteB (fun c2 => ?_) (fun c2 => ⟨_, _, _, _, _, _, rfl, stay fun _ => (S2.kv one).mp (by simpa using c2)⟩)⟩
          have nin : one ∉ E ++ r2 := fun h => by
            have := (S2.kv one).mpr h
            rw [this] at c2; cases c2
          have fu := fit_undone t3
          have nowu := fu.get a6 a7
          refine ⟨_, rfl, tt, size, t, rfl, by omega, t3, sG' _ _ t2, fun uq H7 hu7 s7 h7 => ⟨_, rfl, uq, _, _, _, rfl, rfl, SqT.of h7, ix_at a6 (at_map nowu.1), ?_⟩⟩
          have S7 := S2.same s7
          have ws7 : ∀ x ∈ ws, StepAt H7 x := fun x hx => (ws2 x hx).same s7
          refine ⟨_, rfl, _, rfl, _, rfl, by show 2 ≤ sizeLine; decide, fun p1 h1 => ⟨by show 1 ≤ sizeLine; decide, fun p2 h2 => ?_⟩⟩
          refine ⟨wl, p2, _, _, rfl, rfl, (same_new h2) _ _ ((same_new h1) _ _ (s7 _ _ wl2)), upd_same, ?_, fun p3 h3 => ⟨by show 2 ≤ sizeLine; decide, fun p4 h4 => ?_⟩⟩
          · refine small _ ?_
            simp only [List.length_cons, List.length_nil]
            omega
          obtain ⟨nfd, sn⟩ := newFound (size := size) (fd := fd) (rl := rl) (B := (E ++ r2).length + 1) S7.hl ws7 (by rw [List.length_append]; omega) nowu.2.1 nowu.2.2 h1 h2 h3 h4
          have S5 := S7.same sn
          generalize upd (upd (upd (upd H7 p1 _) p2 _) p3 _) p4 _ = G5 at nfd sn S5 ⊢
          refine ⟨_, rfl, _, rfl, fd, _, rfl, DPut.k (k := .inr one) S5.hd (smallL (by have := S5.kz; omega)), ?_⟩
          have S6 := S5.add t4 nin nfr nfd
          refine ⟨_, rfl, .inl ⟨rfl, _, SqL.of (by rw [upd_ne (Ne.symm nfr)]; exact S5.hl)⟩, _, rfl, rl, _, _, rfl, rfl, by rw [upd_ne (Ne.symm nfr)]; exact S5.hl, by rw [List.length_map]; exact smallL (by omega), ?_⟩
          exact ⟨_, _, _, _, _, _, rfl, step _ _ _ S6 ⟨r2 ++ [one], by simp⟩ (fun x hx => List.mem_append_left _ hx) (fun _ => by simp)⟩
      · rintro σ G2 ⟨E', kvs', w9, w10, w11, w12, rfl, S', ⟨r, rfl⟩, cl'⟩
        rw [List.length_map, List.take_length] at cl'
        have S2 : SI size names fd rl H G2 (E ++ r) kvs' := ⟨S.kp.trans S'.kp, S'.hl, S'.hd, S'.kz, S'.kv, S'.fo, S'.one⟩
        refine ⟨_, rfl, _, _, rfl, rfl, E ++ r, kvs', _, _, _, _, _, _, _, rfl, S2, by rw [List.length_append]; omega, fun i x hi hx a ha one other te => ?_⟩
        have hil : i < E.length := by omega
        rw [List.getElem?_append_left hil] at hx
        rcases Nat.lt_succ_iff_lt_or_eq.mp hi with hi | rfl
        · have q := cl i x hi hx a ha one other te
          exact ⟨fun e => List.mem_append_left _ (q.1 e), fun e => List.mem_append_left _ (q.2 e)⟩
        · rw [hc] at hx; cases hx
          exact cl' a ha one other te
    · have hge := eqF c
      refine ⟨_, rfl, q fd rl E kvs G ?_ S fun a ha one other te => ?_⟩
      · exact fun c o e => S.kp c o e (by
          have n1 : c ≠ fd := ne_of_none e hfd
          have n2 : c ≠ rl := ne_of_none e hrl0
          simp [n1, n2])
      · have go : ∀ x ∈ E, (one = x → other ∈ E) ∧ (other = x → one ∈ E) := fun x hx => by
          obtain ⟨i, hi, e⟩ := List.getElem_of_mem hx
          exact cl i x (by omega) (by rw [← e]; exact List.getElem?_eq_getElem hi) a ha one other te
        exact ⟨fun h => (go one h).1 rfl, fun h => (go other h).2 rfl⟩
end
end Kin
set_option maxHeartbeats 4000000
/-! K22: fault, barring. -/
namespace Kin
open PySem L2
section
variable {P : Program} {w : World} {K : PySem.W.Frag} {mg : Str → Option Value} {g : Str → Addr} {mt : Str → Str → Addr} {base : Heap}
def spFault : Sp := fun vs H Q _ => ∃ (tl sl : Addr) (b : Str) (sec : Int) (as bs : List Addr) (size : Nat) (names : List Str), vs = [.ref tl, .ref sl, .str b, .int sec] ∧ H tl = some (.lst (as.map V.ref)) ∧ (∀ a ∈ as, TieAt names size H a) ∧ as.length ≤ 99999 ∧
  H sl = some (.lst (bs.map V.ref)) ∧ (∀ a ∈ bs, SayAt names size H a) ∧ b ∈ names ∧ names.length ≤ 99999 ∧ 0 ≤ sec ∧ sec < size ∧ size ≤ 8 ∧ ∀ v H', Same H H' → Q v H'
theorem ok_fault (T : Txt w K mg g mt) : GF P w K mg base CX0 3 "fault" spFault := by
  refine gf0 (F_fault T) (T.glo _ (by decide +kernel)) sc_fault (fun vs H Q E h => ?_) fun cdv A outer s H vs Q E hr h => ?_
  · obtain ⟨tl, sl, b, sec, as, bs, size, names, rfl, _⟩ := h; rfl
  · obtain ⟨tl, sl, b, sec, as, bs, size, names, rfl, ht, ta, az, hs, sa, hb, nz, z0, z1, s8, q⟩ := h
    have nd := sc_fault.nd
    have hu := hu_of hr
    have fl : mg "list" = none := T.free _ (by decide +kernel)
    have Sp := ok_spread (P := P) (base := base) T
    have Tw := ok_turned_walk (P := P) (base := base) T
    refine ⟨_, pss_cons (ps_set (i := 4) nd rfl (.inl rfl) (pe_gf Sp hr pass0 (pa_cons (pv 0) (pa_cons (pv 2) (pa_cons (pv 3) pa_nil)))))
      (pss_cons (ps_for PassesOwn.never rfl (pi_list (pv 1)) (pg_tup rfl (pgs_cons (pg_name (i := 5) nd rfl (.inl rfl)) (pgs_cons (pg_name (i := 6) nd rfl (.inl rfl)) (pgs_cons (pg_name (i := 7) nd rfl (.inl rfl)) pgs_nil))))
        (pss_one (ps_if (PW.pt (pw_and (pt_cmp (pc_din hu (pv 6) (pv 4))) (pw_and1 (pt_cmpR op_ne (pe_ix ix_tup (pe_dget hu (pv 4) (pv 6) (fun _ _ => rfl)) pe_int (fun _ _ => rfl)) (pv 7) (nomark _)))))
          (pss_one (ps_ret (pe_tup (pa_cons (pe_callTy call_list_of (by rfl) fl PyProof.Rows.boot_list (pa_cons (pe_ix ix_tup (pe_dget hu (pv 4) (pv 6) (fun _ _ => rfl)) pe_int (fun _ _ => rfl)) pa_nil)) (pa_cons (pv 5) pa_nil))))) pss_nil)))
      (pss_cons (ps_for PassesOwn.never rfl (pi_list (pv 0)) (pg_tup rfl (pgs_cons (pg_name (i := 5) nd rfl (.inl rfl)) (pgs_cons (pg_name (i := 6) nd rfl (.inl rfl)) (pgs_cons (pg_name (i := 8) nd rfl (.inl rfl)) (pgs_cons (pg_name (i := 9) nd rfl (.inl rfl)) pgs_nil)))))
        (pss_one (ps_if (pt_cmp (pc_din hu (pv 6) (pv 4)))
          (pss_cons (ps_asg (pe_dget hu (pv 4) (pv 6) (fun _ _ => rfl)) (pg_tup rfl (pgs_cons (pg_name (i := 10) nd rfl (.inl rfl)) (pgs_cons (pg_name (i := 11) nd rfl (.inl rfl)) pgs_nil))))
          (pss_cons (ps_asg (pe_dget hu (pv 4) (pv 8) (fun _ _ => rfl)) (pg_tup rfl (pgs_cons (pg_name (i := 12) nd rfl (.inl rfl)) (pgs_cons (pg_name (i := 13) nd rfl (.inl rfl)) pgs_nil))))
          (pss_one (ps_if (pt_cmpR op_ne (pe_ix ix_tup (pv 9) (pv 10) (fun _ _ => rfl)) (pv 12) (nomark _))
            (pss_one (ps_ret (pe_tup (pa_cons (pe_op op_cat (pe_op op_cat (pv 11) (pe_lst (pa_cons (pe_tup (pa_cons (pv 5) (pa_cons pe_int pa_nil))) pa_nil))) (pe_gf Tw hr pass0 (pa_cons (pv 13) pa_nil))) (pa_cons pe_non pa_nil))))) pss_nil)))) pss_nil)))
      (pss_one (ps_ret pe_non)))), ?_⟩
    refine ⟨_, rfl, _, rfl, _, rfl, tl, b, sec, as, size, names, rfl, ht, ta, az, hb, nz, z0, z1, s8, fun fd rl E kvs G sG S cl => ?_⟩
    have EZ := nodup_len S.one.1 S.one.2
    refine ⟨_, rfl, sl, rfl, ⟨_, SqL.of (sG _ _ hs)⟩, ?_⟩
    refine for_it (walk_list (K := K) (a := sl) (xs := bs.map V.ref)) (fun j σ G' => G' = G ∧ ∃ (u5 u6 u7 : Option V), σ = [some (.ref tl), some (.ref sl), some (.str b), some (.int sec), some (.ref fd), u5, u6, u7, none, none, none, none, none, none]) ⟨rfl, none, none, none, rfl⟩ (fun j σ G' _ p => by rw [p.1]; exact SqL.of (sG _ _ hs)) ?_ ?_
    · rintro j v σ G2 G3 hj ⟨rfl, u5, u6, u7, rfl⟩ ⟨e3, hv⟩
      rw [e3]
      obtain ⟨a, ha, rfl⟩ := map_at hv
      obtain ⟨n, one, sd, t1⟩ := sa a (List.mem_of_getElem? ha)
      refine ⟨a, _, rfl, SqT.of (sG _ _ t1), rfl, _, _, rfl, _, _, rfl, _, _, rfl, rfl, ?_⟩
      refine ⟨_, rfl, _, rfl, fd, _, rfl, DGet.k (k := .inr one) S.hd, _, rfl, iteB (fun c1 => ?_) (fun c1 => ⟨rfl, _, _, _, rfl⟩)⟩
      obtain ⟨v, hv⟩ := isSome_val c1
      obtain ⟨fa, wl, ws, now, rfl, a1, a2, a3, a4, a5, a6, a7⟩ := S.fo one v hv
      refine ⟨_, rfl, _, rfl, fd, _, rfl, hv ▸ DGet.k (k := .inr one) S.hd, fa, _, _, _, rfl, rfl, SqT.of a1, ix_at (z := 0) (by omega) (v := .int now) rfl, _, rfl, rfl, _, rfl, iteB (fun c2 => ?_) (fun c2 => ⟨rfl, _, _, _, rfl⟩)⟩
      refine ⟨_, rfl, _, rfl, fd, _, rfl, hv ▸ DGet.k (k := .inr one) S.hd, fa, _, _, _, rfl, rfl, SqT.of a1, ix_at (z := 1) (by omega) (v := .ref wl) rfl, wl, _, rfl, .inl (SqL.of a2), fun l hl => ⟨_, rfl, by show 2 ≤ sizeLine; decide, fun tp htp => q _ _ (sG.trans ((same_new hl).trans (same_new htp)))⟩⟩
    · rintro σ G2 ⟨rfl, u5, u6, u7, rfl⟩
      refine ⟨_, rfl, tl, rfl, ⟨_, SqL.of (sG _ _ ht)⟩, ?_⟩
      refine for_it (walk_list (K := K) (a := tl) (xs := as.map V.ref)) (fun j σ G' => G' = G2 ∧ ∃ (u5 u6 u7 u8 u9 u10 u11 u12 u13 : Option V), σ = [some (.ref tl), some (.ref sl), some (.str b), some (.int sec), some (.ref fd), u5, u6, u7, u8, u9, u10, u11, u12, u13]) ⟨rfl, _, _, _, _, _, _, _, _, _, rfl⟩ (fun j σ G' _ p => by rw [p.1]; exact SqL.of (sG _ _ ht)) ?_ ?_
      · rintro j v σ G3 G4 hj ⟨rfl, u5, u6, u7, u8, u9, u10, u11, u12, u13, rfl⟩ ⟨e3, hv⟩
        rw [e3]
        obtain ⟨a, ha, rfl⟩ := map_at hv
        have am := List.mem_of_getElem? ha
        obtain ⟨n, one, other, tt, t, t1, t2, t3, t4, t5⟩ := ta a am
        refine ⟨a, _, rfl, SqT.of (sG _ _ t1), rfl, _, _, rfl, _, _, rfl, _, _, rfl, _, _, rfl, rfl, ?_⟩
        refine ⟨_, rfl, _, rfl, fd, _, rfl, DGet.k (k := .inr one) S.hd, _, rfl, iteB (fun c1 => ?_) (fun c1 => ⟨rfl, _, _, _, _, _, _, _, _, _, rfl⟩)⟩
        have oE : one ∈ E := (S.kv one).mp c1
        have o2 := (cl a am one other ⟨n, tt, t1⟩).mp oE
        obtain ⟨v, hv⟩ := isSome_val c1
        obtain ⟨v2, hv2⟩ := isSome_val ((S.kv other).mpr o2)
        obtain ⟨fa, wl, ws, now, rfl, a1, a2, a3, a4, a5, a6, a7⟩ := S.fo one v hv
        obtain ⟨fb, vl, vs, to, rfl, b1, b2, b3, b4, b5, b6, b7⟩ := S.fo other v2 hv2
        refine ⟨_, rfl, _, rfl, fd, _, rfl, hv ▸ DGet.k (k := .inr one) S.hd, fa, _, rfl, SqT.of a1, rfl, _, _, rfl, _, _, rfl, rfl, ?_⟩
        refine ⟨_, rfl, _, rfl, fd, _, rfl, hv2 ▸ DGet.k (k := .inr other) S.hd, fb, _, rfl, SqT.of b1, rfl, _, _, rfl, _, _, rfl, rfl, ?_⟩
        refine ⟨_, rfl, _, rfl, tt, _, _, _, rfl, rfl, SqT.of (sG _ _ t2), ix_at a6 (at_map (t3.get a6 a7).1), _, rfl, rfl, _, rfl, iteB (fun c2 => ?_) (fun c2 => ⟨rfl, _, _, _, _, _, _, _, _, _, rfl⟩)⟩
        refine ⟨_, rfl, _, rfl, by show 2 ≤ sizeLine; decide, fun p1 h1 => ⟨by show 1 ≤ sizeLine; decide, fun p2 h2 => ?_⟩⟩
        have k1 := same_new (o := .tup [.int n, .int 1]) h1
        have k2 := same_new (o := .lst [.ref p1]) h2
        have e2 : upd (upd G3 p1 (.tup [.int n, .int 1])) p2 (.lst [.ref p1]) p2 = some (.lst [.ref p1]) := upd_same
        generalize upd (upd G3 p1 (.tup [.int n, .int 1])) p2 (.lst [.ref p1]) = G5 at k2 e2 ⊢
        have k3 := k1.trans k2
        refine ⟨wl, p2, _, _, rfl, rfl, k3 _ _ a2, e2, small _ (by simp only [List.length_cons, List.length_nil]; omega), fun p3 h3 => ?_⟩
        have k4 := same_new (o := .lst (ws ++ [.ref p1])) h3
        have e4 : upd G5 p3 (.lst (ws ++ [.ref p1])) p3 = some (.lst (ws ++ [.ref p1])) := upd_same
        generalize upd G5 p3 (.lst (ws ++ [.ref p1])) = G6 at k4 e4 ⊢
        have k5 := k3.trans k4
        refine ⟨_, rfl, vl, vs, rfl, k5 _ _ b2, fun x hx => (b4 x hx).same k5, by omega, fun p5 ws5 G7 s7 h7 z7 => ?_⟩
        refine ⟨p3, p5, _, _, rfl, rfl, s7 _ _ e4, h7, Nat.le_trans (show _ ≤ 300000 by rw [List.length_append]; simp only [List.length_cons, List.length_nil]; omega) (by decide), fun p6 h6 => ⟨by show 2 ≤ sizeLine; decide, fun p8 h8 => q _ _ (sG.trans (k5.trans (s7.trans ((same_new h6).trans (same_new h8)))))⟩⟩
      · rintro σ G3 ⟨rfl, u5, u6, u7, u8, u9, u10, u11, u12, u13, rfl⟩
        exact q _ _ sG

def spBarring (g : Str → Addr) : Sp := fun vs H Q _ => ∃ (lo k : Addr) (b : Str) (L : LS) (rows : List (Int × Fact)) (names : List Str), vs = [.ref lo, .ref k, .str b] ∧ LA g H lo L ∧ LOk L ∧ Rows H k L.size names rows ∧ b ∈ names ∧ names.length ≤ 99999 ∧ ∀ v H', Same H H' → Q v H'
theorem ok_barring (T : Txt w K mg g mt) : GF P w K mg base CX0 4 "barring" (spBarring g) := by
  refine gf0 (F_barring T) (T.glo _ (by decide +kernel)) sc_barring (fun vs H Q E h => ?_) fun cdv A outer s H vs Q E hr h => ?_
  · obtain ⟨lo, k, b, L, rows, names, rfl, _⟩ := h; rfl
  · obtain ⟨lo, k, b, L, rows, names, rfl, la, lok, R, hb, nz, q⟩ := h
    have nd := sc_barring.nd
    have fR : mg "range" = none := T.free _ (by decide +kernel)
    have To := ok_ties_of (P := P) (base := base) T
    have So := ok_sayings_of (P := P) (base := base) T
    have Fa := ok_fault (P := P) (base := base) T
    refine ⟨_, pss_cons (ps_set (i := 3) nd rfl (by first | exact .inl rfl | exact .inr rfl) (pe_gf To hr pass0 (pa_cons (pv 0) (pa_cons (pv 1) pa_nil))))
      (pss_cons (ps_set (i := 4) nd rfl (by first | exact .inl rfl | exact .inr rfl) (pe_gf So hr pass0 (pa_cons (pv 1) pa_nil)))
      (pss_one (ps_ret (pe_lc (own := [("section", 5)]) (g := gName 5) (tt := _) rfl nd (pi_range1 rfl fR (pa_cons (pe_sf 0) pa_nil)) (blkOk_by (N := ["land", "kept", "person", "ties", "sayings", "section"]) (sc := defScope s_barring) (by decide +kernel))
        (fun _ _ _ _ _ => pg_name (i := 5) nd rfl (Or.inl rfl)) (fun _ _ _ _ _ => pts_nil)
        (fun _ _ _ _ _ => pe_gf (E := E0) Fa hr pass0 (pa_cons (pv 3) (pa_cons (pv 4) (pa_cons (pv 2) (pa_cons (pv 5) pa_nil))))))))), ?_⟩
    refine ⟨_, rfl, _, rfl, lo, k, L, rows, names, rfl, la, lok, R, fun p as G s1 hp e1 ta az => ?_⟩
    refine ⟨_, rfl, k, L.size, rows, names, rfl, R.same s1, fun p2 bs G2 s2 hp2 e2 sa bz => ?_⟩
    have s12 := s1.trans s2
    obtain ⟨dx, m, f, wi, l1, l2, l3, l4⟩ := (la.same s12).ex
    refine ⟨_, _, rfl, hasL T l1 (x := "size") (by decide +kernel) (lF_size ..), _, rfl, by have := lok.s8; omega, by have := lok.s8; omega, fun D hD => ?_⟩
    refine lc_it (walk_r0 (n := L.size)) (fun i G3 => Same G2 G3 ∧ ∃ xs : List V, G3 D = some (.lst xs) ∧ xs.length ≤ i) ⟨same_new hD, [], upd_same, Nat.le_refl _⟩ (fun _ _ _ _ => trivial) ?_ ?_
    · rintro i v G3 G4 hi ⟨s3, xs, h3, z3⟩ ⟨e4, rfl⟩
      rw [e4]
      refine ⟨rfl, yesT ?_⟩
      have lz := lok.s8
      refine ⟨_, rfl, _, rfl, _, rfl, _, rfl, p, p2, b, (i : Int), as, bs, L.size, names, rfl, s3 _ _ (s2 _ _ e1), fun a ha => (ta a ha).keep (Kept.of_same (M := []) (s2.trans s3)) (fun m hm => by simp at hm), az, s3 _ _ e2,
        fun a ha => (sa a ha).keep (Kept.of_same (M := []) s3) (fun m hm => by simp at hm), hb, nz, by omega, by omega, by omega, fun v G5 s5 => ?_⟩
      exact ⟨xs, s5 _ _ h3, smallL (by omega), same_mut (s3.trans s5) hD, xs ++ [v], upd_same, by simp; omega⟩
    · rintro G3 ⟨s3, xs, h3, z3⟩
      exact q _ _ (s12.trans s3)
end
end Kin
set_option maxHeartbeats 4000000
/-! K23: a book on its way through a method (printed by gen_now.py). -/
namespace Kin
open PySem L2
theorem nd_set {q : Addr} : ∀ {l : List Addr} (_ : l.Nodup) (_ : q ∉ l) (i : Nat), (l.set i q).Nodup
  | [], nd, _, _ => nd
  | x :: r, nd, h, 0 => by
    obtain ⟨h1, h2⟩ := List.nodup_cons.mp nd
    exact List.nodup_cons.mpr ⟨fun c => h (List.mem_cons_of_mem _ c), h2⟩
  | x :: r, nd, h, i + 1 => by
    obtain ⟨h1, h2⟩ := List.nodup_cons.mp nd
    refine List.nodup_cons.mpr ⟨fun c => ?_, nd_set h2 (fun c => h (List.mem_cons_of_mem _ c)) i⟩
    rcases List.mem_or_eq_of_mem_set c with c | c
    · exact h1 c
    · exact h (by rw [c]; exact List.mem_cons_self ..)
/-- from Z, H and the book at m to Z', H' and h' at m' -/
structure Now (g : Str → Addr) (Z H : Hp) (m : HM) (Z' H' : Hp) (m' : HM) (h' : HS) : Prop where
  ha : HA g Z' H' m' h'
  st : Step Z H m.l Z' H'
  mp : m'.p = m.p
  mv : ∀ x ∈ m'.l, x ∈ m.l ∨ H x = none
section
variable {g : Str → Addr} {Z H Z' H' Z2 H2 : Hp} {m m' m2 : HM} {h h' h2 : HS}
theorem Now.refl (a : HA g Z H m h) : Now g Z H m Z H m h := ⟨a, Step.refl _ _ _, rfl, fun x hx => .inl hx⟩
theorem Now.same (n : Now g Z H m Z' H' m' h') (k : Same H' H2) : Now g Z H m Z' H2 m' h' := ⟨n.ha.same k, n.st.same k, n.mp, n.mv⟩
theorem Now.trans (n : Now g Z H m Z' H' m' h') (o : Now g Z' H' m' Z2 H2 m2 h2) : Now g Z H m Z2 H2 m2 h2 :=
  ⟨o.ha, n.st.trans' o.st n.mv, o.mp.trans n.mp, fun x hx => by
    rcases o.mv x hx with q | q
    · exact n.mv x q
    · exact .inr (n.st.lv x q)⟩
theorem Now.free (n : Now g Z H m Z' H' m' h') {q : Addr} (hq : H' q = none) : q ∉ m'.l ∧ Z' q = none ∧ H q = none :=
  ⟨n.ha.live.ne hq, n.ha.zs.free hq, n.st.lv q hq⟩
/-- freshly made ones frozen -/
theorem Now.freezeL (n : Now g Z H m Z' H' m' h') {l : List Addr} (hz : ∀ b ∈ l, Z' b = none) (hm : ∀ b ∈ l, b ∉ m'.l) (h0 : ∀ b ∈ l, H b = none) : Now g Z H m (frz Z' H' l) H' m' h' :=
  ⟨n.ha.freezeL hz hm, n.st.freezeL h0 hz, n.mp, n.mv⟩
theorem Now.setJ (n : Now g Z H m Z' H' m' h') {J : JS} (st : Step Z' H' m'.j Z2 H2) (j : JA g Z2 H2 m'.jo m'.a1 m'.a2 m'.a3 m'.a4 J) : Now g Z H m Z2 H2 m' ⟨h'.land, h'.st, h'.place, J, h'.past, h'.ahead⟩ :=
  ⟨n.ha.setJ st j, n.st.trans' (st.mono HM.j_sub) n.mv, n.mp, n.mv⟩
theorem Now.set_nl (n : Now g Z H m Z' H' m' h') (ns : List Str) : Now g Z H m Z' (upd H' m'.nl (.lst (ns.map V.str))) m' ⟨h'.land, ⟨ns, h'.st.side, h'.st.facts, h'.st.after⟩, h'.place, h'.joins, h'.past, h'.ahead⟩ :=
  ⟨n.ha.set_nl ns, n.st.upd' (n.mv _ (List.mem_of_getElem? (i := 1) rfl)), n.mp, n.mv⟩
theorem Now.set_sd (n : Now g Z H m Z' H' m' h') (d : List (Key × V)) : Now g Z H m Z' (upd H' m'.sd (.dK d)) m' ⟨h'.land, ⟨h'.st.names, d, h'.st.facts, h'.st.after⟩, h'.place, h'.joins, h'.past, h'.ahead⟩ :=
  ⟨n.ha.set_sd d, n.st.upd' (n.mv _ (List.mem_of_getElem? (i := 2) rfl)), n.mp, n.mv⟩
theorem Now.set_fd (n : Now g Z H m Z' H' m' h') {fs : List (Key × V)} {qs : List (Int × Fact)} (f : FA Z' fs qs) : Now g Z H m Z' (upd H' m'.fd (.dK fs)) m' ⟨h'.land, ⟨h'.st.names, h'.st.side, qs, h'.st.after⟩, h'.place, h'.joins, h'.past, h'.ahead⟩ :=
  ⟨n.ha.set_fd f, n.st.upd' (n.mv _ (List.mem_of_getElem? (i := 3) rfl)), n.mp, n.mv⟩
theorem Now.set_pd (n : Now g Z H m Z' H' m' h') (d : List (Key × V)) : Now g Z H m Z' (upd H' m'.pd (.dK d)) m' ⟨h'.land, h'.st, d, h'.joins, h'.past, h'.ahead⟩ :=
  ⟨n.ha.set_pd d, n.st.upd' (n.mv _ (List.mem_of_getElem? (i := 4) rfl)), n.mp, n.mv⟩
theorem Now.set_pa (n : Now g Z H m Z' H' m' h') {as : List Addr} {bs : List BS} (f : EachR (StA Z') as bs) : Now g Z H m Z' (upd H' m'.pa (.lst (as.map V.ref))) m' ⟨h'.land, h'.st, h'.place, h'.joins, bs, h'.ahead⟩ :=
  ⟨n.ha.set_pa f, n.st.upd' (n.mv _ (List.mem_of_getElem? (i := 5) rfl)), n.mp, n.mv⟩
theorem Now.set_ah (n : Now g Z H m Z' H' m' h') {as : List Addr} {bs : List BS} (f : EachR (StA Z') as bs) : Now g Z H m Z' (upd H' m'.ah (.lst (as.map V.ref))) m' ⟨h'.land, h'.st, h'.place, h'.joins, h'.past, bs⟩ :=
  ⟨n.ha.set_ah f, n.st.upd' (n.mv _ (List.mem_of_getElem? (i := 6) rfl)), n.mp, n.mv⟩
/-- self.names = a new one -/
theorem Now.put_names (n : Now g Z H m Z' H' m' h') {q : Addr} (ns : List Str) (e : H' q = some (.lst (ns.map V.str))) (hq : q ∉ m'.l) (hz : Z' q = none) (h0 : H q = none) :
    ∃ dx fs', H' m'.p = some (.ins (g "Hearth") dx fs') ∧ fs'.length < 1000 ∧ Now g Z H m Z' (upd H' m'.p (.ins (g "Hearth") dx (putF "names" (.ref q) fs'))) ⟨m'.p, q, m'.sd, m'.fd, m'.pd, m'.pa, m'.ah, m'.jo, m'.a1, m'.a2, m'.a3, m'.a4⟩ ⟨h'.land, ⟨ns, h'.st.side, h'.st.facts, h'.st.after⟩, h'.place, h'.joins, h'.past, h'.ahead⟩ := by
  have a := n.ha
  obtain ⟨dx, lo, ob, la⟩ := a.ob
  refine ⟨dx, _, ob, by show 9 < 1000; decide, ?_⟩
  rw [hP_names]
  have el : HM.l ⟨m'.p, q, m'.sd, m'.fd, m'.pd, m'.pa, m'.ah, m'.jo, m'.a1, m'.a2, m'.a3, m'.a4⟩ = m'.l.set 1 q := rfl
  refine ⟨a.reob (m' := ⟨m'.p, q, m'.sd, m'.fd, m'.pd, m'.pa, m'.ah, m'.jo, m'.a1, m'.a2, m'.a3, m'.a4⟩) (h' := ⟨h'.land, ⟨ns, h'.st.side, h'.st.facts, h'.st.after⟩, h'.place, h'.joins, h'.past, h'.ahead⟩) rfl ?_ ?_ ⟨e, a.c.sd, a.c.fd, a.c.pd, a.c.pa, a.c.ah, a.c.jo⟩ la, n.st.upd' (n.mv _ (List.mem_of_getElem? (i := 0) rfl)), n.mp, fun x hx => ?_⟩
  · rw [el]; exact nd_set a.nd hq 1
  · rw [el]; exact fun x hx => (List.mem_or_eq_of_mem_set hx).elim (a.off x) fun c => by rw [c]; exact hz
  · rw [el] at hx
    rcases List.mem_or_eq_of_mem_set hx with c | c
    · exact n.mv x c
    · exact .inr (by rw [c]; exact h0)
/-- self.side = a new one -/
theorem Now.put_side (n : Now g Z H m Z' H' m' h') {q : Addr} (d : List (Key × V)) (e : H' q = some (.dK d)) (hq : q ∉ m'.l) (hz : Z' q = none) (h0 : H q = none) :
    ∃ dx fs', H' m'.p = some (.ins (g "Hearth") dx fs') ∧ fs'.length < 1000 ∧ Now g Z H m Z' (upd H' m'.p (.ins (g "Hearth") dx (putF "side" (.ref q) fs'))) ⟨m'.p, m'.nl, q, m'.fd, m'.pd, m'.pa, m'.ah, m'.jo, m'.a1, m'.a2, m'.a3, m'.a4⟩ ⟨h'.land, ⟨h'.st.names, d, h'.st.facts, h'.st.after⟩, h'.place, h'.joins, h'.past, h'.ahead⟩ := by
  have a := n.ha
  obtain ⟨dx, lo, ob, la⟩ := a.ob
  refine ⟨dx, _, ob, by show 9 < 1000; decide, ?_⟩
  rw [hP_side]
  have el : HM.l ⟨m'.p, m'.nl, q, m'.fd, m'.pd, m'.pa, m'.ah, m'.jo, m'.a1, m'.a2, m'.a3, m'.a4⟩ = m'.l.set 2 q := rfl
  refine ⟨a.reob (m' := ⟨m'.p, m'.nl, q, m'.fd, m'.pd, m'.pa, m'.ah, m'.jo, m'.a1, m'.a2, m'.a3, m'.a4⟩) (h' := ⟨h'.land, ⟨h'.st.names, d, h'.st.facts, h'.st.after⟩, h'.place, h'.joins, h'.past, h'.ahead⟩) rfl ?_ ?_ ⟨a.c.nl, e, a.c.fd, a.c.pd, a.c.pa, a.c.ah, a.c.jo⟩ la, n.st.upd' (n.mv _ (List.mem_of_getElem? (i := 0) rfl)), n.mp, fun x hx => ?_⟩
  · rw [el]; exact nd_set a.nd hq 2
  · rw [el]; exact fun x hx => (List.mem_or_eq_of_mem_set hx).elim (a.off x) fun c => by rw [c]; exact hz
  · rw [el] at hx
    rcases List.mem_or_eq_of_mem_set hx with c | c
    · exact n.mv x c
    · exact .inr (by rw [c]; exact h0)
/-- self.facts = a new one -/
theorem Now.put_facts (n : Now g Z H m Z' H' m' h') {q : Addr} {fs : List (Key × V)} {qs : List (Int × Fact)} (f : FA Z' fs qs) (e : H' q = some (.dK fs)) (hq : q ∉ m'.l) (hz : Z' q = none) (h0 : H q = none) :
    ∃ dx fs', H' m'.p = some (.ins (g "Hearth") dx fs') ∧ fs'.length < 1000 ∧ Now g Z H m Z' (upd H' m'.p (.ins (g "Hearth") dx (putF "facts" (.ref q) fs'))) ⟨m'.p, m'.nl, m'.sd, q, m'.pd, m'.pa, m'.ah, m'.jo, m'.a1, m'.a2, m'.a3, m'.a4⟩ ⟨h'.land, ⟨h'.st.names, h'.st.side, qs, h'.st.after⟩, h'.place, h'.joins, h'.past, h'.ahead⟩ := by
  have a := n.ha
  obtain ⟨dx, lo, ob, la⟩ := a.ob
  refine ⟨dx, _, ob, by show 9 < 1000; decide, ?_⟩
  rw [hP_facts]
  have el : HM.l ⟨m'.p, m'.nl, m'.sd, q, m'.pd, m'.pa, m'.ah, m'.jo, m'.a1, m'.a2, m'.a3, m'.a4⟩ = m'.l.set 3 q := rfl
  refine ⟨a.reob (m' := ⟨m'.p, m'.nl, m'.sd, q, m'.pd, m'.pa, m'.ah, m'.jo, m'.a1, m'.a2, m'.a3, m'.a4⟩) (h' := ⟨h'.land, ⟨h'.st.names, h'.st.side, qs, h'.st.after⟩, h'.place, h'.joins, h'.past, h'.ahead⟩) rfl ?_ ?_ ⟨a.c.nl, a.c.sd, ⟨fs, e, f⟩, a.c.pd, a.c.pa, a.c.ah, a.c.jo⟩ la, n.st.upd' (n.mv _ (List.mem_of_getElem? (i := 0) rfl)), n.mp, fun x hx => ?_⟩
  · rw [el]; exact nd_set a.nd hq 3
  · rw [el]; exact fun x hx => (List.mem_or_eq_of_mem_set hx).elim (a.off x) fun c => by rw [c]; exact hz
  · rw [el] at hx
    rcases List.mem_or_eq_of_mem_set hx with c | c
    · exact n.mv x c
    · exact .inr (by rw [c]; exact h0)
/-- self.place = a new one -/
theorem Now.put_place (n : Now g Z H m Z' H' m' h') {q : Addr} (d : List (Key × V)) (e : H' q = some (.dK d)) (hq : q ∉ m'.l) (hz : Z' q = none) (h0 : H q = none) :
    ∃ dx fs', H' m'.p = some (.ins (g "Hearth") dx fs') ∧ fs'.length < 1000 ∧ Now g Z H m Z' (upd H' m'.p (.ins (g "Hearth") dx (putF "place" (.ref q) fs'))) ⟨m'.p, m'.nl, m'.sd, m'.fd, q, m'.pa, m'.ah, m'.jo, m'.a1, m'.a2, m'.a3, m'.a4⟩ ⟨h'.land, h'.st, d, h'.joins, h'.past, h'.ahead⟩ := by
  have a := n.ha
  obtain ⟨dx, lo, ob, la⟩ := a.ob
  refine ⟨dx, _, ob, by show 9 < 1000; decide, ?_⟩
  rw [hP_place]
  have el : HM.l ⟨m'.p, m'.nl, m'.sd, m'.fd, q, m'.pa, m'.ah, m'.jo, m'.a1, m'.a2, m'.a3, m'.a4⟩ = m'.l.set 4 q := rfl
  refine ⟨a.reob (m' := ⟨m'.p, m'.nl, m'.sd, m'.fd, q, m'.pa, m'.ah, m'.jo, m'.a1, m'.a2, m'.a3, m'.a4⟩) (h' := ⟨h'.land, h'.st, d, h'.joins, h'.past, h'.ahead⟩) rfl ?_ ?_ ⟨a.c.nl, a.c.sd, a.c.fd, e, a.c.pa, a.c.ah, a.c.jo⟩ la, n.st.upd' (n.mv _ (List.mem_of_getElem? (i := 0) rfl)), n.mp, fun x hx => ?_⟩
  · rw [el]; exact nd_set a.nd hq 4
  · rw [el]; exact fun x hx => (List.mem_or_eq_of_mem_set hx).elim (a.off x) fun c => by rw [c]; exact hz
  · rw [el] at hx
    rcases List.mem_or_eq_of_mem_set hx with c | c
    · exact n.mv x c
    · exact .inr (by rw [c]; exact h0)
/-- self.past = a new one -/
theorem Now.put_past (n : Now g Z H m Z' H' m' h') {q : Addr} {as : List Addr} {bs : List BS} (f : EachR (StA Z') as bs) (e : H' q = some (.lst (as.map V.ref))) (hq : q ∉ m'.l) (hz : Z' q = none) (h0 : H q = none) :
    ∃ dx fs', H' m'.p = some (.ins (g "Hearth") dx fs') ∧ fs'.length < 1000 ∧ Now g Z H m Z' (upd H' m'.p (.ins (g "Hearth") dx (putF "past" (.ref q) fs'))) ⟨m'.p, m'.nl, m'.sd, m'.fd, m'.pd, q, m'.ah, m'.jo, m'.a1, m'.a2, m'.a3, m'.a4⟩ ⟨h'.land, h'.st, h'.place, h'.joins, bs, h'.ahead⟩ := by
  have a := n.ha
  obtain ⟨dx, lo, ob, la⟩ := a.ob
  refine ⟨dx, _, ob, by show 9 < 1000; decide, ?_⟩
  rw [hP_past]
  have el : HM.l ⟨m'.p, m'.nl, m'.sd, m'.fd, m'.pd, q, m'.ah, m'.jo, m'.a1, m'.a2, m'.a3, m'.a4⟩ = m'.l.set 5 q := rfl
  refine ⟨a.reob (m' := ⟨m'.p, m'.nl, m'.sd, m'.fd, m'.pd, q, m'.ah, m'.jo, m'.a1, m'.a2, m'.a3, m'.a4⟩) (h' := ⟨h'.land, h'.st, h'.place, h'.joins, bs, h'.ahead⟩) rfl ?_ ?_ ⟨a.c.nl, a.c.sd, a.c.fd, a.c.pd, ⟨as, e, f⟩, a.c.ah, a.c.jo⟩ la, n.st.upd' (n.mv _ (List.mem_of_getElem? (i := 0) rfl)), n.mp, fun x hx => ?_⟩
  · rw [el]; exact nd_set a.nd hq 5
  · rw [el]; exact fun x hx => (List.mem_or_eq_of_mem_set hx).elim (a.off x) fun c => by rw [c]; exact hz
  · rw [el] at hx
    rcases List.mem_or_eq_of_mem_set hx with c | c
    · exact n.mv x c
    · exact .inr (by rw [c]; exact h0)
/-- self.ahead = a new one -/
theorem Now.put_ahead (n : Now g Z H m Z' H' m' h') {q : Addr} {as : List Addr} {bs : List BS} (f : EachR (StA Z') as bs) (e : H' q = some (.lst (as.map V.ref))) (hq : q ∉ m'.l) (hz : Z' q = none) (h0 : H q = none) :
    ∃ dx fs', H' m'.p = some (.ins (g "Hearth") dx fs') ∧ fs'.length < 1000 ∧ Now g Z H m Z' (upd H' m'.p (.ins (g "Hearth") dx (putF "ahead" (.ref q) fs'))) ⟨m'.p, m'.nl, m'.sd, m'.fd, m'.pd, m'.pa, q, m'.jo, m'.a1, m'.a2, m'.a3, m'.a4⟩ ⟨h'.land, h'.st, h'.place, h'.joins, h'.past, bs⟩ := by
  have a := n.ha
  obtain ⟨dx, lo, ob, la⟩ := a.ob
  refine ⟨dx, _, ob, by show 9 < 1000; decide, ?_⟩
  rw [hP_ahead]
  have el : HM.l ⟨m'.p, m'.nl, m'.sd, m'.fd, m'.pd, m'.pa, q, m'.jo, m'.a1, m'.a2, m'.a3, m'.a4⟩ = m'.l.set 6 q := rfl
  refine ⟨a.reob (m' := ⟨m'.p, m'.nl, m'.sd, m'.fd, m'.pd, m'.pa, q, m'.jo, m'.a1, m'.a2, m'.a3, m'.a4⟩) (h' := ⟨h'.land, h'.st, h'.place, h'.joins, h'.past, bs⟩) rfl ?_ ?_ ⟨a.c.nl, a.c.sd, a.c.fd, a.c.pd, a.c.pa, ⟨as, e, f⟩, a.c.jo⟩ la, n.st.upd' (n.mv _ (List.mem_of_getElem? (i := 0) rfl)), n.mp, fun x hx => ?_⟩
  · rw [el]; exact nd_set a.nd hq 6
  · rw [el]; exact fun x hx => (List.mem_or_eq_of_mem_set hx).elim (a.off x) fun c => by rw [c]; exact hz
  · rw [el] at hx
    rcases List.mem_or_eq_of_mem_set hx with c | c
    · exact n.mv x c
    · exact .inr (by rw [c]; exact h0)
/-- self.after = z -/
theorem Now.put_after (n : Now g Z H m Z' H' m' h') (z : Int) :
    ∃ dx fs', H' m'.p = some (.ins (g "Hearth") dx fs') ∧ fs'.length < 1000 ∧ Now g Z H m Z' (upd H' m'.p (.ins (g "Hearth") dx (putF "after" (.int z) fs'))) m' ⟨h'.land, ⟨h'.st.names, h'.st.side, h'.st.facts, z⟩, h'.place, h'.joins, h'.past, h'.ahead⟩ := by
  have a := n.ha
  obtain ⟨dx, lo, ob, la⟩ := a.ob
  refine ⟨dx, _, ob, by show 9 < 1000; decide, ?_⟩
  rw [hP_after]
  exact ⟨a.reob (m' := m') (h' := ⟨h'.land, ⟨h'.st.names, h'.st.side, h'.st.facts, z⟩, h'.place, h'.joins, h'.past, h'.ahead⟩) rfl a.nd a.off ⟨a.c.nl, a.c.sd, a.c.fd, a.c.pd, a.c.pa, a.c.ah, a.c.jo⟩ la, n.st.upd' (n.mv _ (List.mem_of_getElem? (i := 0) rfl)), n.mp, n.mv⟩
/-- self.joins = new groups -/
theorem Now.put_joins (n : Now g Z H m Z' H' m' h') {jo a1 a2 a3 a4 : Addr} {J : JS} (e : JA g Z' H' jo a1 a2 a3 a4 J) (hq : ∀ x ∈ jM jo a1 a2 a3 a4, x ∉ m'.l) (h0 : ∀ x ∈ jM jo a1 a2 a3 a4, H x = none) :
    ∃ dx fs', H' m'.p = some (.ins (g "Hearth") dx fs') ∧ fs'.length < 1000 ∧ Now g Z H m Z' (upd H' m'.p (.ins (g "Hearth") dx (putF "joins" (.ref jo) fs'))) ⟨m'.p, m'.nl, m'.sd, m'.fd, m'.pd, m'.pa, m'.ah, jo, a1, a2, a3, a4⟩ ⟨h'.land, h'.st, h'.place, J, h'.past, h'.ahead⟩ := by
  have a := n.ha
  obtain ⟨dx, lo, ob, la⟩ := a.ob
  refine ⟨dx, _, ob, by show 9 < 1000; decide, ?_⟩
  rw [hP_joins]
  have el : HM.l ⟨m'.p, m'.nl, m'.sd, m'.fd, m'.pd, m'.pa, m'.ah, jo, a1, a2, a3, a4⟩ = [m'.p, m'.nl, m'.sd, m'.fd, m'.pd, m'.pa, m'.ah] ++ jM jo a1 a2 a3 a4 := rfl
  have el' : m'.l = [m'.p, m'.nl, m'.sd, m'.fd, m'.pd, m'.pa, m'.ah] ++ m'.j := rfl
  have nd := a.nd
  have off := a.off
  rw [el'] at nd off
  refine ⟨a.reob (m' := ⟨m'.p, m'.nl, m'.sd, m'.fd, m'.pd, m'.pa, m'.ah, jo, a1, a2, a3, a4⟩) (h' := ⟨h'.land, h'.st, h'.place, J, h'.past, h'.ahead⟩) rfl ?_ ?_ ⟨a.c.nl, a.c.sd, a.c.fd, a.c.pd, a.c.pa, a.c.ah, e⟩ la, n.st.upd' (n.mv _ (List.mem_of_getElem? (i := 0) rfl)), n.mp, fun x hx => ?_⟩
  · rw [el]
    refine List.nodup_append.mpr ⟨(List.nodup_append.mp nd).1, e.nd, fun x hx y hy c => hq y hy ?_⟩
    rw [el', ← c]; exact List.mem_append_left _ hx
  · rw [el]
    exact fun x hx => (List.mem_append.mp hx).elim (fun c => off x (List.mem_append_left _ c)) (e.off x)
  · rw [el] at hx
    rcases List.mem_append.mp hx with c | c
    · exact n.mv x (by rw [el']; exact List.mem_append_left _ c)
    · exact .inr (h0 x c)
end
end Kin
set_option maxHeartbeats 4000000
/-! K24: a book's small methods. -/
namespace Kin
open PySem L2
section
variable {P : Program} {w : World} {K : PySem.W.Frag} {mg : Str → Option Value} {g : Str → Addr} {mt : Str → Str → Addr} {base : Heap}
/-! ### state -/
structure StN (H : Hp) (r l d f : Addr) (fs : List (Key × V)) (b : BS) : Prop where
  r : H r = some (.tup [.ref l, .ref d, .ref f, .int b.after])
  l : H l = some (.lst (b.names.map V.str))
  d : H d = some (.dK b.side)
  f : H f = some (.dK fs)
def spState (g : Str → Addr) : Sp := fun vs H Q _ => ∃ (Z : Hp) (m : HM) (h : HS), vs = [.ref m.p] ∧ HA g Z H m h ∧
  ∀ r l d f fs H', Same H H' → (∀ x ∈ [r, l, d, f], H x = none) → StN H' r l d f fs h.st → FA Z fs h.st.facts → Q (.ref r) H'
theorem ok_state (T : Txt w K mg g mt) : GM P w K mg base CX0 1 (g "Hearth") "state" (spState g) := by
  refine gm0 (F_Hearth_state T) (T.cls _ (by decide +kernel)) (T.meth ("Hearth", "state") (by decide +kernel)) sc_Hearth_state (fun vs H Q E h => ?_) fun cdv A outer s H vs Q E hr h => ?_
  · obtain ⟨Z, m, h, rfl, _⟩ := h; rfl
  · obtain ⟨Z, m, h, rfl, a, k⟩ := h
    have fl : mg "list" = none := T.free _ (by decide +kernel)
    have fd : mg "dict" = none := T.free _ (by decide +kernel)
    refine ⟨_, pss_one (ps_ret (pe_tup (pa_cons (pe_callTy call_list_of (by rfl) fl PyProof.Rows.boot_list (pa_cons (pe_sf 0) pa_nil)) (pa_cons (pe_callTy call_dictD (by rfl) fd PyProof.Rows.boot_dict (pa_cons (pe_sf 0) pa_nil)) (pa_cons (pe_callTy call_dictD (by rfl) fd PyProof.Rows.boot_dict (pa_cons (pe_sf 0) pa_nil)) (pa_cons (pe_sf 0) pa_nil)))))), ?_⟩
    refine ⟨_, _, rfl, rd_names T a, m.nl, _, rfl, .inl (SqL.of a.c.nl), fun l hl => ?_⟩
    have s1 := same_new (o := .lst (h.st.names.map V.str)) hl
    have e1 : upd H l (.lst (h.st.names.map V.str)) l = some _ := upd_same
    generalize upd H l (.lst (h.st.names.map V.str)) = H1 at s1 e1 ⊢
    have a1 := a.same s1
    refine ⟨_, _, rfl, rd_side T a1, m.sd, _, rfl, .inl a1.c.sd, fun d hd => ?_⟩
    have s2 := same_new (o := .dK h.st.side) hd
    have e2 : upd H1 d (.dK h.st.side) d = some _ := upd_same
    generalize upd H1 d (.dK h.st.side) = H2 at s2 e2 ⊢
    have a2 := a1.same s2
    obtain ⟨fs, f1, f2⟩ := a2.c.fd
    refine ⟨_, _, rfl, rd_facts T a2, m.fd, _, rfl, .inl f1, fun f hf => ?_⟩
    have s3 := same_new (o := .dK fs) hf
    have e3 : upd H2 f (.dK fs) f = some _ := upd_same
    generalize upd H2 f (.dK fs) = H3 at s3 e3 ⊢
    refine ⟨_, _, rfl, rd_after T (a2.same s3), by show 4 ≤ sizeLine; decide, fun r hr => ?_⟩
    have s4 := same_new (o := .tup [.ref l, .ref d, .ref f, .int h.st.after]) hr
    refine k r l d f fs _ (s1.trans (s2.trans (s3.trans s4))) (fun x hx => ?_) ⟨upd_same, s4 _ _ (s3 _ _ (s2 _ _ e1)), s4 _ _ (s3 _ _ e2), s4 _ _ e3⟩ f2
    simp only [List.mem_cons, List.not_mem_nil, or_false] at hx
    rcases hx with rfl | rfl | rfl | rfl
    · exact (s1.trans (s2.trans s3)).free hr
    · exact hl
    · exact s1.free hd
    · exact (s1.trans s2).free hf
/-- a state just taken, frozen -/
theorem Now.frzState {Z H Z' H' H2 : Hp} {m m' : HM} {h' : HS} {r l d f : Addr} {fs : List (Key × V)} {b : BS} (n : Now g Z H m Z' H' m' h') (s : Same H' H2) (fr : ∀ x ∈ [r, l, d, f], H' x = none) (st : StN H2 r l d f fs b) (fa : FA Z' fs b.facts) :
    Now g Z H m (frz Z' H2 [r, l, d, f]) H2 m' h' ∧ StA (frz Z' H2 [r, l, d, f]) r b := by
  have zf : ∀ x ∈ [r, l, d, f], Z' x = none := fun x hx => (n.free (fr x hx)).2.1
  refine ⟨(n.same s).freezeL zf (fun x hx => (n.free (fr x hx)).1) (fun x hx => (n.free (fr x hx)).2.2), ⟨l, d, f, fs, ?_, ?_, ?_, ?_, fa.mono (same_frzL zf)⟩⟩
  · rw [frz_in (by simp)]; exact st.r
  · rw [frz_in (by simp)]; exact st.l
  · rw [frz_in (by simp)]; exact st.d
  · rw [frz_in (by simp)]; exact st.f

/-! ### done_from, forget -/
def spDone (g : Str → Addr) : Sp := fun vs H Q _ => ∃ (Z : Hp) (m : HM) (h : HS) (r : Addr) (b : BS), vs = [.ref m.p, .ref r] ∧ HA g Z H m h ∧ StA Z r b ∧ h.past.length ≤ 99999 ∧
  ∀ Z' H' m', Now g Z H m Z' H' m' (markH h b) → Q .non H'
theorem ok_done_from (T : Txt w K mg g mt) : GM P w K mg base CX0 1 (g "Hearth") "done_from" (spDone g) := by
  refine gm0 (F_Hearth_done_from T) (T.cls _ (by decide +kernel)) (T.meth ("Hearth", "done_from") (by decide +kernel)) sc_Hearth_done_from (fun vs H Q E h => ?_) fun cdv A outer s H vs Q E hr h => ?_
  · obtain ⟨Z, m, h, r, b, rfl, _⟩ := h; rfl
  · obtain ⟨Z, m, h, r, b, rfl, a, sb, hz, k⟩ := h
    have c : Cls K (g "Hearth") := T.cls _ (by decide +kernel)
    refine ⟨_, pss_cons (ps_expr (pe_bm PySem.F.plainAttrs_list PySem.F.slot_list_append PySem.F.type_list_append mt_append (pe_sf 0) (pa_cons (pv 1) pa_nil)))
      (pss_one (ps_fld (pv 0) (pe_lst pa_nil) rfl)), ?_⟩
    obtain ⟨as, p1, p2⟩ := a.c.pa
    refine ⟨_, _, rfl, rd_past T a, .inl ⟨rfl, _, SqL.of p1⟩, _, rfl, m.pa, _, _, rfl, rfl, p1, by rw [List.length_map, p2.len]; exact smallL (by omega), ?_⟩
    have n1 := (Now.refl a).set_pa (p2.snoc sb)
    have e1 : upd H m.pa (.lst (as.map V.ref ++ [.ref r])) = upd H m.pa (.lst ((as ++ [r]).map V.ref)) := by simp
    rw [e1]
    generalize upd H m.pa (.lst ((as ++ [r]).map V.ref)) = H1 at n1 ⊢
    refine ⟨Nat.zero_le _, fun q hq => ?_⟩
    have f := n1.free hq
    have n2 := n1.same (same_new (o := .lst []) hq)
    obtain ⟨dx, fs', ob, l9, n3⟩ := n2.put_ahead (q := q) (as := []) (bs := []) EachR.nil upd_same f.1 f.2.1 f.2.2
    exact ⟨_, rfl, m.p, _, dx, _, rfl, ob, c, T.noat ("Hearth", "ahead") (by decide +kernel), l9, k _ _ _ n3⟩
def spForget (g : Str → Addr) : Sp := fun vs H Q _ => ∃ (Z : Hp) (m : HM) (h : HS), vs = [.ref m.p] ∧ HA g Z H m h ∧
  ∀ Z' H' m', Now g Z H m Z' H' m' ⟨h.land, h.st, h.place, h.joins, [], []⟩ → Q .non H'
theorem ok_forget (T : Txt w K mg g mt) : GM P w K mg base CX0 1 (g "Hearth") "forget" (spForget g) := by
  refine gm0 (F_Hearth_forget T) (T.cls _ (by decide +kernel)) (T.meth ("Hearth", "forget") (by decide +kernel)) sc_Hearth_forget (fun vs H Q E h => ?_) fun cdv A outer s H vs Q E hr h => ?_
  · obtain ⟨Z, m, h, rfl, _⟩ := h; rfl
  · obtain ⟨Z, m, h, rfl, a, k⟩ := h
    have c : Cls K (g "Hearth") := T.cls _ (by decide +kernel)
    refine ⟨_, pss_cons (ps_fld (pv 0) (pe_lst pa_nil) rfl) (pss_one (ps_fld (pv 0) (pe_lst pa_nil) rfl)), ?_⟩
    refine ⟨Nat.zero_le _, fun q hq => ?_⟩
    have n1 := Now.refl a
    have f := n1.free hq
    obtain ⟨dx, fs', ob, l9, n3⟩ := (n1.same (same_new (o := .lst []) hq)).put_past (q := q) (as := []) (bs := []) EachR.nil upd_same f.1 f.2.1 f.2.2
    refine ⟨_, rfl, m.p, _, dx, _, rfl, ob, c, T.noat ("Hearth", "past") (by decide +kernel), l9, ?_⟩
    generalize upd (upd H q (.lst [])) m.p _ = H3 at n3 ⊢
    refine ⟨Nat.zero_le _, fun q2 hq2 => ?_⟩
    have f2 := n3.free hq2
    obtain ⟨dx2, fs2, ob2, l92, n4⟩ := (n3.same (same_new (o := .lst []) hq2)).put_ahead (q := q2) (as := []) (bs := []) EachR.nil upd_same f2.1 f2.2.1 f2.2.2
    exact ⟨_, rfl, m.p, _, dx2, _, rfl, ob2, c, T.noat ("Hearth", "ahead") (by decide +kernel), l92, k _ _ _ n4⟩

/-! ### people, undoable, redoable -/
def spPeople (g : Str → Addr) : Sp := fun vs H Q _ => ∃ (Z : Hp) (m : HM) (h : HS), vs = [.ref m.p] ∧ HA g Z H m h ∧ ∀ p H', Same H H' → H p = none → H' p = some (.lst (h.st.names.map V.str)) → Q (.ref p) H'
theorem ok_people (T : Txt w K mg g mt) : GM P w K mg base CX0 1 (g "Hearth") "people" (spPeople g) := by
  refine gm0 (F_Hearth_people T) (T.cls _ (by decide +kernel)) (T.meth ("Hearth", "people") (by decide +kernel)) sc_Hearth_people (fun vs H Q E h => ?_) fun cdv A outer s H vs Q E hr h => ?_
  · obtain ⟨Z, m, h, rfl, _⟩ := h; rfl
  · obtain ⟨Z, m, h, rfl, a, k⟩ := h
    have fl : mg "list" = none := T.free _ (by decide +kernel)
    refine ⟨_, pss_one (ps_ret (pe_callTy call_list_of (by rfl) fl PyProof.Rows.boot_list (pa_cons (pe_sf 0) pa_nil))), ?_⟩
    exact ⟨_, _, rfl, rd_names T a, m.nl, _, rfl, .inl (SqL.of a.c.nl), fun l hl => k l _ (same_new hl) hl upd_same⟩
def spUndoable (g : Str → Addr) : Sp := fun vs H Q _ => ∃ (Z : Hp) (m : HM) (h : HS), vs = [.ref m.p] ∧ HA g Z H m h ∧ ∀ H', Same H H' → Q (.int (h.past.length : Nat)) H'
theorem ok_undoable (T : Txt w K mg g mt) : GM P w K mg base CX0 1 (g "Hearth") "undoable" (spUndoable g) := by
  refine gm0 (F_Hearth_undoable T) (T.cls _ (by decide +kernel)) (T.meth ("Hearth", "undoable") (by decide +kernel)) sc_Hearth_undoable (fun vs H Q E h => ?_) fun cdv A outer s H vs Q E hr h => ?_
  · obtain ⟨Z, m, h, rfl, _⟩ := h; rfl
  · obtain ⟨Z, m, h, rfl, a, k⟩ := h
    have fL : mg "len" = none := T.free _ (by decide +kernel)
    refine ⟨_, pss_one (ps_ret (pe_callB call_len_seq (by rfl) fL PySem.boot_len (pa_cons (pe_sf 0) pa_nil))), ?_⟩
    obtain ⟨as, p1, p2⟩ := a.c.pa
    refine ⟨_, _, rfl, rd_past T a, m.pa, _, rfl, .inl (SqL.of p1), ?_⟩
    rw [List.length_map, p2.len]
    exact k H (Same.refl _)
def spRedoable (g : Str → Addr) : Sp := fun vs H Q _ => ∃ (Z : Hp) (m : HM) (h : HS), vs = [.ref m.p] ∧ HA g Z H m h ∧ ∀ H', Same H H' → Q (.int (h.ahead.length : Nat)) H'
theorem ok_redoable (T : Txt w K mg g mt) : GM P w K mg base CX0 1 (g "Hearth") "redoable" (spRedoable g) := by
  refine gm0 (F_Hearth_redoable T) (T.cls _ (by decide +kernel)) (T.meth ("Hearth", "redoable") (by decide +kernel)) sc_Hearth_redoable (fun vs H Q E h => ?_) fun cdv A outer s H vs Q E hr h => ?_
  · obtain ⟨Z, m, h, rfl, _⟩ := h; rfl
  · obtain ⟨Z, m, h, rfl, a, k⟩ := h
    have fL : mg "len" = none := T.free _ (by decide +kernel)
    refine ⟨_, pss_one (ps_ret (pe_callB call_len_seq (by rfl) fL PySem.boot_len (pa_cons (pe_sf 0) pa_nil))), ?_⟩
    obtain ⟨as, p1, p2⟩ := a.c.ah
    refine ⟨_, _, rfl, rd_ahead T a, m.ah, _, rfl, .inl (SqL.of p1), ?_⟩
    rw [List.length_map, p2.len]
    exact k H (Same.refl _)
end
end Kin
set_option maxHeartbeats 4000000
/-! K25: what a book is asked: kept, has, sides_fit, parent_kept, known, look. -/
namespace Kin
open PySem L2
/-! ### plain -/
theorem fact_mem {qs : List (Int × Fact)} {k : Int} (h : (qs.any fun p => decide (p.1 = k)) = true) : (k, factAt qs k) ∈ qs := by
  unfold factAt
  cases e : qs.find? fun p => decide (p.1 = k) with
  | none =>
    rw [List.find?_eq_none] at e
    obtain ⟨p, hp, hk⟩ := List.any_eq_true.mp h
    exact absurd hk (e p hp)
  | some p =>
    have h1 := List.find?_some e
    have h2 := List.mem_of_find?_eq_some e
    have h3 : p.1 = k := of_decide_eq_true h1
    obtain ⟨p1, p2⟩ := p
    cases h3
    exact h2
theorem key_any {qs : List (Int × Fact)} {k : Int} (h : k ∈ qs.map (·.1)) : (qs.any fun p => decide (p.1 = k)) = true := by
  obtain ⟨p, hp, e⟩ := List.mem_map.mp h
  exact List.any_eq_true.mpr ⟨p, hp, decide_eq_true e⟩
theorem kept_fo {m size : Nat} {b : BS} (o : BOk m size b) : ∀ q ∈ keptL b, FactOk size b.names q.2 := by
  intro q hq
  obtain ⟨k, hk, rfl⟩ := List.mem_map.mp hq
  exact o.fo _ (fact_mem (key_any (srt_mem.mp hk)))
theorem kept_len (b : BS) : (keptL b).length = b.facts.length := by
  unfold keptL
  rw [List.length_map, srt_len, List.length_map]
def FlatO (v : V) : Prop := (∃ s : Str, v = .str s ∧ PyData.strOk s = true) ∨ ∃ i : Int, v = .int i
def dv : V → PyData
  | .str s => .str s
  | .int i => .int i
  | _ => .none
def dF (f : Fact) : PyData := .tuple [.str f.kind, .str f.one, dv f.other]
theorem dp_fact {K : PySem.W.Frag} {H : Hp} {a : Addr} {f : Fact} (h : H a = some (factO f)) (o : FlatO f.other) : Dp K H (.ref a) (dF f) := by
  refine .tup (SqT.of h) (.cons (.str _) (.cons (.str _) (.cons ?_ .nil)))
  rcases o with ⟨s, e, _⟩ | ⟨i, e⟩
  · rw [e]; exact .str s
  · rw [e]; exact .int i
theorem sh_fact {f : Fact} (h1 : PyData.strOk f.kind = true) (h2 : PyData.strOk f.one = true) (o : FlatO f.other) : SeqAt.shaped (dF f) = true := by
  unfold SeqAt.shaped dF
  have e : PyData.canLay0 (dv f.other) = true ∧ PyData.depth (dv f.other) = 0 := by
    rcases o with ⟨s, e, q⟩ | ⟨i, e⟩
    · rw [e]; exact ⟨q, rfl⟩
    · rw [e]; exact ⟨rfl, rfl⟩
  simp only [PyData.canLay0, PyData.canLayAll0, PyData.depth, PyData.depthAll, e.1, e.2, h1, h2]
  decide
theorem eqv_other {u v : V} (hu : FlatO u) (hv : FlatO v) : PyData.eqv (dv u) (dv v) = decide (u = v) := by
  rcases hu with ⟨s, rfl, _⟩ | ⟨i, rfl⟩ <;> rcases hv with ⟨t, rfl, _⟩ | ⟨j, rfl⟩
  · simp only [dv, PyData.eqv]
    by_cases c : s = t
    · subst c; simp
    · have : ¬ V.str s = V.str t := fun e => c (vstr e)
      simp [c, this]
  · simp only [dv, PyData.eqv]
    have : ¬ V.str s = V.int j := fun e => by cases e
    simp [this]
  · simp only [dv, PyData.eqv]
    have : ¬ V.int i = V.str t := fun e => by cases e
    simp [this]
  · simp only [dv, PyData.eqv]
    by_cases c : i = j
    · subst c; simp
    · have : ¬ V.int i = V.int j := fun e => c (vint e)
      simp [c, this]
theorem eqv_fact {f f' : Fact} (hu : FlatO f.other) (hv : FlatO f'.other) : PyData.eqv (dF f) (dF f') = decide (f = f') := by
  obtain ⟨k, o, x⟩ := f
  obtain ⟨k', o', x'⟩ := f'
  unfold dF
  simp only [PyData.eqv, PyData.eqvAll]
  rw [eqv_other hu hv]
  by_cases c1 : k = k'
  · by_cases c2 : o = o'
    · by_cases c3 : x = x'
      · simp [c1, c2, c3]
      · simp [c1, c2, c3]
    · simp [c1, c2]
  · simp [c1]
theorem fact_flat' {m size : Nat} {b : BS} (o : BOk m size b) {f : Fact} (h : FactOk size b.names f) : FlatO f.other ∧ PyData.strOk f.kind = true ∧ PyData.strOk f.one = true := by
  cases h with
  | said h h0 h1 => exact ⟨.inr ⟨_, rfl⟩, by show PyData.strOk "said" = true; decide +kernel, isName_ok (o.nk _ h)⟩
  | @tie k one other hk h h' =>
    refine ⟨.inl ⟨_, rfl, isName_ok (o.nk _ h')⟩, ?_, isName_ok (o.nk _ h)⟩
    show PyData.strOk k = true
    rcases hk with rfl | rfl | rfl | rfl <;> decide +kernel
theorem unlock_same {H H2 : Hp} {d : Addr} {od : Obj} {u : HO} (h : H d = some u) (s : Same (upd H d (.frz od u)) H2) : Same H (upd H2 d u) := fun b o e => by
  by_cases c : b = d
  · subst c; rw [upd_same, ← h]; exact e
  · rw [upd_ne c]; exact s b o (by rw [upd_ne c]; exact e)
theorem Has.upd {K : PySem.W.Frag} {H : Hp} {x p : Addr} {f : Str} {v : V} {o : HO} (h : Has K H x f v) (n : x ≠ p) : Has K (L2.upd H p o) x f v := by
  obtain ⟨C, dx, fs, h1, h2⟩ := h
  exact ⟨C, dx, fs, by rw [upd_ne n]; exact h1, h2⟩
theorem Has.same {K : PySem.W.Frag} {H H' : Hp} {x : Addr} {f : Str} {v : V} (h : Has K H x f v) (s : Same H H') : Has K H' x f v := by
  obtain ⟨C, dx, fs, h1, h2⟩ := h
  exact ⟨C, dx, fs, s _ _ h1, h2⟩
section
variable {P : Program} {w : World} {K : PySem.W.Frag} {mg : Str → Option Value} {g : Str → Addr} {mt : Str → Str → Addr} {base : Heap}
/-! ### kept -/
def spHKept (g : Str → Addr) : Sp := fun vs H Q _ => ∃ (Z : Hp) (m : HM) (h : HS) (N : Nat), vs = [.ref m.p] ∧ HA g Z H m h ∧ BOk N h.land.size h.st ∧ N ≤ 99999 ∧ ∀ p H', Same H H' → H p = none → Rows H' p h.land.size h.st.names (keptL h.st) → Q (.ref p) H'
theorem ok_kept (T : Txt w K mg g mt) : GM P w K mg base CX0 1 (g "Hearth") "kept" (spHKept g) := by
  refine gm0 (F_Hearth_kept T) (T.cls _ (by decide +kernel)) (T.meth ("Hearth", "kept") (by decide +kernel)) sc_Hearth_kept (fun vs H Q E h => ?_) fun cdv A outer s H vs Q E hr h => ?_
  · obtain ⟨Z, m, h, N, rfl, _⟩ := h; rfl
  · obtain ⟨Z, m, h, N, rfl, a, bo, hN, k⟩ := h
    have nd := sc_Hearth_kept.nd
    have hu := hu_of hr
    have fS : mg "sorted" = none := T.free _ (by decide +kernel)
    refine ⟨_, pss_one (ps_ret (pe_lc (own := [("number", 1)]) (g := gName 1) (tt := _) rfl nd (pi_list (pe_callB (call_sortedAny rfl) (by rfl) fS (by decide +kernel) (pa_cons (pe_sf 0) pa_nil))) (blkOk_by (N := ["self", "number"]) (sc := defScope s_Hearth_kept) (by decide +kernel))
      (fun _ _ _ _ _ => pg_name (i := 1) nd rfl (Or.inl rfl)) (fun _ _ _ _ _ => pts_nil)
      (fun _ _ _ _ _ => pe_op (r := rCatT K) op_catT (pe_tup (pa_cons (pv 1) pa_nil)) (pe_dget hu (show PE _ _ (tSf K 0 "facts") from pe_sf 0) (pv 1) (fun _ _ => rfl))))), ?_⟩
    obtain ⟨fs, f1, f2⟩ := a.c.fd
    refine ⟨_, _, rfl, rd_facts T a, m.fd, fs, h.st.facts.map (·.1), rfl, .inl f1, f2.keys, fun ys sp pm pw hsp => ?_⟩
    have ey := srt_eq pm pw
    subst ey
    have s1 := same_new (o := .lst ((srt (h.st.facts.map (·.1))).map V.int)) hsp
    have e1 : upd H sp (.lst ((srt (h.st.facts.map (·.1))).map V.int)) sp = some _ := upd_same
    generalize upd H sp (.lst ((srt (h.st.facts.map (·.1))).map V.int)) = H1 at s1 e1 ⊢
    have a1 := a.same s1
    have kl : (keptL h.st).length = (srt (h.st.facts.map (·.1))).length := by unfold keptL; rw [List.length_map]
    refine ⟨sp, rfl, ⟨_, SqL.of e1⟩, fun D hD => ?_⟩
    refine lc_it (walk_list (K := K) (a := sp) (xs := (srt (h.st.facts.map (·.1))).map V.int)) (fun i H2 => Same H1 H2 ∧ ∃ as : List Addr, H2 D = some (.lst (as.map V.ref)) ∧ Each H2 rowO as ((keptL h.st).take i))
      ⟨same_new hD, [], upd_same, ⟨rfl, fun i x hx => by simp at hx⟩⟩ (fun i H2 _ p => SqL.of (p.1 _ _ e1)) ?_ ?_
    · rintro i v H2 H3 hi ⟨s2, as, h2, ea⟩ ⟨e3, hv⟩
      rw [e3]
      obtain ⟨z, hz, rfl⟩ := map_at hv
      have hzk : z ∈ h.st.facts.map (·.1) := srt_mem.mp (List.mem_of_getElem? hz)
      obtain ⟨fa, v1, v2, v3⟩ : ∃ b, valV fs (.inl z) = some (.ref b) ∧ Z b = some (factO (factAt h.st.facts z)) ∧ True := by
        rcases f2.val z with ⟨c1, c2⟩ | ⟨b, c1, c2, c3⟩
        · rw [key_any hzk] at c2; cases c2
        · exact ⟨b, c1, c2, trivial⟩
      have a2 := a1.same s2
      have fz : H2 fa = some (factO (factAt h.st.facts z)) := a2.zs _ _ v2
      have ek : (keptL h.st)[i]? = some (z, factAt h.st.facts z) := by unfold keptL; exact at_map hz
      have alen : as.length = i := by
        rw [ea.len, List.length_take]
        have := (List.getElem?_eq_some_iff.mp ek).1
        omega
      have hib : i < 99999 := by
        have h1 := (List.getElem?_eq_some_iff.mp ek).1
        rw [kept_len] at h1
        have := bo.lf
        omega
      refine ⟨rfl, yesT ?_⟩
      refine ⟨_, rfl, by show 1 ≤ sizeLine; decide, fun tp htp => ?_⟩
      have s4 := same_new (o := .tup [.int z]) htp
      have e4 : upd H2 tp (.tup [.int z]) tp = some (.tup [.int z]) := upd_same
      generalize upd H2 tp (.tup [.int z]) = H4 at s4 e4 ⊢
      refine ⟨_, _, rfl, rd_facts T (a2.same s4), _, rfl, m.fd, _, rfl, v1 ▸ DGet.k (k := .inl z) (s4 _ _ (s2 _ _ (s1 _ _ f1))), ?_⟩
      refine ⟨tp, fa, _, _, rfl, rfl, SqT.of e4, SqT.of (s4 _ _ fz), by simp, by show 1 + 3 ≤ sizeLine; decide, (fun c => by cases c), (fun _ rp hrp => ?_)⟩
      have s5 := same_new (o := .tup ([.int z] ++ [.str (factAt h.st.facts z).kind, .str (factAt h.st.facts z).one, (factAt h.st.facts z).other])) hrp
      have e5 : upd H4 rp (.tup ([.int z] ++ [.str (factAt h.st.facts z).kind, .str (factAt h.st.facts z).one, (factAt h.st.facts z).other])) rp = some (rowO (z, factAt h.st.facts z)) := upd_same
      generalize upd H4 rp (.tup ([.int z] ++ [.str (factAt h.st.facts z).kind, .str (factAt h.st.facts z).one, (factAt h.st.facts z).other])) = H5 at s5 e5 ⊢
      have s25 := s4.trans s5
      refine ⟨as.map V.ref, s25 _ _ h2, by rw [List.length_map, alen]; exact smallL (by omega), same_mut (s2.trans s25) hD, as ++ [rp], by rw [upd_same]; simp, ?_⟩
      rw [take_snoc ek]
      have nD : ∀ b q, H5 b = some (rowO q) → upd H5 D (.lst (as.map V.ref ++ [.ref rp])) b = some (rowO q) := fun b q e => by
        rw [upd_ne (fun c => by rw [c, s25 _ _ h2] at e; cases e)]; exact e
      have ea5 : Each (upd H5 D (.lst (as.map V.ref ++ [.ref rp]))) rowO as ((keptL h.st).take i) := ⟨ea.len, fun j x hx => by
        obtain ⟨b, b1, b2⟩ := ea.at_ j x hx
        exact ⟨b, b1, nD b x (s25 _ _ b2)⟩⟩
      exact ea5.snoc (nD rp _ e5)
    · rintro H2 ⟨s2, as, h2, ea⟩
      rw [List.length_map, ← kl, List.take_length] at ea
      exact k D H2 (s1.trans s2) (s1.free hD) ⟨⟨as, h2, ea⟩, kept_fo bo, by rw [kept_len]; have := bo.lf; omega⟩

/-! ### has -/
def hit (k one : Str) (other : V) (p : Int × Fact) : Bool := decide (p.2 = ⟨k, one, other⟩) || (decide (k = ("sibling" : Str)) && decide (p.2 = ⟨k, nameOf other, .str one⟩))
theorem hasF_hit (b : BS) (k one : Str) (other : V) : hasF b k one other = b.facts.any (hit k one other) := rfl
def spHas (g : Str → Addr) : Sp := fun vs H Q _ => ∃ (Z : Hp) (m : HM) (h : HS) (N : Nat) (k one : Str) (other : V), vs = [.ref m.p, .str k, .str one, other] ∧ HA g Z H m h ∧ BOk N h.land.size h.st ∧ PyData.strOk k = true ∧ PyData.strOk one = true ∧ FlatO other ∧
  (k = ("sibling" : Str) → ∃ s, other = .str s) ∧ ∀ H', Same H H' → Q (.bl (hasF h.st k one other)) H'
theorem ok_has (T : Txt w K mg g mt) : GM P w K mg base CX0 1 (g "Hearth") "has" (spHas g) := by
  refine gm0 (F_Hearth_has T) (T.cls _ (by decide +kernel)) (T.meth ("Hearth", "has") (by decide +kernel)) sc_Hearth_has (fun vs H Q E h => ?_) fun cdv A outer s H vs Q E hr h => ?_
  · obtain ⟨Z, m, h, N, k, one, other, rfl, _⟩ := h; rfl
  · obtain ⟨Z, m, h, N, k, one, other, rfl, a, bo, sk, so, fo, sib, q⟩ := h
    have nd := sc_Hearth_has.nd
    refine ⟨_, pss_cons (ps_lock (ps_for PassesOwn.never rfl (pi_values (pe_sf 0)) (pg_name (i := 4) nd rfl (.inl rfl))
        (pss_cons (ps_if (pt_cmpR (op_eqD hr.units) (pv 4) (pe_tup (pa_cons (pv 1) (pa_cons (pv 2) (pa_cons (pv 3) pa_nil)))) (nomark _)) (pss_one (ps_ret pe_bl)) pss_nil)
        (pss_one (ps_if (PW.pt (pw_and (pt_cmpR op_eq (pv 1) pe_str (nomark _)) (pw_and1 (pt_cmpR (op_eqD hr.units) (pv 4) (pe_tup (pa_cons (pv 1) (pa_cons (pv 3) (pa_cons (pv 2) pa_nil)))) (nomark _))))) (pss_one (ps_ret pe_bl)) pss_nil)))))
      (pss_one (ps_ret pe_bl)), ?_⟩
    obtain ⟨fs, f1, f2⟩ := a.c.fd
    refine ⟨m.fd, _, f1, True.intro, fun od => ?_⟩
    have npf : m.p ≠ m.fd := ndn a.nd 0 3 rfl rfl (by decide)
    refine ⟨_, _, rfl, (rd_facts T a).upd npf, m.fd, od, fs, rfl, upd_same, ?_⟩
    refine for_it (walk_values (d := m.fd) (o := od) (kvs := fs)) (fun i σ H2 => (∃ u, σ = [some (.ref m.p), some (.str k), some (.str one), some other, u]) ∧ Same (upd H m.fd (.frz od (.dK fs))) H2 ∧ ((h.st.facts.take i).any (hit k one other)) = false)
      ⟨⟨none, rfl⟩, Same.refl _, rfl⟩ (fun i σ H2 _ p => p.2.1 _ _ upd_same) ?_ ?_
    · rintro i v σ H2 H3 hi ⟨⟨u, rfl⟩, s2, no⟩ ⟨e3, ky, hv⟩
      rw [e3]
      obtain ⟨p, fa, hp, _, rfl, hz⟩ := f2.at i ky v hv
      obtain ⟨num, f⟩ := p
      have pok := fact_flat' bo (bo.fo _ (List.mem_of_getElem? hp))
      have hfa : H fa = some (factO f) := a.zs _ _ hz
      have hfa2 : H2 fa = some (factO f) := s2 _ _ (by rw [upd_ne (fun c => by rw [c, f1] at hfa; cases hfa)]; exact hfa)
      have et := take_snoc hp
      have found : hit k one other (num, f) = true → hasF h.st k one other = true := fun e => List.any_eq_true.mpr ⟨_, List.mem_of_getElem? hp, e⟩
      have next : ∀ H4, Same H2 H4 → hit k one other (num, f) = false → Same (upd H m.fd (.frz od (.dK fs))) H4 ∧ ((h.st.facts.take (i + 1)).any (hit k one other)) = false := fun H4 s4 e => ⟨s2.trans s4, by rw [et, List.any_append, no]; simp [e]⟩
      refine ⟨_, rfl, _, rfl, _, rfl, _, rfl, by show 3 ≤ sizeLine; decide, fun tp htp => ?_⟩
      have s4 := same_new (o := factO ⟨k, one, other⟩) htp
      have e4 : upd H2 tp (.tup [.str k, .str one, other]) tp = some (factO ⟨k, one, other⟩) := upd_same
      have s4' : Same H2 (upd H2 tp (.tup [.str k, .str one, other])) := s4
      generalize upd H2 tp (.tup [.str k, .str one, other]) = H4 at s4' e4 ⊢
      refine ⟨_, _, dp_fact (s4' _ _ hfa2) pok.1, dp_fact e4 fo, sh_fact pok.2.1 pok.2.2 pok.1, sh_fact sk so fo, _, rfl, ?_⟩
      rw [eqv_fact pok.1 fo]
      have lock4 : H4 m.fd = some (.frz od (.dK fs)) := s4' _ _ (s2 _ _ upd_same)
      refine iteB (fun c1 => ?_) (fun c1 => ?_)
      · have e := found (by unfold hit; rw [c1]; rfl)
        rw [e] at q
        exact ⟨lock4, q _ (unlock_same f1 (s2.trans s4'))⟩
      refine ⟨_, rfl, rfl, _, rfl, iteB (fun c2 => ?_) (fun c2 => ⟨⟨_, rfl⟩, next H4 s4' (by
        have n2 : ¬ k = ("sibling" : Str) := fun e => eqF c2 (by rw [e])
        unfold hit; rw [c1, decide_eq_false n2]; rfl)⟩)⟩
      have ks : k = ("sibling" : Str) := vstr (eqT c2)
      obtain ⟨so2, rfl⟩ := sib ks
      have fo2 : FlatO (.str one) := .inl ⟨one, rfl, so⟩
      have sso : PyData.strOk so2 = true := by
        rcases fo with ⟨t, e, h⟩ | ⟨j, e⟩
        · rw [vstr e]; exact h
        · cases e
      refine ⟨_, rfl, _, rfl, _, rfl, _, rfl, by show 3 ≤ sizeLine; decide, fun tq htq => ?_⟩
      have e6 : upd H4 tq (.tup [.str k, .str so2, .str one]) tq = some (factO ⟨k, so2, .str one⟩) := upd_same
      have s6 : Same H4 (upd H4 tq (.tup [.str k, .str so2, .str one])) := same_new htq
      generalize upd H4 tq (.tup [.str k, .str so2, .str one]) = H6 at s6 e6 ⊢
      refine ⟨_, _, dp_fact (s6 _ _ (s4' _ _ hfa2)) pok.1, dp_fact e6 fo2, sh_fact pok.2.1 pok.2.2 pok.1, sh_fact sk sso fo2, _, rfl, ?_⟩
      rw [eqv_fact pok.1 fo2]
      refine iteB (fun c3 => ?_) (fun c3 => ⟨⟨_, rfl⟩, next H6 (s4'.trans s6) (by unfold hit; rw [c1, Bool.false_or]; show (_ && decide (f = ⟨k, so2, .str one⟩)) = false; rw [c3, Bool.and_false])⟩)
      have e := found (by unfold hit; show (_ || (_ && decide (f = ⟨k, so2, .str one⟩))) = true; rw [c3, decide_eq_true ks]; simp)
      rw [e] at q
      exact ⟨s6 _ _ lock4, q _ (unlock_same f1 (s2.trans (s4'.trans s6)))⟩
    · rintro σ H2 ⟨⟨u, rfl⟩, s2, no⟩
      rw [f2.len, List.take_length] at no
      rw [hasF_hit, no] at q
      exact ⟨s2 _ _ upd_same, q _ (unlock_same f1 s2)⟩
end
end Kin
set_option maxHeartbeats 4000000
/-! K26: sides_fit, parent_kept, known, look, side_of. -/
namespace Kin
open PySem L2
section
variable {P : Program} {w : World} {K : PySem.W.Frag} {mg : Str → Option Value} {g : Str → Addr} {mt : Str → Str → Addr} {base : Heap}
/-- a side, read -/
theorem side_at {N size : Nat} {b : BS} (o : BOk N size b) {n : Str} (h : n ∈ b.names) : ∃ s, valV b.side (.inr n) = some (.str s) ∧ ∀ t, sideIs b n t = decide ((V.str s) = V.str t) := by
  obtain ⟨s, e, _⟩ := o.sd n h
  refine ⟨s, e, fun t => ?_⟩
  unfold sideIs
  rw [e]
  by_cases c : s = t
  · subst c; simp
  · have h1 : ¬ V.str s = V.str t := fun q => c (vstr q)
    have h2 : ¬ some (V.str s) = some (V.str t) := fun q => h1 (Option.some.inj q)
    rw [decide_eq_false h1, decide_eq_false h2]
def spSides (g : Str → Addr) : Sp := fun vs H Q _ => ∃ (Z : Hp) (m : HM) (h : HS) (N : Nat) (k one other : Str), vs = [.ref m.p, .str k, .str one, .str other] ∧ HA g Z H m h ∧ BOk N h.land.size h.st ∧ one ∈ h.st.names ∧ other ∈ h.st.names ∧ Q (.bl (sidesFit h.st k one other)) H
theorem ok_sides_fit (T : Txt w K mg g mt) : GM P w K mg base CX0 1 (g "Hearth") "sides_fit" (spSides g) := by
  refine gm0 (F_Hearth_sides_fit T) (T.cls _ (by decide +kernel)) (T.meth ("Hearth", "sides_fit") (by decide +kernel)) sc_Hearth_sides_fit (fun vs H Q E h => ?_) fun cdv A outer s H vs Q E hr h => ?_
  · obtain ⟨Z, m, h, N, k, one, other, rfl, _⟩ := h; rfl
  · obtain ⟨Z, m, h, N, k, one, other, rfl, a, bo, h1, h2, q⟩ := h
    have hu := hu_of hr
    refine ⟨_, pss_cons (ps_if (pt_cmpR op_eq (pv 1) pe_str (nomark _)) (pss_one (ps_ret (pe_cmpR op_eq (pe_dget hu (pe_sf 0) (pv 3) (fun _ _ => rfl)) pe_str (nomark _)))) pss_nil)
      (pss_cons (ps_if (pt_cmpR op_eq (pv 1) pe_str (nomark _)) (pss_one (ps_ret (pe_cmpR op_eq (pe_dget hu (pe_sf 0) (pv 3) (fun _ _ => rfl)) pe_str (nomark _)))) pss_nil)
      (pss_cons (ps_if (pt_cmpR op_eq (pv 1) pe_str (nomark _)) (pss_one (ps_ret (pe_and (pe_cmpR op_eq (pe_dget hu (pe_sf 0) (pv 2) (fun _ _ => rfl)) pe_str (nomark _)) (pe_one (pe_cmpR op_eq (pe_dget hu (pe_sf 0) (pv 3) (fun _ _ => rfl)) pe_str (nomark _)))))) pss_nil)
      (pss_one (ps_ret pe_bl)))), ?_⟩
    obtain ⟨s1, v1, i1⟩ := side_at bo h1
    obtain ⟨s2, v2, i2⟩ := side_at bo h2
    have rs := rd_side T a
    unfold sidesFit at q
    refine ⟨_, rfl, rfl, _, rfl, iteB (fun c => ?_) (fun c => ?_)⟩
    · rw [if_pos (vstr (eqT c)), i2] at q
      exact ⟨_, _, rfl, rs, _, rfl, m.sd, _, rfl, v2 ▸ DGet.k (k := .inr other) a.c.sd, rfl, q⟩
    have n1 : ¬ k = ("mother" : Str) := fun e => eqF c (by rw [e])
    rw [if_neg n1] at q
    refine ⟨_, rfl, rfl, _, rfl, iteB (fun c => ?_) (fun c => ?_)⟩
    · rw [if_pos (vstr (eqT c)), i2] at q
      exact ⟨_, _, rfl, rs, _, rfl, m.sd, _, rfl, v2 ▸ DGet.k (k := .inr other) a.c.sd, rfl, q⟩
    have n2 : ¬ k = ("father" : Str) := fun e => eqF c (by rw [e])
    rw [if_neg n2] at q
    refine ⟨_, rfl, rfl, _, rfl, iteB (fun c => ?_) (fun c => ?_)⟩
    · rw [if_pos (vstr (eqT c)), i1, i2] at q
      refine ⟨_, _, rfl, rs, _, rfl, m.sd, _, rfl, v1 ▸ DGet.k (k := .inr one) a.c.sd, rfl, _, rfl, iteB (fun c1 => ?_) (fun c1 => ?_)⟩
      · rw [c1, Bool.true_and] at q
        exact ⟨_, _, rfl, rs, _, rfl, m.sd, _, rfl, v2 ▸ DGet.k (k := .inr other) a.c.sd, rfl, q⟩
      · rw [c1, Bool.false_and] at q
        exact q
    have n3 : ¬ k = ("wed" : Str) := fun e => eqF c (by rw [e])
    rw [if_neg n3] at q
    exact q

/-! ### parent_kept -/
def spPk (g : Str → Addr) : Sp := fun vs H Q _ => ∃ (Z : Hp) (m : HM) (h : HS) (k one : Str), vs = [.ref m.p, .str k, .str one] ∧ HA g Z H m h ∧ ∀ H', Same H H' → Q (.bl (parentKept h.st k one)) H'
theorem ok_parent_kept (T : Txt w K mg g mt) : GM P w K mg base CX0 1 (g "Hearth") "parent_kept" (spPk g) := by
  refine gm0 (F_Hearth_parent_kept T) (T.cls _ (by decide +kernel)) (T.meth ("Hearth", "parent_kept") (by decide +kernel)) sc_Hearth_parent_kept (fun vs H Q E h => ?_) fun cdv A outer s H vs Q E hr h => ?_
  · obtain ⟨Z, m, h, k, one, rfl, _⟩ := h; rfl
  · obtain ⟨Z, m, h, k, one, rfl, a, q⟩ := h
    have nd := sc_Hearth_parent_kept.nd
    refine ⟨_, pss_cons (ps_lock (ps_for PassesOwn.never rfl (pi_values (pe_sf 0)) (pg_tup rfl (pgs_cons (pg_name (i := 3) nd rfl (.inl rfl)) (pgs_cons (pg_name (i := 4) nd rfl (.inl rfl)) (pgs_cons (pg_name (i := 5) nd rfl (.inl rfl)) pgs_nil))))
        (pss_one (ps_if (PW.pt (pw_and (pt_cmpR op_eq (pv 3) (pv 1) (nomark _)) (pw_and1 (pt_cmpR op_eq (pv 4) (pv 2) (nomark _))))) (pss_one (ps_ret pe_bl)) pss_nil))))
      (pss_one (ps_ret pe_bl)), ?_⟩
    obtain ⟨fs, f1, f2⟩ := a.c.fd
    refine ⟨m.fd, _, f1, True.intro, fun od => ?_⟩
    have npf : m.p ≠ m.fd := ndn a.nd 0 3 rfl rfl (by decide)
    refine ⟨_, _, rfl, (rd_facts T a).upd npf, m.fd, od, fs, rfl, upd_same, ?_⟩
    refine for_it (walk_values (d := m.fd) (o := od) (kvs := fs)) (fun i σ H2 => (∃ u3 u4 u5, σ = [some (.ref m.p), some (.str k), some (.str one), u3, u4, u5]) ∧ H2 = upd H m.fd (.frz od (.dK fs)) ∧ ((h.st.facts.take i).any fun p => decide (p.2.kind = k) && decide (p.2.one = one)) = false)
      ⟨⟨none, none, none, rfl⟩, rfl, rfl⟩ (fun i σ H2 _ p => by rw [p.2.1]; exact upd_same) ?_ ?_
    · rintro i v σ H2 H3 hi ⟨⟨u3, u4, u5, rfl⟩, rfl, no⟩ ⟨e3, ky, hv⟩
      rw [e3]
      obtain ⟨p, fa, hp, _, rfl, hz⟩ := f2.at i ky v hv
      obtain ⟨num, f⟩ := p
      have hfa : H fa = some (factO f) := a.zs _ _ hz
      have hfa2 : upd H m.fd (.frz od (.dK fs)) fa = some (factO f) := by rw [upd_ne (fun c => by rw [c, f1] at hfa; cases hfa)]; exact hfa
      have et := take_snoc hp
      have next : (decide (f.kind = k) && decide (f.one = one)) = false → ((h.st.facts.take (i + 1)).any fun p => decide (p.2.kind = k) && decide (p.2.one = one)) = false := fun e => by rw [et, List.any_append, no]; simpa using e
      refine ⟨fa, _, rfl, SqT.of hfa2, rfl, _, _, rfl, _, _, rfl, _, _, rfl, rfl, ?_⟩
      refine ⟨_, rfl, _, rfl, rfl, _, rfl, iteB (fun c1 => ?_) (fun c1 => ⟨⟨_, _, _, rfl⟩, rfl, next (by
        rw [decide_eq_false (fun e : f.kind = k => eqF c1 (by rw [e])), Bool.false_and])⟩)⟩
      refine ⟨_, rfl, _, rfl, rfl, _, rfl, iteB (fun c2 => ?_) (fun c2 => ⟨⟨_, _, _, rfl⟩, rfl, next (by
        rw [decide_eq_false (fun e : f.one = one => eqF c2 (by rw [e])), Bool.and_false])⟩)⟩
      have e : parentKept h.st k one = true := List.any_eq_true.mpr ⟨_, List.mem_of_getElem? hp, by
        show (decide (f.kind = k) && decide (f.one = one)) = true
        rw [decide_eq_true (vstr (eqT c1)), decide_eq_true (vstr (eqT c2))]; rfl⟩
      rw [e] at q
      exact ⟨upd_same, q _ (unlock_same f1 (Same.refl _))⟩
    · rintro σ H2 ⟨⟨u3, u4, u5, rfl⟩, rfl, no⟩
      rw [f2.len, List.take_length] at no
      have e : parentKept h.st k one = false := no
      rw [e] at q
      exact ⟨upd_same, q _ (unlock_same f1 (Same.refl _))⟩

/-! ### known -/
abbrev inB (b : BS) (one other : Str) : Prop := (valV b.side (.inr one)).isSome = true ∧ (valV b.side (.inr other)).isSome = true
def spKnown (K : PySem.W.Frag) (g : Str → Addr) : Sp := fun vs H Q E => ∃ (Z : Hp) (m : HM) (h : HS) (k one other : Str), vs = [.ref m.p, .str k, .str one, .str other] ∧ HA g Z H m h ∧ IsTie k ∧
  (inB h.st one other → Q .non H) ∧ (¬ inB h.st one other → ∀ cls d H', Refused K (g "KinError") "no person" H cls d H' → E cls d H')
theorem ok_known (T : Txt w K mg g mt) : GM P w K mg base (L2.CX P w) 4 (g "Hearth") "known" (spKnown K g) := by
  refine gmX (F_Hearth_known T) (T.cls _ (by decide +kernel)) (T.meth ("Hearth", "known") (by decide +kernel)) sc_Hearth_known (fun vs H Q E h => ?_) fun cdv A outer s H vs Q E hr h => ?_
  · obtain ⟨Z, m, h, k, one, other, rfl, _⟩ := h; rfl
  · obtain ⟨Z, m, h, k, one, other, rfl, a, tie, q1, q2⟩ := h
    have hu := hu_of hr
    have Np := ok_NoPerson (P := P) (base := base) T
    obtain ⟨gl, es, n, D⟩ := T.tab "LETTER" (by decide +kernel)
    have tk := takes_of (X := cxOf (L2.CX P w) P w K mg base ["self", "kind", "one", "other"] "Hearth.known" (defScope s_Hearth_known) (mt "Hearth" "known") cdv A outer s H E) rfl rfl rfl rfl
    refine ⟨_, pss_cons (ps_if (pt_cmpR (op_notIn_kd D) (pv 1) (pe_glob (v := .ref (g "LETTER")) rfl gl rfl) rfl) (pss_one ps_never) pss_nil)
      (pss_one (ps_if (PW.pt (pw_or (pt_cmp (pc_dnotin hu (pv 2) (pe_sf 0))) (pw_or1 (pt_cmp (pc_dnotin hu (pv 3) (pe_sf 0)))))) (pss_one (ps_ref0 Np hr rfl tk)) pss_nil)), ?_⟩
    obtain ⟨es', n', u, _, _, hl, _⟩ := letter_at T tie
    refine ⟨_, rfl, k, some u, rfl, rfl, hl, _, rfl, iteB (fun c => by cases c) (fun _ => ?_)⟩
    have rs := rd_side T a
    refine ⟨_, rfl, _, _, rfl, rs, m.sd, _, rfl, DGet.k (k := .inr one) a.c.sd, _, rfl, iteB (fun c => ?_) (fun c1 => ?_)⟩
    · exact q2 fun ⟨e, _⟩ => by rw [e] at c; cases c
    refine ⟨_, rfl, _, _, rfl, rs, m.sd, _, rfl, DGet.k (k := .inr other) a.c.sd, _, rfl, iteB (fun c => ?_) (fun c2 => ?_)⟩
    · exact q2 fun ⟨_, e⟩ => by rw [e] at c; cases c
    exact q1 ⟨by simpa using c1, by simpa using c2⟩

/-! ### a cut behind a test -/
def tCutT (t : TT) : TT := fun σ H Q => ∃ I : Bool → Hp → Prop, t σ H I ∧ ∀ b H', I b H' → Q b H'
theorem pt_cut {X : Cx} {e : Expr} {t : TT} (h : PT X e t) : PT X e (tCutT t) := by
  refine ⟨fun pins s σ H Q I h' => ?_⟩
  obtain ⟨J, h1, h2⟩ := h'
  refine thn (h.run pins s σ H _ I h1) fun b s' q => ?_
  exact let ⟨H', a, b⟩ := q; ⟨H', a, h2 _ _ b⟩
/-! ### look -/
theorem look_np {b : BS} {k one other : Str} (h : ¬ inB b one other) : lookH b k one other = some ("no person" : Str) := by
  unfold lookH; rw [if_pos h]
def spLook (K : PySem.W.Frag) (g : Str → Addr) : Sp := fun vs H Q E => ∃ (Z : Hp) (m : HM) (h : HS) (N : Nat) (k one other : Str), vs = [.ref m.p, .str k, .str one, .str other] ∧ HA g Z H m h ∧ BOk N h.land.size h.st ∧ N ≤ 99999 ∧ IsTie k ∧
  (lookH h.st k one other = none → ∀ H', Same H H' → Q .non H') ∧ (∀ e, lookH h.st k one other = some e → ∀ cls d H', Refused K (g "KinError") e H cls d H' → E cls d H')
theorem eqvNil (xs : List V) : PyData.eqv (.list (xs.map dv)) (.list []) = xs.isEmpty := by
  cases xs with
  | nil => simp [PyData.eqv, PyData.eqvAll]
  | cons x r => simp [PyData.eqv, PyData.eqvAll]
theorem dpAll_flat {K : PySem.W.Frag} {H : Hp} : ∀ {xs : List V}, (∀ x ∈ xs, FlatO x) → DpAll K H xs (xs.map dv)
  | [], _ => .nil
  | x :: r, h => by
    refine .cons ?_ (dpAll_flat fun y hy => h y (List.mem_cons_of_mem _ hy))
    rcases h x (List.mem_cons_self ..) with ⟨s, rfl, _⟩ | ⟨i, rfl⟩
    · exact .str s
    · exact .int i
theorem sh_flat {xs : List V} (h : ∀ x ∈ xs, FlatO x) : SeqAt.shaped (.list (xs.map dv)) = true := by
  have e : PyData.canLayAll0 (xs.map dv) = true ∧ PyData.depthAll (xs.map dv) = 0 := by
    induction xs with
    | nil => exact ⟨by simp [PyData.canLayAll0], by simp [PyData.depthAll]⟩
    | cons x r ih =>
      obtain ⟨i1, i2⟩ := ih fun y hy => h y (List.mem_cons_of_mem _ hy)
      rcases h x (List.mem_cons_self ..) with ⟨s, rfl, q⟩ | ⟨i, rfl⟩
      · exact ⟨by rw [List.map_cons, PyData.canLayAll0, i1]; simpa [dv, PyData.canLay0] using q, by rw [List.map_cons, PyData.depthAll, i2]; rfl⟩
      · exact ⟨by rw [List.map_cons, PyData.canLayAll0, i1]; rfl, by rw [List.map_cons, PyData.depthAll, i2]; rfl⟩
  unfold SeqAt.shaped
  rw [PyData.canLay0, PyData.depth, e.1, e.2]
  rfl
theorem tie_ok {k : Str} (h : IsTie k) : PyData.strOk k = true := by
  rcases h with rfl | rfl | rfl | rfl <;> decide +kernel
theorem ok_look (T : Txt w K mg g mt) : GM P w K mg base (L2.CX P w) 5 (g "Hearth") "look" (spLook K g) := by
  refine gmX (F_Hearth_look T) (T.cls _ (by decide +kernel)) (T.meth ("Hearth", "look") (by decide +kernel)) sc_Hearth_look (fun vs H Q E h => ?_) fun cdv A outer s H vs Q E hr h => ?_
  · obtain ⟨Z, m, h, N, k, one, other, rfl, _⟩ := h; rfl
  · obtain ⟨Z, m, h, N, k, one, other, rfl, a, bo, hN, tie, q1, q2⟩ := h
    have nd := sc_Hearth_look.nd
    have Kn := ok_known (P := P) (base := base) T
    have Sf := ok_sides_fit (P := P) (base := base) T
    have Ha := ok_has (P := P) (base := base) T
    have Pk := ok_parent_kept (P := P) (base := base) T
    have Lu := ok_line_up (P := P) (base := base) T
    have Ke := ok_kept (P := P) (base := base) T
    have Ws := ok_WrongSide (P := P) (base := base) T
    have Tw := ok_Twice (P := P) (base := base) T
    have Oe := ok_OwnElder (P := P) (base := base) T
    have tk := takes_of (X := cxOf (L2.CX P w) P w K mg base ["self", "kind", "one", "other", "line"] "Hearth.look" (defScope s_Hearth_look) (mt "Hearth" "look") cdv A outer s H E) rfl rfl rfl rfl
    refine ⟨_, pss_cons (ps_expr (pe_gm Kn (pv 0) hr (passE tk rfl) (pa_cons (pv 1) (pa_cons (pv 2) (pa_cons (pv 3) pa_nil)))))
      (pss_cons (ps_if (pt_not (pt_val (pe_gm Sf (pv 0) hr pass0 (pa_cons (pv 1) (pa_cons (pv 2) (pa_cons (pv 3) pa_nil)))))) (pss_one (ps_ref0 Ws hr rfl tk)) pss_nil)
      (pss_cons (ps_if (PW.pt (pw_or (pt_val (pe_gm Ha (pv 0) hr pass0 (pa_cons (pv 1) (pa_cons (pv 2) (pa_cons (pv 3) pa_nil))))) (pw_or1 (PW.pt (pw_and (pt_cmpR op_eq (pv 1) pe_str (nomark _)) (pw_and1 (pt_cmpR op_eq (pv 2) (pv 3) (nomark _)))))))) (pss_one (ps_ref0 Tw hr rfl tk)) pss_nil)
      (pss_one (ps_if (pt_cut (PW.pt (pw_or (pt_cmpR op_eq (pv 1) pe_str (nomark _)) (pw_or1 (pt_cmpR op_eq (pv 1) pe_str (nomark _))))))
        (pss_cons (ps_if (pt_val (pe_gm Pk (pv 0) hr pass0 (pa_cons (pv 1) (pa_cons (pv 2) pa_nil)))) (pss_one (ps_ref0 Tw hr rfl tk)) pss_nil)
        (pss_cons (ps_set (i := 4) nd rfl (.inl rfl) (pe_gf Lu hr pass0 (pa_cons (pe_gm0 Ke (pv 0) hr pass0) (pa_cons (pv 3) (pa_cons (pv 2) pa_nil)))))
        (pss_one (ps_if (pt_cmpR (op_neD hr.units) (pv 4) (pe_lst pa_nil) (nomark _)) (pss_one (ps_refN Oe hr rfl tk (pa_cons (pv 4) pa_nil) (fun σ H Q Q' i h => let ⟨v, e, q⟩ := h; ⟨v, e, i _ _ q⟩))) pss_nil)))) pss_nil)))), ?_⟩
    obtain ⟨dx, lo, ob, la⟩ := a.ob
    refine ⟨_, rfl, m.p, dx, _, rfl, ob, hN_known .., _, rfl, _, rfl, _, rfl, ?_⟩
    refine ⟨Z, m, h, k, one, other, rfl, a, tie, fun hin => ?_, fun hin => q2 _ (look_np hin)⟩
    have m1 := side_in bo hin.1
    have m2 := side_in bo hin.2
    have so1 := isName_ok (bo.nk _ m1)
    have so2 := isName_ok (bo.nk _ m2)
    have lk : lookH h.st k one other = (if sidesFit h.st k one other = false then some ("wrong side" : Str)
      else if hasF h.st k one (.str other) = true ∨ (k = "sibling" ∧ one = other) then some ("told twice" : Str)
      else if k = "mother" ∨ k = "father" then
        (if parentKept h.st k one = true then some ("told twice" : Str) else if elder (keptL h.st) other one = true then some ("own elder" : Str) else none)
      else none) := by unfold lookH; rw [if_neg (Classical.not_not.mpr hin)]
    rw [lk] at q1 q2
    refine ⟨_, rfl, m.p, dx, _, rfl, ob, hN_sides_fit .., _, rfl, _, rfl, _, rfl, Z, m, h, N, k, one, other, rfl, a, bo, m1, m2, _, rfl, iteB (fun c => ?_) (fun c => ?_)⟩
    · have e : sidesFit h.st k one other = false := by simpa using c
      rw [if_pos e] at q2
      exact q2 _ rfl
    have e1 : ¬ sidesFit h.st k one other = false := by simpa using c
    rw [if_neg e1] at q1 q2
    refine ⟨_, rfl, m.p, dx, _, rfl, ob, hN_has .., _, rfl, _, rfl, _, rfl, Z, m, h, N, k, one, .str other, rfl, a, bo, tie_ok tie, so1, .inl ⟨other, rfl, so2⟩, fun _ => ⟨other, rfl⟩, fun H1 s1 => ⟨_, rfl, iteB (fun c => ?_) (fun c => ?_)⟩⟩
    · rw [if_pos (.inl c)] at q2
      exact fun cls d H' r => q2 _ rfl cls d H' (r.back s1)
    have a1 := a.same s1
    have ob1 := s1 _ _ ob
    apply fall_once (¬ (k = ("sibling" : Str) ∧ one = other))
    · intro fall
      refine ⟨_, rfl, rfl, _, rfl, iteB (fun c2 => ?_) (fun c2 => fall fun e => eqF c2 (by rw [e.1]))⟩
      refine ⟨_, rfl, _, rfl, rfl, _, rfl, iteB (fun c3 => ?_) (fun c3 => fall fun e => eqF c3 (by rw [e.2]))⟩
      rw [if_pos (.inr ⟨vstr (eqT c2), vstr (eqT c3)⟩)] at q2
      exact fun cls d H' r => q2 _ rfl cls d H' (r.back s1)
    · intro ns
      rw [if_neg (fun e => e.elim (fun e => by rw [e] at c; cases c) ns)] at q1 q2
      refine ⟨fun b H' => b = decide (k = ("mother" : Str) ∨ k = ("father" : Str)) ∧ H' = H1, ?_, ?_⟩
      · refine ⟨_, rfl, rfl, _, rfl, iteB (fun c2 => ⟨?_, rfl⟩) (fun c2 => ?_)⟩
        · exact (decide_eq_true (.inl (vstr (eqT c2)))).symm
        refine ⟨_, rfl, rfl, _, rfl, ?_, rfl⟩
        by_cases c3 : k = ("father" : Str)
        · rw [decide_eq_true (show k = ("mother" : Str) ∨ k = ("father" : Str) from .inr c3), c3]; exact decide_eq_true rfl
        · rw [decide_eq_false (fun e : k = ("mother" : Str) ∨ k = ("father" : Str) => e.elim (fun e => eqF c2 (by rw [e])) c3)]
          exact decide_eq_false fun e => c3 (vstr e)
      rintro b H' ⟨rfl, rfl⟩
      refine iteB (fun mf => ?_) (fun nmf => ?_)
      · have mf := eqT mf
        rw [if_pos mf] at q1 q2
        refine ⟨_, rfl, m.p, dx, _, rfl, ob1, hN_parent_kept .., _, rfl, _, rfl, Z, m, h, k, one, rfl, a1, fun H2 s2 => ⟨_, rfl, iteB (fun c2 => ?_) (fun c2 => ?_)⟩⟩
        · rw [if_pos c2] at q2
          exact fun cls d H' r => q2 _ rfl cls d H' (r.back (s1.trans s2))
        have npk : ¬ parentKept h.st k one = true := by rw [c2]; decide
        rw [if_neg npk] at q1 q2
        have s12 := s1.trans s2
        refine ⟨_, rfl, m.p, dx, _, rfl, s12 _ _ ob, hN_kept .., Z, m, h, N, rfl, a.same s12, bo, hN, fun kp H3 s3 hkp R => ?_⟩
        obtain ⟨as, ha, ea⟩ := R.ex
        refine ⟨_, rfl, _, rfl, kp, other, one, as, keptL h.st, h.land.size, h.st.names, rfl, ha, ea, R.ok, R.sz, m2, by have := bo.ln; omega, fun r xs H4 s4 hr4 e4 n4 => ?_⟩
        have s14 := s12.trans (s3.trans s4)
        have fl : ∀ x ∈ xs, FlatO x := fun x hx => by
          obtain ⟨n, hn, rfl⟩ := n4 x hx
          exact .inl ⟨n, rfl, isName_ok (bo.nk _ hn)⟩
        refine ⟨_, rfl, Nat.zero_le _, fun em hem => ?_⟩
        have s5 := same_new (o := .lst []) hem
        have h5 : upd H4 em (.lst []) em = some (.lst []) := upd_same
        generalize upd H4 em (.lst []) = H5 at s5 h5 ⊢
        refine ⟨_, .list [], .lst (SqL.of (s5 _ _ hr4)) (dpAll_flat fl), .lst (SqL.of h5) .nil, sh_flat fl, by rfl, _, rfl, ?_⟩
        rw [eqvNil, e4]
        refine iteB (fun c3 => ?_) (fun c3 => ?_)
        · have el : elder (keptL h.st) other one = true := by simpa using c3
          rw [if_pos el] at q2
          exact ⟨_, rfl, rfl, fun cls d H' r => q2 _ rfl cls d H' (r.back (s14.trans s5))⟩
        · have el : ¬ elder (keptL h.st) other one = true := by simpa using c3
          rw [if_neg el] at q1
          exact q1 rfl _ (s14.trans s5)
      · rw [if_neg (eqF nmf)] at q1
        exact q1 rfl _ s1
end
end Kin
set_option maxHeartbeats 4000000
/-! K27: go_to. -/
namespace Kin
open PySem L2
theorem tie_false {J : JS} {x y : Nat} {t : List Int} (h : (tieJ J x y t).2 = false) : (tieJ J x y t).1 = J := by
  unfold tieJ at h ⊢
  split
  · rfl
  · rename_i c
    rw [if_neg c] at h
    dsimp only at h
    split at h
    · cases h
    · split at h <;> cases h
theorem say_false {J : JS} {x : Nat} {z : Int} (h : (sayJ J x z).2 = false) : (sayJ J x z).1 = J := by
  unfold sayJ at h ⊢
  split
  · rename_i c
    rw [if_pos c] at h; cases h
  · rfl
section
variable {g : Str → Addr} {Z0 Z2 H0 H2 : Hp} {m : HM} {h : HS} {fd : Addr} {od : Obj} {u : HO}
/-- a step under a lock, the lock let go -/
theorem unlock_step {M : List Addr} (hd : H0 fd = some u) (hm : fd ∉ M) (st : Step Z0 (upd H0 fd (.frz od u)) M Z2 H2) : Step Z0 H0 M Z2 (upd H2 fd u) := by
  refine ⟨st.zz, fun b o e n => ?_, fun b o e => ?_, fun b e => ?_⟩
  · by_cases c : b = fd
    · subst c; rw [upd_same, ← hd]; exact e
    · rw [upd_ne c]; exact st.kp b o (by rw [upd_ne c]; exact e) n
  · rcases st.nw b o e with q | q
    · exact .inl q
    · exact .inr (upd_none q)
  · exact upd_none (st.lv b (upd_none e))
theorem JA.put {jo a1 a2 a3 a4 p : Addr} {J : JS} {o : HO} (j : JA g Z0 H0 jo a1 a2 a3 a4 J) (hz : Z0 p = none) (hp : p ∉ jM jo a1 a2 a3 a4) : JA g Z0 (upd H0 p o) jo a1 a2 a3 a4 J :=
  j.frame (M := [p]) ((Step.refl _ _ _).upd (by simp)) (same_updZ j.zs hz) fun x hx hm => hp (by rw [← List.mem_singleton.mp hm]; exact hx)
end
section
variable {P : Program} {w : World} {K : PySem.W.Frag} {mg : Str → Option Value} {g : Str → Addr} {mt : Str → Str → Addr} {base : Heap}
def spGoTo (g : Str → Addr) : Sp := fun vs H Q _ => ∃ (Z : Hp) (m : HM) (h : HS) (N : Nat) (r : Addr) (b : BS), vs = [.ref m.p, .ref r] ∧ HA g Z H m h ∧ StA Z r b ∧ LOk h.land ∧ BOk N h.land.size b ∧ N ≤ 99999 ∧
  ∀ Z' H' m', Now g Z H m Z' H' m' (goTo h b) → Q .non H'
theorem ok_go_to (T : Txt w K mg g mt) : GM P w K mg base CX0 6 (g "Hearth") "go_to" (spGoTo g) := by
  refine gm0 (F_Hearth_go_to T) (T.cls _ (by decide +kernel)) (T.meth ("Hearth", "go_to") (by decide +kernel)) sc_Hearth_go_to (fun vs H Q E h => ?_) fun cdv A outer s H vs Q E hr h => ?_
  · obtain ⟨Z, m, h, N, r, b, rfl, _⟩ := h; rfl
  · obtain ⟨Z, m, h, N, r, b, rfl, a, sb, lok, bo, hN, k⟩ := h
    have nd := sc_Hearth_go_to.nd
    have hu := hu_of hr
    have c : Cls K (g "Hearth") := T.cls _ (by decide +kernel)
    have fl : mg "list" = none := T.free _ (by decide +kernel)
    have fd : mg "dict" = none := T.free _ (by decide +kernel)
    have gl : mg "LETTER" = some (.ref (g "LETTER")) := (T.tab "LETTER" (by decide +kernel)).1
    have Ji := ok_Joins_init (P := P) (base := base) T
    have Ad := ok_Joins_add (P := P) (base := base) T
    have Sa := ok_Joins_say (P := P) (base := base) T
    have Ti := ok_Joins_tie (P := P) (base := base) T
    have St := ok_Land_step (P := P) (base := base) T
    refine ⟨_, pss_cons (ps_asg (pv 1) (pg_tup rfl (pgs_cons (pg_name (i := 2) nd rfl (.inl rfl)) (pgs_cons (pg_name (i := 3) nd rfl (.inl rfl)) (pgs_cons (pg_name (i := 4) nd rfl (.inl rfl)) (pgs_cons (pg_name (i := 5) nd rfl (.inl rfl)) pgs_nil))))))
      (pss_cons (ps_fld (pv 0) (pe_callTy call_list_of (by rfl) fl PyProof.Rows.boot_list (pa_cons (pv 2) pa_nil)) rfl)
      (pss_cons (ps_fld (pv 0) (pe_callTy call_dictD (by rfl) fd PyProof.Rows.boot_dict (pa_cons (pv 3) pa_nil)) rfl)
      (pss_cons (ps_fld (pv 0) (pe_callTy call_dictD (by rfl) fd PyProof.Rows.boot_dict (pa_cons (pv 4) pa_nil)) rfl)
      (pss_cons (ps_fld (pv 0) (pv 5) rfl)
      (pss_cons (ps_fld (pv 0) pe_dnewK rfl)
      (pss_cons (ps_fld (pv 0) (pe_cut (pe_gk Ji hr pass0 (pa_cons (pe_fld (pe_sf 0) rfl) pa_nil))) rfl)
      (pss_cons (ps_for PassesOwn.never rfl (pi_list (pe_sf 0)) (pg_name (i := 6) nd rfl (.inl rfl))
        (pss_one (ps_dput hu (pe_sf 0) (pv 6) (pe_gm0 Ad (pe_sf 0) hr pass0) rfl)))
      (pss_one (ps_lock (ps_for PassesOwn.never rfl (pi_values (pe_sf 0)) (pg_tup rfl (pgs_cons (pg_name (i := 7) nd rfl (.inl rfl)) (pgs_cons (pg_name (i := 8) nd rfl (.inl rfl)) (pgs_cons (pg_name (i := 9) nd rfl (.inl rfl)) pgs_nil))))
        (pss_one (ps_if (pt_cmpR op_eq (pv 7) pe_str (nomark _))
          (pss_one (ps_expr (pe_gm Sa (pe_sf 0) hr pass0 (pa_cons (pe_dget hu (pe_sf 0) (pv 8) (fun _ _ => rfl)) (pa_cons (pv 9) pa_nil)))))
          (pss_one (ps_expr (pe_gm Ti (pe_sf 0) hr pass0 (pa_cons (pe_dget hu (pe_sf 0) (pv 8) (fun _ _ => rfl)) (pa_cons (pe_dget hu (pe_sf 0) (pv 9) (fun _ _ => rfl))
            (pa_cons (pe_gm St (pe_sf 0) hr pass0 (pa_cons (pe_ix ix_kdict (pe_glob (v := .ref (g "LETTER")) rfl gl rfl) (pv 7) (fun _ _ => rfl)) pa_nil)) pa_nil)))))))))))))))))), ?_⟩
    obtain ⟨l, d, f, fs, z1, z2, z3, z4, z5⟩ := sb.ex
    have n0 := Now.refl a
    refine ⟨_, rfl, r, _, rfl, SqT.of (a.zs _ _ z1), rfl, _, _, rfl, _, _, rfl, _, _, rfl, _, _, rfl, rfl, ?_⟩
    -- names
    refine ⟨_, rfl, l, _, rfl, .inl (SqL.of (a.zs _ _ z2)), fun q1 hq1 => ?_⟩
    have f1 := n0.free hq1
    obtain ⟨dx, fs', ob, l9, n1⟩ := (n0.same (same_new (o := .lst (b.names.map V.str)) hq1)).put_names b.names (q := q1) upd_same f1.1 f1.2.1 f1.2.2
    refine ⟨_, rfl, m.p, _, dx, _, rfl, ob, c, T.noat ("Hearth", "names") (by decide +kernel), l9, ?_⟩
    generalize upd (upd H q1 _) m.p _ = H1 at n1 ⊢
    -- side
    refine ⟨_, rfl, d, _, rfl, .inl (n1.ha.zs _ _ z3), fun q2 hq2 => ?_⟩
    have f2 := n1.free hq2
    obtain ⟨dx, fs', ob, l9, n2⟩ := (n1.same (same_new (o := .dK b.side) hq2)).put_side b.side (q := q2) upd_same f2.1 f2.2.1 f2.2.2
    refine ⟨_, rfl, m.p, _, dx, _, rfl, ob, c, T.noat ("Hearth", "side") (by decide +kernel), l9, ?_⟩
    generalize upd (upd H1 q2 _) m.p _ = H2 at n2 ⊢
    dsimp only at n2
    -- facts
    refine ⟨_, rfl, f, _, rfl, .inl (n2.ha.zs _ _ z4), fun q3 hq3 => ?_⟩
    have f3 := n2.free hq3
    obtain ⟨dx, fs', ob, l9, n3⟩ := (n2.same (same_new (o := .dK fs) hq3)).put_facts z5 (q := q3) upd_same f3.1 f3.2.1 f3.2.2
    refine ⟨_, rfl, m.p, _, dx, _, rfl, ob, c, T.noat ("Hearth", "facts") (by decide +kernel), l9, ?_⟩
    generalize upd (upd H2 q3 _) m.p _ = H3 at n3 ⊢
    dsimp only at n3
    -- after
    obtain ⟨dx, fs', ob, l9, n4⟩ := n3.put_after b.after
    refine ⟨_, rfl, _, rfl, m.p, _, dx, _, rfl, ob, c, T.noat ("Hearth", "after") (by decide +kernel), l9, ?_⟩
    generalize upd H3 _ _ = H4 at n4 ⊢
    dsimp only at n4
    -- place
    refine fun q5 hq5 => ?_
    have f5 := n4.free hq5
    obtain ⟨dx, fs', ob, l9, n5⟩ := (n4.same (same_new (o := .dK []) hq5)).put_place [] (q := q5) upd_same f5.1 f5.2.1 f5.2.2
    refine ⟨_, rfl, m.p, _, dx, _, rfl, ob, c, T.noat ("Hearth", "place") (by decide +kernel), l9, ?_⟩
    generalize upd (upd H4 q5 _) m.p _ = H5 at n5 ⊢
    dsimp only at n5
    -- joins
    obtain ⟨lo, hlo, la⟩ := rd_land T n5.ha
    obtain ⟨ldx, lm, lf, lw, l1, l2, l3, l4⟩ := la.ex
    refine ⟨fun v H6 => ∃ jo a1 a2 a3 a4, v = .ref jo ∧ (∀ x ∈ jM jo a1 a2 a3 a4, H5 x = none) ∧ JA g Z H6 jo a1 a2 a3 a4 (JS.none_ h.land.size) ∧ Same H5 H6, ?_, ?_⟩
    · refine ⟨_, _, rfl, hlo, lo, _, ldx, _, _, rfl, n5.ha.zs _ _ l1, T.cls "Land" (by decide +kernel), T.noat ("Land", "size") (by decide +kernel), lF_size .., ?_⟩
      exact mkJ (Q := fun v H6 => ∃ jo a1 a2 a3 a4, v = .ref jo ∧ (∀ x ∈ jM jo a1 a2 a3 a4, H5 x = none) ∧ JA g Z H6 jo a1 a2 a3 a4 (JS.none_ h.land.size) ∧ Same H5 H6) (n := h.land.size) n5.ha.zs fun jo a1 a2 a3 a4 H6 fr j6 s6 => ⟨jo, a1, a2, a3, a4, rfl, fr, j6, s6⟩
    rintro _ H6 ⟨jo, a1, a2, a3, a4, rfl, fr, j6, s6⟩
    obtain ⟨dx, fs', ob, l9, n6⟩ := (n5.same s6).put_joins j6 (fun x hx => (n5.free (fr x hx)).1) (fun x hx => (n5.free (fr x hx)).2.2)
    refine ⟨_, rfl, m.p, _, dx, _, rfl, ob, c, T.noat ("Hearth", "joins") (by decide +kernel), l9, ?_⟩
    generalize upd H6 _ _ = H7 at n6 ⊢
    dsimp only at n6
    have lz1 : 1 ≤ h.land.size := Nat.le_trans (by decide) lok.s2
    -- the people placed
    have hx := rd_names T n6.ha
    dsimp only at hx
    refine ⟨_, _, rfl, hx, q1, rfl, ⟨_, SqL.of n6.ha.c.nl⟩, ?_⟩
    refine for_it (walk_list (K := K) (a := q1) (xs := b.names.map V.str)) (fun i σ H8 => (∃ u6 u7 u8 u9, σ = [some (.ref m.p), some (.ref r), some (.ref l), some (.ref d), some (.ref f), some (.int b.after), u6, u7, u8, u9]) ∧ ∃ Z8, Now g Z H m Z8 H8 ⟨m.p, q1, q2, q3, q5, m.pa, m.ah, jo, a1, a2, a3, a4⟩ ⟨h.land, b, (placeTo h.land.size (b.names.take i)).1, (placeTo h.land.size (b.names.take i)).2, h.past, h.ahead⟩)
      ⟨⟨none, none, none, none, rfl⟩, _, n6⟩ (fun i σ H8 _ p => let ⟨_, Z8, n8⟩ := p; SqL.of n8.ha.c.nl) ?_ ?_
    · rintro i v σ H8 H9 hi ⟨⟨u6, u7, u8, u9, rfl⟩, Z8, n8⟩ ⟨e9, hv⟩
      rw [e9]
      obtain ⟨nm, hnm, rfl⟩ := map_at hv
      have hil : i < b.names.length := (List.getElem?_eq_some_iff.mp hnm).1
      obtain ⟨o1, o2, o3, o4⟩ := placeTo_ok lz1 lok.s8 b.names i (by omega)
      have bl := bo.ln
      obtain ⟨jdx, job⟩ := n8.ha.c.jo.ob
      have hj := rd_joins T n8.ha
      dsimp only at hj
      refine ⟨_, _, rfl, hj, jo, jdx, _, rfl, job, (nomJ ..).2.2.2.1, Z8, jo, a1, a2, a3, a4, _, i, rfl, n8.ha.c.jo, o1, by omega, fun Z9 H9 j9 st9 => ?_⟩
      have n9 := n8.setJ (m' := ⟨m.p, q1, q2, q3, q5, m.pa, m.ah, jo, a1, a2, a3, a4⟩) st9 j9
      have hp := rd_place T n9.ha
      dsimp only at hp
      refine ⟨_, _, rfl, hp, _, rfl, q5, _, rfl, DPut.k (k := .inr nm) n9.ha.c.pd (smallL (Nat.le_trans o4 (by omega))), ⟨_, _, _, _, rfl⟩, Z9, ?_⟩
      have e10 : placeTo h.land.size (b.names.take (i + 1)) = (putK (placeTo h.land.size (b.names.take i)).1 (.inr nm) (.int (i : Nat)), addJ (placeTo h.land.size (b.names.take i)).2) := by
        rw [take_snoc hnm, placeTo_snoc, o1.la]
      rw [e10]
      exact n9.set_pd _
    · rintro σ H8 ⟨⟨u6, u7, u8, u9, rfl⟩, Z8, n8⟩
      rw [List.length_map, List.take_length] at n8
      obtain ⟨o1, o2, o3, o4⟩ := placeTo_all lz1 lok.s8 b.names
      -- the facts told again, under lock
      obtain ⟨gs, g1, g2⟩ := n8.ha.c.fd
      dsimp only at g1 g2
      refine ⟨q3, _, g1, True.intro, fun od => ?_⟩
      have offq : Z8 q3 = none := n8.ha.off _ (List.mem_of_getElem? (i := 3) rfl)
      have nj : q3 ∉ jM jo a1 a2 a3 a4 := fun hm => n8.ha.ndj 3 (by decide) rfl hm rfl
      have npq : m.p ≠ q3 := ndn n8.ha.nd 0 3 rfl rfl (by decide)
      have hfx := rd_facts T n8.ha
      dsimp only at hfx
      refine ⟨_, _, rfl, hfx.upd npq, q3, od, gs, rfl, upd_same, ?_⟩
      have j0 := n8.ha.c.jo.put (o := .frz od (.dK gs)) offq nj
      have st0 : Step Z8 (upd H8 q3 (.frz od (.dK gs))) (jM jo a1 a2 a3 a4) Z8 (upd H8 q3 (.frz od (.dK gs))) := Step.refl _ _ _
      have pl0 : upd H8 q3 (.frz od (.dK gs)) q5 = some (.dK (placeTo h.land.size b.names).1) := by
        rw [upd_ne (ndn n8.ha.nd 4 3 rfl rfl (by decide))]; exact n8.ha.c.pd
      have nj5 : q5 ∉ jM jo a1 a2 a3 a4 := fun hm => n8.ha.ndj 4 (by decide) rfl hm rfl
      have njp : m.p ∉ jM jo a1 a2 a3 a4 := fun hm => n8.ha.ndj 0 (by decide) rfl hm rfl
      obtain ⟨odx, olo, oob, ola⟩ := n8.ha.ob
      dsimp only at oob ola
      have ob0 : upd H8 q3 (.frz od (.dK gs)) m.p = some (.ins (g "Hearth") odx (hF olo q1 q2 q3 b.after q5 jo m.pa m.ah)) := by rw [upd_ne npq]; exact oob
      refine for_it (walk_values (d := q3) (o := od) (kvs := gs)) (fun i σ H9 => (∃ u6 u7 u8 u9, σ = [some (.ref m.p), some (.ref r), some (.ref l), some (.ref d), some (.ref f), some (.int b.after), u6, u7, u8, u9]) ∧ ∃ Z9, JA g Z9 H9 jo a1 a2 a3 a4 (factsJ h.land (placeTo h.land.size b.names).1 (placeTo h.land.size b.names).2 (b.facts.take i)) ∧ Step Z8 (upd H8 q3 (.frz od (.dK gs))) (jM jo a1 a2 a3 a4) Z9 H9)
        ⟨⟨_, _, _, _, rfl⟩, Z8, j0, st0⟩ (fun i σ H9 _ p => let ⟨_, Z9, _, st9⟩ := p; st9.kp _ _ upd_same nj) ?_ ?_
      · rintro i v σ H9 H10 hi ⟨⟨w6, w7, w8, w9, rfl⟩, Z9, j9, st9⟩ ⟨e9, ky, hv⟩
        rw [e9]
        obtain ⟨pq, fa, hp, _, rfl, hz⟩ := g2.at i ky v hv
        obtain ⟨num, ft⟩ := pq
        have fo := bo.fo _ (List.mem_of_getElem? hp)
        have hfa : H9 fa = some (factO ft) := j9.zs _ _ (st9.zz _ _ hz)
        have bln : b.names.length ≤ 99999 := by have := bo.ln; omega
        obtain ⟨r1, r2⟩ := factsJ_ok (fs := b.facts.take i) lok o3 o1 o2 (fun q hq => bo.fo q (List.mem_of_mem_take hq))
        have et := take_snoc hp
        have ef : factsJ h.land (placeTo h.land.size b.names).1 (placeTo h.land.size b.names).2 (b.facts.take (i + 1)) = factJ h.land (placeTo h.land.size b.names).1 (factsJ h.land (placeTo h.land.size b.names).1 (placeTo h.land.size b.names).2 (b.facts.take i)) ft := by rw [et, factsJ_snoc]
        have ob9 := st9.kp _ _ ob0 njp
        have pl9 := st9.kp _ _ pl0 nj5
        have hj9 := hasH T ob9 (x := "joins") (by decide +kernel) (hF_joins ..)
        have hp9 := hasH T ob9 (x := "place") (by decide +kernel) (hF_place ..)
        have hl9 := hasH T ob9 (x := "land") (by decide +kernel) (hF_land ..)
        have la9 : LA g H9 olo h.land := (ola.same st9.zz).same j9.zs
        rw [ef]
        refine ⟨fa, _, rfl, SqT.of hfa, rfl, _, _, rfl, _, _, rfl, _, _, rfl, rfl, ?_⟩
        obtain ⟨jdx, job⟩ := j9.ob
        cases fo with
        | @said one sc hn h0 h1 =>
          obtain ⟨v1, v2⟩ := o3.at hn
          refine ⟨_, rfl, rfl, _, rfl, iteB (fun _ => ?_) (fun c => absurd rfl (eqF c))⟩
          refine ⟨_, _, rfl, hj9, jo, jdx, _, rfl, job, (nomJ ..).2.2.2.2.2.1, _, _, rfl, hp9, _, rfl, q5, _, rfl, v1 ▸ DGet.k (k := .inr one) pl9, _, rfl, ?_⟩
          have efj : factJ h.land (placeTo h.land.size b.names).1 (factsJ h.land (placeTo h.land.size b.names).1 (placeTo h.land.size b.names).2 (b.facts.take i)) ⟨"said", one, .int sc⟩ = (sayJ (factsJ h.land (placeTo h.land.size b.names).1 (placeTo h.land.size b.names).2 (b.facts.take i)) (idx (placeTo h.land.size b.names).1 one) sc).1 := by unfold factJ; rw [if_pos rfl]; rfl
          rw [efj]
          refine ⟨Z9, jo, a1, a2, a3, a4, _, _, _, sc, rfl, j9, r1, v2, bln, h0, by rw [r2]; exact h1, fun hf H11 s11 => ?_, fun _ Z11 H11 j11 st11 => ?_⟩
          · rw [say_false hf]
            exact ⟨⟨_, _, _, _, rfl⟩, Z9, j9.same s11, st9.same s11⟩
          · exact ⟨⟨_, _, _, _, rfl⟩, Z11, j11, st9.trans st11⟩
        | @tie kd one other hk hn hn' =>
          obtain ⟨v1, v2⟩ := o3.at hn
          obtain ⟨v3, v4⟩ := o3.at hn'
          have nk : ¬ kd = ("said" : Str) := by
            rcases hk with e | e | e | e <;> subst e <;> decide +kernel
          refine ⟨_, rfl, rfl, _, rfl, iteB (fun c => absurd (vstr (eqT c)) nk) (fun _ => ?_)⟩
          obtain ⟨ldx, lm, lf, lw, l1, l2, l3, l4⟩ := la9.ex
          refine ⟨_, _, rfl, hj9, jo, jdx, _, rfl, job, (nomJ ..).2.2.2.2.1, _, _, rfl, hp9, _, rfl, q5, _, rfl, v1 ▸ DGet.k (k := .inr one) pl9, _, _, rfl, hp9, _, rfl, q5, _, rfl, v3 ▸ DGet.k (k := .inr other) pl9, ?_⟩
          refine ⟨_, _, rfl, hl9, olo, ldx, _, rfl, l1, lF_step .., _, rfl, g "LETTER", kd, _, rfl, rfl, letter_at T hk, olo, h.land, letOf kd, kd, rfl, letOf_ok hk, la9, lok, fun t H11 s11 h11 => ?_⟩
          have efj : factJ h.land (placeTo h.land.size b.names).1 (factsJ h.land (placeTo h.land.size b.names).1 (placeTo h.land.size b.names).2 (b.facts.take i)) ⟨kd, one, .str other⟩ = (tieJ (factsJ h.land (placeTo h.land.size b.names).1 (placeTo h.land.size b.names).2 (b.facts.take i)) (idx (placeTo h.land.size b.names).1 one) (idx (placeTo h.land.size b.names).1 other) (stepOf h.land kd)).1 := by unfold factJ; rw [if_neg nk]; rfl
          rw [efj]
          refine ⟨Z9, jo, a1, a2, a3, a4, _, _, _, _, t, _, rfl, j9.same s11, r1, v2, v4, bln, by rw [r2]; exact fit_step lok kd, h11, fun hf H12 s12 => ?_, fun _ Z12 H12 j12 st12 => ?_⟩
          · rw [tie_false hf]
            exact ⟨⟨_, _, _, _, rfl⟩, Z9, j9.same (s11.trans s12), st9.same (s11.trans s12)⟩
          · exact ⟨⟨_, _, _, _, rfl⟩, Z12, j12, (st9.same s11).trans st12⟩
      · rintro σ H9 ⟨⟨w6, w7, w8, w9, rfl⟩, Z9, j9, st9⟩
        rw [g2.len, List.take_length] at j9
        have st10 := unlock_step g1 nj st9
        have zq : Z9 q3 = none := by
          cases e : Z9 q3 with
          | none => rfl
          | some o =>
            rcases st9.nw q3 o e with q | q
            · rw [offq] at q; cases q
            · rw [upd_same] at q; cases q
        have j10 := j9.put (o := .dK gs) zq nj
        refine ⟨st9.kp _ _ upd_same nj, ?_⟩
        exact k _ _ _ (n8.setJ (m' := ⟨m.p, q1, q2, q3, q5, m.pa, m.ah, jo, a1, a2, a3, a4⟩) st10 j10)
end
end Kin
set_option maxHeartbeats 4000000
/-! K28: a book's deeds: person, take, undo, redo. -/
namespace Kin
open PySem L2
section
variable {P : Program} {w : World} {K : PySem.W.Frag} {mg : Str → Option Value} {g : Str → Addr} {mt : Str → Str → Addr} {base : Heap}
theorem nrd {Z H Z' H' : Hp} {m m' : HM} {h' : HS} {f : Str} {v : V} (n : Now g Z H m Z' H' m' h') (h : Has K H' m'.p f v) : Has K H' m.p f v := by rw [← n.mp]; exact h
theorem nob {Z H Z' H' : Hp} {m m' : HM} {h' : HS} (n : Now g Z H m Z' H' m' h') : ∃ dx lo, H' m.p = some (.ins (g "Hearth") dx (hF lo m'.nl m'.sd m'.fd h'.st.after m'.pd m'.jo m'.pa m'.ah)) ∧ LA g Z' lo h'.land := by rw [← n.mp]; exact n.ha.ob
/-! ### person -/
def spPerson (K : PySem.W.Frag) (g : Str → Addr) : Sp := fun vs H Q E => ∃ (Z : Hp) (m : HM) (h : HS) (N : Nat) (n s : Str), vs = [.ref m.p, .str n, .str s] ∧ HA g Z H m h ∧ HOk N h ∧ N ≤ 99998 ∧ Sx s ∧ n.length ≤ sizeLine ∧
  (∀ h', personH h n s = .ok h' → ∀ Z' H' m', Now g Z H m Z' H' m' h' → Q .non H') ∧ (∀ e, personH h n s = .error e → ∀ cls d H', Refused K (g "KinError") e H cls d H' → E cls d H')
theorem person_bad {h : HS} {n s : Str} (e : isName n = false) : personH h n s = .error "no name" := by unfold personH; rw [if_pos e]
theorem person_taken {h : HS} {n s : Str} (e : ¬ isName n = false) (t : (valV h.st.side (.inr n)).isSome = true) : personH h n s = .error "name taken" := by unfold personH; rw [if_neg e, if_pos t]
theorem person_ok {h : HS} {n s : Str} (e : ¬ isName n = false) (t : ¬ (valV h.st.side (.inr n)).isSome = true) :
    personH h n s = .ok ⟨h.land, ⟨h.st.names ++ [n], putK h.st.side (.inr n) (.str s), h.st.facts, h.st.after⟩, putK h.place (.inr n) (.int (h.joins.above.length : Nat)), addJ h.joins, h.past ++ [h.st], []⟩ := by unfold personH; rw [if_neg e, if_neg t]; rfl
theorem ok_person (T : Txt w K mg g mt) : GM P w K mg base (L2.CX P w) 4 (g "Hearth") "person" (spPerson K g) := by
  refine gmX (F_Hearth_person T) (T.cls _ (by decide +kernel)) (T.meth ("Hearth", "person") (by decide +kernel)) sc_Hearth_person (fun vs H Q E h => ?_) fun cdv A outer s H vs Q E hr h => ?_
  · obtain ⟨Z, m, h, N, n, s, rfl, _⟩ := h; rfl
  · obtain ⟨Z, m, h, N, n, sx, rfl, a, o, hN, hs, hz, q1, q2⟩ := h
    have hu := hu_of hr
    have In := ok_is_name (P := P) (base := base) T
    have Df := ok_done_from (P := P) (base := base) T
    have Sg := ok_state (P := P) (base := base) T
    have Ad := ok_Joins_add (P := P) (base := base) T
    have Bn := ok_BadName (P := P) (base := base) T
    have Ta := ok_Taken (P := P) (base := base) T
    have tk := takes_of (X := cxOf (L2.CX P w) P w K mg base ["self", "name", "side"] "Hearth.person" (defScope s_Hearth_person) (mt "Hearth" "person") cdv A outer s H E) rfl rfl rfl rfl
    refine ⟨_, pss_cons (ps_if (PW.pt (pw_or (pt_not (pt_val (pe_gf In hr pass0 (pa_cons (pv 1) pa_nil)))) (pw_or1 (pt_cmpR op_notIn_seq (pv 2) (pe_tup (pa_cons pe_str (pa_cons pe_str pa_nil))) rfl)))) (pss_one (ps_ref0 Bn hr rfl tk)) pss_nil)
      (pss_cons (ps_if (pt_cmp (pc_din hu (pv 1) (pe_sf 0))) (pss_one (ps_ref0 Ta hr rfl tk)) pss_nil)
      (pss_cons (ps_expr (pe_gm Df (pv 0) hr pass0 (pa_cons (pe_gm0 Sg (pv 0) hr pass0) pa_nil)))
      (pss_cons (ps_expr (pe_bm PySem.F.plainAttrs_list PySem.F.slot_list_append PySem.F.type_list_append mt_append (pe_sf 0) (pa_cons (pv 1) pa_nil)))
      (pss_cons (ps_dput hu (pe_sf 0) (pv 1) (pv 2) rfl)
      (pss_one (ps_dput hu (pe_sf 0) (pv 1) (pe_gm0 Ad (pe_sf 0) hr pass0) rfl)))))), ?_⟩
    have bo := o.bo
    refine ⟨_, rfl, n, rfl, hz, fun H1 s1 => ⟨_, rfl, iteB (fun c => ?_) (fun c1 => ?_)⟩⟩
    · have e : isName n = false := by simpa using c
      exact fun cls d H' r => q2 _ (person_bad e) cls d H' (r.back s1)
    have e1 : ¬ isName n = false := by simpa using c1
    refine ⟨_, rfl, by show 2 ≤ sizeLine; decide, fun tp htp => ?_⟩
    have s2 := same_new (o := .tup [.str "man", .str "woman"]) htp
    have h2 : upd H1 tp (.tup [.str "man", .str "woman"]) tp = some (.tup [.str "man", .str "woman"]) := upd_same
    generalize upd H1 tp (.tup [.str "man", .str "woman"]) = H2 at s2 h2 ⊢
    have iv : inV (.str sx) [.str "man", .str "woman"] = true := by
      rcases hs with rfl | rfl <;> decide +kernel
    refine ⟨tp, _, rfl, .inr (SqT.of h2), rfl, rfl, _, rfl, ?_⟩
    rw [if_pos rfl, iv]
    refine iteB (fun c => by cases c) (fun _ => ?_)
    have s12 := s1.trans s2
    have n2 := (Now.refl a).same s12
    refine ⟨_, rfl, _, _, rfl, rd_side T n2.ha, m.sd, _, rfl, DGet.k (k := .inr n) n2.ha.c.sd, _, rfl, iteB (fun c => ?_) (fun c2 => ?_)⟩
    · exact fun cls d H' r => q2 _ (person_taken e1 c) cls d H' (r.back s12)
    have e2 : ¬ (valV h.st.side (.inr n)).isSome = true := by rw [c2]; decide
    have q1 := q1 _ (person_ok e1 e2)
    obtain ⟨dx, lo, ob, la⟩ := n2.ha.ob
    refine ⟨_, rfl, m.p, dx, _, rfl, ob, hN_done_from .., _, rfl, m.p, dx, _, rfl, ob, hN_state .., Z, m, h, rfl, n2.ha, fun r l d f fs H3 s3 fr sn fa => ?_⟩
    obtain ⟨n3, sa⟩ := n2.frzState s3 fr sn fa
    have pl := o.pl
    refine ⟨_, m, h, r, h.st, rfl, n3.ha, sa, by omega, fun Z4 H4 m4 n4 => ?_⟩
    have n5 := n3.trans n4
    dsimp only [markH] at n5
    refine ⟨_, _, rfl, nrd n5 (rd_names T n5.ha), .inl ⟨rfl, _, SqL.of n5.ha.c.nl⟩, _, rfl, m4.nl, _, _, rfl, rfl, n5.ha.c.nl, by rw [List.length_map]; have := bo.ln; exact smallL (by show h.st.names.length ≤ _; omega), ?_⟩
    have n6 := n5.set_nl (h.st.names ++ [n])
    dsimp only at n6
    have e6 : upd H4 m4.nl (.lst (h.st.names.map V.str ++ [.str n])) = upd H4 m4.nl (.lst ((h.st.names ++ [n]).map V.str)) := by simp
    show tSeq _ _ _ _ (upd H4 m4.nl (.lst (h.st.names.map V.str ++ [.str n])))
    rw [e6]
    generalize upd H4 m4.nl _ = H6 at n6 ⊢
    refine ⟨_, rfl, _, _, rfl, nrd n6 (rd_side T n6.ha), _, rfl, m4.sd, _, rfl, DPut.k (k := .inr n) n6.ha.c.sd (by have := bo.ls; exact smallL (by show h.st.side.length ≤ _; omega)), ?_⟩
    have n7 := n6.set_sd (putK h.st.side (.inr n) (.str sx))
    dsimp only at n7
    generalize upd H6 m4.sd _ = H7 at n7 ⊢
    obtain ⟨jdx, job⟩ := n7.ha.c.jo.ob
    have jo' := o.jo
    refine ⟨_, _, rfl, nrd n7 (rd_joins T n7.ha), m4.jo, jdx, _, rfl, job, (nomJ ..).2.2.2.1, _, m4.jo, m4.a1, m4.a2, m4.a3, m4.a4, h.joins, _, rfl, n7.ha.c.jo, jo', by have := bo.ln; omega, fun Z8 H8 j8 st8 => ?_⟩
    have n8 := n7.setJ st8 j8
    dsimp only at n8
    refine ⟨_, _, rfl, nrd n8 (rd_place T n8.ha), _, rfl, m4.pd, _, rfl, DPut.k (k := .inr n) n8.ha.c.pd (by have := o.pm; exact smallL (by show h.place.length ≤ _; omega)), ?_⟩
    have n9 := n8.set_pd (putK h.place (.inr n) (.int (h.st.names.length : Nat)))
    dsimp only at n9
    rw [← jo'.la] at n9 ⊢
    exact q1 _ _ _ n9
end
end Kin
set_option maxHeartbeats 4000000
/-! K29: a book's deeds: add_fact, take, undo, redo. -/
namespace Kin
open PySem L2
section
variable {P : Program} {w : World} {K : PySem.W.Frag} {mg : Str → Option Value} {g : Str → Addr} {mt : Str → Str → Addr} {base : Heap}
/-! ### add_fact -/
def spAddFact (g : Str → Addr) : Sp := fun vs H Q _ => ∃ (Z : Hp) (m : HM) (h : HS) (N : Nat) (r : Addr) (b : BS) (k one : Str) (other : V), vs = [.ref m.p, .ref r, .str k, .str one, other] ∧ HA g Z H m h ∧ StA Z r b ∧ HOk N h ∧ N ≤ 99998 ∧
  ∀ Z' H' m', Now g Z H m Z' H' m' (addFact h b ⟨k, one, other⟩) → Q (.int h.st.after) H'
theorem ok_add_fact (T : Txt w K mg g mt) : GM P w K mg base CX0 2 (g "Hearth") "add_fact" (spAddFact g) := by
  refine gm0 (F_Hearth_add_fact T) (T.cls _ (by decide +kernel)) (T.meth ("Hearth", "add_fact") (by decide +kernel)) sc_Hearth_add_fact (fun vs H Q E h => ?_) fun cdv A outer s H vs Q E hr h => ?_
  · obtain ⟨Z, m, h, N, r, b, k, one, other, rfl, _⟩ := h; rfl
  · obtain ⟨Z, m, h, N, r, b, k, one, other, rfl, a, sb, o, hN, q⟩ := h
    have nd := sc_Hearth_add_fact.nd
    have hu := hu_of hr
    have c : Cls K (g "Hearth") := T.cls _ (by decide +kernel)
    have Df := ok_done_from (P := P) (base := base) T
    refine ⟨_, pss_cons (ps_set (i := 5) nd rfl (.inl rfl) (pe_sf 0))
      (pss_cons (ps_expr (pe_gm Df (pv 0) hr pass0 (pa_cons (pv 1) pa_nil)))
      (pss_cons (ps_dput hu (pe_sf 0) (pv 5) (pe_tup (pa_cons (pv 2) (pa_cons (pv 3) (pa_cons (pv 4) pa_nil)))) rfl)
      (pss_cons (ps_fld (pv 0) (pe_op op_add (pv 5) pe_int) rfl)
      (pss_one (ps_ret (pv 5)))))), ?_⟩
    obtain ⟨dx, lo, ob, la⟩ := a.ob
    have pl := o.pl
    refine ⟨_, _, rfl, rd_after T a, _, rfl, m.p, dx, _, rfl, ob, hN_done_from .., _, rfl, Z, m, h, r, b, rfl, a, sb, by omega, fun Z1 H1 m1 n1 => ?_⟩
    dsimp only [markH] at n1
    refine ⟨_, rfl, _, rfl, _, rfl, by show 3 ≤ sizeLine; decide, fun tp htp => ?_⟩
    have f2 := n1.free htp
    have s2 := same_new (o := .tup [.str k, .str one, other]) htp
    have h2 : upd H1 tp (.tup [.str k, .str one, other]) tp = some (factO ⟨k, one, other⟩) := upd_same
    generalize upd H1 tp (.tup [.str k, .str one, other]) = H2 at s2 h2 ⊢
    have n2 := (n1.same s2).freezeL (l := [tp]) (fun b hb => by rw [List.mem_singleton.mp hb]; exact f2.2.1) (fun b hb => by rw [List.mem_singleton.mp hb]; exact f2.1) (fun b hb => by rw [List.mem_singleton.mp hb]; exact f2.2.2)
    have zt : frz Z1 H2 [tp] tp = some (factO ⟨k, one, other⟩) := by rw [frz_in (by simp)]; exact h2
    obtain ⟨fs, g1, g2⟩ := n2.ha.c.fd
    dsimp only at g1 g2
    have bo := o.bo
    have vn : valV fs (.inl h.st.after) = none := by
      rcases g2.val h.st.after with ⟨c1, _⟩ | ⟨_, _, _, c3⟩
      · exact c1
      · obtain ⟨p, hp, e⟩ := List.any_eq_true.mp c3
        have := bo.fa p hp
        have e' : p.1 = h.st.after := of_decide_eq_true e
        omega
    have ep := putK_new (.ref tp) vn
    refine ⟨_, _, rfl, nrd n2 (rd_facts T n2.ha), _, rfl, m1.fd, _, rfl, DPut.k (k := .inl h.st.after) g1 (by rw [g2.len]; have := bo.lf; exact smallL (by omega)), ?_⟩
    rw [ep]
    have n3 := n2.set_fd (g2.snoc (k := h.st.after) zt)
    dsimp only at n3
    generalize upd H2 m1.fd _ = H3 at n3 ⊢
    obtain ⟨dx2, fs2, ob2, l9, n4⟩ := n3.put_after (h.st.after + 1)
    dsimp only at n4
    refine ⟨_, rfl, _, _, rfl, rfl, _, rfl, m.p, _, dx2, _, rfl, by rw [← n3.mp]; exact ob2, c, T.noat ("Hearth", "after") (by decide +kernel), l9, _, rfl, ?_⟩
    rw [← n3.mp]
    exact q _ _ _ n4

/-! ### take -/
def spTake (K : PySem.W.Frag) (g : Str → Addr) : Sp := fun vs H Q E => ∃ (Z : Hp) (m : HM) (h : HS) (N : Nat) (z : Int), vs = [.ref m.p, .int z] ∧ HA g Z H m h ∧ HOk N h ∧ N ≤ 99998 ∧
  (∀ h', takeH h z = .ok h' → ∀ Z' H' m', Now g Z H m Z' H' m' h' → Q .non H') ∧ (∀ e, takeH h z = .error e → ∀ cls d H', Refused K (g "KinError") e H cls d H' → E cls d H')
theorem ok_take (T : Txt w K mg g mt) : GM P w K mg base (L2.CX P w) 7 (g "Hearth") "take" (spTake K g) := by
  refine gmX (F_Hearth_take T) (T.cls _ (by decide +kernel)) (T.meth ("Hearth", "take") (by decide +kernel)) sc_Hearth_take (fun vs H Q E h => ?_) fun cdv A outer s H vs Q E hr h => ?_
  · obtain ⟨Z, m, h, N, z, rfl, _⟩ := h; rfl
  · obtain ⟨Z, m, h, N, z, rfl, a, o, hN, q1, q2⟩ := h
    have nd := sc_Hearth_take.nd
    have hu := hu_of hr
    have Df := ok_done_from (P := P) (base := base) T
    have Sg := ok_state (P := P) (base := base) T
    have Go := ok_go_to (P := P) (base := base) T
    have Nf := ok_NoFact (P := P) (base := base) T
    have tk := takes_of (X := cxOf (L2.CX P w) P w K mg base ["self", "number", "state"] "Hearth.take" (defScope s_Hearth_take) (mt "Hearth" "take") cdv A outer s H E) rfl rfl rfl rfl
    refine ⟨_, pss_cons (ps_if (pt_cmp (pc_dnotin hu (pv 1) (pe_sf 0))) (pss_one (ps_ref0 Nf hr rfl tk)) pss_nil)
      (pss_cons (ps_set (i := 2) nd rfl (.inl rfl) (pe_gm0 Sg (pv 0) hr pass0))
      (pss_cons (ps_expr (pe_dpop1 (pe_sf 0) (pv 1) ⟨rfl, rfl, rfl, rfl⟩))
      (pss_cons (ps_expr (pe_gm Go (pv 0) hr pass0 (pa_cons (pe_gm0 Sg (pv 0) hr pass0) pa_nil)))
      (pss_one (ps_expr (pe_gm Df (pv 0) hr pass0 (pa_cons (pv 2) pa_nil))))))), ?_⟩
    obtain ⟨fs, f1, f2⟩ := a.c.fd
    refine ⟨_, rfl, _, _, rfl, rd_facts T a, m.fd, _, rfl, DGet.k (k := .inl z) f1, _, rfl, ?_⟩
    rcases f2.val z with ⟨v1, v2⟩ | ⟨fa, v1, v2, v3⟩
    · rw [v1]
      refine iteB (fun _ => ?_) (fun c => by cases c)
      exact q2 _ (by unfold takeH; rw [if_pos v2])
    rw [v1]
    refine iteB (fun c => by cases c) (fun _ => ?_)
    have q1 := q1 _ (by unfold takeH; rw [if_neg (by rw [v3]; decide)])
    obtain ⟨dx, lo, ob, la⟩ := a.ob
    refine ⟨_, rfl, m.p, dx, _, rfl, ob, hN_state .., Z, m, h, rfl, a, fun r l d f gs H1 s1 fr sn fa' => ?_⟩
    obtain ⟨n1, sa⟩ := (Now.refl a).frzState s1 fr sn fa'
    obtain ⟨fs1, g1, g2⟩ := n1.ha.c.fd
    have v1' : valV fs1 (.inl z) = some (.ref fa) := by
      have e : H1 m.fd = some (.dK fs) := s1 _ _ f1
      rw [e] at g1; cases g1; exact v1
    refine ⟨_, _, rfl, rd_facts T n1.ha, m.fd, rfl, .inl ⟨_, .inl g1⟩, _, rfl, fs1, .inl z, _, g1, rfl, v1', ?_⟩
    have n2 := n1.set_fd (g2.drop z)
    generalize upd H1 m.fd _ = H2 at n2 ⊢
    obtain ⟨dx2, lo2, ob2, la2⟩ := nob n2
    refine ⟨_, rfl, m.p, dx2, _, rfl, ob2, hN_go_to .., _, rfl, m.p, dx2, _, rfl, ob2, hN_state .., _, m, _, rfl, n2.ha, fun r2 l2 d2 f2' gs2 H3 s3 fr3 sn3 fa3 => ?_⟩
    obtain ⟨n3, sa3⟩ := n2.frzState s3 fr3 sn3 fa3
    have bd : BOk N h.land.size (dropF h.st z) := dropF_ok o.bo z
    refine ⟨_, m, _, N, r2, _, rfl, n3.ha, sa3, o.lo, bd, by omega, fun Z4 H4 m4 n4 => ?_⟩
    have n5 := n3.trans n4
    dsimp only [goTo] at n5
    obtain ⟨dx5, lo5, ob5, la5⟩ := nob n5
    have pl := o.pl
    have sa5 : StA Z4 r h.st := (sa.mono (n2.st.zz.trans (Same.refl _) |> fun _ => n4.st.zz |> fun z4 => (same_frzL (H := H3) fun x hx => (n2.free (fr3 x hx)).2.1).trans z4))
    refine ⟨_, rfl, m.p, dx5, _, rfl, ob5, hN_done_from .., _, rfl, Z4, m4, _, r, h.st, by rw [n5.mp], n5.ha, sa5, by show h.past.length ≤ _; omega, fun Z6 H6 m6 n6 => ?_⟩
    exact q1 _ _ _ (n5.trans n6)

/-! ### undo, redo -/
def spUndo (K : PySem.W.Frag) (g : Str → Addr) (F : HS → Except Str HS) : Sp := fun vs H Q E => ∃ (Z : Hp) (m : HM) (h : HS) (N : Nat), vs = [.ref m.p] ∧ HA g Z H m h ∧ HOk N h ∧ N ≤ 99998 ∧
  (∀ h', F h = .ok h' → ∀ Z' H' m', Now g Z H m Z' H' m' h' → Q .non H') ∧ (∀ e, F h = .error e → ∀ cls d H', Refused K (g "KinError") e H cls d H' → E cls d H')
theorem ok_undo (T : Txt w K mg g mt) : GM P w K mg base (L2.CX P w) 7 (g "Hearth") "undo" (spUndo K g undoH) := by
  refine gmX (F_Hearth_undo T) (T.cls _ (by decide +kernel)) (T.meth ("Hearth", "undo") (by decide +kernel)) sc_Hearth_undo (fun vs H Q E h => ?_) fun cdv A outer s H vs Q E hr h => ?_
  · obtain ⟨Z, m, h, N, rfl, _⟩ := h; rfl
  · obtain ⟨Z, m, h, N, rfl, a, o, hN, q1, q2⟩ := h
    have Sg := ok_state (P := P) (base := base) T
    have Go := ok_go_to (P := P) (base := base) T
    have Nl := ok_NothingLeft (P := P) (base := base) T
    have tk := takes_of (X := cxOf (L2.CX P w) P w K mg base ["self"] "Hearth.undo" (defScope s_Hearth_undo) (mt "Hearth" "undo") cdv A outer s H E) rfl rfl rfl rfl
    refine ⟨_, pss_cons (ps_if (pt_cmpR (op_eqNil hr.units) (pe_sf 0) (pe_lst pa_nil) (nomark _)) (pss_one (ps_ref0 Nl hr rfl tk)) pss_nil)
      (pss_cons (ps_expr (pe_bm PySem.F.plainAttrs_list PySem.F.slot_list_append PySem.F.type_list_append mt_append (pe_sf 0) (pa_cons (pe_gm0 Sg (pv 0) hr pass0) pa_nil)))
      (pss_one (ps_expr (pe_gm Go (pv 0) hr pass0 (pa_cons (pe_bm0 PySem.F.plainAttrs_list PySem.F.slot_list_pop PySem.F.type_list_pop mt_pop (pe_sf 0)) pa_nil))))), ?_⟩
    obtain ⟨as, p1, p2⟩ := a.c.pa
    refine ⟨_, _, rfl, rd_past T a, Nat.zero_le _, fun em hem => ?_⟩
    have s0 := same_new (o := .lst []) hem
    have h0 : upd H em (.lst []) em = some (.lst []) := upd_same
    generalize upd H em (.lst []) = H0 at s0 h0 ⊢
    refine ⟨m.pa, em, _, rfl, rfl, SqL.of (s0 _ _ p1), SqL.of h0, _, rfl, ?_⟩
    have n0 := (Now.refl a).same s0
    cases eb : h.past.getLast? with
    | none =>
      have e : h.past = [] := List.getLast?_eq_none_iff.mp eb
      have ea : as = [] := List.eq_nil_of_length_eq_zero (by rw [p2.len, e]; rfl)
      rw [ea]
      refine iteB (fun _ => ?_) (fun c => by cases c)
      exact fun cls d H' r => q2 _ (by unfold undoH; rw [eb]) cls d H' (r.back s0)
    | some b =>
      have ne : (as.map V.ref).isEmpty = false := by
        cases as with
        | nil =>
          have : h.past = [] := List.eq_nil_of_length_eq_zero (by rw [← p2.len]; rfl)
          rw [this] at eb; cases eb
        | cons x r => rfl
      rw [ne]
      refine iteB (fun c => by cases c) (fun _ => ?_)
      have q1 := q1 _ (by unfold undoH; rw [eb])
      obtain ⟨bs, b1, b2⟩ := n0.ha.c.ah
      obtain ⟨dx, lo, ob, la⟩ := n0.ha.ob
      refine ⟨_, _, rfl, rd_ahead T n0.ha, .inl ⟨rfl, _, SqL.of b1⟩, _, rfl, m.p, dx, _, rfl, ob, hN_state .., Z, m, h, rfl, n0.ha, fun r l d f gs H1 s1 fr sn fa => ?_⟩
      obtain ⟨n1, sa⟩ := n0.frzState s1 fr sn fa
      obtain ⟨bs1, c1, c2⟩ := n1.ha.c.ah
      have al := o.al
      refine ⟨m.ah, _, _, rfl, rfl, c1, by rw [List.length_map, c2.len]; exact smallL (by omega), ?_⟩
      have n2 := n1.set_ah (c2.snoc sa)
      have e2 : upd H1 m.ah (.lst (bs1.map V.ref ++ [.ref r])) = upd H1 m.ah (.lst ((bs1 ++ [r]).map V.ref)) := by simp
      rw [e2]
      generalize upd H1 m.ah _ = H2 at n2 ⊢
      obtain ⟨dx2, lo2, ob2, la2⟩ := nob n2
      obtain ⟨as2, d1, d2⟩ := n2.ha.c.pa
      dsimp only at d1 d2
      obtain ⟨la', x1, x2⟩ := d2.last eb
      refine ⟨_, rfl, m.p, dx2, _, rfl, ob2, hN_go_to .., _, _, rfl, nrd n2 (rd_past T n2.ha), .inl ⟨rfl, _, SqL.of d1⟩, m.pa, _, _, rfl, rfl, d1, x1, ?_⟩
      have n3 := n2.set_pa d2.dropLast
      dsimp only at n3
      have e3 : upd H2 m.pa (.lst (as2.map V.ref).dropLast) = upd H2 m.pa (.lst (as2.dropLast.map V.ref)) := by rw [List.map_dropLast]
      rw [e3]
      generalize upd H2 m.pa _ = H3 at n3 ⊢
      refine ⟨_, m, _, N, la', b, rfl, n3.ha, x2, o.lo, o.pb b (last_mem eb), by omega, fun Z4 H4 m4 n4 => ?_⟩
      exact q1 _ _ _ (n3.trans n4)
theorem ok_redo (T : Txt w K mg g mt) : GM P w K mg base (L2.CX P w) 7 (g "Hearth") "redo" (spUndo K g redoH) := by
  refine gmX (F_Hearth_redo T) (T.cls _ (by decide +kernel)) (T.meth ("Hearth", "redo") (by decide +kernel)) sc_Hearth_redo (fun vs H Q E h => ?_) fun cdv A outer s H vs Q E hr h => ?_
  · obtain ⟨Z, m, h, N, rfl, _⟩ := h; rfl
  · obtain ⟨Z, m, h, N, rfl, a, o, hN, q1, q2⟩ := h
    have Sg := ok_state (P := P) (base := base) T
    have Go := ok_go_to (P := P) (base := base) T
    have Nl := ok_NothingLeft (P := P) (base := base) T
    have tk := takes_of (X := cxOf (L2.CX P w) P w K mg base ["self"] "Hearth.redo" (defScope s_Hearth_redo) (mt "Hearth" "redo") cdv A outer s H E) rfl rfl rfl rfl
    refine ⟨_, pss_cons (ps_if (pt_cmpR (op_eqNil hr.units) (pe_sf 0) (pe_lst pa_nil) (nomark _)) (pss_one (ps_ref0 Nl hr rfl tk)) pss_nil)
      (pss_cons (ps_expr (pe_bm PySem.F.plainAttrs_list PySem.F.slot_list_append PySem.F.type_list_append mt_append (pe_sf 0) (pa_cons (pe_gm0 Sg (pv 0) hr pass0) pa_nil)))
      (pss_one (ps_expr (pe_gm Go (pv 0) hr pass0 (pa_cons (pe_bm0 PySem.F.plainAttrs_list PySem.F.slot_list_pop PySem.F.type_list_pop mt_pop (pe_sf 0)) pa_nil))))), ?_⟩
    obtain ⟨as, p1, p2⟩ := a.c.ah
    refine ⟨_, _, rfl, rd_ahead T a, Nat.zero_le _, fun em hem => ?_⟩
    have s0 := same_new (o := .lst []) hem
    have h0 : upd H em (.lst []) em = some (.lst []) := upd_same
    generalize upd H em (.lst []) = H0 at s0 h0 ⊢
    refine ⟨m.ah, em, _, rfl, rfl, SqL.of (s0 _ _ p1), SqL.of h0, _, rfl, ?_⟩
    have n0 := (Now.refl a).same s0
    cases eb : h.ahead.getLast? with
    | none =>
      have e : h.ahead = [] := List.getLast?_eq_none_iff.mp eb
      have ea : as = [] := List.eq_nil_of_length_eq_zero (by rw [p2.len, e]; rfl)
      rw [ea]
      refine iteB (fun _ => ?_) (fun c => by cases c)
      exact fun cls d H' r => q2 _ (by unfold redoH; rw [eb]) cls d H' (r.back s0)
    | some b =>
      have ne : (as.map V.ref).isEmpty = false := by
        cases as with
        | nil =>
          have : h.ahead = [] := List.eq_nil_of_length_eq_zero (by rw [← p2.len]; rfl)
          rw [this] at eb; cases eb
        | cons x r => rfl
      rw [ne]
      refine iteB (fun c => by cases c) (fun _ => ?_)
      have q1 := q1 _ (by unfold redoH; rw [eb])
      obtain ⟨bs, b1, b2⟩ := n0.ha.c.pa
      obtain ⟨dx, lo, ob, la⟩ := n0.ha.ob
      refine ⟨_, _, rfl, rd_past T n0.ha, .inl ⟨rfl, _, SqL.of b1⟩, _, rfl, m.p, dx, _, rfl, ob, hN_state .., Z, m, h, rfl, n0.ha, fun r l d f gs H1 s1 fr sn fa => ?_⟩
      obtain ⟨n1, sa⟩ := n0.frzState s1 fr sn fa
      obtain ⟨bs1, c1, c2⟩ := n1.ha.c.pa
      have pl := o.pl
      refine ⟨m.pa, _, _, rfl, rfl, c1, by rw [List.length_map, c2.len]; exact smallL (by omega), ?_⟩
      have n2 := n1.set_pa (c2.snoc sa)
      have e2 : upd H1 m.pa (.lst (bs1.map V.ref ++ [.ref r])) = upd H1 m.pa (.lst ((bs1 ++ [r]).map V.ref)) := by simp
      rw [e2]
      generalize upd H1 m.pa _ = H2 at n2 ⊢
      obtain ⟨dx2, lo2, ob2, la2⟩ := nob n2
      obtain ⟨as2, d1, d2⟩ := n2.ha.c.ah
      dsimp only at d1 d2
      obtain ⟨la', x1, x2⟩ := d2.last eb
      refine ⟨_, rfl, m.p, dx2, _, rfl, ob2, hN_go_to .., _, _, rfl, nrd n2 (rd_ahead T n2.ha), .inl ⟨rfl, _, SqL.of d1⟩, m.ah, _, _, rfl, rfl, d1, x1, ?_⟩
      have n3 := n2.set_ah d2.dropLast
      dsimp only at n3
      have e3 : upd H2 m.ah (.lst (as2.map V.ref).dropLast) = upd H2 m.ah (.lst (as2.dropLast.map V.ref)) := by rw [List.map_dropLast]
      rw [e3]
      generalize upd H2 m.ah _ = H3 at n3 ⊢
      refine ⟨_, m, _, N, la', b, rfl, n3.ha, x2, o.lo, o.ab b (last_mem eb), by omega, fun Z4 H4 m4 n4 => ?_⟩
      exact q1 _ _ _ (n3.trans n4)
end
end Kin
set_option maxHeartbeats 4000000
/-! K30: a book's deeds: tie, say; a new book. -/
namespace Kin
open PySem L2
section
variable {P : Program} {w : World} {K : PySem.W.Frag} {mg : Str → Option Value} {g : Str → Addr} {mt : Str → Str → Addr} {base : Heap}
/-- one row more -/
theorem Rows.snoc {H H' : Hp} {k kp tp : Addr} {size : Nat} {names : List Str} {L : List (Int × Fact)} {q : Int × Fact} (R : Rows H kp size names L) (s : Same H H') (ht : H' tp = some (rowO q)) (fo : FactOk size names q.2) (hz : L.length ≤ 99998)
    (hk : ∀ as : List Addr, H kp = some (.lst (as.map V.ref)) → H' k = some (.lst (as.map V.ref ++ [.ref tp]))) : Rows H' k size names (L ++ [q]) := by
  obtain ⟨as, h1, h2⟩ := R.ex
  refine ⟨⟨as ++ [tp], by rw [hk as h1]; simp, (h2.mono s).snoc ht⟩, fun x hx => ?_, by rw [List.length_append]; simp; omega⟩
  rcases List.mem_append.mp hx with hx | hx
  · exact R.ok x hx
  · rw [List.mem_singleton.mp hx]; exact fo
def spHTie (K : PySem.W.Frag) (g : Str → Addr) : Sp := fun vs H Q E => ∃ (Z : Hp) (m : HM) (h : HS) (N : Nat) (k one other : Str), vs = [.ref m.p, .str k, .str one, .str other] ∧ HA g Z H m h ∧ HOk N h ∧ N ≤ 99997 ∧ IsTie k ∧
  (∀ h', tieH h k one other = .ok h' → ∀ Z' H' m', Now g Z H m Z' H' m' h' → Q (.int h.st.after) H') ∧ (∀ e, tieH h k one other = .error e → ∀ cls d H', Refused K (g "KinError") e H cls d H' → E cls d H')
theorem ok_tie (T : Txt w K mg g mt) : GM P w K mg base (L2.CX P w) 6 (g "Hearth") "tie" (spHTie K g) := by
  refine gmX (F_Hearth_tie T) (T.cls _ (by decide +kernel)) (T.meth ("Hearth", "tie") (by decide +kernel)) sc_Hearth_tie (fun vs H Q E h => ?_) fun cdv A outer s H vs Q E hr h => ?_
  · obtain ⟨Z, m, h, N, k, one, other, rfl, _⟩ := h; rfl
  · obtain ⟨Z, m, h, N, k, one, other, rfl, a, o, hN, tie, q1, q2⟩ := h
    have nd := sc_Hearth_tie.nd
    have hu := hu_of hr
    have gl : mg "LETTER" = some (.ref (g "LETTER")) := (T.tab "LETTER" (by decide +kernel)).1
    have Lk := ok_look (P := P) (base := base) T
    have Sg := ok_state (P := P) (base := base) T
    have St := ok_Land_step (P := P) (base := base) T
    have Ti := ok_Joins_tie (P := P) (base := base) T
    have Ke := ok_kept (P := P) (base := base) T
    have Ba := ok_barring (P := P) (base := base) T
    have Af := ok_add_fact (P := P) (base := base) T
    have Br := ok_Barred (P := P) (base := base) T
    have tk := takes_of (X := cxOf (L2.CX P w) P w K mg base ["self", "kind", "one", "other", "state", "turn", "rows"] "Hearth.tie" (defScope s_Hearth_tie) (mt "Hearth" "tie") cdv A outer s H E) rfl rfl rfl rfl
    refine ⟨_, pss_cons (ps_expr (pe_gm Lk (pv 0) hr (passE tk rfl) (pa_cons (pv 1) (pa_cons (pv 2) (pa_cons (pv 3) pa_nil)))))
      (pss_cons (ps_set (i := 4) nd rfl (.inl rfl) (pe_gm0 Sg (pv 0) hr pass0))
      (pss_cons (ps_set (i := 5) nd rfl (.inl rfl) (pe_gm St (pe_sf 0) hr pass0 (pa_cons (pe_ix ix_kdict (pe_glob (v := .ref (g "LETTER")) rfl gl rfl) (pv 1) (fun _ _ => rfl)) pa_nil)))
      (pss_cons (ps_if (pt_not (pt_val (pe_gm Ti (pe_sf 0) hr pass0 (pa_cons (pe_dget hu (pe_sf 0) (pv 2) (fun _ _ => rfl)) (pa_cons (pe_dget hu (pe_sf 0) (pv 3) (fun _ _ => rfl)) (pa_cons (pv 5) pa_nil))))))
        (pss_cons (ps_set (i := 6) nd rfl (.inl rfl) (pe_op op_cat (pe_gm0 Ke (pv 0) hr pass0) (pe_lst (pa_cons (pe_tup (pa_cons (pe_sf 0) (pa_cons (pv 1) (pa_cons (pv 2) (pa_cons (pv 3) pa_nil))))) pa_nil))))
        (pss_one (ps_refN Br hr rfl tk (pa_cons (pv 2) (pa_cons (pe_cut (pe_gf Ba hr pass0 (pa_cons (pe_sf 0) (pa_cons (pv 6) (pa_cons (pv 2) pa_nil))))) pa_nil)) (fun σ H Q Q' i h => let ⟨v, e, J, h1, h2⟩ := h; ⟨v, e, J, h1, fun v' H' j => i _ _ (h2 v' H' j)⟩)))) pss_nil)
      (pss_one (ps_ret (pe_gm Af (pv 0) hr pass0 (pa_cons (pv 4) (pa_cons (pv 1) (pa_cons (pv 2) (pa_cons (pv 3) pa_nil)))))))))), ?_⟩
    have bo := o.bo
    obtain ⟨dx, lo, ob, la⟩ := a.ob
    refine ⟨_, rfl, m.p, dx, _, rfl, ob, hN_look .., _, rfl, _, rfl, _, rfl, Z, m, h, N, k, one, other, rfl, a, bo, by omega, tie, fun hl H1 s1 => ?_, fun e he => q2 e (by unfold tieH; rw [he])⟩
    obtain ⟨sd1, sd2⟩ := look_side hl
    have m1 := side_in bo sd1
    have m2 := side_in bo sd2
    have et : tieH h k one other = (if (tieJ h.joins (idx h.place one) (idx h.place other) (stepOf h.land k)).2 = true then .ok (addFact { h with joins := (tieJ h.joins (idx h.place one) (idx h.place other) (stepOf h.land k)).1 } h.st ⟨k, one, .str other⟩) else .error ("barred" : Str)) := by unfold tieH; rw [hl]
    have n1 := (Now.refl a).same s1
    obtain ⟨dx1, lo1, ob1, la1⟩ := n1.ha.ob
    refine ⟨_, rfl, m.p, dx1, _, rfl, ob1, hN_state .., Z, m, h, rfl, n1.ha, fun r l d f gs H2 s2 fr sn fa => ?_⟩
    obtain ⟨n2, sa⟩ := n1.frzState s2 fr sn fa
    obtain ⟨dx2, lo2, ob2, la2⟩ := n2.ha.ob
    have hl2 := hasH T ob2 (x := "land") (by decide +kernel) (hF_land ..)
    have la2' := la2.same n2.ha.zs
    obtain ⟨ldx, lm, lf, lw, l1, l2, l3, l4⟩ := la2'.ex
    refine ⟨_, _, rfl, hl2, lo2, ldx, _, rfl, l1, lF_step .., _, rfl, g "LETTER", k, _, rfl, rfl, letter_at T tie, lo2, h.land, letOf k, k, rfl, letOf_ok tie, la2', o.lo, fun t H3 s3 h3 => ?_⟩
    have n3 := n2.same s3
    obtain ⟨v1, v2⟩ := o.po.at m1
    obtain ⟨v3, v4⟩ := o.po.at m2
    obtain ⟨jdx, job⟩ := n3.ha.c.jo.ob
    have rp := rd_place T n3.ha
    have rj := rd_joins T n3.ha
    have bl := bo.ln
    refine ⟨_, _, rfl, rj, m.jo, jdx, _, rfl, job, (nomJ ..).2.2.2.2.1, _, _, rfl, rp, _, rfl, m.pd, _, rfl, v1 ▸ DGet.k (k := .inr one) n3.ha.c.pd, _, _, rfl, rp, _, rfl, m.pd, _, rfl, v3 ▸ DGet.k (k := .inr other) n3.ha.c.pd, _, rfl, ?_⟩
    refine ⟨_, m.jo, m.a1, m.a2, m.a3, m.a4, h.joins, _, _, _, t, _, rfl, n3.ha.c.jo, o.jo, v2, v4, by omega, by rw [o.js]; exact fit_step o.lo k, h3, fun hf H4 s4 => ⟨_, rfl, ?_⟩, fun ht Z4 H4 j4 st4 => ⟨_, rfl, ?_⟩⟩
    · refine iteB (fun _ => ?_) (fun c => by cases c)
      rw [if_neg (by rw [hf]; decide)] at et
      have n4 := n3.same s4
      obtain ⟨dx4, lo4, ob4, la4⟩ := n4.ha.ob
      refine ⟨_, rfl, m.p, dx4, _, rfl, ob4, hN_kept .., _, m, h, N, rfl, n4.ha, bo, by omega, fun kp H5 s5 hkp R => ?_⟩
      have n5 := n4.same s5
      refine ⟨_, _, rfl, rd_after T n5.ha, _, rfl, _, rfl, _, rfl, by show 4 ≤ sizeLine; decide, fun tp htp => ⟨by show 1 ≤ sizeLine; decide, fun tl htl => ?_⟩⟩
      have s6 := same_new (o := .tup [.int h.st.after, .str k, .str one, .str other]) htp
      have h6 : upd H5 tp (.tup [.int h.st.after, .str k, .str one, .str other]) tp = some (rowO (h.st.after, ⟨k, one, .str other⟩)) := upd_same
      have s7 := same_new (o := .lst [.ref tp]) htl
      have h7 : upd (upd H5 tp (.tup [.int h.st.after, .str k, .str one, .str other])) tl (.lst [.ref tp]) tl = some (.lst [.ref tp]) := upd_same
      have h67 := s7 _ _ h6
      have s57 := s6.trans s7
      generalize upd (upd H5 tp (.tup [.int h.st.after, .str k, .str one, .str other])) tl (.lst [.ref tp]) = H7 at h7 h67 s57 ⊢
      obtain ⟨ks, k1, k2⟩ := R.ex
      have kl : ks.length ≤ 99997 := by rw [k2.len, kept_len]; have := bo.lf; omega
      refine ⟨kp, tl, _, _, rfl, rfl, s57 _ _ k1, h7, small _ (by rw [List.length_map]; simp only [List.length_cons, List.length_nil]; omega), fun rp2 hrp2 => ?_⟩
      have s8 := same_new (o := .lst (ks.map V.ref ++ [.ref tp])) hrp2
      have h8 : upd H7 rp2 (.lst (ks.map V.ref ++ [.ref tp])) rp2 = some (.lst (ks.map V.ref ++ [.ref tp])) := upd_same
      generalize upd H7 rp2 (.lst (ks.map V.ref ++ [.ref tp])) = H8 at s8 h8 ⊢
      have s58 := s57.trans s8
      have R8 : Rows H8 rp2 h.land.size h.st.names (keptL h.st ++ [(h.st.after, ⟨k, one, .str other⟩)]) :=
        R.snoc s58 (s8 _ _ h67) (.tie tie m1 m2) (by rw [kept_len]; have := bo.lf; omega) fun as e => by
          rw [k1] at e
          injection e with e
          injection e with e
          rw [← e]; exact h8
      have n8 := n5.same s58
      obtain ⟨dx8, lo8, ob8, la8⟩ := n8.ha.ob
      have sall : Same H H8 := s1.trans (s2.trans (s3.trans (s4.trans (s5.trans s58))))
      refine ⟨_, rfl, fun v H' => Same H8 H', ⟨_, _, rfl, hasH T ob8 (x := "land") (by decide +kernel) (hF_land ..), _, rfl, _, rfl, lo8, rp2, one, h.land, _, h.st.names, rfl, la8.same n8.ha.zs, o.lo, R8, m1, by omega, fun v H' s' => s'⟩, fun v H' s' => ⟨rfl, fun cls d H9 r9 => ?_⟩⟩
      exact q2 _ et cls d H9 (r9.back (sall.trans s'))
    · refine iteB (fun c => by cases c) (fun _ => ?_)
      rw [if_pos ht] at et
      have n4 := n3.setJ st4 j4
      obtain ⟨dx4, lo4, ob4, la4⟩ := n4.ha.ob
      have jok := jok_tie o.jo v2 v4 (t := stepOf h.land k) (by rw [o.js]; exact fit_step o.lo k)
      have ho : HOk N ⟨h.land, h.st, h.place, (tieJ h.joins (idx h.place one) (idx h.place other) (stepOf h.land k)).1, h.past, h.ahead⟩ :=
        ⟨o.lo, o.bo, o.po, o.pm, jok, by rw [tie_size]; exact o.js, o.pl, o.al, o.pb, o.ab⟩
      refine ⟨_, rfl, m.p, dx4, _, rfl, ob4, hN_add_fact .., _, rfl, _, rfl, _, rfl, _, rfl, Z4, m, _, N, r, h.st, k, one, .str other, rfl, n4.ha, sa.mono st4.zz, ho, by omega, fun Z5 H5 m5 n5 => ?_⟩
      exact q1 _ et _ _ _ (n4.trans n5)

/-! ### say -/
def spHSay (K : PySem.W.Frag) (g : Str → Addr) : Sp := fun vs H Q E => ∃ (Z : Hp) (m : HM) (h : HS) (N : Nat) (n : Str) (z : Int), vs = [.ref m.p, .str n, .int z] ∧ HA g Z H m h ∧ HOk N h ∧ N ≤ 99997 ∧
  (∀ h', sayH h n z = .ok h' → ∀ Z' H' m', Now g Z H m Z' H' m' h' → Q (.int h.st.after) H') ∧ (∀ e, sayH h n z = .error e → ∀ cls d H', Refused K (g "KinError") e H cls d H' → E cls d H')
theorem ok_say (T : Txt w K mg g mt) : GM P w K mg base (L2.CX P w) 6 (g "Hearth") "say" (spHSay K g) := by
  refine gmX (F_Hearth_say T) (T.cls _ (by decide +kernel)) (T.meth ("Hearth", "say") (by decide +kernel)) sc_Hearth_say (fun vs H Q E h => ?_) fun cdv A outer s H vs Q E hr h => ?_
  · obtain ⟨Z, m, h, N, n, z, rfl, _⟩ := h; rfl
  · obtain ⟨Z, m, h, N, n, z, rfl, a, o, hN, q1, q2⟩ := h
    have nd := sc_Hearth_say.nd
    have hu := hu_of hr
    have Sg := ok_state (P := P) (base := base) T
    have Ha := ok_has (P := P) (base := base) T
    have Sa := ok_Joins_say (P := P) (base := base) T
    have Ke := ok_kept (P := P) (base := base) T
    have Ba := ok_barring (P := P) (base := base) T
    have Af := ok_add_fact (P := P) (base := base) T
    have Br := ok_Barred (P := P) (base := base) T
    have Np := ok_NoPerson (P := P) (base := base) T
    have Ns := ok_NoSection (P := P) (base := base) T
    have Tw := ok_Twice (P := P) (base := base) T
    have tk := takes_of (X := cxOf (L2.CX P w) P w K mg base ["self", "name", "section", "state", "rows"] "Hearth.say" (defScope s_Hearth_say) (mt "Hearth" "say") cdv A outer s H E) rfl rfl rfl rfl
    refine ⟨_, pss_cons (ps_if (pt_cmp (pc_dnotin hu (pv 1) (pe_sf 0))) (pss_one (ps_ref0 Np hr rfl tk)) pss_nil)
      (pss_cons (ps_if (PW.pt (pw_or (pt_cmpR op_lt (pv 2) pe_int (nomark _)) (pw_or1 (pt_cmpR op_ge (pv 2) (pe_fld (pe_sf 0) rfl) (nomark _))))) (pss_one (ps_ref0 Ns hr rfl tk)) pss_nil)
      (pss_cons (ps_if (pt_val (pe_gm Ha (pv 0) hr pass0 (pa_cons pe_str (pa_cons (pv 1) (pa_cons (pv 2) pa_nil))))) (pss_one (ps_ref0 Tw hr rfl tk)) pss_nil)
      (pss_cons (ps_set (i := 3) nd rfl (.inl rfl) (pe_gm0 Sg (pv 0) hr pass0))
      (pss_cons (ps_if (pt_not (pt_val (pe_gm Sa (pe_sf 0) hr pass0 (pa_cons (pe_dget hu (pe_sf 0) (pv 1) (fun _ _ => rfl)) (pa_cons (pv 2) pa_nil)))))
        (pss_cons (ps_set (i := 4) nd rfl (.inl rfl) (pe_op op_cat (pe_gm0 Ke (pv 0) hr pass0) (pe_lst (pa_cons (pe_tup (pa_cons (pe_sf 0) (pa_cons pe_str (pa_cons (pv 1) (pa_cons (pv 2) pa_nil))))) pa_nil))))
        (pss_one (ps_refN Br hr rfl tk (pa_cons (pv 1) (pa_cons (pe_cut (pe_gf Ba hr pass0 (pa_cons (pe_sf 0) (pa_cons (pv 4) (pa_cons (pv 1) pa_nil))))) pa_nil)) (fun σ H Q Q' i h => let ⟨v, e, J, h1, h2⟩ := h; ⟨v, e, J, h1, fun v' H' j => i _ _ (h2 v' H' j)⟩)))) pss_nil)
      (pss_one (ps_ret (pe_gm Af (pv 0) hr pass0 (pa_cons (pv 3) (pa_cons pe_str (pa_cons (pv 1) (pa_cons (pv 2) pa_nil))))))))))), ?_⟩
    have bo := o.bo
    obtain ⟨dx, lo, ob, la⟩ := a.ob
    unfold sayH at q1 q2
    refine ⟨_, rfl, _, _, rfl, rd_side T a, m.sd, _, rfl, DGet.k (k := .inr n) a.c.sd, _, rfl, iteB (fun c => ?_) (fun c1 => ?_)⟩
    · have e : (valV h.st.side (.inr n)).isSome = false := by simpa using c
      rw [if_pos e] at q2
      exact q2 _ rfl
    have e1 : ¬ (valV h.st.side (.inr n)).isSome = false := fun e => by rw [e] at c1; cases c1
    rw [if_neg e1] at q1 q2
    have m1 := side_in bo (n := n) (by
      cases q : (valV h.st.side (.inr n)).isSome with
      | true => rfl
      | false => exact absurd q e1)
    have hl := hasH T ob (x := "land") (by decide +kernel) (hF_land ..)
    have lah := la.same a.zs
    obtain ⟨ldx, lm, lf, lw, l1, l2, l3, l4⟩ := lah.ex
    refine ⟨_, rfl, _, _, rfl, rfl, _, rfl, iteB (fun c => ?_) (fun c2 => ?_)⟩
    · rw [if_pos (.inl (eqT c))] at q2
      exact q2 _ rfl
    refine ⟨_, rfl, _, _, rfl, hl, lo, _, ldx, _, _, rfl, l1, T.cls "Land" (by decide +kernel), T.noat ("Land", "size") (by decide +kernel), lF_size .., _, _, rfl, rfl, _, rfl, iteB (fun c => ?_) (fun c3 => ?_)⟩
    · rw [if_pos (.inr (eqT c))] at q2
      exact q2 _ rfl
    have z0 : 0 ≤ z := by have := eqF c2; omega
    have z1 : z < h.land.size := by have := eqF c3; omega
    rw [if_neg (fun e => e.elim (eqF c2) (eqF c3))] at q1 q2
    have so1 := isName_ok (bo.nk _ m1)
    refine ⟨_, rfl, m.p, dx, _, rfl, ob, hN_has .., _, rfl, _, rfl, Z, m, h, N, "said", n, .int z, rfl, a, bo, by decide +kernel, so1, .inr ⟨z, rfl⟩, fun e => absurd e (by decide +kernel), fun H1 s1 => ⟨_, rfl, iteB (fun c => ?_) (fun c4 => ?_)⟩⟩
    · rw [if_pos c] at q2
      exact fun cls d H' r => q2 _ rfl cls d H' (r.back s1)
    rw [if_neg (by rw [c4]; decide)] at q1 q2
    dsimp only at q1 q2
    have n1 := (Now.refl a).same s1
    obtain ⟨dx1, lo1, ob1, la1⟩ := n1.ha.ob
    refine ⟨_, rfl, m.p, dx1, _, rfl, ob1, hN_state .., Z, m, h, rfl, n1.ha, fun r l d f gs H2 s2 fr sn fa => ?_⟩
    obtain ⟨n2, sa⟩ := n1.frzState s2 fr sn fa
    obtain ⟨v1, v2⟩ := o.po.at m1
    obtain ⟨jdx, job⟩ := n2.ha.c.jo.ob
    have bl := bo.ln
    refine ⟨_, _, rfl, rd_joins T n2.ha, m.jo, jdx, _, rfl, job, (nomJ ..).2.2.2.2.2.1, _, _, rfl, rd_place T n2.ha, _, rfl, m.pd, _, rfl, v1 ▸ DGet.k (k := .inr n) n2.ha.c.pd, _, rfl, ?_⟩
    refine ⟨_, m.jo, m.a1, m.a2, m.a3, m.a4, h.joins, _, _, z, rfl, n2.ha.c.jo, o.jo, v2, by omega, z0, by rw [o.js]; exact z1, fun hf H4 s4 => ⟨_, rfl, ?_⟩, fun ht Z4 H4 j4 st4 => ⟨_, rfl, ?_⟩⟩
    · refine iteB (fun _ => ?_) (fun c => by cases c)
      rw [if_neg (by rw [hf]; decide)] at q2
      have n4 := n2.same s4
      obtain ⟨dx4, lo4, ob4, la4⟩ := n4.ha.ob
      refine ⟨_, rfl, m.p, dx4, _, rfl, ob4, hN_kept .., _, m, h, N, rfl, n4.ha, bo, by omega, fun kp H5 s5 hkp R => ?_⟩
      have n5 := n4.same s5
      refine ⟨_, _, rfl, rd_after T n5.ha, _, rfl, _, rfl, by show 4 ≤ sizeLine; decide, fun tp htp => ⟨by show 1 ≤ sizeLine; decide, fun tl htl => ?_⟩⟩
      have s6 := same_new (o := .tup [.int h.st.after, .str "said", .str n, .int z]) htp
      have h6 : upd H5 tp (.tup [.int h.st.after, .str "said", .str n, .int z]) tp = some (rowO (h.st.after, ⟨"said", n, .int z⟩)) := upd_same
      have s7 := same_new (o := .lst [.ref tp]) htl
      have h7 : upd (upd H5 tp (.tup [.int h.st.after, .str "said", .str n, .int z])) tl (.lst [.ref tp]) tl = some (.lst [.ref tp]) := upd_same
      have h67 := s7 _ _ h6
      have s57 := s6.trans s7
      generalize upd (upd H5 tp (.tup [.int h.st.after, .str "said", .str n, .int z])) tl (.lst [.ref tp]) = H7 at h7 h67 s57 ⊢
      obtain ⟨ks, k1, k2⟩ := R.ex
      have kl : ks.length ≤ 99997 := by rw [k2.len, kept_len]; have := bo.lf; omega
      refine ⟨kp, tl, _, _, rfl, rfl, s57 _ _ k1, h7, small _ (by rw [List.length_map]; simp only [List.length_cons, List.length_nil]; omega), fun rp2 hrp2 => ?_⟩
      have s8 := same_new (o := .lst (ks.map V.ref ++ [.ref tp])) hrp2
      have h8 : upd H7 rp2 (.lst (ks.map V.ref ++ [.ref tp])) rp2 = some (.lst (ks.map V.ref ++ [.ref tp])) := upd_same
      generalize upd H7 rp2 (.lst (ks.map V.ref ++ [.ref tp])) = H8 at s8 h8 ⊢
      have s58 := s57.trans s8
      have R8 : Rows H8 rp2 h.land.size h.st.names (keptL h.st ++ [(h.st.after, ⟨"said", n, .int z⟩)]) :=
        R.snoc s58 (s8 _ _ h67) (.said m1 z0 z1) (by rw [kept_len]; have := bo.lf; omega) fun as e => by
          rw [k1] at e
          injection e with e
          injection e with e
          rw [← e]; exact h8
      have n8 := n5.same s58
      obtain ⟨dx8, lo8, ob8, la8⟩ := n8.ha.ob
      have sall : Same H H8 := s1.trans (s2.trans (s4.trans (s5.trans s58)))
      refine ⟨_, rfl, fun v H' => Same H8 H', ⟨_, _, rfl, hasH T ob8 (x := "land") (by decide +kernel) (hF_land ..), _, rfl, _, rfl, lo8, rp2, n, h.land, _, h.st.names, rfl, la8.same n8.ha.zs, o.lo, R8, m1, by omega, fun v H' s' => s'⟩, fun v H' s' => ⟨rfl, fun cls d H9 r9 => ?_⟩⟩
      exact q2 _ rfl cls d H9 (r9.back (sall.trans s'))
    · refine iteB (fun c => by cases c) (fun _ => ?_)
      rw [if_pos ht] at q1
      have n4 := n2.setJ st4 j4
      obtain ⟨dx4, lo4, ob4, la4⟩ := n4.ha.ob
      have jok := jok_say o.jo v2 z0 (by rw [o.js]; exact z1)
      have ho : HOk N ⟨h.land, h.st, h.place, (sayJ h.joins (idx h.place n) z).1, h.past, h.ahead⟩ :=
        ⟨o.lo, o.bo, o.po, o.pm, jok, by rw [say_size]; exact o.js, o.pl, o.al, o.pb, o.ab⟩
      refine ⟨_, rfl, m.p, dx4, _, rfl, ob4, hN_add_fact .., _, rfl, _, rfl, _, rfl, Z4, m, _, N, r, h.st, "said", n, .int z, rfl, n4.ha, sa.mono st4.zz, ho, by omega, fun Z5 H5 m5 n5 => ?_⟩
      exact q1 _ rfl _ _ _ (n4.trans n5)
end
end Kin
set_option maxHeartbeats 4000000
/-! K31: a new book; side_of, place_of, open_of, dealings. -/
namespace Kin
open PySem L2
section
variable {P : Program} {w : World} {K : PySem.W.Frag} {mg : Str → Option Value} {g : Str → Addr} {mt : Str → Str → Addr} {base : Heap}
def spHInit (g : Str → Addr) : Sp := fun vs H Q _ => ∃ (Z : Hp) (x dx lo : Addr) (L : LS), vs = [.ref x, .ref lo] ∧ H x = some (.ins (g "Hearth") dx []) ∧ Same Z H ∧ Z x = none ∧ LA g Z lo L ∧ LOk L ∧
  ∀ H' m', m'.p = x → HA g Z H' m' (newH L) → Kept [x] H H' → (∀ a ∈ m'.l, a = x ∨ H a = none) → Q .non H'
theorem ok_Hearth_init (T : Txt w K mg g mt) : GK P w K mg base CX0 3 "Hearth" (g "Hearth") (spHInit g) := by
  refine gk0 (F_Hearth_init T) (T.glo _ (by decide +kernel)) (T.mkr _ (by decide +kernel)) sc_Hearth_init (fun vs H Q E h => ?_) fun cdv A outer s H vs Q E hr h => ?_
  · obtain ⟨Z, x, dx, lo, L, rfl, _⟩ := h; rfl
  · obtain ⟨Z, x, dx, lo, L, rfl, hx, zs, zx, la, lok, k⟩ := h
    have c : Cls K (g "Hearth") := T.cls _ (by decide +kernel)
    have Ji := ok_Joins_init (P := P) (base := base) T
    refine ⟨_, pss_cons (ps_fld (pv 0) (pv 1) rfl) (pss_cons (ps_fld (pv 0) (pe_lst pa_nil) rfl) (pss_cons (ps_fld (pv 0) pe_dnewK rfl) (pss_cons (ps_fld (pv 0) pe_dnewK rfl) (pss_cons (ps_fld (pv 0) pe_int rfl) (pss_cons (ps_fld (pv 0) pe_dnewK rfl)
      (pss_cons (ps_fld (pv 0) (pe_cut (pe_gk Ji hr pass0 (pa_cons (pe_sf 1) pa_nil))) rfl) (pss_cons (ps_fld (pv 0) (pe_lst pa_nil) rfl) (pss_one (ps_fld (pv 0) (pe_lst pa_nil) rfl))))))))), ?_⟩
    have l0 : ([] : List (Str × V)).length = 0 := rfl
    have i0 := Ini.start hx
    have la0 := la.same zs
    refine ⟨_, rfl, _, rfl, x, _, dx, _, rfl, i0.ob, c, T.noat ("Hearth", "land") (by decide +kernel), by omega, ?_⟩
    have l1 := lenF "land" (.ref lo) []
    have i1 := i0.val (putF "land" (.ref lo) [])
    have z1 : Same Z (upd H x (.ins (g "Hearth") dx (putF "land" (.ref lo) []))) := same_updZ zs zx
    generalize upd H x (.ins (g "Hearth") dx (putF "land" (.ref lo) [])) = H1 at i1 z1 ⊢
    generalize hf1 : putF "land" (.ref lo) [] = fs1 at i1 l1 ⊢
    -- names
    refine ⟨Nat.zero_le _, fun nl h2 => ?_⟩
    refine ⟨_, rfl, x, _, dx, _, rfl, (i1.more (same_new h2)).ob, c, T.noat ("Hearth", "names") (by decide +kernel), by omega, ?_⟩
    have l2 := lenF "names" (.ref nl) fs1
    have i2 := i1.obj h2 (.lst []) (putF "names" (.ref nl) fs1)
    have z2 : Same Z (upd (upd H1 nl (.lst [])) x (.ins (g "Hearth") dx (putF "names" (.ref nl) fs1))) := same_updZ (z1.trans (same_new h2)) zx
    generalize upd (upd H1 nl (.lst [])) x (.ins (g "Hearth") dx (putF "names" (.ref nl) fs1)) = H2 at i2 z2 ⊢
    generalize hf2 : putF "names" (.ref nl) fs1 = fs2 at i2 l2 ⊢
    -- side
    refine fun sd h3 => ?_
    refine ⟨_, rfl, x, _, dx, _, rfl, (i2.more (same_new h3)).ob, c, T.noat ("Hearth", "side") (by decide +kernel), by omega, ?_⟩
    have l3 := lenF "side" (.ref sd) fs2
    have i3 := i2.obj h3 (.dK []) (putF "side" (.ref sd) fs2)
    have z3 : Same Z (upd (upd H2 sd (.dK [])) x (.ins (g "Hearth") dx (putF "side" (.ref sd) fs2))) := same_updZ (z2.trans (same_new h3)) zx
    generalize upd (upd H2 sd (.dK [])) x (.ins (g "Hearth") dx (putF "side" (.ref sd) fs2)) = H3 at i3 z3 ⊢
    generalize hf3 : putF "side" (.ref sd) fs2 = fs3 at i3 l3 ⊢
    -- facts
    refine fun fd h4 => ?_
    refine ⟨_, rfl, x, _, dx, _, rfl, (i3.more (same_new h4)).ob, c, T.noat ("Hearth", "facts") (by decide +kernel), by omega, ?_⟩
    have l4 := lenF "facts" (.ref fd) fs3
    have i4 := i3.obj h4 (.dK []) (putF "facts" (.ref fd) fs3)
    have z4 : Same Z (upd (upd H3 fd (.dK [])) x (.ins (g "Hearth") dx (putF "facts" (.ref fd) fs3))) := same_updZ (z3.trans (same_new h4)) zx
    generalize upd (upd H3 fd (.dK [])) x (.ins (g "Hearth") dx (putF "facts" (.ref fd) fs3)) = H4 at i4 z4 ⊢
    generalize hf4 : putF "facts" (.ref fd) fs3 = fs4 at i4 l4 ⊢
    -- after
    refine ⟨_, rfl, x, _, dx, _, rfl, i4.ob, c, T.noat ("Hearth", "after") (by decide +kernel), by omega, ?_⟩
    have l5 := lenF "after" (.int 0) fs4
    have i5 := i4.val (putF "after" (.int 0) fs4)
    have z5 : Same Z (upd H4 x (.ins (g "Hearth") dx (putF "after" (.int 0) fs4))) := same_updZ z4 zx
    generalize upd H4 x (.ins (g "Hearth") dx (putF "after" (.int 0) fs4)) = H5 at i5 z5 ⊢
    generalize hf5 : putF "after" (.int 0) fs4 = fs5 at i5 l5 ⊢
    -- place
    refine fun pd h6 => ?_
    refine ⟨_, rfl, x, _, dx, _, rfl, (i5.more (same_new h6)).ob, c, T.noat ("Hearth", "place") (by decide +kernel), by omega, ?_⟩
    have l6 := lenF "place" (.ref pd) fs5
    have i6 := i5.obj h6 (.dK []) (putF "place" (.ref pd) fs5)
    have z6 : Same Z (upd (upd H5 pd (.dK [])) x (.ins (g "Hearth") dx (putF "place" (.ref pd) fs5))) := same_updZ (z5.trans (same_new h6)) zx
    generalize upd (upd H5 pd (.dK [])) x (.ins (g "Hearth") dx (putF "place" (.ref pd) fs5)) = H6 at i6 z6 ⊢
    generalize hf6 : putF "place" (.ref pd) fs5 = fs6 at i6 l6 ⊢
    -- joins
    obtain ⟨ldx, lm, lf, lw, e1, e2, e3, e4⟩ := (la.same z6).ex
    refine ⟨fun v H7 => ∃ jo a1 a2 a3 a4, v = .ref jo ∧ (∀ a ∈ jM jo a1 a2 a3 a4, H6 a = none) ∧ JA g Z H7 jo a1 a2 a3 a4 (JS.none_ L.size) ∧ Same H6 H7, ?_, ?_⟩
    · refine ⟨_, _, rfl, hasL T e1 (x := "size") (by decide +kernel) (lF_size ..), ?_⟩
      exact mkJ (Q := fun v H7 => ∃ jo a1 a2 a3 a4, v = .ref jo ∧ (∀ a ∈ jM jo a1 a2 a3 a4, H6 a = none) ∧ JA g Z H7 jo a1 a2 a3 a4 (JS.none_ L.size) ∧ Same H6 H7) (n := L.size) z6 fun jo a1 a2 a3 a4 H7 fr j7 s7 => ⟨jo, a1, a2, a3, a4, rfl, fr, j7, s7⟩
    rintro _ H7 ⟨jo, a1, a2, a3, a4, rfl, frj, j7, s7⟩
    have xj : x ∉ jM jo a1 a2 a3 a4 := fun hm => by
      have q := frj x hm
      rw [i6.ob] at q; cases q
    refine ⟨_, rfl, x, _, dx, _, rfl, (i6.more s7).ob, c, T.noat ("Hearth", "joins") (by decide +kernel), by omega, ?_⟩
    have l7 := lenF "joins" (.ref jo) fs6
    have i7 := (i6.more s7).val (putF "joins" (.ref jo) fs6)
    have j8 := j7.put (o := .ins (g "Hearth") dx (putF "joins" (.ref jo) fs6)) zx xj
    generalize upd H7 x (.ins (g "Hearth") dx (putF "joins" (.ref jo) fs6)) = H8 at i7 j8 ⊢
    generalize hf7 : putF "joins" (.ref jo) fs6 = fs7 at i7 l7 ⊢
    -- past
    refine ⟨Nat.zero_le _, fun pa h9 => ?_⟩
    refine ⟨_, rfl, x, _, dx, _, rfl, (i7.more (same_new h9)).ob, c, T.noat ("Hearth", "past") (by decide +kernel), by omega, ?_⟩
    have l8 := lenF "past" (.ref pa) fs7
    have i8 := i7.obj h9 (.lst []) (putF "past" (.ref pa) fs7)
    have paj := j8.live.ne h9
    have j9 := (j8.same (same_new (o := .lst []) h9)).put (o := .ins (g "Hearth") dx (putF "past" (.ref pa) fs7)) zx xj
    generalize upd (upd H8 pa (.lst [])) x (.ins (g "Hearth") dx (putF "past" (.ref pa) fs7)) = H9 at i8 j9 ⊢
    generalize hf8 : putF "past" (.ref pa) fs7 = fs8 at i8 l8 ⊢
    -- ahead
    refine ⟨Nat.zero_le _, fun ah h10 => ?_⟩
    refine ⟨_, rfl, x, _, dx, _, rfl, (i8.more (same_new h10)).ob, c, T.noat ("Hearth", "ahead") (by decide +kernel), by omega, ?_⟩
    have i9 := i8.obj h10 (.lst []) (putF "ahead" (.ref ah) fs8)
    have ahj := j9.live.ne h10
    have j10 := (j9.same (same_new (o := .lst []) h10)).put (o := .ins (g "Hearth") dx (putF "ahead" (.ref ah) fs8)) zx xj
    generalize upd (upd H9 ah (.lst [])) x (.ins (g "Hearth") dx (putF "ahead" (.ref ah) fs8)) = H10 at i9 j10 ⊢
    have efs : putF "ahead" (.ref ah) fs8 = hF lo nl sd fd 0 pd jo pa ah := by rw [← hf8, ← hf7, ← hf6, ← hf5, ← hf4, ← hf3, ← hf2, ← hf1]; exact hF_made ..
    rw [efs] at i9
    have nw := i9.nw
    have jfr : ∀ a ∈ jM jo a1 a2 a3 a4, H a = none := fun a ha => i6.free (frj a ha)
    have nd1 := i9.nd
    have jni : ∀ a ∈ jM jo a1 a2 a3 a4, a ∉ [x, nl, sd, fd, pd, pa, ah] := fun a ha hm => by
      simp only [List.mem_cons, List.not_mem_nil, or_false] at hm
      have fr := frj a ha
      rcases hm with rfl | rfl | rfl | rfl | rfl | rfl | rfl
      · exact xj ha
      · rw [(i6.nw (a, .lst []) (by simp)).2] at fr; cases fr
      · rw [(i6.nw (a, .dK []) (by simp)).2] at fr; cases fr
      · rw [(i6.nw (a, .dK []) (by simp)).2] at fr; cases fr
      · rw [(i6.nw (a, .dK []) (by simp)).2] at fr; cases fr
      · exact paj ha
      · exact ahj ha
    have w1 := nw (nl, .lst []) (by simp)
    have w2 := nw (sd, .dK []) (by simp)
    have w3 := nw (fd, .dK []) (by simp)
    have w4 := nw (pd, .dK []) (by simp)
    have w5 := nw (pa, .lst []) (by simp)
    have w6 := nw (ah, .lst []) (by simp)
    have el : HM.l ⟨x, nl, sd, fd, pd, pa, ah, jo, a1, a2, a3, a4⟩ = [x, nl, sd, fd, pd, pa, ah] ++ jM jo a1 a2 a3 a4 := rfl
    have all : ∀ a ∈ HM.l ⟨x, nl, sd, fd, pd, pa, ah, jo, a1, a2, a3, a4⟩, a = x ∨ H a = none := fun a ha => by
      rw [el] at ha
      rcases List.mem_append.mp ha with ha | ha
      · simp only [List.mem_cons, List.not_mem_nil, or_false] at ha
        rcases ha with rfl | rfl | rfl | rfl | rfl | rfl | rfl
        · exact .inl rfl
        · exact .inr w1.1
        · exact .inr w2.1
        · exact .inr w3.1
        · exact .inr w4.1
        · exact .inr w5.1
        · exact .inr w6.1
      · exact .inr (jfr a ha)
    refine k H10 ⟨x, nl, sd, fd, pd, pa, ah, jo, a1, a2, a3, a4⟩ rfl ⟨?_, fun a ha => ?_, j10.zs, ⟨dx, lo, i9.ob, la⟩, ⟨w1.2, w2.2, ⟨[], w3.2, .nil⟩, w4.2, ⟨[], w5.2, EachR.nil⟩, ⟨[], w6.2, EachR.nil⟩, j10⟩⟩ i9.kp all
    · rw [el]
      exact List.nodup_append.mpr ⟨nd1, j10.nd, fun a ha b hb e => jni b hb (by rw [← e]; exact ha)⟩
    · rcases all a ha with rfl | q
      · exact zx
      · exact zs.free q

/-! ### side_of, place_of, open_of, dealings -/
def spSideOf (g : Str → Addr) : Sp := fun vs H Q _ => ∃ (Z : Hp) (m : HM) (h : HS) (n : Str) (v : V), vs = [.ref m.p, .str n] ∧ HA g Z H m h ∧ valV h.st.side (.inr n) = some v ∧ Q v H
theorem ok_side_of (T : Txt w K mg g mt) : GM P w K mg base CX0 1 (g "Hearth") "side_of" (spSideOf g) := by
  refine gm0 (F_Hearth_side_of T) (T.cls _ (by decide +kernel)) (T.meth ("Hearth", "side_of") (by decide +kernel)) sc_Hearth_side_of (fun vs H Q E h => ?_) fun cdv A outer s H vs Q E hr h => ?_
  · obtain ⟨Z, m, h, n, v, rfl, _⟩ := h; rfl
  · obtain ⟨Z, m, h, n, v, rfl, a, hv, k⟩ := h
    have hu := hu_of hr
    refine ⟨_, pss_cons (ps_if (pt_cmp (pc_dnotin hu (pv 1) (pe_sf 0))) (pss_one ps_never) pss_nil) (pss_one (ps_ret (pe_dget hu (pe_sf 0) (pv 1) (fun _ _ => rfl)))), ?_⟩
    refine ⟨_, rfl, _, _, rfl, rd_side T a, m.sd, _, rfl, DGet.k (k := .inr n) a.c.sd, _, rfl, ?_⟩
    rw [hv]
    refine iteB (fun c => by cases c) (fun _ => ?_)
    exact ⟨_, _, rfl, rd_side T a, _, rfl, m.sd, _, rfl, hv ▸ DGet.k (k := .inr n) a.c.sd, k⟩
def spPlaceOf (K : PySem.W.Frag) (g : Str → Addr) : Sp := fun vs H Q E => ∃ (Z : Hp) (m : HM) (h : HS) (n : Str), vs = [.ref m.p, .str n] ∧ HA g Z H m h ∧
  (∀ v, valV h.place (.inr n) = some v → Q v H) ∧ (valV h.place (.inr n) = none → ∀ cls d H', Refused K (g "KinError") "no person" H cls d H' → E cls d H')
theorem ok_place_of (T : Txt w K mg g mt) : GF P w K mg base (L2.CX P w) 4 "place_of" (spPlaceOf K g) := by
  refine gfX (F_place_of T) (T.glo _ (by decide +kernel)) sc_place_of (fun vs H Q E h => ?_) fun cdv A outer s H vs Q E hr h => ?_
  · obtain ⟨Z, m, h, n, rfl, _⟩ := h; rfl
  · obtain ⟨Z, m, h, n, rfl, a, k1, k2⟩ := h
    have hu := hu_of hr
    have Np := ok_NoPerson (P := P) (base := base) T
    have tk := takes_of (X := cxOf (L2.CX P w) P w K mg base ["hearth", "name"] "place_of" (defScope s_place_of) (g "place_of") cdv A outer s H E) rfl rfl rfl rfl
    refine ⟨_, pss_cons (ps_if (pt_cmp (pc_dnotin hu (pv 1) (pe_sf 0))) (pss_one (ps_ref0 Np hr rfl tk)) pss_nil) (pss_one (ps_ret (pe_dget hu (pe_sf 0) (pv 1) (fun _ _ => rfl)))), ?_⟩
    refine ⟨_, rfl, _, _, rfl, rd_place T a, m.pd, _, rfl, DGet.k (k := .inr n) a.c.pd, _, rfl, ?_⟩
    cases hv : valV h.place (.inr n) with
    | none => exact iteB (fun _ => k2 hv) (fun c => by cases c)
    | some v =>
      refine iteB (fun c => by cases c) (fun _ => ?_)
      exact ⟨_, _, rfl, rd_place T a, _, rfl, m.pd, _, rfl, hv ▸ DGet.k (k := .inr n) a.c.pd, k1 v hv⟩
noncomputable def whoH (h : HS) (n : Str) : Except Str (List Int) := if n ∈ h.st.names then .ok (openAt h.joins (idx h.place n)) else .error "no person"
theorem place_none {N : Nat} {h : HS} (o : HOk N h) {n : Str} (e : n ∉ h.st.names) : valV h.place (.inr n) = none := by
  cases hv : valV h.place (.inr n) with
  | none => rfl
  | some v => exact absurd (o.po.2 n v hv).1 e
def spOpenOf (K : PySem.W.Frag) (g : Str → Addr) : Sp := fun vs H Q E => ∃ (Z : Hp) (m : HM) (h : HS) (N : Nat) (n : Str), vs = [.ref m.p, .str n] ∧ HA g Z H m h ∧ HOk N h ∧ N ≤ 99999 ∧
  (∀ xs, whoH h n = .ok xs → ∀ q H', Same H H' → H' q = some (li xs) → Q (.ref q) H') ∧ (∀ e, whoH h n = .error e → ∀ cls d H', Refused K (g "KinError") e H cls d H' → E cls d H')
theorem ok_open_of (T : Txt w K mg g mt) : GF P w K mg base (L2.CX P w) 5 "open_of" (spOpenOf K g) := by
  refine gfX (F_open_of T) (T.glo _ (by decide +kernel)) sc_open_of (fun vs H Q E h => ?_) fun cdv A outer s H vs Q E hr h => ?_
  · obtain ⟨Z, m, h, N, n, rfl, _⟩ := h; rfl
  · obtain ⟨Z, m, h, N, n, rfl, a, o, hN, k1, k2⟩ := h
    have Po := ok_place_of (P := P) (base := base) T
    have Op := ok_Joins_open_at (P := P) (base := base) T
    have tk := takes_of (X := cxOf (L2.CX P w) P w K mg base ["hearth", "name"] "open_of" (defScope s_open_of) (g "open_of") cdv A outer s H E) rfl rfl rfl rfl
    refine ⟨_, pss_one (ps_ret (pe_gm Op (pe_sf 0) hr pass0 (pa_cons (pe_gf Po hr (passE tk rfl) (pa_cons (pv 0) (pa_cons (pv 1) pa_nil))) pa_nil))), ?_⟩
    obtain ⟨jdx, job⟩ := a.c.jo.ob
    have bl := o.bo.ln
    refine ⟨_, _, rfl, rd_joins T a, m.jo, jdx, _, rfl, job, (nomJ ..).2.2.2.2.2.2.1, _, rfl, _, rfl, Z, m, h, n, rfl, a, fun v hv => ?_, fun hv => ?_⟩
    · obtain ⟨p1, p2, p3⟩ := o.po.2 n v hv
      subst p2
      exact ⟨Z, m.jo, m.a1, m.a2, m.a3, m.a4, h.joins, _, _, rfl, a.c.jo, o.jo, p3, by omega, fun q H' s' h' => k1 _ (by unfold whoH; rw [if_pos p1]) q H' s' h'⟩
    · refine k2 _ ?_
      unfold whoH
      rw [if_neg fun hm => ?_]
      have := (o.po.at hm).1
      rw [hv] at this; cases this
def spDealings (g : Str → Addr) : Sp := fun vs H Q _ => ∃ (Z : Hp) (m : HM) (h : HS) (N : Nat), vs = [.ref m.p] ∧ HA g Z H m h ∧ HOk N h ∧ N ≤ 99999 ∧ ∀ H', Same H H' → Q (.int (dealt h.joins)) H'
theorem ok_dealings (T : Txt w K mg g mt) : GF P w K mg base CX0 2 "dealings" (spDealings g) := by
  refine gf0 (F_dealings T) (T.glo _ (by decide +kernel)) sc_dealings (fun vs H Q E h => ?_) fun cdv A outer s H vs Q E hr h => ?_
  · obtain ⟨Z, m, h, N, rfl, _⟩ := h; rfl
  · obtain ⟨Z, m, h, N, rfl, a, o, hN, k⟩ := h
    have De := ok_Joins_dealt (P := P) (base := base) T
    refine ⟨_, pss_one (ps_ret (pe_gm0 De (pe_sf 0) hr pass0)), ?_⟩
    obtain ⟨jdx, job⟩ := a.c.jo.ob
    have bl := o.bo.ln
    exact ⟨_, _, rfl, rd_joins T a, m.jo, jdx, _, rfl, job, (nomJ ..).2.2.2.2.2.2.2, Z, m.jo, m.a1, m.a2, m.a3, m.a4, h.joins, _, rfl, a.c.jo, o.jo, by omega, k⟩
end
end Kin
set_option maxHeartbeats 4000000
/-! K32: two books joined, the plain part and put_facts. -/
namespace Kin
open PySem L2
noncomputable def putF1 (h : HS) (q : Int × Fact) : Except Str HS :=
  if hasF h.st q.2.kind q.2.one q.2.other = true then .ok h
  else if q.2.kind = "said" then sayH h q.2.one (secOf q.2.other) else tieH h q.2.kind q.2.one (nameOf q.2.other)
def sideOf (h : HS) (n : Str) : Str := match valV h.st.side (.inr n) with
  | some (.str s) => s
  | _ => ""
def each {α : Type} (f : HS → α → Except Str HS) : List α → HS → Except Str HS
  | [], h => .ok h
  | x :: r, h => match f h x with
    | .ok h' => each f r h'
    | .error e => .error e
noncomputable def joinH (a b : HS) : Except Str HS :=
  if a.land.mother = b.land.mother ∧ a.land.father = b.land.father ∧ a.land.wife = b.land.wife then
    match each (fun h n => personH h n (sideOf a n)) a.st.names (newH a.land) with
    | .error e => .error e
    | .ok h1 => match each (fun h n => personH h n (sideOf b n)) b.st.names h1 with
      | .error e => .error e
      | .ok h2 => match each putF1 (keptL a.st) h2 with
        | .error e => .error e
        | .ok h3 => match each putF1 (keptL b.st) h3 with
          | .error e => .error e
          | .ok h4 => .ok ⟨h4.land, h4.st, h4.place, h4.joins, [], []⟩
  else .error "unlike lands"
theorem each_snoc {α : Type} (f : HS → α → Except Str HS) (x : α) : ∀ (l : List α) (h : HS), each f (l ++ [x]) h = match each f l h with
    | .ok h' => f h' x
    | .error e => .error e
  | [], h => by
    show (match f h x with | .ok h' => each f [] h' | .error e => .error e) = f h x
    cases f h x <;> rfl
  | y :: r, h => by
    show (match f h y with | .ok h' => each f (r ++ [x]) h' | .error e => .error e) = match (match f h y with | .ok h' => each f r h' | .error e => .error e) with
      | .ok h' => f h' x
      | .error e => .error e
    cases f h y with
    | ok h' => exact each_snoc f x r h'
    | error e => rfl
/-- an error on the way is the error of the whole -/
theorem each_err {α : Type} {f : HS → α → Except Str HS} {l : List α} {i : Nat} {x : α} {h h1 : HS} {e : Str} (hx : l[i]? = some x) (h0 : each f (l.take i) h = .ok h1) (he : f h1 x = .error e) : each f l h = .error e := by
  have e1 : l = l.take i ++ (x :: l.drop (i + 1)) := by
    have hl : i < l.length := (List.getElem?_eq_some_iff.mp hx).1
    have := List.drop_eq_getElem_cons hl
    rw [(List.getElem?_eq_some_iff.mp hx).2] at this
    rw [← this, List.take_append_drop]
  rw [e1]
  clear hx e1
  generalize l.take i = t at h0 ⊢
  induction t generalizing h with
  | nil =>
    have e0 : h = h1 := Except.ok.inj h0
    rw [e0]
    show (match f h1 x with | .ok h' => each f _ h' | .error e => .error e) = _
    rw [he]
  | cons y r ih =>
    have h0' : (match f h y with | .ok h' => each f r h' | .error e => .error e) = Except.ok h1 := h0
    show (match f h y with | .ok h' => each f (r ++ _) h' | .error e => .error e) = _
    cases c : f h y with
    | ok h' => rw [c] at h0'; exact ih h0'
    | error e => rw [c] at h0'; cases h0'
theorem putF1_ok {N : Nat} {h h' : HS} {q : Int × Fact} {size : Nat} {names : List Str} (o : HOk N h) (fo : FactOk size names q.2) (e : putF1 h q = .ok h') : HOk (N + 1) h' ∧ h'.land = h.land := by
  have land_say : ∀ {n z}, sayH h n z = .ok h' → h'.land = h.land := fun {n z} e => by
    unfold sayH at e
    split at e
    · cases e
    · split at e
      · cases e
      · split at e
        · cases e
        · dsimp only at e
          split at e
          · cases e; rfl
          · cases e
  have land_tie : ∀ {k n z}, tieH h k n z = .ok h' → h'.land = h.land := fun {k n z} e => by
    unfold tieH at e
    split at e
    · cases e
    · dsimp only at e
      split at e
      · cases e; rfl
      · cases e
  unfold putF1 at e
  split at e
  · cases e; exact ⟨o.mono (Nat.le_succ _), rfl⟩
  · obtain ⟨num, f⟩ := q
    cases fo with
    | said hn h0 h1 =>
      rw [if_pos rfl] at e
      exact ⟨sayH_ok o e, land_say e⟩
    | @tie k one other hk hn hn' =>
      have nk : ¬ k = ("said" : Str) := by
        rcases hk with q | q | q | q <;> subst q <;> decide +kernel
      rw [if_neg nk] at e
      exact ⟨tieH_ok o hk e, land_tie e⟩
theorem person_land {h h' : HS} {n s : Str} (e : personH h n s = .ok h') : h'.land = h.land := by
  unfold personH at e
  split at e
  · cases e
  · split at e
    · cases e
    · cases e; rfl
theorem each_ok {α : Type} {f : HS → α → Except Str HS} {P : Nat → HS → Prop} {l : List α} (hs : ∀ N h h' x, x ∈ l → P N h → f h x = .ok h' → P (N + 1) h') : ∀ {N : Nat} {h h' : HS}, P N h → each f l h = .ok h' → P (N + l.length) h' := by
  induction l with
  | nil => intro N h h' p e; cases e; exact p
  | cons x r ih =>
    intro N h h' p e
    have e' : (match f h x with | .ok h' => each f r h' | .error e => .error e) = Except.ok h' := e
    cases c : f h x with
    | error z => rw [c] at e'; cases e'
    | ok h1 =>
      rw [c] at e'
      have := ih (fun N h h' y hy => hs N h h' y (List.mem_cons_of_mem _ hy)) (hs N h h1 x (List.mem_cons_self ..) p c) e'
      rw [List.length_cons]
      have e2 : N + (r.length + 1) = N + 1 + r.length := by omega
      rw [e2]; exact this
section
variable {P : Program} {w : World} {K : PySem.W.Frag} {mg : Str → Option Value} {g : Str → Addr} {mt : Str → Str → Addr} {base : Heap}
theorem HA.notup {Z H : Hp} {m : HM} {h : HS} (a : HA g Z H m h) {b : Addr} {xs : List V} (e : H b = some (.tup xs)) : b ∉ m.l := by
  obtain ⟨dx, lo, ob, _⟩ := a.ob
  obtain ⟨h1, h2, ⟨fs, h3, _⟩, h4, ⟨as, h5, _⟩, ⟨bs, h6, _⟩, j⟩ := a.c
  obtain ⟨_, _, _, ⟨jdx, j1⟩, j2, ⟨ts, j3, _⟩, j4, rs, j5, _⟩ := j
  intro hb
  unfold HM.l at hb
  simp only [List.mem_cons, List.not_mem_nil, or_false] at hb
  rcases hb with rfl | rfl | rfl | rfl | rfl | rfl | rfl | rfl | rfl | rfl | rfl | rfl
  · rw [ob] at e; cases e
  · rw [h1] at e; cases e
  · rw [h2] at e; cases e
  · rw [h3] at e; cases e
  · rw [h4] at e; cases e
  · rw [h5] at e; cases e
  · rw [h6] at e; cases e
  · rw [j1] at e; cases e
  · rw [j2] at e; cases e
  · rw [j3] at e; cases e
  · rw [j4] at e; cases e
  · rw [j5] at e; cases e
/-! ### put_facts -/
def spPut (K : PySem.W.Frag) (g : Str → Addr) : Sp := fun vs H Q E => ∃ (Z : Hp) (m : HM) (h : HS) (N : Nat) (k d : Addr) (kn : List (Key × V)) (names : List Str) (rows : List (Int × Fact)), vs = [.ref m.p, .ref k, .ref d] ∧ HA g Z H m h ∧ HOk N h ∧ N + rows.length ≤ 99990 ∧
  Rows H k h.land.size names rows ∧ k ∉ m.l ∧ d ∉ m.l ∧ H d = some (.dK kn) ∧ (∀ x ∈ names, valV kn (.inr x) = some (.str x) ∧ isName x = true) ∧
  (∀ h', each putF1 rows h = .ok h' → ∀ Z' H' m', Now g Z H m Z' H' m' h' → Q .non H') ∧
  (∀ e, each putF1 rows h = .error e → ∀ cls dd H1 H', Kept m.l H H1 → Refused K (g "KinError") e H1 cls dd H' → E cls dd H')
theorem ok_put_facts (T : Txt w K mg g mt) : GF P w K mg base (L2.CX P w) 7 "put_facts" (spPut K g) := by
  refine gfX (F_put_facts T) (T.glo _ (by decide +kernel)) sc_put_facts (fun vs H Q E h => ?_) fun cdv A outer s H vs Q E hr h => ?_
  · obtain ⟨Z, m, h, N, k, d, kn, names, rows, rfl, _⟩ := h; rfl
  · obtain ⟨Z, m, h, N, k, d, kn, names, rows, rfl, a, o, hN, R, hk, hd, hkn, idn, q1, q2⟩ := h
    have nd := sc_put_facts.nd
    have hu := hu_of hr
    have Ha := ok_has (P := P) (base := base) T
    have Sy := ok_say (P := P) (base := base) T
    have Ty := ok_tie (P := P) (base := base) T
    have tk := takes_of (X := cxOf (L2.CX P w) P w K mg base ["made", "rows", "known", "number", "kind", "one", "other", "here", "there"] "put_facts" (defScope s_put_facts) (g "put_facts") cdv A outer s H E) rfl rfl rfl rfl
    refine ⟨_, pss_one (ps_for (passes_of rfl) rfl (pi_list (pv 1)) (pg_tup rfl (pgs_cons (pg_name (i := 3) nd rfl (.inl rfl)) (pgs_cons (pg_name (i := 4) nd rfl (.inl rfl)) (pgs_cons (pg_name (i := 5) nd rfl (.inl rfl)) (pgs_cons (pg_name (i := 6) nd rfl (.inl rfl)) pgs_nil)))))
      (pss_cons (ps_set (i := 7) nd rfl (.inl rfl) (pe_dget hu (pv 2) (pv 5) (fun _ _ => rfl)))
      (pss_cons (ps_set (i := 8) nd rfl (.inl rfl) (pe_ifExp (pt_cmpR op_eq (pv 4) pe_str (nomark _)) (pv 6) (pe_dget hu (pv 2) (pv 6) (fun _ _ => rfl))))
      (pss_one (ps_if (pt_not (pt_val (pe_gm Ha (pv 0) hr pass0 (pa_cons (pv 4) (pa_cons (pv 7) (pa_cons (pv 8) pa_nil))))))
        (pss_one (ps_if (pt_cmpR op_eq (pv 4) pe_str (nomark _))
          (pss_one (ps_expr (pe_gm Sy (pv 0) hr (passE tk rfl) (pa_cons (pv 7) (pa_cons (pv 8) pa_nil)))))
          (pss_one (ps_expr (pe_gm Ty (pv 0) hr (passE tk rfl) (pa_cons (pv 4) (pa_cons (pv 7) (pa_cons (pv 8) pa_nil)))))))) pss_nil))))), ?_⟩
    obtain ⟨as, r1, r2⟩ := R.ex
    refine ⟨_, rfl, k, rfl, ⟨_, SqL.of r1⟩, ?_⟩
    refine for_it (walk_list (K := K) (a := k) (xs := as.map V.ref)) (fun i σ G => (∃ u3 u4 u5 u6 u7 u8, σ = [some (.ref m.p), some (.ref k), some (.ref d), u3, u4, u5, u6, u7, u8]) ∧ ∃ Z' m' h', Now g Z H m Z' G m' h' ∧ each putF1 (rows.take i) h = .ok h' ∧ HOk (N + i) h' ∧ h'.land = h.land)
      ⟨⟨none, none, none, none, none, none, rfl⟩, Z, m, h, Now.refl a, rfl, o, rfl⟩ (fun i σ G _ p => let ⟨_, Z', m', h', n, _⟩ := p; SqL.of (n.st.kp _ _ r1 hk)) ?_ ?_
    · rintro i v σ G G' hi ⟨⟨u3, u4, u5, u6, u7, u8, rfl⟩, Z1, m1, h1, n1, e1, o1, l1⟩ ⟨e3, hv⟩
      rw [e3]
      obtain ⟨fa, x, rfl, hx, hfa⟩ := r2.back hv
      obtain ⟨num, ft⟩ := x
      have fo := R.ok _ (List.mem_of_getElem? hx)
      have hil : i < rows.length := (List.getElem?_eq_some_iff.mp hx).1
      have fa1 : G fa = some (rowO (num, ft)) := n1.st.kp _ _ hfa (a.notup hfa)
      have hd1 : G d = some (.dK kn) := n1.st.kp _ _ hkn hd
      have et := take_snoc hx
      have es : each putF1 (rows.take (i + 1)) h = putF1 h1 (num, ft) := by rw [et, each_snoc, e1]
      have stay : ∀ (σ' : St) G2 Z2 m2 h2, (∃ u3 u4 u5 u6 u7 u8, σ' = [some (.ref m.p), some (.ref k), some (.ref d), u3, u4, u5, u6, u7, u8]) → Now g Z H m Z2 G2 m2 h2 → putF1 h1 (num, ft) = .ok h2 → (∃ u3 u4 u5 u6 u7 u8, σ' = [some (.ref m.p), some (.ref k), some (.ref d), u3, u4, u5, u6, u7, u8]) ∧ ∃ Z' m' h', Now g Z H m Z' G2 m' h' ∧ each putF1 (rows.take (i + 1)) h = .ok h' ∧ HOk (N + (i + 1)) h' ∧ h'.land = h.land := by
        intro σ' G2 Z2 m2 h2 hσ n2 e2
        obtain ⟨k1, k2⟩ := putF1_ok o1 fo e2
        exact ⟨hσ, Z2, m2, h2, n2, by rw [es]; exact e2, k1, k2.trans l1⟩
      obtain ⟨odx, olo, oob, ola⟩ := nob n1
      have bo1 := o1.bo
      refine ⟨fa, _, rfl, SqT.of fa1, rfl, _, _, rfl, _, _, rfl, _, _, rfl, _, _, rfl, rfl, ?_⟩
      cases fo with
      | @said one sc hn h0 h1' =>
        obtain ⟨iv, inm⟩ := idn _ hn
        refine ⟨_, rfl, _, rfl, d, _, rfl, iv ▸ DGet.k (k := .inr one) hd1, ?_⟩
        refine ⟨_, rfl, rfl, _, rfl, iteB (fun _ => ?_) (fun c => absurd rfl (eqF c))⟩
        refine ⟨_, rfl, _, rfl, m.p, odx, _, rfl, oob, hN_has .., _, rfl, _, rfl, _, rfl, Z1, m1, h1, N + i, "said", one, .int sc, by rw [n1.mp], n1.ha, bo1, by decide +kernel, isName_ok inm, .inr ⟨sc, rfl⟩, fun e => absurd e (by decide +kernel), fun G2 s2 => ⟨_, rfl, iteB (fun c => ?_) (fun c => ?_)⟩⟩
        · have nh : ¬ hasF h1.st "said" one (.int sc) = true := fun e => by rw [e] at c; cases c
          have ep : putF1 h1 (num, ⟨"said", one, .int sc⟩) = sayH h1 one sc := by unfold putF1; rw [if_neg nh, if_pos rfl]; rfl
          have n2 := n1.same s2
          obtain ⟨pdx, plo, pob, pla⟩ := nob n2
          refine ⟨_, rfl, rfl, _, rfl, iteB (fun _ => ?_) (fun c => absurd rfl (eqF c))⟩
          refine ⟨_, rfl, m.p, pdx, _, rfl, pob, hN_say .., _, rfl, _, rfl, Z1, m1, h1, N + i, one, sc, by rw [n1.mp], n2.ha, o1, by omega, fun h2 e2 Z3 G3 m3 n3 => ?_, fun e he cls dd G3 r3 => ?_⟩
          · exact stay _ _ _ _ _ ⟨_, _, _, _, _, _, rfl⟩ (n2.trans n3) (by rw [ep]; exact e2)
          · exact q2 e (each_err hx e1 (by rw [ep]; exact he)) cls dd G2 G3 n2.st.kp r3
        · have yh : hasF h1.st "said" one (.int sc) = true := by simpa using c
          exact stay _ _ _ _ _ ⟨_, _, _, _, _, _, rfl⟩ (n1.same s2) (by unfold putF1; rw [if_pos yh])
      | @tie kd one other hkd hn hn' =>
        obtain ⟨iv, inm⟩ := idn _ hn
        obtain ⟨iv', inm'⟩ := idn _ hn'
        have nk : ¬ kd = ("said" : Str) := by
          rcases hkd with q | q | q | q <;> subst q <;> decide +kernel
        refine ⟨_, rfl, _, rfl, d, _, rfl, iv ▸ DGet.k (k := .inr one) hd1, ?_⟩
        refine ⟨_, rfl, rfl, _, rfl, iteB (fun c => absurd (vstr (eqT c)) nk) (fun _ => ?_)⟩
        refine ⟨_, rfl, _, rfl, d, _, rfl, iv' ▸ DGet.k (k := .inr other) hd1, ?_⟩
        refine ⟨_, rfl, m.p, odx, _, rfl, oob, hN_has .., _, rfl, _, rfl, _, rfl, Z1, m1, h1, N + i, kd, one, .str other, by rw [n1.mp], n1.ha, bo1, tie_ok hkd, isName_ok inm, .inl ⟨other, rfl, isName_ok inm'⟩, fun _ => ⟨other, rfl⟩, fun G2 s2 => ⟨_, rfl, iteB (fun c => ?_) (fun c => ?_)⟩⟩
        · have nh : ¬ hasF h1.st kd one (.str other) = true := fun e => by rw [e] at c; cases c
          have ep : putF1 h1 (num, ⟨kd, one, .str other⟩) = tieH h1 kd one other := by unfold putF1; rw [if_neg nh, if_neg nk]; rfl
          have n2 := n1.same s2
          obtain ⟨pdx, plo, pob, pla⟩ := nob n2
          refine ⟨_, rfl, rfl, _, rfl, iteB (fun c => absurd (vstr (eqT c)) nk) (fun _ => ?_)⟩
          refine ⟨_, rfl, m.p, pdx, _, rfl, pob, hN_tie .., _, rfl, _, rfl, _, rfl, Z1, m1, h1, N + i, kd, one, other, by rw [n1.mp], n2.ha, o1, by omega, hkd, fun h2 e2 Z3 G3 m3 n3 => ?_, fun e he cls dd G3 r3 => ?_⟩
          · exact stay _ _ _ _ _ ⟨_, _, _, _, _, _, rfl⟩ (n2.trans n3) (by rw [ep]; exact e2)
          · exact q2 e (each_err hx e1 (by rw [ep]; exact he)) cls dd G2 G3 n2.st.kp r3
        · have yh : hasF h1.st kd one (.str other) = true := by simpa using c
          exact stay _ _ _ _ _ ⟨_, _, _, _, _, _, rfl⟩ (n1.same s2) (by unfold putF1; rw [if_pos yh])
    · rintro σ G ⟨⟨u3, u4, u5, u6, u7, u8, rfl⟩, Z1, m1, h1, n1, e1, o1, l1⟩
      rw [List.length_map, r2.len, List.take_length] at e1
      exact q1 _ e1 _ _ _ n1
end
end Kin
set_option maxHeartbeats 4000000
/-! K33: two books joined. -/
namespace Kin
open PySem L2
/-- a book made since H, all its objects new -/
structure WB (g : Str → Addr) (Z H Z' H' : Hp) (m' : HM) (h' : HS) : Prop where
  ha : HA g Z' H' m' h'
  st : Step Z H [] Z' H'
  fr : ∀ x ∈ m'.l, H x = none
section
variable {g : Str → Addr} {Z H Z' H' Z2 H2 : Hp} {m' m2 : HM} {h' h2 : HS} {p : Addr} {o : HO}
theorem WB.same (b : WB g Z H Z' H' m' h') (k : Same H' H2) : WB g Z H Z' H2 m' h' := ⟨b.ha.same k, b.st.same k, b.fr⟩
theorem WB.now (b : WB g Z H Z' H' m' h') (n : Now g Z' H' m' Z2 H2 m2 h2) : WB g Z H Z2 H2 m2 h2 :=
  ⟨n.ha, b.st.trans' n.st fun x hx => .inr (b.fr x hx), fun x hx => (n.mv x hx).elim (b.fr x) (b.st.lv x)⟩
theorem WB.put (b : WB g Z H Z' H' m' h') (hz : Z' p = none) (hp : p ∉ m'.l) (h0 : H p = none) : WB g Z H Z' (upd H' p o) m' h' :=
  ⟨b.ha.frame (M := [p]) ((Step.refl _ _ _).upd (by simp)) (same_updZ b.ha.zs hz) fun x hx hm => hp (by rw [← List.mem_singleton.mp hm]; exact hx), b.st.upd' (.inr h0), b.fr⟩
theorem WB.sm (b : WB g Z H Z' H' m' h') : Same H H' := b.st.kp.nil
/-- what is not frozen and not the book's stays out of a step's way -/
theorem Now.keep {Z1 H1 : Hp} {m : HM} (n : Now g Z1 H1 m Z2 H2 m2 h2) (hp : H1 p = some o) (hz : Z1 p = none) (hm : p ∉ m.l) : H2 p = some o ∧ Z2 p = none ∧ p ∉ m2.l := by
  refine ⟨n.st.kp _ _ hp hm, ?_, fun h => ?_⟩
  · cases e : Z2 p with
    | none => rfl
    | some u =>
      rcases n.st.nw p u e with q | q
      · rw [hz] at q; cases q
      · rw [hp] at q; cases q
  · rcases n.mv p h with q | q
    · exact hm q
    · rw [hp] at q; cases q
end
/-- an object of ours beside the book -/
structure Off1 (Z' H' : Hp) (m' : HM) (p : Addr) (o : HO) : Prop where
  e : H' p = some o
  z : Z' p = none
  m : p ∉ m'.l
section
variable {g : Str → Addr} {Z H Z' H' Z2 H2 : Hp} {m' m2 : HM} {h' h2 : HS} {p q : Addr} {o o' : HO}
theorem Off1.same (f : Off1 Z' H' m' p o) (s : Same H' H2) : Off1 Z' H2 m' p o := ⟨s _ _ f.e, f.z, f.m⟩
theorem Off1.now (f : Off1 Z' H' m' p o) (n : Now g Z' H' m' Z2 H2 m2 h2) : Off1 Z2 H2 m2 p o := let ⟨a, b, c⟩ := n.keep f.e f.z f.m; ⟨a, b, c⟩
theorem Off1.put (f : Off1 Z' H' m' p o) (n : p ≠ q) : Off1 Z' (upd H' q o') m' p o := ⟨by rw [upd_ne n]; exact f.e, f.z, f.m⟩
theorem Off1.set (f : Off1 Z' H' m' p o) : Off1 Z' (upd H' p o') m' p o' := ⟨upd_same, f.z, f.m⟩
theorem WB.off (b : WB g Z H Z' H' m' h') (hp : H' p = none) (s : Same H' H2) (h2 : H2 p = some o) : Off1 Z' H2 m' p o := ⟨h2, b.ha.zs.free hp, b.ha.live.ne hp⟩
theorem WB.back (s : Same H H2) (b : WB g Z H2 Z' H' m' h') : WB g Z H Z' H' m' h' :=
  ⟨b.ha, (Step.ofSame (Z := Z) [] s).trans b.st, fun x hx => s.free (b.fr x hx)⟩
end
theorem put_known {kn : List (Key × V)} {l : List Str} {x : Str} (h : ∀ y ∈ l, valV kn (.inr y) = some (.str y)) : ∀ y ∈ l ++ [x], valV (putK kn (.inr x) (.str x)) (.inr y) = some (.str y) := fun y hy => by
  rw [valV_put]
  by_cases c : (Sum.inr y : Key) = Sum.inr x
  · rw [if_pos c, Sum.inr.inj c]
  · rw [if_neg c]
    rcases List.mem_append.mp hy with hy | hy
    · exact h y hy
    · exact absurd (congrArg Sum.inr (List.mem_singleton.mp hy)) c
theorem side_str {N size : Nat} {h : HS} (o : BOk N size h.st) {n : Str} (hn : n ∈ h.st.names) : valV h.st.side (.inr n) = some (.str (sideOf h n)) ∧ Sx (sideOf h n) := by
  obtain ⟨s, e, x⟩ := o.sd n hn
  unfold sideOf
  rw [e]; exact ⟨rfl, x⟩
section
variable {P : Program} {w : World} {K : PySem.W.Frag} {mg : Str → Option Value} {g : Str → Addr} {mt : Str → Str → Addr} {base : Heap}
def spWho : Sp := fun vs H Q _ => ∃ (a b s : Addr), vs = [.ref a, .ref b, .ref s] ∧ H s = some (.lst []) ∧ ∀ d H', Same H H' → H d = none → H' d = some (.dK []) → Q (.ref d) H'
theorem ok_who (T : Txt w K mg g mt) : GF P w K mg base CX0 1 "who_is_whom" spWho := by
  refine gf0 (F_who_is_whom T) (T.glo _ (by decide +kernel)) sc_who_is_whom (fun vs H Q E h => ?_) fun cdv A outer s H vs Q E hr h => ?_
  · obtain ⟨a, b, s, rfl, _⟩ := h; rfl
  · obtain ⟨a, b, sm, rfl, hs, k⟩ := h
    have nd := sc_who_is_whom.nd
    refine ⟨_, pss_cons (ps_set (i := 3) nd rfl (.inl rfl) pe_dnewK)
      (pss_cons (ps_for PassesOwn.never rfl (pi_list (pv 2)) (pg_tup rfl (pgs_cons (pg_name (i := 4) nd rfl (.inl rfl)) (pgs_cons (pg_name (i := 5) nd rfl (.inl rfl)) pgs_nil))) pss_never)
      (pss_one (ps_ret (pv 3)))), ?_⟩
    intro d hd
    have s1 := same_new (o := .dK []) hd
    have h1 : upd H d (.dK []) d = some (.dK []) := upd_same
    generalize upd H d (.dK []) = H1 at s1 h1 ⊢
    refine ⟨_, rfl, sm, rfl, ⟨_, SqL.of (s1 _ _ hs)⟩, ?_⟩
    refine for_it (walk_list (K := K) (a := sm) (xs := [])) (fun i σ G => σ = [some (.ref a), some (.ref b), some (.ref sm), some (.ref d), none, none] ∧ G = H1) ⟨rfl, rfl⟩ (fun i σ G _ p => by rw [p.2]; exact SqL.of (s1 _ _ hs)) (fun i v σ G G' hi => absurd hi (Nat.not_lt_zero _)) ?_
    rintro σ G ⟨rfl, rfl⟩
    exact ⟨_, rfl, k d _ s1 hd h1⟩

def spJoined (K : PySem.W.Frag) (g : Str → Addr) : Sp := fun vs H Q E => ∃ (Z : Hp) (ma mb : HM) (a b : HS) (N : Nat) (s : Addr), vs = [.ref ma.p, .ref mb.p, .ref s] ∧ HA g Z H ma a ∧ HA g Z H mb b ∧ HOk N a ∧ HOk N b ∧ N ≤ 20000 ∧ H s = some (.lst []) ∧
  (∀ h', joinH a b = .ok h' → ∀ Z' H' m', WB g Z H Z' H' m' h' → Q (.ref m'.p) H') ∧ (∀ e, joinH a b = .error e → ∀ cls d H', Refused K (g "KinError") e H cls d H' → E cls d H')
theorem ok_joined (T : Txt w K mg g mt) : GF P w K mg base (L2.CX P w) 8 "joined" (spJoined K g) := by
  refine gfX (F_joined T) (T.glo _ (by decide +kernel)) sc_joined (fun vs H Q E h => ?_) fun cdv A outer s H vs Q E hr h => ?_
  · obtain ⟨Z, ma, mb, a, b, N, s, rfl, _⟩ := h; rfl
  · obtain ⟨Z, ma, mb, a, b, N, sm, rfl, aa, ab, oa, ob, hN, hs, q1, q2⟩ := h
    have nd := sc_joined.nd
    have hu := hu_of hr
    have Al := ok_alike (P := P) (base := base) T
    have Wh := ok_who (P := P) (base := base) T
    have Hi := ok_Hearth_init (P := P) (base := base) T
    have Pe := ok_people (P := P) (base := base) T
    have Pn := ok_person (P := P) (base := base) T
    have So := ok_side_of (P := P) (base := base) T
    have Pf := ok_put_facts (P := P) (base := base) T
    have Ke := ok_kept (P := P) (base := base) T
    have Fo := ok_forget (P := P) (base := base) T
    have Ul := ok_UnlikeLands (P := P) (base := base) T
    have tk := takes_of (X := cxOf (L2.CX P w) P w K mg base ["one", "other", "same", "known", "made", "mine", "name"] "joined" (defScope s_joined) (g "joined") cdv A outer s H E) rfl rfl rfl rfl
    refine ⟨_, pss_cons (ps_if (pt_not (pt_val (pe_gf Al hr pass0 (pa_cons (pe_sf 0) (pa_cons (pe_sf 1) pa_nil))))) (pss_one (ps_ref0 Ul hr rfl tk)) pss_nil)
      (pss_cons (ps_set (i := 3) nd rfl (.inl rfl) (pe_gf Wh hr pass0 (pa_cons (pv 0) (pa_cons (pv 1) (pa_cons (pv 2) pa_nil)))))
      (pss_cons (ps_set (i := 4) nd rfl (.inl rfl) (pe_cut (pe_gk Hi hr pass0 (pa_cons (pe_sf 0) pa_nil))))
      (pss_cons (ps_set (i := 5) nd rfl (.inl rfl) pe_dnewK)
      (pss_cons (ps_for (passes_of rfl) rfl (pi_list (pe_gm0 Pe (pv 0) hr pass0)) (pg_name (i := 6) nd rfl (.inl rfl))
        (pss_cons (ps_dput hu (pv 5) (pv 6) (pv 6) rfl)
        (pss_one (ps_expr (pe_gm Pn (pv 4) hr (passE tk rfl) (pa_cons (pv 6) (pa_cons (pe_gm So (pv 0) hr pass0 (pa_cons (pv 6) pa_nil)) pa_nil)))))))
      (pss_cons (ps_for (passes_of rfl) rfl (pi_list (pe_gm0 Pe (pv 1) hr pass0)) (pg_name (i := 6) nd rfl (.inl rfl))
        (pss_one (ps_if (pt_cmp (pc_dnotin hu (pv 6) (pv 3)))
          (pss_cons (ps_dput hu (pv 3) (pv 6) (pv 6) rfl)
          (pss_one (ps_expr (pe_gm Pn (pv 4) hr (passE tk rfl) (pa_cons (pv 6) (pa_cons (pe_gm So (pv 1) hr pass0 (pa_cons (pv 6) pa_nil)) pa_nil)))))) pss_nil)))
      (pss_cons (ps_expr (pe_gf Pf hr (passE tk rfl) (pa_cons (pv 4) (pa_cons (pe_gm0 Ke (pv 0) hr pass0) (pa_cons (pv 5) pa_nil)))))
      (pss_cons (ps_expr (pe_gf Pf hr (passE tk rfl) (pa_cons (pv 4) (pa_cons (pe_gm0 Ke (pv 1) hr pass0) (pa_cons (pv 3) pa_nil)))))
      (pss_cons (ps_expr (pe_gm0 Fo (pv 4) hr pass0))
      (pss_one (ps_ret (pv 4))))))))))), ?_⟩
    obtain ⟨dxa, loa, oba, laa⟩ := aa.ob
    obtain ⟨dxb, lob, obb, lab⟩ := ab.ob
    have boa := oa.bo
    have bob := ob.bo
    have laH := laa.same aa.zs
    have lbH := lab.same ab.zs
    unfold joinH at q1 q2
    refine ⟨_, _, rfl, hasH T oba (x := "land") (by decide +kernel) (hF_land ..), _, _, rfl, hasH T obb (x := "land") (by decide +kernel) (hF_land ..), loa, lob, a.land, b.land, rfl, laH, lbH, fun H1 s1 => ⟨_, rfl, iteB (fun c => ?_) (fun c => ?_)⟩⟩
    · have nc : ¬ (a.land.mother = b.land.mother ∧ a.land.father = b.land.father ∧ a.land.wife = b.land.wife) := fun e => by rw [decide_eq_true e] at c; cases c
      rw [if_neg nc] at q2
      exact fun cls d H' r => q2 _ rfl cls d H' (r.back s1)
    have yc : a.land.mother = b.land.mother ∧ a.land.father = b.land.father ∧ a.land.wife = b.land.wife := by
      cases q : decide (a.land.mother = b.land.mother ∧ a.land.father = b.land.father ∧ a.land.wife = b.land.wife) with
      | true => exact eqT q
      | false => rw [q] at c; cases c
    rw [if_pos yc] at q1 q2
    have size_eq : b.land.size = a.land.size := by rw [← oa.lo.m.len, ← ob.lo.m.len, yc.1]
    refine ⟨_, rfl, _, rfl, _, rfl, ma.p, mb.p, sm, rfl, s1 _ _ hs, fun kd H2 s2 hkd hk2 => ?_⟩
    have s12 := s1.trans s2
    -- the new book
    refine ⟨fun v H3 => ∃ m3 : HM, v = .ref m3.p ∧ WB g Z H2 Z H3 m3 (newH a.land), ?_, ?_⟩
    · have aa2 := aa.same s12
      obtain ⟨dx2, lo2, ob2, la2⟩ := aa2.ob
      refine ⟨_, _, rfl, hasH T ob2 (x := "land") (by decide +kernel) (hF_land ..), fun x dx hx hdx hne => ?_⟩
      have keep : ∀ b o, H2 b = some o → upd (upd H2 dx (.own x)) x (.ins (g "Hearth") dx []) b = some o := fun b o e => by rw [upd_ne (ne_of_none e hx), upd_ne (ne_of_none e hdx)]; exact e
      refine ⟨Z, x, dx, lo2, a.land, rfl, upd_same, fun b o e => keep b o (aa2.zs b o e), aa2.zs.free hx, la2, oa.lo, fun H' m' hm ha kp fr => ⟨rfl, m', by rw [hm], ha, ?_, fun y hy => ?_⟩⟩
      · have sm' : Same H2 H' := fun b o e => kp b o (keep b o e) (by simpa using ne_of_none e hx)
        exact Step.ofSame _ sm'
      · rcases fr y hy with rfl | q
        · exact hx
        · exact upd_none (upd_none q)
    rintro _ H3 ⟨m3, rfl, wb3⟩
    have kd3 : Off1 Z H3 m3 kd (.dK []) := ⟨wb3.sm _ _ hk2, aa.zs.free (s1.free hkd), fun hm => by rw [wb3.fr kd hm] at hk2; cases hk2⟩
    have w3 := wb3.back s12
    -- mine
    intro d1 hd1
    have s4 := same_new (o := .dK []) hd1
    have h4 : upd H3 d1 (.dK []) d1 = some (.dK []) := upd_same
    generalize upd H3 d1 (.dK []) = H4 at s4 h4 ⊢
    have w4 := w3.same s4
    have kd4 := kd3.same s4
    have d4 := w3.off hd1 s4 h4
    have nkd : kd ≠ d1 := ne_of_none kd3.e hd1
    have HAa : ∀ {Z' G : Hp} {m' : HM} {h' : HS}, WB g Z H Z' G m' h' → HA g Z' G ma a := fun w => aa.frame w.st w.ha.zs (fun _ _ => by simp)
    have HAb : ∀ {Z' G : Hp} {m' : HM} {h' : HS}, WB g Z H Z' G m' h' → HA g Z' G mb b := fun w => ab.frame w.st w.ha.zs (fun _ _ => by simp)
    -- the people of the one
    obtain ⟨dx5, lo5, ob5, la5⟩ := (HAa w4).ob
    refine ⟨_, rfl, ma.p, dx5, _, rfl, ob5, hN_people .., Z, ma, a, rfl, HAa w4, fun pl H5 s5 hpl hp5 => ?_⟩
    have w5 := w4.same s5
    have pl5 := w4.off hpl s5 hp5
    have npd : pl ≠ d1 := fun e => by rw [e, h4] at hpl; cases hpl
    have npk : pl ≠ kd := fun e => by rw [e, kd4.e] at hpl; cases hpl
    refine ⟨pl, rfl, ⟨_, SqL.of hp5⟩, ?_⟩
    refine for_it (walk_list (K := K) (a := pl) (xs := a.st.names.map V.str)) (fun i σ G => (∃ u, σ = [some (.ref ma.p), some (.ref mb.p), some (.ref sm), some (.ref kd), some (.ref m3.p), some (.ref d1), u]) ∧ ∃ Z' m' h' kn, WB g Z H Z' G m' h' ∧ m'.p = m3.p ∧ each (fun h n => personH h n (sideOf a n)) (a.st.names.take i) (newH a.land) = .ok h' ∧ HOk i h' ∧ h'.land = a.land ∧
        Off1 Z' G m' pl (.lst (a.st.names.map V.str)) ∧ Off1 Z' G m' kd (.dK []) ∧ Off1 Z' G m' d1 (.dK kn) ∧ kn.length ≤ i ∧ ∀ x ∈ a.st.names.take i, valV kn (.inr x) = some (.str x))
      ⟨⟨none, rfl⟩, Z, m3, _, [], w5, rfl, rfl, newH_ok oa.lo 0, rfl, pl5, kd4.same s5, d4.same s5, Nat.le_refl _, fun x hx => by simp at hx⟩ (fun i σ G _ p => let ⟨_, Z', m', h', kn, _, _, _, _, _, f, _⟩ := p; SqL.of f.e) ?_ ?_
    · rintro i v σ G G' hi ⟨⟨u, rfl⟩, Z', m', h', kn, wb, mp, ee, oo, ll, fp, fk, fd, kz, kv⟩ ⟨e3, hv⟩
      rw [e3]
      obtain ⟨nm, hnm, rfl⟩ := map_at hv
      have hmem := List.mem_of_getElem? hnm
      have hil : i < a.st.names.length := (List.getElem?_eq_some_iff.mp hnm).1
      have anz := boa.ln
      obtain ⟨sv, sx⟩ := side_str boa hmem
      have et := take_snoc hnm
      refine ⟨_, rfl, _, rfl, _, rfl, d1, _, rfl, DPut.k (k := .inr nm) fd.e (smallL (by omega)), ?_⟩
      have wb1 := wb.put (o := .dK (putK kn (.inr nm) (.str nm))) fd.z fd.m (s12.free (wb3.sm.free hd1))
      have fp1 := fp.put (o' := .dK (putK kn (.inr nm) (.str nm))) npd
      have fk1 := fk.put (o' := .dK (putK kn (.inr nm) (.str nm))) nkd
      have fd1 := fd.set (o' := .dK (putK kn (.inr nm) (.str nm)))
      generalize upd G d1 (.dK (putK kn (.inr nm) (.str nm))) = G1 at wb1 fp1 fk1 fd1 ⊢
      obtain ⟨mdx, mlo, mob, mla⟩ := wb1.ha.ob
      obtain ⟨adx, alo, aob, ala⟩ := (HAa wb1).ob
      rw [mp] at mob
      have iname := boa.nk _ hmem
      refine ⟨_, rfl, m3.p, mdx, _, rfl, mob, hN_person .., _, rfl, _, rfl, ma.p, adx, _, rfl, aob, hN_side_of .., _, rfl, Z', ma, a, nm, _, rfl, HAa wb1, sv, ?_⟩
      refine ⟨Z', m', h', i, nm, sideOf a nm, by rw [mp], wb1.ha, oo, by omega, sx, by have := (isName_parts iname).1; exact Nat.le_trans this (by decide), fun h2 e2 Z2 G2 m2 n2 => ?_, fun e he cls dd G2 r => ?_⟩
      · refine ⟨⟨_, rfl⟩, Z2, m2, h2, _, wb1.now n2, n2.mp.trans mp, ?_, personH_ok oo sx e2, (person_land e2).trans ll, fp1.now n2, fk1.now n2, fd1.now n2, Nat.le_trans (length_put _ _ _) (by omega), ?_⟩
        · rw [et, each_snoc, ee]; exact e2
        · rw [et]; exact put_known kv
      · have := each_err hnm ee he
        rw [this] at q2
        exact q2 _ rfl cls dd G2 (r.back wb1.sm)
    rintro σ G ⟨⟨u, rfl⟩, Z', m', h', kn, wb, mp, ee, oo, ll, fp, fk, fd, kz, kv⟩
    rw [List.length_map] at oo kz
    rw [List.length_map, List.take_length] at ee kv
    rw [ee] at q1 q2
    dsimp only at q1 q2
    -- the people of the other
    obtain ⟨dx6, lo6, ob6, la6⟩ := (HAb wb).ob
    refine ⟨_, rfl, mb.p, dx6, _, rfl, ob6, hN_people .., Z', mb, b, rfl, HAb wb, fun pl2 H6 s6 hpl2 hp6 => ?_⟩
    have w6 := wb.same s6
    have pl6 := wb.off hpl2 s6 hp6
    have npk2 : pl2 ≠ kd := fun e => by rw [e, fk.e] at hpl2; cases hpl2
    refine ⟨pl2, rfl, ⟨_, SqL.of hp6⟩, ?_⟩
    refine for_it (walk_list (K := K) (a := pl2) (xs := b.st.names.map V.str)) (fun i σ G => (∃ u, σ = [some (.ref ma.p), some (.ref mb.p), some (.ref sm), some (.ref kd), some (.ref m3.p), some (.ref d1), u]) ∧ ∃ Z2 m2 h2 ko, WB g Z H Z2 G m2 h2 ∧ m2.p = m3.p ∧ each (fun h n => personH h n (sideOf b n)) (b.st.names.take i) h' = .ok h2 ∧ HOk (a.st.names.length + i) h2 ∧ h2.land = a.land ∧
        Off1 Z2 G m2 pl2 (.lst (b.st.names.map V.str)) ∧ Off1 Z2 G m2 kd (.dK ko) ∧ Off1 Z2 G m2 d1 (.dK kn) ∧ ko.length ≤ i ∧ (∀ x ∈ b.st.names.take i, valV ko (.inr x) = some (.str x)) ∧ ∀ x, (valV ko (.inr x)).isSome = true → x ∈ b.st.names.take i)
      ⟨⟨_, rfl⟩, Z', m', h', [], w6, mp, rfl, oo, ll, pl6, fk.same s6, fd.same s6, Nat.le_refl _, fun x hx => by simp at hx, fun x hx => by simp [valV] at hx⟩ (fun i σ G _ p => let ⟨_, Z', m', h', kn, _, _, _, _, _, f, _⟩ := p; SqL.of f.e) ?_ ?_
    · rintro i v σ G3 G' hi ⟨⟨u, rfl⟩, Z2, m2, h2, ko, wb2, mp2, ee2, oo2, ll2, fp2, fk2, fd2, kz2, kv2, kw2⟩ ⟨e3, hv⟩
      rw [e3]
      obtain ⟨nm, hnm, rfl⟩ := map_at hv
      have hmem := List.mem_of_getElem? hnm
      have hil : i < b.st.names.length := (List.getElem?_eq_some_iff.mp hnm).1
      have anz := boa.ln
      have bnz := bob.ln
      obtain ⟨sv, sx⟩ := side_str bob hmem
      have et := take_snoc hnm
      have nin : nm ∉ b.st.names.take i := fun hm => by
        obtain ⟨j, hj, e⟩ := List.getElem_of_mem hm
        rw [List.length_take] at hj
        rw [List.getElem_take] at e
        have e2 : b.st.names[j] = b.st.names[i] := e.trans (List.getElem?_eq_some_iff.mp hnm).2.symm
        have := (List.getElem_inj (xs := b.st.names) (h₀ := by omega) (h₁ := hil) bob.nd).mp e2
        omega
      have vn : (valV ko (.inr nm)).isSome = false := by
        cases q : (valV ko (.inr nm)).isSome with
        | false => rfl
        | true => exact absurd (kw2 nm q) nin
      refine ⟨_, rfl, _, rfl, kd, _, rfl, DGet.k (k := .inr nm) fk2.e, _, rfl, ?_⟩
      rw [vn]
      refine iteB (fun _ => ?_) (fun c => by cases c)
      refine ⟨_, rfl, _, rfl, _, rfl, kd, _, rfl, DPut.k (k := .inr nm) fk2.e (smallL (by omega)), ?_⟩
      have wb1 := wb2.put (o := .dK (putK ko (.inr nm) (.str nm))) fk2.z fk2.m (s1.free hkd)
      have fp1 := fp2.put (o' := .dK (putK ko (.inr nm) (.str nm))) npk2
      have fd1 := fd2.put (o' := .dK (putK ko (.inr nm) (.str nm))) (Ne.symm nkd)
      have fk1 := fk2.set (o' := .dK (putK ko (.inr nm) (.str nm)))
      generalize upd G3 kd (.dK (putK ko (.inr nm) (.str nm))) = G1 at wb1 fp1 fk1 fd1 ⊢
      obtain ⟨mdx, mlo, mob, mla⟩ := wb1.ha.ob
      obtain ⟨adx, alo, aob, ala⟩ := (HAb wb1).ob
      rw [mp2] at mob
      have iname := bob.nk _ hmem
      refine ⟨_, rfl, m3.p, mdx, _, rfl, mob, hN_person .., _, rfl, _, rfl, mb.p, adx, _, rfl, aob, hN_side_of .., _, rfl, Z2, mb, b, nm, _, rfl, HAb wb1, sv, ?_⟩
      refine ⟨Z2, m2, h2, _, nm, sideOf b nm, by rw [mp2], wb1.ha, oo2, by omega, sx, by have := (isName_parts iname).1; exact Nat.le_trans this (by decide), fun h5 e5 Z5 G5 m5 n5 => ?_, fun e he cls dd G2 r => ?_⟩
      · refine ⟨⟨_, rfl⟩, Z5, m5, h5, _, wb1.now n5, n5.mp.trans mp2, ?_, personH_ok oo2 sx e5, (person_land e5).trans ll2, fp1.now n5, fk1.now n5, fd1.now n5, Nat.le_trans (length_put _ _ _) (by omega), ?_, fun x hx => ?_⟩
        · rw [et, each_snoc, ee2]; exact e5
        · rw [et]; exact put_known kv2
        · rw [et]
          rw [valV_put] at hx
          by_cases c : (Sum.inr x : Key) = Sum.inr nm
          · rw [Sum.inr.inj c]; simp
          · rw [if_neg c] at hx
            exact List.mem_append_left _ (kw2 x hx)
      · have := each_err hnm ee2 he
        rw [this] at q2
        exact q2 _ rfl cls dd G2 (r.back wb1.sm)
    rintro σ G3 ⟨⟨u, rfl⟩, Z2, m2, h2, ko, wb2, mp2, ee2, oo2, ll2, fp2, fk2, fd2, kz2, kv2, kw2⟩
    rw [List.length_map] at oo2 kz2
    rw [List.length_map, List.take_length] at ee2 kv2
    rw [ee2] at q1 q2
    dsimp only at q1 q2
    have anz := boa.ln
    have bnz := bob.ln
    have afz := boa.lf
    have bfz := bob.lf
    -- the facts of the one
    obtain ⟨dx7, lo7, ob7, la7⟩ := (HAa wb2).ob
    refine ⟨_, rfl, _, rfl, ma.p, dx7, _, rfl, ob7, hN_kept .., Z2, ma, a, N, rfl, HAa wb2, boa, by omega, fun kp H7 s7 hkp R7 => ⟨_, rfl, ?_⟩⟩
    have wb7 := wb2.same s7
    have fd7 := fd2.same s7
    have fk7 := fk2.same s7
    refine ⟨Z2, m2, h2, _, kp, d1, kn, a.st.names, keptL a.st, by rw [mp2], wb7.ha, oo2, by rw [kept_len]; omega, by rw [ll2]; exact R7, wb2.ha.live.ne hkp, fd7.m, fd7.e, fun x hx => ⟨kv x hx, boa.nk x hx⟩, fun h3 e3 Z8 G8 m8 n8 => ?_, fun e he cls dd G1 G9 k9 r => ?_⟩
    · have wb8 := wb7.now n8
      have fk8 := fk7.now n8
      have mp8 := n8.mp.trans mp2
      rw [e3] at q1 q2
      dsimp only at q1 q2
      have oo8 : HOk (a.st.names.length + b.st.names.length + (keptL a.st).length) h3 ∧ h3.land = a.land := by
        have := each_ok (f := putF1) (l := keptL a.st) (P := fun N h => HOk N h ∧ h.land = a.land) (fun N h h' x hx p e => by
          obtain ⟨k1, k2⟩ := putF1_ok p.1 (kept_fo boa x hx) e
          exact ⟨k1, k2.trans p.2⟩) (N := a.st.names.length + b.st.names.length) ⟨oo2, ll2⟩ e3
        exact this
      -- the facts of the other
      obtain ⟨dx8, lo8, ob8, la8⟩ := (HAb wb8).ob
      refine ⟨_, rfl, _, rfl, mb.p, dx8, _, rfl, ob8, hN_kept .., Z8, mb, b, N, rfl, HAb wb8, bob, by omega, fun kp2 H9 s9 hkp2 R9 => ⟨_, rfl, ?_⟩⟩
      have wb9 := wb8.same s9
      have fk9 := fk8.same s9
      rw [kept_len] at oo8
      refine ⟨Z8, m8, h3, _, kp2, kd, ko, b.st.names, keptL b.st, by rw [mp8], wb9.ha, oo8.1, by rw [kept_len]; omega, by rw [oo8.2, ← size_eq]; exact R9, wb8.ha.live.ne hkp2, fk9.m, fk9.e, fun x hx => ⟨kv2 x hx, bob.nk x hx⟩, fun h4 e4 Z10 G10 m10 n10 => ?_, fun e he cls dd G1 G9 k9 r => ?_⟩
      · have wb10 := wb9.now n10
        have mp10 := n10.mp.trans mp8
        rw [e4] at q1
        dsimp only at q1
        obtain ⟨dx11, lo11, ob11, la11⟩ := wb10.ha.ob
        rw [mp10] at ob11
        refine ⟨_, rfl, m3.p, dx11, _, rfl, ob11, hN_forget .., Z10, m10, h4, by rw [mp10], wb10.ha, fun Z12 G12 m12 n12 => ?_⟩
        refine ⟨_, rfl, ?_⟩
        have := q1 _ rfl Z12 G12 m12 (wb10.now n12)
        rw [n12.mp, mp10] at this
        exact this
      · rw [he] at q2
        exact q2 _ rfl cls dd G9 (r.back fun b o e => k9 b o (wb9.sm b o e) (fun hb => by
          have := wb9.fr b hb
          rw [e] at this; cases this))
    · rw [he] at q2
      exact q2 _ rfl cls dd G9 (r.back fun b o e => k9 b o (wb7.sm b o e) (fun hb => by
        have := wb7.fr b hb
        rw [e] at this; cases this))
end
end Kin
set_option maxHeartbeats 4000000
/-! K34: roads, the plain part. -/
namespace Kin
open PySem L2
def upK (l : Str) : Option Str := if l = "m" then some "mother" else if l = "f" then some "father" else if l = "w" then some "wed" else if l = "s" then some "sibling" else none
def dnK (l : Str) : Option Str := if l = "c" then some "mother" else if l = "k" then some "father" else if l = "h" then some "wed" else if l = "s" then some "sibling" else none
def once1 (n l : Str) (q : Int × Fact) : List Str :=
  (if upK l = some q.2.kind ∧ q.2.one = n then [nameOf q.2.other] else []) ++ (if dnK l = some q.2.kind ∧ nameOf q.2.other = n then [q.2.one] else [])
def calledOnce (L : List (Int × Fact)) (n l : Str) : List Str := L.flatMap (once1 n l)
/-- a dict of words by names -/
structure WF (names : List Str) (B : Nat) (F : List (Key × V)) : Prop where
  nd : (F.map (·.1)).Nodup
  ok : ∀ p ∈ F, ∃ x w : Str, p = (.inr x, .str w) ∧ x ∈ names ∧ w.length ≤ B
def wordAt (F : List (Key × V)) (n : Str) : Str := match valV F (.inr n) with
  | some (.str w) => w
  | _ => ""
theorem val_mem {F : List (Key × V)} {k : Key} {v : V} (h : valV F k = some v) : (k, v) ∈ F := by
  unfold valV at h
  cases e : F.find? fun kv => decide (kv.1 = k) with
  | none => rw [e] at h; cases h
  | some p =>
    rw [e] at h
    have h1 := List.mem_of_find?_eq_some e
    have h2 := List.find?_some e
    have h3 : p.1 = k := of_decide_eq_true h2
    cases h
    rw [← h3]
    exact h1
theorem val_some {F : List (Key × V)} {k : Key} (h : k ∈ F.map (·.1)) : (valV F k).isSome = true := by
  rw [← valV_any]
  obtain ⟨p, hp, e⟩ := List.mem_map.mp h
  exact List.any_eq_true.mpr ⟨p, hp, decide_eq_true e⟩
theorem val_key {F : List (Key × V)} {k : Key} (h : (valV F k).isSome = true) : k ∈ F.map (·.1) := by
  obtain ⟨v, e⟩ := isSome_val h
  exact List.mem_map.mpr ⟨_, val_mem e, rfl⟩
theorem WF.at {names : List Str} {B : Nat} {F : List (Key × V)} (w : WF names B F) {n : Str} (h : (valV F (.inr n)).isSome = true) : valV F (.inr n) = some (.str (wordAt F n)) ∧ n ∈ names ∧ (wordAt F n).length ≤ B := by
  obtain ⟨v, e⟩ := isSome_val h
  obtain ⟨x, y, e2, hx, hy⟩ := w.ok _ (val_mem e)
  cases e2
  unfold wordAt
  rw [e]
  exact ⟨rfl, hx, hy⟩
theorem WF.mono {names : List Str} {B C : Nat} {F : List (Key × V)} (w : WF names B F) (h : B ≤ C) : WF names C F :=
  ⟨w.nd, fun p hp => let ⟨x, y, a, b, c⟩ := w.ok p hp; ⟨x, y, a, b, Nat.le_trans c h⟩⟩
theorem put_keys_new {F : List (Key × V)} {k : Key} {v : V} (h : valV F k = none) : (putK F k v).map (·.1) = F.map (·.1) ++ [k] := by
  rw [putK_new v h, List.map_append]; rfl
theorem put_keys_old {F : List (Key × V)} {k : Key} {v : V} (h : (valV F k).isSome = true) : (putK F k v).map (·.1) = F.map (·.1) := by
  unfold putK
  rw [valV_any, if_pos h, List.map_map]
  refine List.map_congr_left fun p _ => ?_
  show (if p.1 = k then (p.1, v) else p).1 = p.1
  split <;> rfl
theorem WF.put {names : List Str} {B : Nat} {F : List (Key × V)} (w : WF names B F) {x y : Str} (hx : x ∈ names) (hy : y.length ≤ B) : WF names B (putK F (.inr x) (.str y)) := by
  refine ⟨?_, fun p hp => ?_⟩
  · cases e : valV F (.inr x) with
    | none =>
      rw [put_keys_new e]
      refine List.nodup_append.mpr ⟨w.nd, by simp, fun a ha b hb c => ?_⟩
      rw [List.mem_singleton.mp hb] at c
      subst c
      have := val_some ha
      rw [e] at this; cases this
    | some v => rw [put_keys_old (by rw [e]; rfl)]; exact w.nd
  · cases e : valV F (.inr x) with
    | none =>
      rw [putK_new _ e] at hp
      rcases List.mem_append.mp hp with hp | hp
      · exact w.ok p hp
      · rw [List.mem_singleton.mp hp]; exact ⟨x, y, rfl, hx, hy⟩
    | some v =>
      unfold putK at hp
      rw [valV_any, if_pos (by rw [e]; rfl)] at hp
      obtain ⟨q, hq, rfl⟩ := List.mem_map.mp hp
      obtain ⟨a, b, rfl, ha, hb⟩ := w.ok q hq
      by_cases c : (Sum.inr a : Key) = Sum.inr x
      · rw [if_pos c]; exact ⟨a, y, rfl, ha, hy⟩
      · rw [if_neg c]; exact ⟨a, b, rfl, ha, hb⟩
def kS : Key → Str
  | .inr x => x
  | _ => ""
theorem keys_len {names : List Str} {l : List Key} (nd : l.Nodup) (h : ∀ k ∈ l, ∃ x : Str, k = .inr x ∧ x ∈ names) : l.length ≤ names.length := by
  have h1 : ∀ (l : List Key), l.Nodup → (∀ k ∈ l, ∃ x : Str, k = .inr x ∧ x ∈ names) → (l.map kS).Nodup := by
    intro l
    induction l with
    | nil => intro _ _; exact List.nodup_nil
    | cons k r ih =>
      intro nd hk
      obtain ⟨n1, n2⟩ := List.nodup_cons.mp nd
      obtain ⟨x, rfl, hx⟩ := hk k (List.mem_cons_self ..)
      refine List.nodup_cons.mpr ⟨fun hm => ?_, ih n2 fun k' hk' => hk k' (List.mem_cons_of_mem _ hk')⟩
      obtain ⟨k', hk', e⟩ := List.mem_map.mp hm
      obtain ⟨x', rfl, _⟩ := hk k' (List.mem_cons_of_mem _ hk')
      have e' : x' = x := e
      subst e'
      exact n1 hk'
  have h2 := nodup_len (m := names) (h1 l nd h) fun x hx => by
    obtain ⟨k, hk, rfl⟩ := List.mem_map.mp hx
    obtain ⟨y, rfl, hy⟩ := h k hk
    exact hy
  rw [List.length_map] at h2
  exact h2
theorem WF.keys {names : List Str} {B : Nat} {F : List (Key × V)} (w : WF names B F) : ∀ k ∈ F.map (·.1), ∃ x : Str, k = .inr x ∧ x ∈ names := fun k hk => by
  obtain ⟨p, hp, rfl⟩ := List.mem_map.mp hk
  obtain ⟨x, y, rfl, hx, _⟩ := w.ok p hp
  exact ⟨x, rfl, hx⟩
theorem WF.len {names : List Str} {B : Nat} {F : List (Key × V)} (w : WF names B F) : F.length ≤ names.length := by
  have := keys_len w.nd w.keys
  rw [List.length_map] at this
  exact this
/-! ### one round -/
def fr1 (F : List (Key × V)) (one l : Str) (acc : List (Key × V)) (other : Str) : List (Key × V) :=
  if (valV F (.inr other)).isSome = false ∧ ((valV acc (.inr other)).isSome = false ∨ (wordAt F one ++ l).cps.toList < (wordAt acc other).cps.toList) then putK acc (.inr other) (.str (wordAt F one ++ l)) else acc
def frO (L : List (Int × Fact)) (F : List (Key × V)) (one l : Str) (acc : List (Key × V)) : List (Key × V) := (calledOnce L one l).foldl (fr1 F one l) acc
def letters7 : List Str := ["c", "f", "h", "k", "m", "s", "w"]
def frR (L : List (Int × Fact)) (F : List (Key × V)) (one : Str) (acc : List (Key × V)) : List (Key × V) := letters7.foldl (fun acc l => frO L F one l acc) acc
def fresh (L : List (Int × Fact)) (F : List (Key × V)) (R : List Str) : List (Key × V) := R.foldl (fun acc one => frR L F one acc) []
def roadStep (L : List (Int × Fact)) (goal : Str) (s : List (Key × V) × List Str) : Option (List (Key × V) × List Str) :=
  if s.2 = [] ∨ (valV s.1 (.inr goal)).isSome = true then none else some (mergeK s.1 (fresh L s.1 s.2), (fresh L s.1 s.2).map fun p => kS p.1)
noncomputable def roadH (h : HS) (n goal : Str) : Except Str (Option Str) :=
  if n ∈ h.st.names ∧ goal ∈ h.st.names then
    let F := (fin (roadStep (keptL h.st) goal) ([(.inr n, .str "")], [n])).1
    .ok (if (valV F (.inr goal)).isSome = true then some (wordAt F goal) else none)
  else .error "no person"
/-- a dict of fresh words -/
structure Fr (names : List Str) (B : Nat) (F acc : List (Key × V)) : Prop where
  wf : WF names B acc
  off : ∀ x : Str, (valV acc (.inr x)).isSome = true → (valV F (.inr x)).isSome = false
theorem Fr.nil (names : List Str) (B : Nat) (F : List (Key × V)) : Fr names B F [] := ⟨⟨List.nodup_nil, fun p hp => by simp at hp⟩, fun x h => by simp [valV] at h⟩
theorem fr1_ok {names : List Str} {B : Nat} {F acc : List (Key × V)} {one l other : Str} (f : Fr names B F acc) (ho : other ∈ names) (hw : (wordAt F one ++ l).length ≤ B) : Fr names B F (fr1 F one l acc other) := by
  unfold fr1
  split
  · rename_i c
    refine ⟨f.wf.put ho hw, fun x hx => ?_⟩
    rw [valV_put] at hx
    by_cases e : (Sum.inr x : Key) = Sum.inr other
    · rw [Sum.inr.inj e]; exact c.1
    · rw [if_neg e] at hx; exact f.off x hx
  · exact f
theorem foldl_inv {α β : Type} (P : β → Prop) (f : β → α → β) : ∀ {l : List α} {b : β}, P b → (∀ b x, x ∈ l → P b → P (f b x)) → P (l.foldl f b)
  | [], b, h, _ => h
  | x :: r, b, h, hs => foldl_inv P f (l := r) (hs b x (List.mem_cons_self ..) h) fun b y hy => hs b y (List.mem_cons_of_mem _ hy)
theorem up_said (l : Str) : ¬ upK l = some "said" := by
  unfold upK
  intro e
  split at e
  · exact absurd (Option.some.inj e) (by decide +kernel)
  · split at e
    · exact absurd (Option.some.inj e) (by decide +kernel)
    · split at e
      · exact absurd (Option.some.inj e) (by decide +kernel)
      · split at e
        · exact absurd (Option.some.inj e) (by decide +kernel)
        · cases e
theorem once_mem {size : Nat} {names : List Str} {L : List (Int × Fact)} {n l x : Str} (hf : ∀ q ∈ L, FactOk size names q.2) (h : x ∈ calledOnce L n l) : x ∈ names := by
  obtain ⟨q, hq, hx⟩ := List.mem_flatMap.mp h
  have fo := hf q hq
  obtain ⟨num, f⟩ := q
  unfold once1 at hx
  rcases List.mem_append.mp hx with hx | hx
  · split at hx
    · rename_i c
      rw [List.mem_singleton.mp hx]
      cases fo with
      | said _ _ _ =>
        exact absurd c.1 (up_said l)
      | tie hk a b => exact b
    · simp at hx
  · split at hx
    · rw [List.mem_singleton.mp hx]
      cases fo with
      | said a _ _ => exact a
      | tie hk a b => exact a
    · simp at hx
theorem letter_len : ∀ l ∈ letters7, l.length = 1 := by decide +kernel
theorem app_len (a b : Str) : (a ++ b).length = a.length + b.length := by
  show (a.cps ++ b.cps).size = _
  rw [Array.size_append]
  rfl
theorem frO_ok {size : Nat} {names : List Str} {L : List (Int × Fact)} (hf : ∀ q ∈ L, FactOk size names q.2) {B : Nat} {F acc : List (Key × V)} {one l : Str} (hl : l ∈ letters7) (hw : (wordAt F one).length ≤ B) (f : Fr names (B + 1) F acc) : Fr names (B + 1) F (frO L F one l acc) :=
  foldl_inv _ _ f fun b x hx p => fr1_ok p (once_mem hf hx) (by rw [app_len, letter_len l hl]; omega)
theorem frR_ok {size : Nat} {names : List Str} {L : List (Int × Fact)} (hf : ∀ q ∈ L, FactOk size names q.2) {B : Nat} {F acc : List (Key × V)} {one : Str} (hw : (wordAt F one).length ≤ B) (f : Fr names (B + 1) F acc) : Fr names (B + 1) F (frR L F one acc) :=
  foldl_inv _ _ f fun b x hx p => frO_ok hf hx hw p
theorem fresh_ok {size : Nat} {names : List Str} {L : List (Int × Fact)} (hf : ∀ q ∈ L, FactOk size names q.2) {B : Nat} {F : List (Key × V)} (w : WF names B F) {R : List Str} (hR : ∀ x ∈ R, (valV F (.inr x)).isSome = true) : Fr names (B + 1) F (fresh L F R) :=
  foldl_inv _ _ (Fr.nil _ _ _) fun b x hx p => frR_ok hf (w.at (hR x hx)).2.2 p
theorem merge_new : ∀ {more F : List (Key × V)}, (more.map (·.1)).Nodup → (∀ k ∈ more.map (·.1), valV F k = none) → mergeK F more = F ++ more
  | [], F, _, _ => by simp [mergeK]
  | p :: r, F, nd, h => by
    obtain ⟨n1, n2⟩ := List.nodup_cons.mp nd
    have e : mergeK F (p :: r) = mergeK (putK F p.1 p.2) r := rfl
    have h0 := h p.1 (List.mem_cons_self ..)
    rw [e, putK_new _ h0, merge_new (more := r) n2 fun k hk => ?_]
    · simp
    · have hk0 := h k (List.mem_cons_of_mem _ hk)
      cases q : valV (F ++ [(p.1, p.2)]) k with
      | none => rfl
      | some v =>
        have hm := val_key (F := F ++ [(p.1, p.2)]) (k := k) (by rw [q]; rfl)
        rw [List.map_append] at hm
        rcases List.mem_append.mp hm with hm | hm
        · have := val_some hm
          rw [hk0] at this; cases this
        · rw [List.mem_singleton.mp hm] at hk
          exact absurd hk n1
theorem merge_fr {names : List Str} {B : Nat} {F acc : List (Key × V)} (w : WF names B F) (f : Fr names (B + 1) F acc) : mergeK F acc = F ++ acc ∧ WF names (B + 1) (F ++ acc) ∧ ∀ p ∈ acc, (valV (F ++ acc) p.1).isSome = true := by
  have dis : ∀ k ∈ acc.map (·.1), valV F k = none := fun k hk => by
    obtain ⟨x, rfl, _⟩ := f.wf.keys k hk
    have := f.off x (val_some hk)
    cases e : valV F (.inr x) with
    | none => rfl
    | some v => rw [e] at this; cases this
  refine ⟨merge_new f.wf.nd dis, ⟨?_, fun p hp => ?_⟩, fun p hp => val_some ?_⟩
  · rw [List.map_append]
    refine List.nodup_append.mpr ⟨w.nd, f.wf.nd, fun a ha b hb c => ?_⟩
    subst c
    have := val_some ha
    rw [dis a hb] at this; cases this
  · rcases List.mem_append.mp hp with hp | hp
    · exact (w.mono (Nat.le_succ B)).ok p hp
    · exact f.wf.ok p hp
  · rw [List.map_append]
    exact List.mem_append_right _ (List.mem_map.mpr ⟨p, hp, rfl⟩)
/-- the road's state in order -/
structure Rd0 (names : List Str) (s : List (Key × V) × List Str) : Prop where
  wf : WF names s.1.length s.1
  ro : ∀ x ∈ s.2, (valV s.1 (.inr x)).isSome = true
theorem road_keeps {size : Nat} {names : List Str} {L : List (Int × Fact)} (hf : ∀ q ∈ L, FactOk size names q.2) {goal : Str} {s t : List (Key × V) × List Str} (r : Rd0 names s) (e : roadStep L goal s = some t) :
    Rd0 names t ∧ t = (s.1 ++ fresh L s.1 s.2, (fresh L s.1 s.2).map fun p => kS p.1) ∧ Fr names (s.1.length + 1) s.1 (fresh L s.1 s.2) ∧
      (names.length - t.1.length) + (if t.2 = [] then 0 else 1) < (names.length - s.1.length) + (if s.2 = [] then 0 else 1) := by
  unfold roadStep at e
  split at e
  · cases e
  · rename_i c
    have fo := fresh_ok hf r.wf r.ro
    obtain ⟨m1, m2, m3⟩ := merge_fr r.wf fo
    cases e
    rw [m1]
    have ne : ¬ s.2 = [] := fun h => c (.inl h)
    have hl := m2.len
    rw [List.length_append] at hl
    refine ⟨⟨?_, fun x hx => ?_⟩, rfl, fo, ?_⟩
    · show WF names (s.1 ++ fresh L s.1 s.2).length (s.1 ++ fresh L s.1 s.2)
      cases q : fresh L s.1 s.2 with
      | nil => rw [List.append_nil]; exact r.wf
      | cons p t =>
        rw [← q]
        refine m2.mono ?_
        rw [List.length_append, q]
        simp only [List.length_cons]; omega
    · obtain ⟨p, hp, rfl⟩ := List.mem_map.mp hx
      have := m3 p hp
      obtain ⟨x, y, rfl, _, _⟩ := fo.wf.ok p hp
      exact this
    · show (names.length - (s.1 ++ fresh L s.1 s.2).length) + (if ((fresh L s.1 s.2).map fun p => kS p.1) = [] then 0 else 1) < _
      rw [if_neg ne, List.length_append]
      cases q : fresh L s.1 s.2 with
      | nil => simp
      | cons p t =>
        rw [q] at hl
        simp only [List.length_cons] at hl ⊢
        rw [if_neg (by simp)]
        omega
theorem road_over {size : Nat} {names : List Str} {L : List (Int × Fact)} (hf : ∀ q ∈ L, FactOk size names q.2) {goal : Str} {s : List (Key × V) × List Str} (r : Rd0 names s) : Over (roadStep L goal) ((names.length - s.1.length) + (if s.2 = [] then 0 else 1)) s :=
  over_of (Rd0 names) (fun s => (names.length - s.1.length) + (if s.2 = [] then 0 else 1)) (fun s t i e => let ⟨a, _, _, d⟩ := road_keeps hf i e; ⟨a, d⟩) _ s r (Nat.le_refl _)
end Kin
set_option maxHeartbeats 4000000
/-! K35: called_once. -/
namespace Kin
open PySem L2
theorem once_take {L : List (Int × Fact)} {i : Nat} {q : Int × Fact} (n l : Str) (h : L[i]? = some q) : calledOnce (L.take (i + 1)) n l = calledOnce (L.take i) n l ++ once1 n l q := by
  rw [take_snoc h]
  unfold calledOnce
  rw [List.flatMap_append]
  simp
theorem dn_said (l : Str) : ¬ dnK l = some "said" := by
  unfold dnK
  intro e
  split at e
  · exact absurd (Option.some.inj e) (by decide +kernel)
  · split at e
    · exact absurd (Option.some.inj e) (by decide +kernel)
    · split at e
      · exact absurd (Option.some.inj e) (by decide +kernel)
      · split at e
        · exact absurd (Option.some.inj e) (by decide +kernel)
        · cases e
section
variable {P : Program} {w : World} {K : PySem.W.Frag} {mg : Str → Option Value} {g : Str → Addr} {mt : Str → Str → Addr} {base : Heap}
/-- a table of letters, read -/
def LetT (K : PySem.W.Frag) (w : World) (a : Addr) (f : Str → Option Str) (l : Str) : Prop := ∃ r, PySem.W.nsIn K a l = some r ∧ r.isSome = (f l).isSome ∧ ∀ k, f l = some k → KDct K w a l (.str k)
theorem letN (T : Txt w K mg g mt) {t l : Str} {f : Str → Option Str} (i : Nat) (h : tabVals[i]? = some (t, l, none)) (e : f l = none) : LetT K w (g t) f l := by
  have q := T.val _ (List.mem_of_getElem? h)
  exact ⟨none, q, by rw [e]; rfl, fun k hk => by rw [e] at hk; cases hk⟩
theorem letS (T : Txt w K mg g mt) {t l k : Str} {f : Str → Option Str} (i : Nat) (h : tabVals[i]? = some (t, l, some (.str k))) (ht : t ∈ tabNames) (e : f l = some k) : LetT K w (g t) f l := by
  obtain ⟨u, q1, q2⟩ := T.val _ (List.mem_of_getElem? h)
  exact ⟨some u, q1, by rw [e]; rfl, fun k' hk => by rw [e] at hk; cases hk; exact tabGet T i h ht⟩
theorem let_up (T : Txt w K mg g mt) {l : Str} (h : l ∈ letters7) : LetT K w (g "UP") upK l := by
  unfold letters7 at h
  simp only [List.mem_cons, List.not_mem_nil, or_false] at h
  rcases h with rfl | rfl | rfl | rfl | rfl | rfl | rfl
  · exact letN T 4 (by kernel_rfl) (by decide +kernel)
  · exact letS T (k := "father") 5 (by kernel_rfl) (by decide +kernel) (by decide +kernel)
  · exact letN T 6 (by kernel_rfl) (by decide +kernel)
  · exact letN T 7 (by kernel_rfl) (by decide +kernel)
  · exact letS T (k := "mother") 8 (by kernel_rfl) (by decide +kernel) (by decide +kernel)
  · exact letS T (k := "sibling") 9 (by kernel_rfl) (by decide +kernel) (by decide +kernel)
  · exact letS T (k := "wed") 10 (by kernel_rfl) (by decide +kernel) (by decide +kernel)
theorem let_dn (T : Txt w K mg g mt) {l : Str} (h : l ∈ letters7) : LetT K w (g "DOWN") dnK l := by
  unfold letters7 at h
  simp only [List.mem_cons, List.not_mem_nil, or_false] at h
  rcases h with rfl | rfl | rfl | rfl | rfl | rfl | rfl
  · exact letS T (k := "mother") 11 (by kernel_rfl) (by decide +kernel) (by decide +kernel)
  · exact letN T 12 (by kernel_rfl) (by decide +kernel)
  · exact letS T (k := "wed") 13 (by kernel_rfl) (by decide +kernel) (by decide +kernel)
  · exact letS T (k := "father") 14 (by kernel_rfl) (by decide +kernel) (by decide +kernel)
  · exact letN T 15 (by kernel_rfl) (by decide +kernel)
  · exact letS T (k := "sibling") 16 (by kernel_rfl) (by decide +kernel) (by decide +kernel)
  · exact letN T 17 (by kernel_rfl) (by decide +kernel)
def spOnce : Sp := fun vs H Q _ => ∃ (k : Addr) (n l : Str) (size : Nat) (names : List Str) (L : List (Int × Fact)), vs = [.ref k, .str n, .str l] ∧ l ∈ letters7 ∧ Rows H k size names L ∧
  ∀ p H', Same H H' → H p = none → H' p = some (.lst ((calledOnce L n l).map V.str)) → (calledOnce L n l).length ≤ 2 * L.length → Q (.ref p) H'
theorem ok_called_once (T : Txt w K mg g mt) : GF P w K mg base CX0 1 "called_once" spOnce := by
  refine gf0 (F_called_once T) (T.glo _ (by decide +kernel)) sc_called_once (fun vs H Q E h => ?_) fun cdv A outer s H vs Q E hr h => ?_
  · obtain ⟨k, n, l, size, names, L, rfl, _⟩ := h; rfl
  · obtain ⟨k, n, l, size, names, L, rfl, hl, R, q⟩ := h
    have nd := sc_called_once.nd
    obtain ⟨gu, eu, nu', Du⟩ := T.tab "UP" (by decide +kernel)
    obtain ⟨gd, ed, nd', Dd⟩ := T.tab "DOWN" (by decide +kernel)
    refine ⟨_, pss_cons (ps_set (i := 3) nd rfl (.inl rfl) (pe_lst pa_nil))
      (pss_cons (ps_for PassesOwn.never rfl (pi_list (pv 0)) (pg_tup rfl (pgs_cons (pg_name (i := 4) nd rfl (.inl rfl)) (pgs_cons (pg_name (i := 5) nd rfl (.inl rfl)) (pgs_cons (pg_name (i := 6) nd rfl (.inl rfl)) (pgs_cons (pg_name (i := 7) nd rfl (.inl rfl)) pgs_nil)))))
        (pss_cons (ps_cut (ps_if (pt_cut (PW.pt (pw_and (pt_cmpR (op_in_kd Du) (pv 2) (pe_glob (v := .ref (g "UP")) rfl gu rfl) rfl) (pw_and (pt_cmpR op_eq (pv 5) (pe_ix ix_kdict (pe_glob (v := .ref (g "UP")) rfl gu rfl) (pv 2) (fun _ _ => rfl)) (nomark _)) (pw_and1 (pt_cmpR op_eq (pv 6) (pv 1) (nomark _)))))))
          (pss_one (ps_expr (pe_bm PySem.F.plainAttrs_list PySem.F.slot_list_append PySem.F.type_list_append mt_append (pv 3) (pa_cons (pv 7) pa_nil)))) pss_nil))
        (pss_one (ps_if (pt_cut (PW.pt (pw_and (pt_cmpR (op_in_kd Dd) (pv 2) (pe_glob (v := .ref (g "DOWN")) rfl gd rfl) rfl) (pw_and (pt_cmpR op_eq (pv 5) (pe_ix ix_kdict (pe_glob (v := .ref (g "DOWN")) rfl gd rfl) (pv 2) (fun _ _ => rfl)) (nomark _)) (pw_and1 (pt_cmpR op_eq (pv 7) (pv 1) (nomark _)))))))
          (pss_one (ps_expr (pe_bm PySem.F.plainAttrs_list PySem.F.slot_list_append PySem.F.type_list_append mt_append (pv 3) (pa_cons (pv 6) pa_nil)))) pss_nil))))
      (pss_one (ps_ret (pv 3)))), ?_⟩
    obtain ⟨ru, u1, u2, u3⟩ := let_up T hl
    obtain ⟨rd, d1, d2, d3⟩ := let_dn T hl
    obtain ⟨as, r1, r2⟩ := R.ex
    refine ⟨Nat.zero_le _, fun D hD => ?_⟩
    have s1 := same_new (o := .lst []) hD
    have h1 : upd H D (.lst []) D = some (.lst []) := upd_same
    generalize upd H D (.lst []) = H1 at s1 h1 ⊢
    refine ⟨_, rfl, k, rfl, ⟨_, SqL.of (s1 _ _ r1)⟩, ?_⟩
    refine for_it (walk_list (K := K) (a := k) (xs := as.map V.ref)) (fun i σ G => (∃ v4 v5 v6 v7, σ = [some (.ref k), some (.str n), some (.str l), some (.ref D), v4, v5, v6, v7]) ∧ Same H G ∧ G D = some (.lst ((calledOnce (L.take i) n l).map V.str)) ∧ (calledOnce (L.take i) n l).length ≤ 2 * i)
      ⟨⟨none, none, none, none, rfl⟩, s1, h1, Nat.le_refl _⟩ (fun i σ G _ p => SqL.of (p.2.1 _ _ r1)) ?_ ?_
    · rintro i v σ G G' hi ⟨⟨v4, v5, v6, v7, rfl⟩, s2, h2, z2⟩ ⟨e3, hv⟩
      rw [e3]
      obtain ⟨a, x, rfl, hx, ha⟩ := r2.back hv
      have fo := R.ok x (List.mem_of_getElem? hx)
      have hil : i < L.length := (List.getElem?_eq_some_iff.mp hx).1
      have lz := R.sz
      obtain ⟨num, kind, one, other⟩ := x
      have et := once_take n l hx
      refine ⟨a, _, rfl, SqT.of (s2 _ _ ha), rfl, _, _, rfl, _, _, rfl, _, _, rfl, _, _, rfl, rfl, ?_⟩
      refine ⟨fun σ' G1 => σ' = [some (.ref k), some (.str n), some (.str l), some (.ref D), some (.int num), some (.str kind), some (.str one), some other] ∧ Same H G1 ∧ G1 D = some (.lst ((calledOnce (L.take i) n l ++ if upK l = some kind ∧ one = n then [nameOf other] else []).map V.str)), ?_, ?_⟩
      · refine ⟨fun b G1 => b = decide (upK l = some kind ∧ one = n) ∧ G1 = G, ?_, ?_⟩
        · refine ⟨_, rfl, l, ru, rfl, rfl, u1, _, rfl, iteB (fun c1 => ?_) (fun c1 => ⟨?_, rfl⟩)⟩
          · rw [u2] at c1
            obtain ⟨kd, ekd⟩ := isSome_val c1
            refine ⟨_, rfl, _, rfl, g "UP", l, _, rfl, rfl, u3 kd ekd, rfl, _, rfl, iteB (fun c2 => ?_) (fun c2 => ⟨?_, rfl⟩)⟩
            · have ek := vstr (eqT c2)
              subst ek
              refine ⟨_, rfl, _, rfl, rfl, _, rfl, ?_, rfl⟩
              by_cases c3 : one = n
              · rw [decide_eq_true (⟨ekd, c3⟩ : upK l = some kind ∧ one = n)]; exact decide_eq_true (by rw [c3])
              · rw [decide_eq_false (fun e : upK l = some kind ∧ one = n => c3 e.2)]; exact decide_eq_false fun e => c3 (vstr e)
            · refine (decide_eq_false fun e => eqF c2 ?_).symm
              rw [ekd] at e
              rw [Option.some.inj e.1]
          · refine (decide_eq_false fun e => ?_).symm
            rw [u2, e.1] at c1; cases c1
        · rintro b G1 ⟨rfl, rfl⟩
          refine iteB (fun c => ?_) (fun c => ?_)
          · have c := eqT c
            rw [if_pos c]
            have ho : other = .str (nameOf other) := by
              cases fo with
              | said _ _ _ => exact absurd c.1 (up_said l)
              | tie _ _ _ => rfl
            refine ⟨_, rfl, .inl ⟨rfl, _, SqL.of h2⟩, _, rfl, D, _, _, rfl, rfl, h2, by rw [List.length_map]; exact Nat.lt_of_le_of_lt z2 (Nat.lt_of_lt_of_le (show 2 * i < 2 * 99999 by omega) (by decide)), rfl, same_mut s2 hD, ?_⟩
            rw [upd_same, List.map_append]
            rw [ho]
            rfl
          · rw [if_neg (eqF c), List.append_nil]
            exact ⟨rfl, s2, h2⟩
      · rintro σ' G1 ⟨rfl, s3, h3⟩
        have z3 : (calledOnce (L.take i) n l ++ if upK l = some kind ∧ one = n then [nameOf other] else []).length ≤ 2 * i + 1 := by
          rw [List.length_append]
          split <;> simp <;> omega
        have fin2 : ∀ G2, Same H G2 → G2 D = some (.lst (((calledOnce (L.take i) n l ++ if upK l = some kind ∧ one = n then [nameOf other] else []) ++ if dnK l = some kind ∧ nameOf other = n then [one] else []).map V.str)) → Same H G2 ∧ G2 D = some (.lst ((calledOnce (L.take (i + 1)) n l).map V.str)) ∧ (calledOnce (L.take (i + 1)) n l).length ≤ 2 * (i + 1) := fun G2 s4 h4 => by
          have e1 : calledOnce (L.take (i + 1)) n l = (calledOnce (L.take i) n l ++ if upK l = some kind ∧ one = n then [nameOf other] else []) ++ if dnK l = some kind ∧ nameOf other = n then [one] else [] := by rw [et, List.append_assoc]; rfl
          rw [e1]
          refine ⟨s4, h4, ?_⟩
          rw [List.length_append]
          have l1 : (if dnK l = some kind ∧ nameOf other = n then [one] else []).length ≤ 1 := by split <;> simp
          omega
        refine ⟨fun b G2 => b = decide (dnK l = some kind ∧ nameOf other = n) ∧ G2 = G1, ?_, ?_⟩
        · refine ⟨_, rfl, l, rd, rfl, rfl, d1, _, rfl, iteB (fun c1 => ?_) (fun c1 => ⟨?_, rfl⟩)⟩
          · rw [d2] at c1
            obtain ⟨kd, ekd⟩ := isSome_val c1
            refine ⟨_, rfl, _, rfl, g "DOWN", l, _, rfl, rfl, d3 kd ekd, rfl, _, rfl, iteB (fun c2 => ?_) (fun c2 => ⟨?_, rfl⟩)⟩
            · have ek := vstr (eqT c2)
              subst ek
              have ho : other = .str (nameOf other) := by
                cases fo with
                | said _ _ _ => exact absurd ekd (dn_said l)
                | tie _ _ _ => rfl
              refine ⟨_, rfl, _, rfl, by rw [ho]; rfl, _, rfl, ?_, rfl⟩
              rw [ho]
              by_cases c3 : nameOf other = n
              · rw [decide_eq_true (⟨ekd, c3⟩ : dnK l = some kind ∧ nameOf (V.str (nameOf other)) = n)]; exact decide_eq_true (by rw [c3])
              · rw [decide_eq_false (fun e : dnK l = some kind ∧ nameOf (V.str (nameOf other)) = n => c3 e.2)]; exact decide_eq_false fun e => c3 (vstr e)
            · refine (decide_eq_false fun e => eqF c2 ?_).symm
              rw [ekd] at e
              rw [Option.some.inj e.1]
          · refine (decide_eq_false fun e => ?_).symm
            rw [d2, e.1] at c1; cases c1
        · rintro b G2 ⟨rfl, rfl⟩
          refine iteB (fun c => ?_) (fun c => ?_)
          · have c := eqT c
            refine ⟨_, rfl, .inl ⟨rfl, _, SqL.of h3⟩, _, rfl, D, _, _, rfl, rfl, h3, by rw [List.length_map]; exact Nat.lt_of_le_of_lt z3 (Nat.lt_of_lt_of_le (show 2 * i + 1 < 2 * 99999 by omega) (by decide)), ⟨_, _, _, _, rfl⟩, fin2 _ (same_mut s3 hD) ?_⟩
            rw [if_pos c, upd_same, List.map_append (l₂ := [one])]
            rfl
          · refine ⟨⟨_, _, _, _, rfl⟩, fin2 _ s3 ?_⟩
            rw [if_neg (eqF c), List.append_nil]
            exact h3
    · rintro σ G ⟨⟨v4, v5, v6, v7, rfl⟩, s2, h2, z2⟩
      rw [List.length_map, r2.len, List.take_length] at h2 z2
      exact ⟨_, rfl, q D G s2 hD h2 z2⟩
end
end Kin
set_option maxHeartbeats 4000000
/-! K36: road. -/
namespace Kin
open PySem L2
theorem Rows.keep {M : List Addr} {H H' : Hp} {k : Addr} {size : Nat} {names : List Str} {L : List (Int × Fact)} (r : Rows H k size names L) (kp : Kept M H H') (hm : ∀ m ∈ M, ∃ kvs, H m = some (.dK kvs)) : Rows H' k size names L := by
  obtain ⟨as, h1, h2⟩ := r.ex
  have no : ∀ b o, H b = some o → (∀ kvs, o ≠ .dK kvs) → b ∉ M := fun b o e n hb => by
    obtain ⟨kvs, q⟩ := hm b hb
    rw [q] at e
    exact n kvs (Option.some.inj e).symm
  exact ⟨⟨as, kp _ _ h1 (no _ _ h1 fun kvs e => by cases e), ⟨h2.len, fun i x hx => by
    obtain ⟨a, a1, a2⟩ := h2.at_ i x hx
    exact ⟨a, a1, kp _ _ a2 (no _ _ a2 fun kvs e => by cases e)⟩⟩⟩, r.ok, r.sz⟩
theorem foldl_take {α β : Type} (f : β → α → β) {l : List α} {i : Nat} {x : α} (b : β) (h : l[i]? = some x) : (l.take (i + 1)).foldl f b = f ((l.take i).foldl f b) x := by
  rw [take_snoc h, List.foldl_append]; rfl
theorem letter_str : ("cfhkmsw" : Str).cps.size = 7 ∧ ∀ (i c : Nat), ("cfhkmsw" : Str).cps[i]? = some c → letters7[i]? = some ⟨#[c]⟩ := by
  refine ⟨by decide +kernel, fun i c h => ?_⟩
  have hl : i < ("cfhkmsw" : Str).cps.size := (Array.getElem?_eq_some_iff.mp h).1
  have e7 : ("cfhkmsw" : Str).cps.size = 7 := by decide +kernel
  rw [e7] at hl
  have key : ∀ i, i < 7 → ∀ c, ("cfhkmsw" : Str).cps[i]? = some c → letters7[i]? = some ⟨#[c]⟩ := by
    intro i hi c h
    match i, hi with
    | 0, _ => have e : ("cfhkmsw" : Str).cps[0]? = some 99 := by decide +kernel
              rw [e] at h; cases h; decide +kernel
    | 1, _ => have e : ("cfhkmsw" : Str).cps[1]? = some 102 := by decide +kernel
              rw [e] at h; cases h; decide +kernel
    | 2, _ => have e : ("cfhkmsw" : Str).cps[2]? = some 104 := by decide +kernel
              rw [e] at h; cases h; decide +kernel
    | 3, _ => have e : ("cfhkmsw" : Str).cps[3]? = some 107 := by decide +kernel
              rw [e] at h; cases h; decide +kernel
    | 4, _ => have e : ("cfhkmsw" : Str).cps[4]? = some 109 := by decide +kernel
              rw [e] at h; cases h; decide +kernel
    | 5, _ => have e : ("cfhkmsw" : Str).cps[5]? = some 115 := by decide +kernel
              rw [e] at h; cases h; decide +kernel
    | 6, _ => have e : ("cfhkmsw" : Str).cps[6]? = some 119 := by decide +kernel
              rw [e] at h; cases h; decide +kernel
  exact key i hl c h
section
variable {P : Program} {w : World} {K : PySem.W.Frag} {mg : Str → Option Value} {g : Str → Addr} {mt : Str → Str → Addr} {base : Heap}
def optV : Option Str → V
  | none => .non
  | some s => .str s
def spRoad (K : PySem.W.Frag) (g : Str → Addr) : Sp := fun vs H Q E => ∃ (Z : Hp) (m : HM) (h : HS) (N : Nat) (n goal : Str), vs = [.ref m.p, .str n, .str goal] ∧ HA g Z H m h ∧ HOk N h ∧ N ≤ 99999 ∧
  (∀ r, roadH h n goal = .ok r → (∀ x, r = some x → x.length ≤ 100000) → ∀ H', Same H H' → Q (optV r) H') ∧ (∀ e, roadH h n goal = .error e → ∀ cls d H', Refused K (g "KinError") e H cls d H' → E cls d H')
theorem ok_road (T : Txt w K mg g mt) : GF P w K mg base (L2.CX P w) 5 "road" (spRoad K g) := by
  refine gfX (F_road T) (T.glo _ (by decide +kernel)) sc_road (fun vs H Q E h => ?_) fun cdv A outer s H vs Q E hr h => ?_
  · obtain ⟨Z, m, h, N, n, goal, rfl, _⟩ := h; rfl
  · obtain ⟨Z, m, h, N, n, goal, rfl, a, o, hN, q1, q2⟩ := h
    have nd := sc_road.nd
    have hu := hu_of hr
    have fl : mg "list" = none := T.free _ (by decide +kernel)
    have Po := ok_place_of (P := P) (base := base) T
    have Ke := ok_kept (P := P) (base := base) T
    have On := ok_called_once (P := P) (base := base) T
    have tk := takes_of (X := cxOf (L2.CX P w) P w K mg base ["hearth", "name", "goal", "kept", "found", "row", "fresh", "one", "letter", "other", "word"] "road" (defScope s_road) (g "road") cdv A outer s H E) rfl rfl rfl rfl
    refine ⟨_, pss_cons (ps_expr (pe_gf Po hr (passE tk rfl) (pa_cons (pv 0) (pa_cons (pv 1) pa_nil))))
      (pss_cons (ps_expr (pe_gf Po hr (passE tk rfl) (pa_cons (pv 0) (pa_cons (pv 2) pa_nil))))
      (pss_cons (ps_set (i := 3) nd rfl (.inl rfl) (pe_gm0 Ke (pv 0) hr pass0))
      (pss_cons (ps_set (i := 4) nd rfl (.inl rfl) (pe_disp (pps_cons (pv 1) pe_str pps_nil) (by rfl) (by rfl) (fun z => by cases z) (by decide)))
      (pss_cons (ps_set (i := 5) nd rfl (.inl rfl) (pe_lst (pa_cons (pv 1) pa_nil)))
      (pss_cons (ps_while (passes_of rfl) (pt_cut (PW.pt (pw_and (pt_cmpR (op_neD hr.units) (pv 5) (pe_lst pa_nil) (nomark _)) (pw_and1 (pt_cmp (pc_dnotin hu (pv 2) (pv 4)))))))
        (pss_cons (ps_set (i := 6) nd rfl (.inl rfl) pe_dnewK)
        (pss_cons (ps_for (passes_of rfl) rfl (pi_list (pv 5)) (pg_name (i := 7) nd rfl (.inl rfl))
          (pss_one (ps_for (passes_of rfl) rfl (pi_str pe_str) (pg_name (i := 8) nd rfl (.inl rfl))
            (pss_one (ps_for (passes_of rfl) rfl (pi_list (pe_gf On hr pass0 (pa_cons (pv 3) (pa_cons (pv 7) (pa_cons (pv 8) pa_nil))))) (pg_name (i := 9) nd rfl (.inl rfl))
              (pss_cons (ps_set (i := 10) nd rfl (.inl rfl) (pe_op op_add_str (pe_dget hu (pv 4) (pv 7) (fun _ _ => rfl)) (pv 8)))
              (pss_one (ps_if (pt_cut (PW.pt (pw_and (pt_cmp (pc_dnotin hu (pv 9) (pv 4))) (pw_and1 (PW.pt (pw_or (pt_cmp (pc_dnotin hu (pv 9) (pv 6))) (pw_or1 (pt_cmpR op_lt_str (pv 10) (pe_dget hu (pv 6) (pv 9) (fun _ _ => rfl)) (nomark _)))))))))
                (pss_one (ps_dput hu (pv 6) (pv 9) (pv 10) rfl)) pss_nil))))))))
        (pss_cons (ps_expr (pe_bm PySem.F.plainAttrs_dict PySem.F.slot_dict_update PySem.F.type_dict_update mt_upd (pv 4) (pa_cons (pv 6) pa_nil)))
        (pss_one (ps_set (i := 5) nd rfl (.inl rfl) (pe_callTy (call_listD rfl) (by rfl) fl PyProof.Rows.boot_list (pa_cons (pv 6) pa_nil))))))))
      (pss_cons (ps_if (pt_cmp (pc_din hu (pv 2) (pv 4))) (pss_one (ps_ret (pe_dget hu (pv 4) (pv 2) (fun _ _ => rfl)))) pss_nil)
      (pss_one (ps_ret pe_non)))))))), ?_⟩
    have bo := o.bo
    have np : ∀ x, valV h.place (.inr x) = none → x ∉ h.st.names := fun x e hm => by
      have := (o.po.at hm).1
      rw [e] at this; cases this
    refine ⟨_, rfl, _, rfl, Z, m, h, n, rfl, a, fun v hv => ?_, fun hv => q2 _ (by unfold roadH; rw [if_neg fun c => np n hv c.1])⟩
    have nN : n ∈ h.st.names := (o.po.2 n v hv).1
    refine ⟨_, rfl, _, rfl, Z, m, h, goal, rfl, a, fun v2 hv2 => ?_, fun hv => q2 _ (by unfold roadH; rw [if_neg fun c => np goal hv c.2])⟩
    have gN : goal ∈ h.st.names := (o.po.2 goal v2 hv2).1
    have q1 := q1 _ (by unfold roadH; rw [if_pos ⟨nN, gN⟩])
    obtain ⟨dx, lo, ob, la⟩ := a.ob
    refine ⟨_, rfl, m.p, dx, _, rfl, ob, hN_kept .., Z, m, h, N, rfl, a, bo, hN, fun kp H1 s1 hkp R1 => ?_⟩
    generalize hL : keptL h.st = L at R1 q1
    have hf := R1.ok
    have nz : h.st.names.length ≤ 99999 := by have := bo.ln; omega
    -- found
    refine fun fd hfd => ⟨_, rfl, upd_same, [(.inr n, .str "")], rfl, by simp, ?_⟩
    have em : upd (upd H1 fd (.dK [])) fd (.dK (mergeK [] [((Sum.inr n : Key), V.str "")])) = upd H1 fd (.dK [(.inr n, .str "")]) := by
      funext z
      by_cases c : z = fd
      · subst c; rw [upd_same, upd_same]; rfl
      · rw [upd_ne c, upd_ne c, upd_ne c]
    rw [em]
    have s2 := same_new (o := .dK [(.inr n, .str "")]) hfd
    have h2 : upd H1 fd (.dK [(.inr n, .str "")]) fd = some (.dK [(.inr n, .str "")]) := upd_same
    generalize upd H1 fd (.dK [(.inr n, .str "")]) = H2 at s2 h2 ⊢
    -- row
    refine ⟨_, rfl, by show 1 ≤ sizeLine; decide, fun rl0 hrl0 => ?_⟩
    have s3 := same_new (o := .lst [.str n]) hrl0
    have h3 : upd H2 rl0 (.lst [.str n]) rl0 = some (.lst ([n].map V.str)) := upd_same
    generalize upd H2 rl0 (.lst [.str n]) = H3 at s3 h3 ⊢
    have hfd0 : H fd = none := s1.free hfd
    have s13 : Same H H3 := s1.trans (s2.trans s3)
    have R3 := R1.same (s2.trans s3)
    have r0 : Rd0 h.st.names ([((Sum.inr n : Key), V.str "")], [n]) := by
      refine ⟨⟨by simp, fun p hp => ?_⟩, fun x hx => ?_⟩
      · rw [List.mem_singleton.mp hp]; exact ⟨n, "", rfl, nN, Nat.zero_le _⟩
      · rw [List.mem_singleton.mp hx]; exact val_some (by simp)
    have ov0 := road_over hf (goal := goal) r0
    have e0 : iter (roadStep L goal) _ ([((Sum.inr n : Key), V.str "")], [n]) = fin (roadStep L goal) ([(.inr n, .str "")], [n]) := (fin_eq ov0).symm
    refine ⟨fun mm σ G => ∃ (F : List (Key × V)) (Rw : List Str) (rl : Addr) (v6 v7 v8 v9 v10 : Option V), σ = [some (.ref m.p), some (.str n), some (.str goal), some (.ref kp), some (.ref fd), some (.ref rl), v6, v7, v8, v9, v10] ∧ Same H G ∧ Rows G kp h.land.size h.st.names L ∧ G fd = some (.dK F) ∧ G rl = some (.lst (Rw.map V.str)) ∧
        Rd0 h.st.names (F, Rw) ∧ Over (roadStep L goal) mm (F, Rw) ∧ iter (roadStep L goal) mm (F, Rw) = fin (roadStep L goal) ([(.inr n, .str "")], [n]),
      ⟨_, _, [n], rl0, none, none, none, none, none, rfl, s13, R3, s3 _ _ h2, h3, r0, ov0, e0⟩, ?_⟩
    rintro mm σ G ⟨F, Rw, rl, v6, v7, v8, v9, v10, rfl, sG, RG, hF, hR, rd, ov, ei⟩
    have rokN : ∀ x ∈ Rw, x ∈ h.st.names := fun x hx => (rd.wf.at (rd.ro x hx)).2.1
    have flR : ∀ x ∈ Rw.map V.str, FlatO x := fun x hx => by
      obtain ⟨y, hy, rfl⟩ := List.mem_map.mp hx
      exact .inl ⟨y, rfl, isName_ok (bo.nk _ (rokN y hy))⟩
    refine ⟨fun b G1 => b = (!decide (Rw = [] ∨ (valV F (.inr goal)).isSome = true)) ∧ Same G G1, ?_, ?_⟩
    · refine ⟨_, rfl, Nat.zero_le _, fun em hem => ?_⟩
      have s5 := same_new (o := .lst []) hem
      have h5 : upd G em (.lst []) em = some (.lst []) := upd_same
      generalize upd G em (.lst []) = G5 at s5 h5 ⊢
      refine ⟨_, .list [], .lst (SqL.of (s5 _ _ hR)) (dpAll_flat flR), .lst (SqL.of h5) .nil, sh_flat flR, by rfl, _, rfl, ?_⟩
      rw [eqvNil]
      refine iteB (fun c1 => ?_) (fun c1 => ⟨?_, s5⟩)
      · have ne : ¬ Rw = [] := fun e => by rw [e] at c1; cases c1
        refine ⟨_, rfl, _, rfl, fd, _, rfl, DGet.k (k := .inr goal) (s5 _ _ hF), _, rfl, ?_, s5⟩
        cases c2 : (valV F (.inr goal)).isSome with
        | true => rw [decide_eq_true (.inr rfl)]
        | false => rw [decide_eq_false (fun e => e.elim ne (fun e => by cases e))]
      · have ee : Rw = [] := by
          cases Rw with
          | nil => rfl
          | cons x r => cases c1
        rw [decide_eq_true (.inl ee)]; rfl
    rintro b G1 ⟨rfl, sG1⟩
    have F1 := sG1 _ _ hF
    have R1' := sG1 _ _ hR
    have RG1 := RG.same sG1
    refine iteB (fun c => ?_) (fun c => ?_)
    · have nc : ¬ (Rw = [] ∨ (valV F (.inr goal)).isSome = true) := fun e => by rw [decide_eq_true e] at c; cases c
      have hs : roadStep L goal (F, Rw) = some (mergeK F (fresh L F Rw), (fresh L F Rw).map fun p => kS p.1) := by unfold roadStep; rw [if_neg nc]
      obtain ⟨m', rfl, ov'⟩ := over_step hs ov
      rw [iter_some hs] at ei
      obtain ⟨rd', et, fr, _⟩ := road_keeps hf rd hs
      refine ⟨fun σ' G' => ∃ (F' : List (Key × V)) (Rw' : List Str) (rl : Addr) (v6 v7 v8 v9 v10 : Option V), σ' = [some (.ref m.p), some (.str n), some (.str goal), some (.ref kp), some (.ref fd), some (.ref rl), v6, v7, v8, v9, v10] ∧ Same H G' ∧ Rows G' kp h.land.size h.st.names L ∧ G' fd = some (.dK F') ∧ G' rl = some (.lst (Rw'.map V.str)) ∧
          (F', Rw') = (mergeK F (fresh L F Rw), (fresh L F Rw).map fun p => kS p.1), fun σ' G' ⟨F', Rw', rl', w6, w7, w8, w9, w10, e1, e2, e3, e4, e5, e6⟩ => ⟨m', Nat.lt_succ_self _, F', Rw', rl', w6, w7, w8, w9, w10, e1, e2, e3, e4, e5, by rw [e6]; exact rd', by rw [e6]; exact ov', by rw [e6]; exact ei⟩, ?_⟩
      -- fresh
      intro fa hfa
      have s6 := same_new (o := .dK []) hfa
      have h6 : upd G1 fa (.dK []) fa = some (.dK []) := upd_same
      generalize upd G1 fa (.dK []) = G6 at s6 h6 ⊢
      have sH6 : Same H G6 := sG.trans (sG1.trans s6)
      have hfaH : H fa = none := (sG.trans sG1).free hfa
      have nfa : fd ≠ fa := fun e => by rw [← e, F1] at hfa; cases hfa
      have nra : rl ≠ fa := fun e => by rw [← e, R1'] at hfa; cases hfa
      have F6 := s6 _ _ F1
      have R6 := s6 _ _ R1'
      have RG6 := RG1.same s6
      have mk : ∀ {G' : Hp}, Kept [fa] G6 G' → Rows G' kp h.land.size h.st.names L := fun k => RG6.keep k fun x hx => by rw [List.mem_singleton.mp hx]; exact ⟨_, h6⟩
      have mF : ∀ {G' : Hp}, Kept [fa] G6 G' → G' fd = some (.dK F) := fun k => k _ _ F6 (by simpa using nfa)
      have mR : ∀ {G' : Hp}, Kept [fa] G6 G' → G' rl = some (.lst (Rw.map V.str)) := fun k => k _ _ R6 (by simpa using nra)
      have mH : ∀ {G' : Hp}, Kept [fa] G6 G' → Same H G' := fun k b o e => k b o (sH6 b o e) (by simpa using ne_of_none e hfaH)
      refine ⟨_, rfl, rl, rfl, ⟨_, SqL.of R6⟩, ?_⟩
      refine for_it (walk_list (K := K) (a := rl) (xs := Rw.map V.str)) (fun i σ G' => (∃ u7 u8 u9 u10, σ = [some (.ref m.p), some (.str n), some (.str goal), some (.ref kp), some (.ref fd), some (.ref rl), some (.ref fa), u7, u8, u9, u10]) ∧ Kept [fa] G6 G' ∧ ∃ acc, acc = (Rw.take i).foldl (fun acc one => frR L F one acc) [] ∧ G' fa = some (.dK acc) ∧ Fr h.st.names (F.length + 1) F acc)
        ⟨⟨_, _, _, _, rfl⟩, Kept.refl _ _, [], rfl, h6, Fr.nil _ _ _⟩ (fun i σ G' _ p => SqL.of (mR p.2.1)) ?_ ?_
      · rintro i v σ G7 G8 hi ⟨⟨u7, u8, u9, u10, rfl⟩, k7, acc, ea, hacc, fra⟩ ⟨e8, hv⟩
        rw [e8]
        obtain ⟨one, hone, rfl⟩ := map_at hv
        have oneF := rd.ro one (List.mem_of_getElem? hone)
        obtain ⟨w1, w2, w3'⟩ := rd.wf.at oneF
        have w3 : (wordAt F one).length ≤ F.length := w3'
        have efr := foldl_take (fun acc one => frR L F one acc) [] hone
        rw [← ea] at efr
        refine ⟨_, rfl, ?_⟩
        refine for_it (walk_str (z := "cfhkmsw")) (fun j σ G' => (∃ u8 u9 u10, σ = [some (.ref m.p), some (.str n), some (.str goal), some (.ref kp), some (.ref fd), some (.ref rl), some (.ref fa), some (.str one), u8, u9, u10]) ∧ Kept [fa] G6 G' ∧ ∃ acc', acc' = (letters7.take j).foldl (fun acc l => frO L F one l acc) acc ∧ G' fa = some (.dK acc') ∧ Fr h.st.names (F.length + 1) F acc')
          ⟨⟨_, _, _, rfl⟩, k7, acc, rfl, hacc, fra⟩ (fun _ _ _ _ _ => trivial) ?_ ?_
        · rintro j v σ G9 G10 hj ⟨⟨u8, u9, u10, rfl⟩, k9, acc', ea', hacc', fra'⟩ ⟨e10, ch, hc, rfl⟩
          rw [e10]
          have hlj := letter_str.2 j ch hc
          have lm := List.mem_of_getElem? hlj
          have efo := foldl_take (fun acc l => frO L F one l acc) acc hlj
          rw [← ea'] at efo
          refine ⟨_, rfl, _, rfl, _, rfl, kp, one, ⟨#[ch]⟩, h.land.size, h.st.names, L, rfl, lm, mk k9, fun pl G11 s11 hpl hp11 pz => ?_⟩
          have k11 : Kept [fa] G6 G11 := k9.same s11
          have npl : pl ≠ fa := fun e => by rw [e, hacc'] at hpl; cases hpl
          refine ⟨pl, rfl, ⟨_, SqL.of hp11⟩, ?_⟩
          refine for_it (walk_list (K := K) (a := pl) (xs := (calledOnce L one ⟨#[ch]⟩).map V.str)) (fun t σ G' => (∃ u9 u10, σ = [some (.ref m.p), some (.str n), some (.str goal), some (.ref kp), some (.ref fd), some (.ref rl), some (.ref fa), some (.str one), some (.str ⟨#[ch]⟩), u9, u10]) ∧ Kept [fa] G6 G' ∧ G' pl = some (.lst ((calledOnce L one ⟨#[ch]⟩).map V.str)) ∧ ∃ ac, ac = ((calledOnce L one ⟨#[ch]⟩).take t).foldl (fr1 F one ⟨#[ch]⟩) acc' ∧ G' fa = some (.dK ac) ∧ Fr h.st.names (F.length + 1) F ac)
            ⟨⟨_, _, rfl⟩, k11, hp11, acc', rfl, s11 _ _ hacc', fra'⟩ (fun t σ G' _ p => SqL.of p.2.2.1) ?_ ?_
          · rintro t v σ G12 G13 ht ⟨⟨u9, u10, rfl⟩, k12, hp12, ac, eac, hac, frac⟩ ⟨e13, hv⟩
            rw [e13]
            obtain ⟨other, hot, rfl⟩ := map_at hv
            have otN := once_mem hf (List.mem_of_getElem? hot)
            have ef1 := foldl_take (fr1 F one ⟨#[ch]⟩) acc' hot
            rw [← eac] at ef1
            have l1 : (⟨#[ch]⟩ : Str).length = 1 := rfl
            have Fz : F.length ≤ h.st.names.length := rd.wf.len
            have acz : ac.length ≤ h.st.names.length := frac.wf.len
            refine ⟨_, rfl, _, rfl, fd, _, rfl, w1 ▸ DGet.k (k := .inr one) (mF k12), _, rfl, _, _, rfl, rfl, Nat.le_trans (show _ ≤ 100001 by rw [l1]; have := w3; show (wordAt F one).length + 1 ≤ 100001; omega) (by decide), ?_⟩
            have wl : (wordAt F one ++ ⟨#[ch]⟩).length ≤ F.length + 1 := by rw [app_len, l1]; omega
            refine ⟨fun b G' => b = decide ((valV F (.inr other)).isSome = false ∧ ((valV ac (.inr other)).isSome = false ∨ (wordAt F one ++ ⟨#[ch]⟩).cps.toList < (wordAt ac other).cps.toList)) ∧ G' = G12, ?_, ?_⟩
            · refine ⟨_, rfl, _, rfl, fd, _, rfl, DGet.k (k := .inr other) (mF k12), _, rfl, iteB (fun c1 => ?_) (fun c1 => ⟨?_, rfl⟩)⟩
              · have f1 : (valV F (.inr other)).isSome = false := by simpa using c1
                refine ⟨_, rfl, _, rfl, fa, _, rfl, DGet.k (k := .inr other) hac, _, rfl, iteB (fun c2 => ⟨?_, rfl⟩) (fun c2 => ?_)⟩
                · have f2 : (valV ac (.inr other)).isSome = false := by simpa using c2
                  exact (decide_eq_true ⟨f1, .inl f2⟩).symm
                · have f2 : (valV ac (.inr other)).isSome = true := by simpa using c2
                  obtain ⟨x1, x2, x3⟩ := frac.wf.at f2
                  refine ⟨_, rfl, _, rfl, _, rfl, fa, _, rfl, x1 ▸ DGet.k (k := .inr other) hac, _, _, rfl, rfl, _, rfl, ?_, rfl⟩
                  by_cases c3 : (wordAt F one ++ ⟨#[ch]⟩).cps.toList < (wordAt ac other).cps.toList
                  · rw [decide_eq_true c3]; exact (decide_eq_true ⟨f1, .inr c3⟩).symm
                  · rw [decide_eq_false c3]
                    exact (decide_eq_false fun e => e.2.elim (fun e => by rw [f2] at e; cases e) c3).symm
              · have f1 : (valV F (.inr other)).isSome = true := by simpa using c1
                exact (decide_eq_false fun e => by rw [f1] at e; cases e.1).symm
            · rintro b G' ⟨rfl, rfl⟩
              refine iteB (fun c => ?_) (fun c => ?_)
              · have ec := eqT c
                have e1 : fr1 F one ⟨#[ch]⟩ ac other = putK ac (.inr other) (.str (wordAt F one ++ ⟨#[ch]⟩)) := by unfold fr1; exact if_pos ec
                refine ⟨_, rfl, _, rfl, _, rfl, fa, _, rfl, DPut.k (k := .inr other) hac (smallL (by omega)), ⟨_, _, rfl⟩, k12.upd (by simp), ?_, _, (ef1.trans e1).symm, upd_same, ?_⟩
                · rw [upd_ne npl]; exact hp12
                · rw [← e1]; exact fr1_ok frac otN wl
              · have ec := eqF c
                have e1 : fr1 F one ⟨#[ch]⟩ ac other = ac := by unfold fr1; exact if_neg ec
                exact ⟨⟨_, _, rfl⟩, k12, hp12, ac, (ef1.trans e1).symm, hac, frac⟩
          · rintro σ G12 ⟨⟨u9, u10, rfl⟩, k12, hp12, ac, eac, hac, frac⟩
            rw [List.length_map, List.take_length] at eac
            exact ⟨⟨_, _, _, rfl⟩, k12, ac, by rw [efo]; exact eac, hac, frac⟩
        · rintro σ G9 ⟨⟨u8, u9, u10, rfl⟩, k9, acc', ea', hacc', fra'⟩
          rw [letter_str.1] at ea'
          exact ⟨⟨_, _, _, _, rfl⟩, k9, acc', by rw [efr]; exact ea', hacc', fra'⟩
      · rintro σ G7 ⟨⟨u7, u8, u9, u10, rfl⟩, k7, acc, ea, hacc, fra⟩
        rw [List.length_map, List.take_length] at ea
        have ea : acc = fresh L F Rw := ea
        subst ea
        have Fz : F.length ≤ h.st.names.length := rd.wf.len
        have fz : (fresh L F Rw).length ≤ h.st.names.length := fra.wf.len
        refine ⟨_, rfl, .inr (.inr (.inl ⟨rfl, .inl ⟨_, mF k7⟩⟩)), _, rfl, fd, fa, _, _, rfl, rfl, nfa, mF k7, hacc, Nat.le_trans (show _ ≤ 300000 by omega) (by decide), ?_⟩
        have kk : Kept [fd] G7 (upd G7 fd (.dK (mergeK F (fresh L F Rw)))) := (Kept.refl _ _).upd (by simp)
        have hF8 : upd G7 fd (.dK (mergeK F (fresh L F Rw))) fd = some (.dK (mergeK F (fresh L F Rw))) := upd_same
        have hA8 : upd G7 fd (.dK (mergeK F (fresh L F Rw))) fa = some (.dK (fresh L F Rw)) := by rw [upd_ne (Ne.symm nfa)]; exact hacc
        have sH8 : Same H (upd G7 fd (.dK (mergeK F (fresh L F Rw)))) := same_mut (mH k7) hfd0
        have RG8 : Rows (upd G7 fd (.dK (mergeK F (fresh L F Rw)))) kp h.land.size h.st.names L := (mk k7).keep kk fun x hx => by rw [List.mem_singleton.mp hx]; exact ⟨_, mF k7⟩
        generalize upd G7 fd (.dK (mergeK F (fresh L F Rw))) = G8 at hF8 hA8 sH8 RG8 ⊢
        refine ⟨_, rfl, fa, _, rfl, .inl hA8, fun rl' hrl' => ?_⟩
        have s9 := same_new (o := .lst ((fresh L F Rw).map fun kv => kV kv.1)) hrl'
        have ek : (fresh L F Rw).map (fun kv => kV kv.1) = ((fresh L F Rw).map fun p => kS p.1).map V.str := by
          rw [List.map_map]
          refine List.map_congr_left fun p hp => ?_
          obtain ⟨x, y, rfl, _, _⟩ := fra.wf.ok p hp
          rfl
        exact ⟨_, _, rl', _, _, _, _, _, rfl, sH8.trans s9, RG8.same s9, s9 _ _ hF8, by rw [← ek]; exact upd_same, rfl⟩
    · have yc : Rw = [] ∨ (valV F (.inr goal)).isSome = true := by
        cases q : decide (Rw = [] ∨ (valV F (.inr goal)).isSome = true) with
        | true => exact eqT q
        | false => rw [q] at c; cases c
      have hs : roadStep L goal (F, Rw) = none := by unfold roadStep; rw [if_pos yc]
      rw [iter_none hs] at ei
      rw [← ei] at q1
      have Fz : F.length ≤ h.st.names.length := rd.wf.len
      refine ⟨_, rfl, _, rfl, fd, _, rfl, DGet.k (k := .inr goal) F1, _, rfl, iteB (fun c1 => ?_) (fun c1 => ?_)⟩
      · obtain ⟨w1, w2, w3⟩ := rd.wf.at c1
        rw [if_pos c1] at q1
        refine ⟨_, rfl, _, rfl, fd, _, rfl, w1 ▸ DGet.k (k := .inr goal) F1, ?_⟩
        exact q1 (fun x hx => by
          have e : wordAt F goal = x := Option.some.inj hx
          have w4 : (wordAt F goal).length ≤ F.length := w3
          rw [← e]; omega) _ (sG.trans sG1)
      · rw [if_neg (by rw [c1]; decide)] at q1
        exact q1 (fun x hx => by cases hx) _ (sG.trans sG1)
end
end Kin
set_option maxHeartbeats 4000000
/-! K37: notes: figures_of, number_in, turn_in (of words of figures). -/
namespace Kin
open PySem L2
/-- a word of one to nine figures -/
structure FigW (x : Str) : Prop where
  dg : ∀ c ∈ x.cps.toList, 48 ≤ c ∧ c ≤ 57
  ne : x.cps.toList ≠ []
  l9 : x.length ≤ 9
def numOf (x : Str) : Nat := NumText.digitsVal x.cps.toList
def digs (x : Str) : List Int := x.cps.toList.map fun c : Nat => ((c - 48 : Nat) : Int)
theorem fig_int {x : Str} (f : FigW x) : intText? x = some ((numOf x : Nat) : Int) := intText_digits (fun c hc => by have := f.dg c hc; exact this) f.ne (Nat.le_trans f.l9 (by decide))
theorem fig_one {c : Nat} (h : 48 ≤ c ∧ c ≤ 57) : intText? ⟨#[c]⟩ = some (((c - 48 : Nat)) : Int) := by
  have e := fig_int (x := ⟨#[c]⟩) ⟨fun d hd => by
    have : d = c := by simpa using hd
    rw [this]; exact h, by simp, by show 1 ≤ 9; decide⟩
  rw [e]
  have hc : c = 48 ∨ c = 49 ∨ c = 50 ∨ c = 51 ∨ c = 52 ∨ c = 53 ∨ c = 54 ∨ c = 55 ∨ c = 56 ∨ c = 57 := by omega
  rcases hc with rfl | rfl | rfl | rfl | rfl | rfl | rfl | rfl | rfl | rfl <;> decide +kernel
theorem fig_sign : ∀ c, 48 ≤ c → c ≤ 57 → c ∈ ("0123456789" : Str).cps.toList := by
  intro c h1 h2
  have hc : c = 48 ∨ c = 49 ∨ c = 50 ∨ c = 51 ∨ c = 52 ∨ c = 53 ∨ c = 54 ∨ c = 55 ∨ c = 56 ∨ c = 57 := by omega
  rcases hc with rfl | rfl | rfl | rfl | rfl | rfl | rfl | rfl | rfl | rfl <;> decide +kernel
section
variable {P : Program} {w : World} {K : PySem.W.Frag} {mg : Str → Option Value} {g : Str → Addr} {mt : Str → Str → Addr} {base : Heap}
def spNumIn : Sp := fun vs H Q _ => ∃ x : Str, vs = [.str x] ∧ FigW x ∧ Q (.int (numOf x : Nat)) H
theorem ok_number_in (T : Txt w K mg g mt) : GF P w K mg base CX0 1 "number_in" spNumIn := by
  refine gf0 (F_number_in T) (T.glo _ (by decide +kernel)) sc_number_in (fun vs H Q E h => ?_) fun cdv A outer s H vs Q E hr h => ?_
  · obtain ⟨x, rfl, _⟩ := h; rfl
  · obtain ⟨x, rfl, fx, k⟩ := h
    have nd := sc_number_in.nd
    have fL : mg "len" = none := T.free _ (by decide +kernel)
    have fI : mg "int" = none := T.free _ (by decide +kernel)
    obtain ⟨t1, i1⟩ := T.iFig
    obtain ⟨t2, i2⟩ := T.sFig
    refine ⟨_, pss_cons (ps_if (PW.pt (pw_or (pt_cmpR op_eq (pv 0) pe_str (nomark _)) (pw_or1 (pt_cmpR op_gt (pe_callB call_len_str (by rfl) fL PySem.boot_len (pa_cons (pv 0) pa_nil)) (pe_glob (v := .int 9) rfl i1 ⟨_, rfl⟩) (nomark _))))) (pss_one ps_never) pss_nil)
      (pss_cons (ps_for PassesOwn.never rfl (pi_str (pv 0)) (pg_name (i := 1) nd rfl (.inl rfl)) (pss_one (ps_if (pt_cmpR op_notIn_sign (pv 1) (pe_glob (v := .str "0123456789") rfl i2 ⟨_, rfl⟩) rfl) (pss_one ps_never) pss_nil)))
      (pss_one (ps_ret (pe_callTy call_int_str (by rfl) fI (by decide +kernel) (pa_cons (pv 0) pa_nil))))), ?_⟩
    have l9 := fx.l9
    refine ⟨_, rfl, rfl, _, rfl, iteB (fun c => ?_) (fun _ => ?_)⟩
    · have e := vstr (eqT c)
      subst e
      exact absurd rfl fx.ne
    refine ⟨_, rfl, x, rfl, Nat.le_trans l9 (by decide), _, _, rfl, rfl, _, rfl, iteB (fun c => ?_) (fun _ => ?_)⟩
    · have := eqT c
      omega
    refine ⟨_, rfl, x, rfl, ?_⟩
    refine for_it (walk_str (z := x)) (fun i σ H2 => (∃ u, σ = [some (.str x), u]) ∧ H2 = H) ⟨⟨none, rfl⟩, rfl⟩ (fun _ _ _ _ _ => trivial) ?_ ?_
    · rintro i v σ H2 H3 hi ⟨⟨u, rfl⟩, rfl⟩ ⟨e3, c, hc, rfl⟩
      rw [e3]
      have hm : c ∈ x.cps.toList := List.mem_of_getElem? (i := i) (by rw [Array.getElem?_toList]; exact hc)
      have r := fx.dg c hm
      refine ⟨_, rfl, c, _, rfl, rfl, _, rfl, ?_⟩
      rw [decide_eq_true (fig_sign c r.1 r.2)]
      exact iteB (fun c => by cases c) (fun _ => ⟨⟨_, rfl⟩, rfl⟩)
    · rintro σ H2 ⟨⟨u, rfl⟩, rfl⟩
      exact ⟨_, rfl, x, _, rfl, fig_int fx, by show x.length ≤ 640; omega, k⟩
def spTurnIn : Sp := fun vs H Q _ => ∃ x : Str, vs = [.str x] ∧ FigW x ∧ ∀ p H', Same H H' → H p = none → H' p = some (ti (digs x)) → Q (.ref p) H'
theorem ok_turn_in (T : Txt w K mg g mt) : GF P w K mg base CX0 2 "turn_in" spTurnIn := by
  refine gf0 (F_turn_in T) (T.glo _ (by decide +kernel)) sc_turn_in (fun vs H Q E h => ?_) fun cdv A outer s H vs Q E hr h => ?_
  · obtain ⟨x, rfl, _⟩ := h; rfl
  · obtain ⟨x, rfl, fx, k⟩ := h
    have nd := sc_turn_in.nd
    have fI : mg "int" = none := T.free _ (by decide +kernel)
    have fT : mg "tuple" = none := T.free _ (by decide +kernel)
    have Ni := ok_number_in (P := P) (base := base) T
    refine ⟨_, pss_cons (ps_expr (pe_gf Ni hr pass0 (pa_cons (pv 0) pa_nil)))
      (pss_one (ps_ret (pe_callTy call_tuple_of (by rfl) fT PyProof.Rows.boot_tuple (pa_cons
        (pe_lc (own := [("sign", 1)]) (g := gName 1) (tt := tYes) rfl nd (pi_str (pv 0)) (blkOk_by (N := ["word", "sign"]) (sc := defScope s_turn_in) (by decide +kernel)) (fun _ _ _ _ _ => pg_name (i := 1) nd rfl (Or.inl rfl)) (fun _ _ _ _ _ => pts_nil)
          (fun _ _ _ _ _ => pe_callTy call_int_str (by rfl) fI (by decide +kernel) (pa_cons (pv 1) pa_nil))) pa_nil)))), ?_⟩
    have l9 := fx.l9
    refine ⟨_, rfl, x, rfl, fx, ?_⟩
    refine ⟨_, rfl, x, rfl, fun D hD => lc_pure (walk_str (z := x)) (fun i => [.int ((x.cps.toList.getD i 0 - 48 : Nat) : Int)]) hD (by have := len_cps x; omega) (fun _ _ => trivial) ?_ ?_⟩
    · rintro i v H1 H2 hi s1 ⟨rfl, c, hc, rfl⟩ Qe Qn qe qn
      have hc' : x.cps.toList[i]? = some c := by rw [Array.getElem?_toList]; exact hc
      have r := fx.dg c (List.mem_of_getElem? hc')
      rw [getD_of hc'] at qe
      refine ⟨rfl, yesT ?_⟩
      exact ⟨_, rfl, ⟨#[c]⟩, _, rfl, fig_one r, by show 1 ≤ 640; decide, qe _ _ (Same.refl _) rfl⟩
    · intro H1 s1 hl
      have el : x.cps.size = x.cps.toList.length := by rw [Array.length_toList]
      rw [el, outs_all (xs := x.cps.toList) _ (fun c : Nat => V.int ((c - 48 : Nat) : Int)) (fun i c hc => by rw [getD_of hc])] at hl
      have e : x.cps.toList.map (fun c : Nat => V.int ((c - 48 : Nat) : Int)) = (digs x).map V.int := by unfold digs; rw [List.map_map]; rfl
      rw [e] at hl
      exact ⟨D, _, rfl, .inl ⟨SqL.of hl, nu fun p H2 hp s2 h2 => k p H2 (s1.trans s2) (s1.free hp) h2⟩⟩
end
end Kin
set_option maxHeartbeats 4000000
/-! K38: figures_of. -/
namespace Kin
open PySem L2
def istr (i : Int) : Str := Str.ofString (toString i)
def figs (xs : List Int) : Str := Txt.join "" (xs.map istr)
theorem istr_len {i : Int} (h0 : 0 ≤ i) (h1 : i < 10) : (istr i).length = 1 := by
  have hc : i = 0 ∨ i = 1 ∨ i = 2 ∨ i = 3 ∨ i = 4 ∨ i = 5 ∨ i = 6 ∨ i = 7 ∨ i = 8 ∨ i = 9 := by omega
  rcases hc with rfl | rfl | rfl | rfl | rfl | rfl | rfl | rfl | rfl | rfl <;> decide +kernel
theorem sum_ones : ∀ {xs : List Int}, (∀ x ∈ xs, 0 ≤ x ∧ x < 10) → ((xs.map istr).map (·.length)).sum = xs.length
  | [], _ => rfl
  | x :: r, h => by
    have := sum_ones (xs := r) fun y hy => h y (List.mem_cons_of_mem _ hy)
    have hx := h x (List.mem_cons_self ..)
    simp only [List.map_cons, List.sum_cons, List.length_cons]
    rw [this, istr_len hx.1 hx.2]
    omega
section
variable {P : Program} {w : World} {K : PySem.W.Frag} {mg : Str → Option Value} {g : Str → Addr} {mt : Str → Str → Addr} {base : Heap}
def spFigs : Sp := fun vs H Q _ => ∃ (t : Addr) (xs : List Int), vs = [.ref t] ∧ H t = some (li xs) ∧ xs.length ≤ 9 ∧ (∀ x ∈ xs, 0 ≤ x ∧ x < 10) ∧ ∀ H', Same H H' → Q (.str (figs xs)) H'
theorem ok_figures_of (T : Txt w K mg g mt) : GF P w K mg base CX0 1 "figures_of" spFigs := by
  refine gf0 (F_figures_of T) (T.glo _ (by decide +kernel)) sc_figures_of (fun vs H Q E h => ?_) fun cdv A outer s H vs Q E hr h => ?_
  · obtain ⟨t, xs, rfl, _⟩ := h; rfl
  · obtain ⟨t, xs, rfl, ht, hz, hx, k⟩ := h
    have nd := sc_figures_of.nd
    have fS : mg "str" = none := T.free _ (by decide +kernel)
    refine ⟨_, pss_one (ps_ret (pe_join pe_str (pe_lc (own := [("one", 1)]) (g := gName 1) (tt := tYes) rfl nd (pi_list (pv 0)) (blkOk_by (N := ["turn", "one"]) (sc := defScope s_figures_of) (by decide +kernel)) (fun _ _ _ _ _ => pg_name (i := 1) nd rfl (Or.inl rfl)) (fun _ _ _ _ _ => pts_nil)
          (fun _ _ _ _ _ => pe_callTy call_str_int (by rfl) fS (by decide +kernel) (pa_cons (pv 1) pa_nil))))), ?_⟩
    refine ⟨⟨_, rfl⟩, _, rfl, t, rfl, ⟨_, SqL.of ht⟩, fun D hD => lc_pure (walk_list (K := K) (a := t) (xs := xs.map V.int)) (fun i => [.str (istr (xs.getD i 0))]) hD (by rw [List.length_map]; omega) (fun H1 s1 => SqL.of (s1 _ _ ht)) ?_ ?_⟩
    · rintro i v H1 H2 hi s1 ⟨rfl, hv⟩ Qe Qn qe qn
      obtain ⟨z, hz, rfl⟩ := map_at hv
      rw [getD_of hz] at qe
      have r := hx z (List.mem_of_getElem? hz)
      refine ⟨rfl, yesT ?_⟩
      refine ⟨_, rfl, z, rfl, ?_, qe _ _ (Same.refl _) rfl⟩
      have : z.natAbs < 10 := by omega
      exact Nat.lt_of_le_of_lt (Nat.log2_le_self _) (by omega)
    · intro H1 s1 hl
      rw [List.length_map, outs_all (xs := xs) _ (fun x => V.str (istr x)) (fun i x hx => by rw [getD_of hx])] at hl
      have e : xs.map (fun x => V.str (istr x)) = (xs.map istr).map V.str := by rw [List.map_map]; rfl
      rw [e] at hl
      refine ⟨_, D, xs.map istr, rfl, rfl, .inl (SqL.of hl), ?_, k H1 s1⟩
      rw [sum_ones hx, List.length_map]
      have : (("" : Str)).length = 0 := rfl
      rw [this]
      omega
end
end Kin
set_option maxHeartbeats 4000000
/-! K40: the desk, the plain part: commands, states, a log told again. -/
namespace Kin
open PySem L2
inductive Cmd where
  | opn (h m w : Str)
  | person (s h n : Str)
  | tie (k h a b : Str)
  | said (h n z : Str)
  | take (h z : Str)
  | undo (h : Str)
  | redo (h : Str)
  | join (h a b : Str)
  | who (h n : Str)
  | count (h : Str)
  | road (h a b : Str)
def Cmd.words : Cmd → List Str
  | .opn h m w => ["open", h, m, w]
  | .person s h n => [s, h, n]
  | .tie k h a b => [k, h, a, b]
  | .said h n z => ["said", h, n, z]
  | .take h z => ["take", h, z]
  | .undo h => ["undo", h]
  | .redo h => ["redo", h]
  | .join h a b => ["join", h, a, b, "none"]
  | .who h n => ["who", h, n]
  | .count h => ["count", h]
  | .road h a b => ["road", h, a, b]
def Cmd.ask : Cmd → Bool
  | .who _ _ => true
  | .count _ => true
  | .road _ _ _ => true
  | _ => false
def Cmd.row (c : Cmd) : Str := Txt.join " " c.words
structure DS where
  books : List (Str × HS)
  rows : List Str
def bookAt (D : DS) (h : Str) : Option HS := (D.books.find? fun q => decide (q.1 = h)).map (·.2)
def setB (D : DS) (h : Str) (b : HS) : DS := ⟨D.books.map fun q => if q.1 = h then (h, b) else q, D.rows⟩
def newB (D : DS) (h : Str) (b : HS) : DS := ⟨D.books ++ [(h, b)], D.rows⟩
/-- a deed in the book h -/
def deed (D : DS) (h : Str) (f : HS → Except Str (HS × Str)) : Except Str (DS × Str) := match bookAt D h with
  | none => .error "no book"
  | some b => match f b with
    | .error e => .error e
    | .ok (b', a) => .ok (setB D h b', a)
def askB (D : DS) (h : Str) (f : HS → Except Str Str) : Except Str (DS × Str) := match bookAt D h with
  | none => .error "no book"
  | some b => match f b with
    | .error e => .error e
    | .ok a => .ok (D, a)
def okA (x : Except Str HS) : Except Str (HS × Str) := match x with
  | .ok h => .ok (h, "ok")
  | .error e => .error e
def kept (h : HS) (x : Except Str HS) : Except Str (HS × Str) := match x with
  | .ok h' => .ok (h', "kept " ++ istr h.st.after)
  | .error e => .error e
def freeB (D : DS) (h : Str) : Option Str := if isName h = false then some "no name" else if (bookAt D h).isSome = true then some "name taken" else none
noncomputable def exec (D : DS) : Cmd → Except Str (DS × Str)
  | .opn h m w => match freeB D h with
    | some e => .error e
    | none => match landOf (digs m) (digs w) with
      | .error e => .error e
      | .ok L => .ok (newB D h (newH L), "ok")
  | .person s h n => deed D h fun b => okA (personH b n s)
  | .tie k h a b => deed D h fun x => kept x (tieH x k a b)
  | .said h n z => deed D h fun x => kept x (sayH x n (numOf z : Nat))
  | .take h z => deed D h fun x => okA (takeH x (numOf z : Nat))
  | .undo h => deed D h fun x => okA (undoH x)
  | .redo h => deed D h fun x => okA (redoH x)
  | .join h a b => match bookAt D a with
    | none => .error "no book"
    | some x => match bookAt D b with
      | none => .error "no book"
      | some y => match freeB D h with
        | some e => .error e
        | none => match joinH x y with
          | .error e => .error e
          | .ok z => .ok (newB D h z, "ok")
  | .who h n => askB D h fun x => match whoH x n with
    | .ok xs => .ok (figs xs)
    | .error e => .error e
  | .count h => askB D h fun x => .ok (istr (dealt x.joins))
  | .road h a b => askB D h fun x => match roadH x a b with
    | .ok none => .ok "-"
    | .ok (some r) => .ok ("." ++ r)
    | .error e => .error e
/-- what the row of c does and answers -/
noncomputable def runD (D : DS) (c : Cmd) : DS × Str := match exec D c with
  | .error e => (D, "refused " ++ e)
  | .ok (D', a) => if c.ask = true then (D', a) else (⟨D'.books, D'.rows ++ [c.row]⟩, a)
/-- done and logged -/
noncomputable def logs (D : DS) (c : Cmd) : Bool := match exec D c with
  | .error _ => false
  | .ok _ => !c.ask
theorem deed_rows {D D' : DS} {h a : Str} {f : HS → Except Str (HS × Str)} (e : deed D h f = .ok (D', a)) : D'.rows = D.rows := by
  unfold deed at e
  split at e
  · cases e
  · split at e
    · cases e
    · cases e; rfl
theorem ask_same {D D' : DS} {h a : Str} {f : HS → Except Str Str} (e : askB D h f = .ok (D', a)) : D' = D := by
  unfold askB at e
  split at e
  · cases e
  · split at e
    · cases e
    · cases e; rfl
theorem exec_ask {D D' : DS} {c : Cmd} {a : Str} (e : exec D c = .ok (D', a)) (h : c.ask = true) : D' = D := by
  cases c with
  | who => simp only [exec] at e; exact ask_same e
  | count => simp only [exec] at e; exact ask_same e
  | road => simp only [exec] at e; exact ask_same e
  | _ => cases h
theorem exec_rows {D D' : DS} {c : Cmd} {a : Str} (e : exec D c = .ok (D', a)) : D'.rows = D.rows := by
  cases c with
  | opn h m w =>
    simp only [exec] at e
    split at e
    · cases e
    · split at e
      · cases e
      · cases e; rfl
  | join h x y =>
    simp only [exec] at e
    split at e
    · cases e
    · split at e
      · cases e
      · split at e
        · cases e
        · split at e
          · cases e
          · cases e; rfl
  | who => simp only [exec] at e; rw [ask_same e]
  | count => simp only [exec] at e; rw [ask_same e]
  | road => simp only [exec] at e; rw [ask_same e]
  | person => simp only [exec] at e; exact deed_rows e
  | tie => simp only [exec] at e; exact deed_rows e
  | said => simp only [exec] at e; exact deed_rows e
  | take => simp only [exec] at e; exact deed_rows e
  | undo => simp only [exec] at e; exact deed_rows e
  | redo => simp only [exec] at e; exact deed_rows e
/-- a row that is not logged leaves the desk as it was -/
theorem run_not {D : DS} {c : Cmd} (h : logs D c = false) : (runD D c).1 = D := by
  unfold logs at h
  unfold runD
  cases e : exec D c with
  | error => rfl
  | ok p =>
    obtain ⟨D', a⟩ := p
    rw [e] at h
    have ha : c.ask = true := by simpa using h
    show (if c.ask = true then ((D', a) : DS × Str) else _).1 = D
    rw [if_pos ha]
    exact exec_ask e ha
theorem run_log {D : DS} {c : Cmd} (h : logs D c = true) : (runD D c).1.rows = D.rows ++ [c.row] := by
  unfold logs at h
  unfold runD
  cases e : exec D c with
  | error => rw [e] at h; cases h
  | ok p =>
    obtain ⟨D', a⟩ := p
    rw [e] at h
    have ha : ¬ c.ask = true := by simpa using h
    show (if c.ask = true then ((D', a) : DS × Str) else (⟨D'.books, D'.rows ++ [c.row]⟩, a)).1.rows = _
    rw [if_neg ha]
    show D'.rows ++ [c.row] = _
    rw [exec_rows e]
/-- the rows told: the state, and what was logged with its answers -/
noncomputable def tell (D : DS) : List Cmd → DS × List (Cmd × Str)
  | [] => (D, [])
  | c :: r => let p := tell (runD D c).1 r
    (p.1, if logs D c = true then (c, (runD D c).2) :: p.2 else p.2)
/-- a log told again: the same state, the same answers -/
theorem tell_again : ∀ (cs : List Cmd) (D : DS), tell D ((tell D cs).2.map (·.1)) = tell D cs
  | [], D => rfl
  | c :: r, D => by
    have ih := tell_again r (runD D c).1
    cases h : logs D c with
    | false =>
      have e : (runD D c).1 = D := run_not h
      have e2 : tell D (c :: r) = tell D r := by
        show ((tell (runD D c).1 r).1, if logs D c = true then _ else (tell (runD D c).1 r).2) = _
        rw [h, e]; rfl
      rw [e2]
      rw [e] at ih
      exact ih
    | true =>
      have e2 : tell D (c :: r) = ((tell (runD D c).1 r).1, (c, (runD D c).2) :: (tell (runD D c).1 r).2) := by
        show ((tell (runD D c).1 r).1, if logs D c = true then _ else (tell (runD D c).1 r).2) = _
        rw [h, if_pos rfl]
      rw [e2]
      show ((tell (runD D c).1 ((tell (runD D c).1 r).2.map (·.1))).1, if logs D c = true then (c, (runD D c).2) :: (tell (runD D c).1 ((tell (runD D c).1 r).2.map (·.1))).2 else _) = _
      rw [h, if_pos rfl, ih]
end Kin
set_option maxHeartbeats 4000000
/-! K41: the desk's books in order (bounds). -/
namespace Kin
open PySem L2
theorem join_parts {a b h' : HS} (e : joinH a b = .ok h') : (a.land.mother = b.land.mother ∧ a.land.father = b.land.father ∧ a.land.wife = b.land.wife) ∧ ∃ h1 h2 h3 h4, each (fun h n => personH h n (sideOf a n)) a.st.names (newH a.land) = .ok h1 ∧ each (fun h n => personH h n (sideOf b n)) b.st.names h1 = .ok h2 ∧ each putF1 (keptL a.st) h2 = .ok h3 ∧ each putF1 (keptL b.st) h3 = .ok h4 ∧ h' = ⟨h4.land, h4.st, h4.place, h4.joins, [], []⟩ := by
  unfold joinH at e
  split at e
  · rename_i c
    refine ⟨c, ?_⟩
    split at e
    · cases e
    · rename_i h1 e1
      split at e
      · cases e
      · rename_i h2 e2
        split at e
        · cases e
        · rename_i h3 e3
          split at e
          · cases e
          · rename_i h4 e4
            cases e
            exact ⟨h1, h2, h3, h4, e1, e2, e3, e4, rfl⟩
  · cases e
theorem joinH_ok {N : Nat} {a b h' : HS} (oa : HOk N a) (ob : HOk N b) (e : joinH a b = .ok h') : HOk (4 * N) h' := by
  obtain ⟨lc, h1, h2, h3, h4, e1, e2, e3, e4, rfl⟩ := join_parts e
  have size_eq : b.land.size = a.land.size := by rw [← oa.lo.m.len, ← ob.lo.m.len, lc.1]
  have f1 : HOk (0 + a.st.names.length) h1 ∧ h1.land = a.land := each_ok (P := fun N h => HOk N h ∧ h.land = a.land) (fun N h h' x hx p e => ⟨personH_ok p.1 (side_str oa.bo hx).2 e, (person_land e).trans p.2⟩) ⟨newH_ok oa.lo 0, rfl⟩ e1
  have f2 : HOk (0 + a.st.names.length + b.st.names.length) h2 ∧ h2.land = a.land := each_ok (P := fun N h => HOk N h ∧ h.land = a.land) (fun N h h' x hx p e => ⟨personH_ok p.1 (side_str ob.bo hx).2 e, (person_land e).trans p.2⟩) f1 e2
  have f3 : HOk (0 + a.st.names.length + b.st.names.length + (keptL a.st).length) h3 ∧ h3.land = a.land := each_ok (P := fun N h => HOk N h ∧ h.land = a.land) (fun N h h' x hx p e => let ⟨k1, k2⟩ := putF1_ok p.1 (kept_fo oa.bo x hx) e; ⟨k1, k2.trans p.2⟩) f2 e3
  have f4 : HOk (0 + a.st.names.length + b.st.names.length + (keptL a.st).length + (keptL b.st).length) h4 ∧ h4.land = a.land := each_ok (P := fun N h => HOk N h ∧ h.land = a.land) (fun N h h' x hx p e => let ⟨k1, k2⟩ := putF1_ok p.1 (kept_fo ob.bo x hx) e; ⟨k1, k2.trans p.2⟩) f3 e4
  have n1 := oa.bo.ln
  have n2 := ob.bo.ln
  have n3 := oa.bo.lf
  have n4 := ob.bo.lf
  have o := f4.1.mono (m' := 4 * N) (by rw [kept_len, kept_len]; omega)
  exact ⟨o.lo, o.bo, o.po, o.pm, o.jo, o.js, Nat.zero_le _, Nat.zero_le _, fun b h => by simp at h, fun b h => by simp at h⟩
/-- a command in order: deeds in the halls hs alone, joins of them into others -/
def Good (hs : List Str) : Cmd → Prop
  | .opn _ m w => FigW m ∧ FigW w
  | .person s h _ => Sx s ∧ h ∈ hs
  | .tie k h _ _ => IsTie k ∧ h ∈ hs
  | .said h _ z => h ∈ hs ∧ FigW z
  | .take h z => h ∈ hs ∧ FigW z
  | .undo h => h ∈ hs
  | .redo h => h ∈ hs
  | .join h a b => h ∉ hs ∧ a ∈ hs ∧ b ∈ hs
  | _ => True
structure DOk (hs : List Str) (r : Nat) (D : DS) : Prop where
  bo : ∀ q ∈ D.books, HOk (if q.1 ∈ hs then r else 4 * r) q.2
  nd : (D.books.map (·.1)).Nodup
theorem bookAt_mem {D : DS} {h : Str} {b : HS} (e : bookAt D h = some b) : (h, b) ∈ D.books := by
  unfold bookAt at e
  cases q : D.books.find? fun q => decide (q.1 = h) with
  | none => rw [q] at e; cases e
  | some p =>
    rw [q] at e
    have h1 := List.mem_of_find?_eq_some q
    have h3 := List.find?_some q
    have h2 : p.1 = h := of_decide_eq_true h3
    cases e
    rw [← h2]; exact h1
theorem bookAt_none {D : DS} {h : Str} (e : bookAt D h = none) : h ∉ D.books.map (·.1) := by
  unfold bookAt at e
  cases q : D.books.find? fun q => decide (q.1 = h) with
  | none =>
    rw [List.find?_eq_none] at q
    intro hm
    obtain ⟨p, hp, rfl⟩ := List.mem_map.mp hm
    exact q p hp (decide_eq_true rfl)
  | some p => rw [q] at e; cases e
theorem set_keys (D : DS) (h : Str) (b : HS) : (setB D h b).books.map (·.1) = D.books.map (·.1) := by
  show (D.books.map fun q => if q.1 = h then (h, b) else q).map (·.1) = _
  rw [List.map_map]
  refine List.map_congr_left fun q _ => ?_
  show (if q.1 = h then (h, b) else q).1 = q.1
  split
  · rename_i c; exact c.symm
  · rfl
theorem DOk.mono {hs : List Str} {r : Nat} {D : DS} (o : DOk hs r D) : DOk hs (r + 1) D :=
  ⟨fun q hq => (o.bo q hq).mono (by split <;> omega), o.nd⟩
theorem DOk.rows {hs : List Str} {r : Nat} {D : DS} (o : DOk hs r D) (rs : List Str) : DOk hs r ⟨D.books, rs⟩ := ⟨o.bo, o.nd⟩
theorem DOk.set {hs : List Str} {r : Nat} {D : DS} (o : DOk hs r D) {h : Str} {b : HS} (hh : h ∈ hs) (hb : HOk (r + 1) b) : DOk hs (r + 1) (setB D h b) := by
  refine ⟨fun q hq => ?_, by rw [set_keys]; exact o.nd⟩
  obtain ⟨p, hp, rfl⟩ := List.mem_map.mp hq
  by_cases c : p.1 = h
  · rw [if_pos c]
    show HOk (if h ∈ hs then r + 1 else _) b
    rw [if_pos hh]; exact hb
  · rw [if_neg c]; exact o.mono.bo p hp
theorem DOk.new {hs : List Str} {r : Nat} {D : DS} (o : DOk hs r D) {h : Str} {b : HS} (e : bookAt D h = none) (hb : HOk (if h ∈ hs then r + 1 else 4 * (r + 1)) b) : DOk hs (r + 1) (newB D h b) := by
  refine ⟨fun q hq => ?_, ?_⟩
  · rcases List.mem_append.mp hq with hq | hq
    · exact o.mono.bo q hq
    · rw [List.mem_singleton.mp hq]; exact hb
  · show ((D.books ++ [(h, b)]).map (·.1)).Nodup
    rw [List.map_append]
    refine List.nodup_append.mpr ⟨o.nd, by simp, fun x hx y hy c => ?_⟩
    rw [List.mem_singleton.mp hy] at c
    rw [c] at hx
    exact bookAt_none e hx
theorem free_none {D : DS} {h : Str} (e : freeB D h = none) : isName h = true ∧ bookAt D h = none := by
  unfold freeB at e
  split at e
  · cases e
  · rename_i c
    split at e
    · cases e
    · rename_i c2
      refine ⟨by simpa using c, ?_⟩
      cases q : bookAt D h with
      | none => rfl
      | some b => rw [q] at c2; exact absurd rfl c2
theorem deed_ok {hs : List Str} {r : Nat} {D D' : DS} {h a : Str} {f : HS → Except Str (HS × Str)} (o : DOk hs r D) (hh : h ∈ hs) (hf : ∀ b b' x, HOk r b → f b = .ok (b', x) → HOk (r + 1) b') (e : deed D h f = .ok (D', a)) : DOk hs (r + 1) D' := by
  unfold deed at e
  split at e
  · cases e
  · rename_i b hb
    split at e
    · cases e
    · rename_i b' x hx
      cases e
      have q := o.bo _ (bookAt_mem hb)
      rw [if_pos hh] at q
      exact o.set hh (hf b b' _ q hx)
theorem okA_ok {x : Except Str HS} {b : HS} {a : Str} (e : okA x = .ok (b, a)) : x = .ok b := by
  unfold okA at e
  split at e
  · cases e; rfl
  · cases e
theorem kept_ok2 {h : HS} {x : Except Str HS} {b : HS} {a : Str} (e : kept h x = .ok (b, a)) : x = .ok b := by
  unfold kept at e
  split at e
  · cases e; rfl
  · cases e
theorem exec_ok {hs : List Str} {r : Nat} {D D' : DS} {c : Cmd} {a : Str} (o : DOk hs r D) (g : Good hs c) (e : exec D c = .ok (D', a)) : DOk hs (r + 1) D' := by
  cases c with
  | opn h m w =>
    simp only [exec] at e
    split at e
    · cases e
    · rename_i hf
      split at e
      · cases e
      · rename_i L hL
        cases e
        exact o.new (free_none hf).2 (newH_ok (landOf_ok hL) _)
  | join h x y =>
    simp only [exec] at e
    split at e
    · cases e
    · rename_i bx hx
      split at e
      · cases e
      · rename_i by_ hy
        split at e
        · cases e
        · rename_i hf
          split at e
          · cases e
          · rename_i z hz
            cases e
            have q1 := o.bo _ (bookAt_mem hx)
            have q2 := o.bo _ (bookAt_mem hy)
            rw [if_pos g.2.1] at q1
            rw [if_pos g.2.2] at q2
            refine o.new (free_none hf).2 ?_
            rw [if_neg g.1]
            exact (joinH_ok q1 q2 hz).mono (by omega)
  | who => simp only [exec] at e; rw [ask_same e]; exact o.mono
  | count => simp only [exec] at e; rw [ask_same e]; exact o.mono
  | road => simp only [exec] at e; rw [ask_same e]; exact o.mono
  | person => simp only [exec] at e; exact deed_ok o g.2 (fun b b' x hb hx => personH_ok hb g.1 (okA_ok hx)) e
  | tie => simp only [exec] at e; exact deed_ok o g.2 (fun b b' x hb hx => tieH_ok hb g.1 (kept_ok2 hx)) e
  | said => simp only [exec] at e; exact deed_ok o g.1 (fun b b' x hb hx => sayH_ok hb (kept_ok2 hx)) e
  | take => simp only [exec] at e; exact deed_ok o g.1 (fun b b' x hb hx => takeH_ok hb (okA_ok hx)) e
  | undo => simp only [exec] at e; exact deed_ok o g (fun b b' x hb hx => undoH_ok hb (okA_ok hx)) e
  | redo => simp only [exec] at e; exact deed_ok o g (fun b b' x hb hx => redoH_ok hb (okA_ok hx)) e
theorem run_ok {hs : List Str} {r : Nat} {D : DS} {c : Cmd} (o : DOk hs r D) (g : Good hs c) : DOk hs (r + 1) (runD D c).1 := by
  unfold runD
  cases e : exec D c with
  | error => exact o.mono
  | ok p =>
    obtain ⟨D', a⟩ := p
    have q := exec_ok o g e
    show DOk hs (r + 1) (if c.ask = true then ((D', a) : DS × Str) else (⟨D'.books, D'.rows ++ [c.row]⟩, a)).1
    split
    · exact q
    · exact q.rows _
end Kin
set_option maxHeartbeats 4000000
/-! K42: a desk in the heap. -/
namespace Kin
open PySem L2
def kvB (ms : List HM) (bs : List (Str × HS)) : List (Key × V) := List.zipWith (fun m q => ((Sum.inr q.1 : Key), V.ref m.p)) ms bs
theorem kv_find (h : Str) : ∀ (ms : List HM) (bs : List (Str × HS)), ms.length = bs.length →
    ((bs.find? fun q => decide (q.1 = h)) = none → valV (kvB ms bs) (.inr h) = none) ∧
    (∀ q, (bs.find? fun q => decide (q.1 = h)) = some q → ∃ (i : Nat) (m : HM), ms[i]? = some m ∧ bs[i]? = some q ∧ valV (kvB ms bs) (.inr h) = some (.ref m.p))
  | [], [], _ => ⟨fun _ => rfl, fun q e => nomatch e⟩
  | [], b :: bs, e => nomatch e
  | m :: ms, [], e => nomatch e
  | m :: ms, b :: bs, e => by
    obtain ⟨i1, i2⟩ := kv_find h ms bs (by simpa using e)
    by_cases c : b.1 = h
    · have f : ((b :: bs).find? fun q => decide (q.1 = h)) = some b := by rw [List.find?_cons]; simp [c]
      refine ⟨fun n => (by rw [f] at n; cases n), fun q hq => ?_⟩
      rw [f] at hq; cases hq
      refine ⟨0, m, rfl, rfl, ?_⟩
      show valV ((Sum.inr b.1, V.ref m.p) :: kvB ms bs) (.inr h) = _
      exact valV_pos (p := (Sum.inr b.1, V.ref m.p)) (by rw [c])
    · have f : ((b :: bs).find? fun q => decide (q.1 = h)) = bs.find? fun q => decide (q.1 = h) := by rw [List.find?_cons]; simp [c]
      have v : valV (kvB (m :: ms) (b :: bs)) (.inr h) = valV (kvB ms bs) (.inr h) := valV_neg (p := ((Sum.inr b.1 : Key), V.ref m.p)) fun z => c (Sum.inr.inj z)
      rw [f, v]
      refine ⟨i1, fun q hq => ?_⟩
      obtain ⟨i, m', h1, h2, h3⟩ := i2 q hq
      exact ⟨i + 1, m', h1, h2, h3⟩
theorem kv_len {ms : List HM} {bs : List (Str × HS)} (h : ms.length = bs.length) : (kvB ms bs).length = bs.length := by
  unfold kvB; rw [List.length_zipWith, h, Nat.min_self]
theorem kv_snoc {ms : List HM} {bs : List (Str × HS)} (h : ms.length = bs.length) (m : HM) (q : Str × HS) : kvB (ms ++ [m]) (bs ++ [q]) = kvB ms bs ++ [((Sum.inr q.1 : Key), V.ref m.p)] := by
  unfold kvB
  rw [List.zipWith_append h]
  rfl
def foot (dk bd rl : Addr) (ms : List HM) : List Addr := [dk, bd, rl] ++ ms.flatMap HM.l
theorem foot_in {dk bd rl : Addr} {ms : List HM} {x : Addr} : x ∈ foot dk bd rl ms ↔ x ∈ [dk, bd, rl] ∨ ∃ (i : Nat) (m : HM), ms[i]? = some m ∧ x ∈ m.l := by
  unfold foot
  rw [List.mem_append, List.mem_flatMap]
  constructor
  · rintro (h | ⟨m, hm, hx⟩)
    · exact .inl h
    · obtain ⟨i, hi, e⟩ := List.getElem_of_mem hm
      exact .inr ⟨i, m, by rw [← e]; exact List.getElem?_eq_getElem hi, hx⟩
  · rintro (h | ⟨i, m, hm, hx⟩)
    · exact .inl h
    · exact .inr ⟨m, List.mem_of_getElem? hm, hx⟩
structure DA (g : Str → Addr) (Z H : Hp) (dk bd rl : Addr) (ms : List HM) (D : DS) : Prop where
  zs : Same Z H
  len : ms.length = D.books.length
  n0 : [dk, bd, rl].Nodup
  dj : ∀ (i j : Nat) mi mj, ms[i]? = some mi → ms[j]? = some mj → i ≠ j → ∀ x ∈ mi.l, x ∉ mj.l
  d0 : ∀ (i : Nat) mi, ms[i]? = some mi → ∀ x ∈ mi.l, x ∉ [dk, bd, rl]
  off : Off Z [dk, bd, rl]
  ob : ∃ dx, H dk = some (.ins (g "Desk") dx [("books", .ref bd), ("rows", .ref rl)])
  bk : H bd = some (.dK (kvB ms D.books))
  rw : H rl = some (.lst (D.rows.map V.str))
  ha : ∀ (i : Nat) m q, ms[i]? = some m → D.books[i]? = some q → HA g Z H m q.2
section
variable {g : Str → Addr} {Z Z' H H' : Hp} {dk bd rl : Addr} {ms : List HM} {D : DS}
theorem DA.book {i : Nat} {m : HM} (a : DA g Z H dk bd rl ms D) (h : ms[i]? = some m) : ∃ q, D.books[i]? = some q ∧ HA g Z H m q.2 := by
  have hi : i < D.books.length := by rw [← a.len]; exact (List.getElem?_eq_some_iff.mp h).1
  exact ⟨D.books[i], List.getElem?_eq_getElem hi, a.ha i m _ h (List.getElem?_eq_getElem hi)⟩
theorem DA.live (a : DA g Z H dk bd rl ms D) : Live H (foot dk bd rl ms) := fun x hx => by
  rcases foot_in.mp hx with h | ⟨i, m, hm, h⟩
  · obtain ⟨dx, ob⟩ := a.ob
    simp only [List.mem_cons, List.not_mem_nil, or_false] at h
    rcases h with rfl | rfl | rfl
    · exact ⟨_, ob⟩
    · exact ⟨_, a.bk⟩
    · exact ⟨_, a.rw⟩
  · obtain ⟨q, _, ha⟩ := a.book hm
    exact ha.live x h
theorem DA.offAll (a : DA g Z H dk bd rl ms D) : Off Z (foot dk bd rl ms) := fun x hx => by
  rcases foot_in.mp hx with h | ⟨i, m, hm, h⟩
  · exact a.off x h
  · obtain ⟨q, _, ha⟩ := a.book hm
    exact ha.off x h
/-- a step that leaves the desk alone -/
theorem DA.frame {M : List Addr} (a : DA g Z H dk bd rl ms D) (st : Step Z H M Z' H') (zs : Same Z' H') (d : ∀ x ∈ foot dk bd rl ms, x ∉ M) : DA g Z' H' dk bd rl ms D := by
  have in0 : ∀ x ∈ [dk, bd, rl], x ∈ foot dk bd rl ms := fun x hx => foot_in.mpr (.inl hx)
  have off' := st.off a.offAll a.live
  obtain ⟨dx, ob⟩ := a.ob
  exact ⟨zs, a.len, a.n0, a.dj, a.d0, fun x hx => off' x (in0 x hx), ⟨dx, st.kp _ _ ob (d _ (in0 _ (by simp)))⟩, st.kp _ _ a.bk (d _ (in0 _ (by simp))), st.kp _ _ a.rw (d _ (in0 _ (by simp))),
    fun i m q hm hq => (a.ha i m q hm hq).frame st zs fun x hx => d x (foot_in.mpr (.inr ⟨i, m, hm, hx⟩))⟩
theorem DA.same (a : DA g Z H dk bd rl ms D) (s : Same H H') : DA g Z H' dk bd rl ms D := a.frame (M := []) (Step.ofSame _ s) (a.zs.trans s) (fun _ _ => by simp)
/-- what a row does to the desk's heap -/
structure DNow (g : Str → Addr) (Z H : Hp) (dk bd rl : Addr) (ms : List HM) (Z' H' : Hp) (ms' : List HM) (D' : DS) : Prop where
  da : DA g Z' H' dk bd rl ms' D'
  st : Step Z H (foot dk bd rl ms) Z' H'
  mv : ∀ x ∈ foot dk bd rl ms', x ∈ foot dk bd rl ms ∨ H x = none
theorem DNow.refl (a : DA g Z H dk bd rl ms D) : DNow g Z H dk bd rl ms Z H ms D := ⟨a, Step.refl _ _ _, fun x hx => .inl hx⟩
theorem DNow.same {ms' : List HM} {D' : DS} {H2 : Hp} (n : DNow g Z H dk bd rl ms Z' H' ms' D') (s : Same H' H2) : DNow g Z H dk bd rl ms Z' H2 ms' D' := ⟨n.da.same s, n.st.same s, n.mv⟩
theorem DNow.trans {ms' ms2 : List HM} {D' D2 : DS} {Z2 H2 : Hp} (n : DNow g Z H dk bd rl ms Z' H' ms' D') (o : DNow g Z' H' dk bd rl ms' Z2 H2 ms2 D2) : DNow g Z H dk bd rl ms Z2 H2 ms2 D2 :=
  ⟨o.da, n.st.trans' o.st n.mv, fun x hx => by
    rcases o.mv x hx with q | q
    · exact n.mv x q
    · exact .inr (n.st.lv x q)⟩
end
end Kin
set_option maxHeartbeats 4000000
/-! K43: a desk's changes: a book's deed, a new book, a row logged. -/
namespace Kin
open PySem L2
theorem kv_set {ms : List HM} {bs : List (Str × HS)} {i : Nat} {m m' : HM} {h : Str} {b b' : HS} (nd : (bs.map (·.1)).Nodup) (hm : ms[i]? = some m) (hb : bs[i]? = some (h, b)) (hp : m'.p = m.p) :
    kvB (ms.set i m') (bs.map fun q => if q.1 = h then (h, b') else q) = kvB ms bs := by
  unfold kvB
  apply List.ext_getElem?
  intro j
  rw [List.getElem?_zipWith, List.getElem?_zipWith, List.getElem?_map, List.getElem?_set]
  by_cases c : i = j
  · subst c
    have hi : i < ms.length := (List.getElem?_eq_some_iff.mp hm).1
    rw [if_pos rfl, if_pos hi, hb, hm]
    simp [hp]
  · rw [if_neg c]
    cases e1 : ms[j]? with
    | none => rfl
    | some x =>
      cases e2 : bs[j]? with
      | none => rfl
      | some q =>
        have : ¬ q.1 = h := fun e => by
          have h1 : (bs.map (·.1))[j]? = some h := by rw [List.getElem?_map, e2, ← e]; rfl
          have h2 : (bs.map (·.1))[i]? = some h := by rw [List.getElem?_map, hb]; rfl
          have l1 := (List.getElem?_eq_some_iff.mp h1)
          have l2 := (List.getElem?_eq_some_iff.mp h2)
          exact c ((List.getElem_inj nd).mp (l2.2.trans l1.2.symm))
        simp [this]
section
variable {g : Str → Addr} {Z Z' H H' : Hp} {dk bd rl : Addr} {ms : List HM} {D : DS}
theorem DA.setB {i : Nat} {m m' : HM} {h : Str} {b b' : HS} (a : DA g Z H dk bd rl ms D) (nd : (D.books.map (·.1)).Nodup) (hm : ms[i]? = some m) (hb : D.books[i]? = some (h, b)) (n : Now g Z H m Z' H' m' b') :
    DNow g Z H dk bd rl ms Z' H' (ms.set i m') (Kin.setB D h b') := by
  have hi : i < ms.length := (List.getElem?_eq_some_iff.mp hm).1
  have sub : ∀ x ∈ m.l, x ∈ foot dk bd rl ms := fun x hx => foot_in.mpr (.inr ⟨i, m, hm, hx⟩)
  have stF : Step Z H (foot dk bd rl ms) Z' H' := n.st.mono sub
  have n0m : ∀ x ∈ [dk, bd, rl], x ∉ m.l := fun x hx hm' => a.d0 i m hm x hm' hx
  have lv := a.live
  have newN : ∀ x ∈ m'.l, x ∈ m.l ∨ x ∉ foot dk bd rl ms := fun x hx => (n.mv x hx).imp id fun e => lv.ne e
  obtain ⟨dx, ob⟩ := a.ob
  have at_ : ∀ (j : Nat) mj, (ms.set i m')[j]? = some mj → (j = i ∧ mj = m') ∨ (j ≠ i ∧ ms[j]? = some mj) := fun j mj e => by
    rw [List.getElem?_set] at e
    by_cases c : i = j
    · subst c
      rw [if_pos rfl, if_pos hi] at e
      exact .inl ⟨rfl, (Option.some.inj e).symm⟩
    · rw [if_neg c] at e
      exact .inr ⟨Ne.symm c, e⟩
  have disj : ∀ (j : Nat) mj, ms[j]? = some mj → j ≠ i → ∀ x ∈ mj.l, x ∉ m'.l := fun j mj hj ne x hx hx' => by
    rcases newN x hx' with q | q
    · exact a.dj j i mj m hj hm ne x hx q
    · exact q (foot_in.mpr (.inr ⟨j, mj, hj, hx⟩))
  have d0' : ∀ x ∈ m'.l, x ∉ [dk, bd, rl] := fun x hx h0 => by
    rcases newN x hx with q | q
    · exact n0m x h0 q
    · exact q (foot_in.mpr (.inl h0))
  refine ⟨⟨n.ha.zs, by rw [List.length_set, a.len]; show _ = (D.books.map _).length; rw [List.length_map], a.n0, fun j k mj mk hj hk ne x hx hx' => ?_, fun j mj hj x hx => ?_, fun x hx => ?_, ⟨dx, n.st.kp _ _ ob (n0m _ (by simp))⟩, ?_, n.st.kp _ _ a.rw (n0m _ (by simp)), fun j mj q hj hq => ?_⟩, stF, fun x hx => ?_⟩
  · rcases at_ j mj hj with ⟨rfl, rfl⟩ | ⟨nj, ej⟩
    · rcases at_ k mk hk with ⟨rfl, rfl⟩ | ⟨nk, ek⟩
      · exact ne rfl
      · exact disj k mk ek nk x hx' hx
    · rcases at_ k mk hk with ⟨rfl, rfl⟩ | ⟨nk, ek⟩
      · exact disj j mj ej nj x hx hx'
      · exact a.dj j k mj mk ej ek ne x hx hx'
  · rcases at_ j mj hj with ⟨rfl, rfl⟩ | ⟨nj, ej⟩
    · exact d0' x hx
    · exact a.d0 j mj ej x hx
  · exact n.st.off a.off (fun y hy => lv y (foot_in.mpr (.inl hy))) x hx
  · show H' bd = some (.dK (kvB (ms.set i m') (D.books.map fun q => if q.1 = h then (h, b') else q)))
    rw [kv_set nd hm hb n.mp]
    exact n.st.kp _ _ a.bk (n0m _ (by simp))
  · have hq' : (D.books.map fun q => if q.1 = h then (h, b') else q)[j]? = some q := hq
    obtain ⟨p, hp, rfl⟩ := map_at hq'
    rcases at_ j mj hj with ⟨rfl, rfl⟩ | ⟨nj, ej⟩
    · rw [hb] at hp; cases hp
      rw [if_pos rfl]; exact n.ha
    · have hne : ¬ p.1 = h := fun e => by
        have h1 : (D.books.map (·.1))[j]? = some h := by rw [List.getElem?_map, hp, ← e]; rfl
        have h2 : (D.books.map (·.1))[i]? = some h := by rw [List.getElem?_map, hb]; rfl
        have l1 := (List.getElem?_eq_some_iff.mp h1)
        have l2 := (List.getElem?_eq_some_iff.mp h2)
        exact nj ((List.getElem_inj nd).mp (l1.2.trans l2.2.symm))
      rw [if_neg hne]
      exact (a.ha j mj p ej hp).frame n.st n.ha.zs fun x hx hm' => a.dj j i mj m ej hm nj x hx hm'
  · rcases foot_in.mp hx with h0 | ⟨j, mj, hj, hx2⟩
    · exact .inl (foot_in.mpr (.inl h0))
    · rcases at_ j mj hj with ⟨rfl, rfl⟩ | ⟨nj, ej⟩
      · exact (n.mv x hx2).imp (sub x) id
      · exact .inl (foot_in.mpr (.inr ⟨j, mj, ej, hx2⟩))
/-- one book more -/
theorem DA.newB {Z1 H1 : Hp} {m' : HM} {h : Str} {b' : HS} (a : DA g Z H dk bd rl ms D) (hn : bookAt D h = none) (w : WB g Z H Z1 H1 m' b') :
    DNow g Z H dk bd rl ms Z1 (upd H1 bd (.dK (putK (kvB ms D.books) (.inr h) (.ref m'.p)))) (ms ++ [m']) (Kin.newB D h b') ∧ H1 bd = some (.dK (kvB ms D.books)) := by
  have lv := a.live
  have out : ∀ x ∈ m'.l, x ∉ foot dk bd rl ms := fun x hx => lv.ne (w.fr x hx)
  have a1 : DA g Z1 H1 dk bd rl ms D := a.frame w.st w.ha.zs (fun _ _ => by simp)
  obtain ⟨dx, ob⟩ := a1.ob
  have n0 := a.n0
  have nb1 : dk ≠ bd := ndn n0 0 1 rfl rfl (by decide)
  have nb2 : rl ≠ bd := ndn n0 2 1 rfl rfl (by decide)
  have vn : valV (kvB ms D.books) (.inr h) = none := by
    refine (kv_find h ms D.books a.len).1 ?_
    unfold bookAt at hn
    cases q : D.books.find? fun q => decide (q.1 = h) with
    | none => rfl
    | some p => rw [q] at hn; cases hn
  have zb : Z1 bd = none := a1.off _ (by simp)
  have zs' : Same Z1 (upd H1 bd (.dK (putK (kvB ms D.books) (.inr h) (.ref m'.p)))) := same_updZ w.ha.zs zb
  have st1 : Step Z1 H1 [bd] Z1 (upd H1 bd (.dK (putK (kvB ms D.books) (.inr h) (.ref m'.p)))) := (Step.refl _ _ _).upd (by simp)
  have at_ : ∀ (j : Nat) mj, (ms ++ [m'])[j]? = some mj → (j = ms.length ∧ mj = m') ∨ (j < ms.length ∧ ms[j]? = some mj) := fun j mj e => by
    by_cases c : j < ms.length
    · rw [List.getElem?_append_left c] at e; exact .inr ⟨c, e⟩
    · rw [List.getElem?_append_right (by omega)] at e
      have hk : j - ms.length = 0 := by
        cases q : j - ms.length with
        | zero => rfl
        | succ k => rw [q] at e; simp at e
      rw [hk] at e
      exact .inl ⟨by omega, (Option.some.inj e).symm⟩
  refine ⟨⟨⟨zs', by rw [List.length_append, a.len]; show _ = (D.books ++ [(h, b')]).length; rw [List.length_append]; rfl, n0, fun j k mj mk hj hk ne x hx hx' => ?_, fun j mj hj x hx h0 => ?_, a1.off, ⟨dx, by rw [upd_ne nb1]; exact ob⟩, ?_, by rw [upd_ne nb2]; exact a1.rw, fun j mj q hj hq => ?_⟩, (w.st.mono (fun x hx => by simp at hx)).upd (foot_in.mpr (.inl (by simp))), fun x hx => ?_⟩, a1.bk⟩
  · rcases at_ j mj hj with ⟨rfl, rfl⟩ | ⟨lj, ej⟩
    · rcases at_ k mk hk with ⟨rfl, rfl⟩ | ⟨lk, ek⟩
      · exact ne rfl
      · exact out x hx (foot_in.mpr (.inr ⟨k, mk, ek, hx'⟩))
    · rcases at_ k mk hk with ⟨rfl, rfl⟩ | ⟨lk, ek⟩
      · exact out x hx' (foot_in.mpr (.inr ⟨j, mj, ej, hx⟩))
      · exact a.dj j k mj mk ej ek ne x hx hx'
  · rcases at_ j mj hj with ⟨rfl, rfl⟩ | ⟨lj, ej⟩
    · exact out x hx (foot_in.mpr (.inl h0))
    · exact a.d0 j mj ej x hx h0
  · rw [upd_same]
    show some (HO.dK (putK (kvB ms D.books) (.inr h) (.ref m'.p))) = some (.dK (kvB (ms ++ [m']) (D.books ++ [(h, b')])))
    rw [kv_snoc a.len, putK_new _ vn]
  · have hq' : (D.books ++ [(h, b')])[j]? = some q := hq
    rcases at_ j mj hj with ⟨rfl, rfl⟩ | ⟨lj, ej⟩
    · rw [a.len, List.getElem?_append_right (Nat.le_refl _), Nat.sub_self] at hq'
      have eq : (h, b') = q := Option.some.inj hq'
      rw [← eq]
      exact w.ha.frame st1 zs' fun x hx hm => out x hx (foot_in.mpr (.inl (by rw [List.mem_singleton.mp hm]; simp)))
    · rw [List.getElem?_append_left (by rw [← a.len]; exact lj)] at hq'
      exact (a1.ha j mj q ej hq').frame st1 zs' fun x hx hm => a.d0 j mj ej x hx (by rw [List.mem_singleton.mp hm]; simp)
  · rcases foot_in.mp hx with h0 | ⟨j, mj, hj, hx2⟩
    · exact .inl (foot_in.mpr (.inl h0))
    · rcases at_ j mj hj with ⟨rfl, rfl⟩ | ⟨lj, ej⟩
      · exact .inr (w.fr x hx2)
      · exact .inl (foot_in.mpr (.inr ⟨j, mj, ej, hx2⟩))
/-- a row logged -/
theorem DA.log (a : DA g Z H dk bd rl ms D) (r : Str) : DNow g Z H dk bd rl ms Z (upd H rl (.lst (D.rows.map V.str ++ [.str r]))) ms ⟨D.books, D.rows ++ [r]⟩ := by
  have n0 := a.n0
  obtain ⟨dx, ob⟩ := a.ob
  have zs' : Same Z (upd H rl (.lst (D.rows.map V.str ++ [.str r]))) := same_updZ a.zs (a.off _ (by simp))
  have st1 : Step Z H [rl] Z (upd H rl (.lst (D.rows.map V.str ++ [.str r]))) := (Step.refl _ _ _).upd (by simp)
  refine ⟨⟨zs', a.len, n0, a.dj, a.d0, a.off, ⟨dx, by rw [upd_ne (ndn n0 0 2 rfl rfl (by decide))]; exact ob⟩, by rw [upd_ne (ndn n0 1 2 rfl rfl (by decide))]; exact a.bk, by rw [upd_same]; simp, fun j mj q hj hq => ?_⟩, (Step.refl _ _ _).upd (foot_in.mpr (.inl (by simp))), fun x hx => .inl hx⟩
  exact (a.ha j mj q hj hq).frame st1 zs' fun x hx hm => a.d0 j mj hj x hx (by rw [List.mem_singleton.mp hm]; simp)
end
end Kin
set_option maxHeartbeats 4000000
/-! K44: the desk's methods but run. -/
namespace Kin
open PySem L2
def dkF (bd rl : Addr) : List (Str × V) := [("books", .ref bd), ("rows", .ref rl)]
theorem dkF_books (bd rl : Addr) : (dkF bd rl).lookup ("books" : Str) = some (V.ref bd) := by kernel_rfl
theorem dkF_rows (bd rl : Addr) : (dkF bd rl).lookup ("rows" : Str) = some (V.ref rl) := by kernel_rfl
theorem dkF_made (bd rl : Addr) : putF "rows" (V.ref rl) (putF "books" (V.ref bd) []) = dkF bd rl := by kernel_rfl
theorem dkN (bd rl : Addr) : (dkF bd rl).lookup ("book" : Str) = none ∧ (dkF bd rl).lookup ("free" : Str) = none ∧ (dkF bd rl).lookup ("put" : Str) = none ∧ (dkF bd rl).lookup ("run" : Str) = none ∧ (dkF bd rl).lookup ("log" : Str) = none ∧ (dkF bd rl).lookup ("books_held" : Str) = none :=
  ⟨by kernel_rfl, by kernel_rfl, by kernel_rfl, by kernel_rfl, by kernel_rfl, by kernel_rfl⟩
section
variable {P : Program} {w : World} {K : PySem.W.Frag} {mg : Str → Option Value} {g : Str → Addr} {mt : Str → Str → Addr} {base : Heap}
theorem rd_books (T : Txt w K mg g mt) {Z H : Hp} {dk bd rl : Addr} {ms : List HM} {D : DS} (a : DA g Z H dk bd rl ms D) : Has K H dk "books" (.ref bd) := by
  obtain ⟨dx, ob⟩ := a.ob
  exact ⟨_, dx, _, ob, T.cls "Desk" (by decide +kernel), T.noat ("Desk", "books") (by decide +kernel), dkF_books ..⟩
theorem rd_rows (T : Txt w K mg g mt) {Z H : Hp} {dk bd rl : Addr} {ms : List HM} {D : DS} (a : DA g Z H dk bd rl ms D) : Has K H dk "rows" (.ref rl) := by
  obtain ⟨dx, ob⟩ := a.ob
  exact ⟨_, dx, _, ob, T.cls "Desk" (by decide +kernel), T.noat ("Desk", "rows") (by decide +kernel), dkF_rows ..⟩
theorem book_val {g : Str → Addr} {Z H : Hp} {dk bd rl : Addr} {ms : List HM} {D : DS} (a : DA g Z H dk bd rl ms D) {h : Str} {b : HS} (e : bookAt D h = some b) : ∃ (i : Nat) (m : HM), ms[i]? = some m ∧ D.books[i]? = some (h, b) ∧ valV (kvB ms D.books) (.inr h) = some (.ref m.p) := by
  unfold bookAt at e
  cases q : D.books.find? fun q => decide (q.1 = h) with
  | none => rw [q] at e; cases e
  | some p =>
    obtain ⟨i, m, h1, h2, h3⟩ := (kv_find h ms D.books a.len).2 p q
    have h4 := List.find?_some q
    have h5 : p.1 = h := of_decide_eq_true h4
    rw [q] at e; cases e
    exact ⟨i, m, h1, by rw [← h5]; exact h2, h3⟩
theorem book_no {g : Str → Addr} {Z H : Hp} {dk bd rl : Addr} {ms : List HM} {D : DS} (a : DA g Z H dk bd rl ms D) {h : Str} (e : bookAt D h = none) : valV (kvB ms D.books) (.inr h) = none := by
  refine (kv_find h ms D.books a.len).1 ?_
  unfold bookAt at e
  cases q : D.books.find? fun q => decide (q.1 = h) with
  | none => rfl
  | some p => rw [q] at e; cases e
def spBook (K : PySem.W.Frag) (g : Str → Addr) : Sp := fun vs H Q E => ∃ (Z : Hp) (dk bd rl : Addr) (ms : List HM) (D : DS) (h : Str), vs = [.ref dk, .str h] ∧ DA g Z H dk bd rl ms D ∧
  (∀ (b : HS) (i : Nat) (m : HM), bookAt D h = some b → ms[i]? = some m → D.books[i]? = some (h, b) → Q (.ref m.p) H) ∧ (bookAt D h = none → ∀ cls d H', Refused K (g "KinError") "no book" H cls d H' → E cls d H')
theorem ok_book (T : Txt w K mg g mt) : GM P w K mg base (L2.CX P w) 4 (g "Desk") "book" (spBook K g) := by
  refine gmX (F_Desk_book T) (T.cls _ (by decide +kernel)) (T.meth ("Desk", "book") (by decide +kernel)) sc_Desk_book (fun vs H Q E h => ?_) fun cdv A outer s H vs Q E hr h => ?_
  · obtain ⟨Z, dk, bd, rl, ms, D, h, rfl, _⟩ := h; rfl
  · obtain ⟨Z, dk, bd, rl, ms, D, h, rfl, a, q1, q2⟩ := h
    have hu := hu_of hr
    have Nb := ok_NoBook (P := P) (base := base) T
    have tk := takes_of (X := cxOf (L2.CX P w) P w K mg base ["self", "name"] "Desk.book" (defScope s_Desk_book) (mt "Desk" "book") cdv A outer s H E) rfl rfl rfl rfl
    refine ⟨_, pss_cons (ps_if (pt_cmp (pc_dnotin hu (pv 1) (pe_sf 0))) (pss_one (ps_ref0 Nb hr rfl tk)) pss_nil) (pss_one (ps_ret (pe_dget hu (pe_sf 0) (pv 1) (fun _ _ => rfl)))), ?_⟩
    refine ⟨_, rfl, _, _, rfl, rd_books T a, bd, _, rfl, DGet.k (k := .inr h) a.bk, _, rfl, ?_⟩
    cases e : bookAt D h with
    | none =>
      rw [book_no a e]
      exact iteB (fun _ => q2 e) (fun c => by cases c)
    | some b =>
      obtain ⟨i, m, h1, h2, h3⟩ := book_val a e
      rw [h3]
      refine iteB (fun c => by cases c) (fun _ => ?_)
      exact ⟨_, _, rfl, rd_books T a, _, rfl, bd, _, rfl, h3 ▸ DGet.k (k := .inr h) a.bk, q1 b i m e h1 h2⟩
def spFree (K : PySem.W.Frag) (g : Str → Addr) : Sp := fun vs H Q E => ∃ (Z : Hp) (dk bd rl : Addr) (ms : List HM) (D : DS) (h : Str), vs = [.ref dk, .str h] ∧ DA g Z H dk bd rl ms D ∧ h.length ≤ sizeLine ∧
  (freeB D h = none → ∀ H', Same H H' → Q .non H') ∧ (∀ e, freeB D h = some e → ∀ cls d H', Refused K (g "KinError") e H cls d H' → E cls d H')
theorem ok_free (T : Txt w K mg g mt) : GM P w K mg base (L2.CX P w) 4 (g "Desk") "free" (spFree K g) := by
  refine gmX (F_Desk_free T) (T.cls _ (by decide +kernel)) (T.meth ("Desk", "free") (by decide +kernel)) sc_Desk_free (fun vs H Q E h => ?_) fun cdv A outer s H vs Q E hr h => ?_
  · obtain ⟨Z, dk, bd, rl, ms, D, h, rfl, _⟩ := h; rfl
  · obtain ⟨Z, dk, bd, rl, ms, D, h, rfl, a, hz, q1, q2⟩ := h
    have hu := hu_of hr
    have In := ok_is_name (P := P) (base := base) T
    have Bn := ok_BadName (P := P) (base := base) T
    have Ta := ok_Taken (P := P) (base := base) T
    have tk := takes_of (X := cxOf (L2.CX P w) P w K mg base ["self", "name"] "Desk.free" (defScope s_Desk_free) (mt "Desk" "free") cdv A outer s H E) rfl rfl rfl rfl
    refine ⟨_, pss_cons (ps_if (pt_not (pt_val (pe_gf In hr pass0 (pa_cons (pv 1) pa_nil)))) (pss_one (ps_ref0 Bn hr rfl tk)) pss_nil) (pss_one (ps_if (pt_cmp (pc_din hu (pv 1) (pe_sf 0))) (pss_one (ps_ref0 Ta hr rfl tk)) pss_nil)), ?_⟩
    unfold freeB at q1 q2
    refine ⟨_, rfl, h, rfl, hz, fun H1 s1 => ⟨_, rfl, iteB (fun c => ?_) (fun c => ?_)⟩⟩
    · have e : isName h = false := by simpa using c
      rw [if_pos e] at q2
      exact fun cls d H' r => q2 _ rfl cls d H' (r.back s1)
    have e1 : ¬ isName h = false := by simpa using c
    rw [if_neg e1] at q1 q2
    have a1 := a.same s1
    refine ⟨_, rfl, _, _, rfl, rd_books T a1, bd, _, rfl, DGet.k (k := .inr h) a1.bk, _, rfl, ?_⟩
    cases e : bookAt D h with
    | none =>
      rw [book_no a e]
      rw [e, if_neg (by decide)] at q1
      exact iteB (fun c => by cases c) (fun _ => q1 rfl _ s1)
    | some b =>
      obtain ⟨i, m, h1, h2, h3⟩ := book_val a e
      rw [h3]
      rw [e, if_pos (show (some b).isSome = true from rfl)] at q2
      exact iteB (fun _ => fun cls d H' r => q2 _ rfl cls d H' (r.back s1)) (fun c => by cases c)
def spHeld (g : Str → Addr) : Sp := fun vs H Q _ => ∃ (Z : Hp) (dk bd rl : Addr) (ms : List HM) (D : DS), vs = [.ref dk] ∧ DA g Z H dk bd rl ms D ∧ ∀ p H', Same H H' → H p = none → H' p = some (.lst (D.books.map fun q => V.str q.1)) → Q (.ref p) H'
theorem kv_keys : ∀ {ms : List HM} {bs : List (Str × HS)}, ms.length = bs.length → (kvB ms bs).map (fun kv => kV kv.1) = bs.map fun q => V.str q.1
  | [], [], _ => rfl
  | [], b :: bs, e => nomatch e
  | m :: ms, [], e => nomatch e
  | m :: ms, b :: bs, e => by
    show kV (Sum.inr b.1) :: (kvB ms bs).map (fun kv => kV kv.1) = _
    rw [kv_keys (ms := ms) (bs := bs) (by simpa using e)]
    rfl
theorem ok_held (T : Txt w K mg g mt) : GM P w K mg base CX0 1 (g "Desk") "books_held" (spHeld g) := by
  refine gm0 (F_Desk_books_held T) (T.cls _ (by decide +kernel)) (T.meth ("Desk", "books_held") (by decide +kernel)) sc_Desk_books_held (fun vs H Q E h => ?_) fun cdv A outer s H vs Q E hr h => ?_
  · obtain ⟨Z, dk, bd, rl, ms, D, rfl, _⟩ := h; rfl
  · obtain ⟨Z, dk, bd, rl, ms, D, rfl, a, k⟩ := h
    have fl : mg "list" = none := T.free _ (by decide +kernel)
    refine ⟨_, pss_one (ps_ret (pe_callTy (call_listD rfl) (by rfl) fl PyProof.Rows.boot_list (pa_cons (pe_sf 0) pa_nil))), ?_⟩
    refine ⟨_, _, rfl, rd_books T a, bd, _, rfl, .inl a.bk, fun l hl => ?_⟩
    rw [kv_keys a.len]
    exact k l _ (same_new hl) hl upd_same
def spLog (g : Str → Addr) : Sp := fun vs H Q _ => ∃ (Z : Hp) (dk bd rl : Addr) (ms : List HM) (D : DS), vs = [.ref dk] ∧ DA g Z H dk bd rl ms D ∧ ∀ p H', Same H H' → H p = none → H' p = some (.lst (D.rows.map V.str)) → Q (.ref p) H'
theorem ok_log (T : Txt w K mg g mt) : GM P w K mg base CX0 1 (g "Desk") "log" (spLog g) := by
  refine gm0 (F_Desk_log T) (T.cls _ (by decide +kernel)) (T.meth ("Desk", "log") (by decide +kernel)) sc_Desk_log (fun vs H Q E h => ?_) fun cdv A outer s H vs Q E hr h => ?_
  · obtain ⟨Z, dk, bd, rl, ms, D, rfl, _⟩ := h; rfl
  · obtain ⟨Z, dk, bd, rl, ms, D, rfl, a, k⟩ := h
    have fl : mg "list" = none := T.free _ (by decide +kernel)
    refine ⟨_, pss_one (ps_ret (pe_callTy call_list_of (by rfl) fl PyProof.Rows.boot_list (pa_cons (pe_sf 0) pa_nil))), ?_⟩
    exact ⟨_, _, rfl, rd_rows T a, rl, _, rfl, .inl (SqL.of a.rw), fun l hl => k l _ (same_new hl) hl upd_same⟩
/-- desk.put of a book that was made -/
def spPutB (g : Str → Addr) : Sp := fun vs H Q _ => ∃ (dk dx bd rl p : Addr) (h : Str) (kvs : List (Key × V)), vs = [.ref dk, .str h, .ref p] ∧ H dk = some (.ins (g "Desk") dx (dkF bd rl)) ∧ H bd = some (.dK kvs) ∧ kvs.length ≤ 99999 ∧ Q .non (upd H bd (.dK (putK kvs (.inr h) (.ref p))))
theorem ok_put (T : Txt w K mg g mt) : GM P w K mg base CX0 1 (g "Desk") "put" (spPutB g) := by
  refine gm0 (F_Desk_put T) (T.cls _ (by decide +kernel)) (T.meth ("Desk", "put") (by decide +kernel)) sc_Desk_put (fun vs H Q E h => ?_) fun cdv A outer s H vs Q E hr h => ?_
  · obtain ⟨dk, dx, bd, rl, p, h, kvs, rfl, _⟩ := h; rfl
  · obtain ⟨dk, dx, bd, rl, p, h, kvs, rfl, ob, hb, hz, k⟩ := h
    have hu := hu_of hr
    refine ⟨_, pss_one (ps_dput hu (pe_sf 0) (pv 1) (pv 2) rfl), ?_⟩
    exact ⟨_, rfl, _, _, rfl, ⟨_, dx, _, ob, T.cls "Desk" (by decide +kernel), T.noat ("Desk", "books") (by decide +kernel), dkF_books ..⟩, _, rfl, bd, _, rfl, DPut.k (k := .inr h) hb (smallL (by omega)), k⟩
end
end Kin
set_option maxHeartbeats 4000000
/-! K45: the desk's commands, one def each. -/
namespace Kin
open PySem L2
/-- words of small length -/
def Short (c : Cmd) : Prop := ∀ x ∈ c.words, x.length ≤ 100
section
variable {P : Program} {w : World} {K : PySem.W.Frag} {mg : Str → Option Value} {g : Str → Addr} {mt : Str → Str → Addr} {base : Heap}
def spDo (K : PySem.W.Frag) (g : Str → Addr) (sel : Cmd → Prop) : Sp := fun vs H Q E => ∃ (Z : Hp) (dk bd rl wl : Addr) (ms : List HM) (D : DS) (hs : List Str) (r : Nat) (c : Cmd), vs = [.ref dk, .ref wl] ∧ sel c ∧ DA g Z H dk bd rl ms D ∧ DOk hs r D ∧ r ≤ 150 ∧ D.books.length ≤ 1000 ∧ Good hs c ∧ Short c ∧ H wl = some (.lst (c.words.map V.str)) ∧
  (∀ D' a, exec D c = .ok (D', a) → ∀ Z' H' ms', DNow g Z H dk bd rl ms Z' H' ms' D' → Q (.str a) H') ∧ (∀ e, exec D c = .error e → ∀ cls d H', Refused K (g "KinError") e H cls d H' → E cls d H')
theorem dob {Z H : Hp} {dk bd rl : Addr} {ms : List HM} {D : DS} (a : DA g Z H dk bd rl ms D) : ∃ dx, H dk = some (.ins (g "Desk") dx (dkF bd rl)) := a.ob
theorem book_ok {hs : List Str} {r : Nat} {D : DS} (o : DOk hs r D) (hr : r ≤ 150) {h : Str} {b : HS} (e : bookAt D h = some b) : HOk 600 b := (o.bo _ (bookAt_mem e)).mono (by split <;> omega)
theorem ok_do_person (T : Txt w K mg g mt) : GF P w K mg base (L2.CX P w) 8 "do_person" (spDo K g fun c => ∃ s h n, c = .person s h n) := by
  refine gfX (F_do_person T) (T.glo _ (by decide +kernel)) sc_do_person (fun vs H Q E h => ?_) fun cdv A outer s H vs Q E hr h => ?_
  · obtain ⟨Z, dk, bd, rl, wl, ms, D, hs, r, c, rfl, _⟩ := h; rfl
  · obtain ⟨Z, dk, bd, rl, wl, ms, D, hs, r, c, rfl, ⟨sx, h, n, rfl⟩, a, o, hr', hbl, gd, sh, hw, q1, q2⟩ := h
    have Bo := ok_book (P := P) (base := base) T
    have Pn := ok_person (P := P) (base := base) T
    have tk := takes_of (X := cxOf (L2.CX P w) P w K mg base ["desk", "words"] "do_person" (defScope s_do_person) (g "do_person") cdv A outer s H E) rfl rfl rfl rfl
    refine ⟨_, pss_cons (ps_expr (pe_gm Pn (pe_gm Bo (pv 0) hr (passE tk rfl) (pa_cons (pe_ix ix_list (pv 1) pe_int (fun _ _ => rfl)) pa_nil)) hr (passE tk rfl) (pa_cons (pe_ix ix_list (pv 1) pe_int (fun _ _ => rfl)) (pa_cons (pe_ix ix_list (pv 1) pe_int (fun _ _ => rfl)) pa_nil))))
      (pss_one (ps_ret pe_str)), ?_⟩
    obtain ⟨dx, ob⟩ := dob a
    simp only [exec, deed] at q1 q2
    refine ⟨_, rfl, dk, dx, _, rfl, ob, (dkN ..).1, _, rfl, wl, _, 1, _, rfl, rfl, SqL.of hw, ix_at (z := 1) (by omega) (v := .str h) rfl, Z, dk, bd, rl, ms, D, h, rfl, a, fun b i m hb hm hq => ?_, fun hn => q2 _ (by rw [hn])⟩
    rw [hb] at q1 q2
    have ha := a.ha i m _ hm hq
    obtain ⟨hdx, hlo, hob, hla⟩ := ha.ob
    have ho := book_ok o hr' hb
    refine ⟨m.p, hdx, _, rfl, hob, hN_person .., _, rfl, wl, _, 2, _, rfl, rfl, SqL.of hw, ix_at (z := 2) (by omega) (v := .str n) rfl, _, rfl, wl, _, 0, _, rfl, rfl, SqL.of hw, ix_at (z := 0) (by omega) (v := .str sx) rfl, ?_⟩
    refine ⟨Z, m, b, 600, n, sx, rfl, ha, ho, by omega, gd.1, Nat.le_trans (sh n (by simp [Cmd.words])) (by decide), fun b' e Z' H' m' nw => ?_, fun e he cls d H' rf => q2 e (by dsimp only; rw [he]; rfl) cls d H' rf⟩
    exact q1 _ _ (by dsimp only; rw [e]; rfl) _ _ _ (a.setB o.nd hm hq nw)

theorem istr_le {i : Int} (h0 : 0 ≤ i) (h1 : i ≤ 1000) : (istr i).length ≤ 4 := PyProof.Rows.toString_length_le (v := i) h0 (by decide) (by omega)
theorem log_small {i : Int} (h0 : 0 ≤ i) (h1 : i ≤ 1000) : i.natAbs.log2 < 1920 := Nat.lt_of_le_of_lt (Nat.log2_le_self _) (by omega)
/-- the answer of a deed that keeps a fact -/
theorem kept_ans {i : Int} (h0 : 0 ≤ i) (h1 : i ≤ 1000) : ("kept " : Str).length + (istr i).length ≤ sizeLine := by
  have := istr_le h0 h1
  have e : ("kept " : Str).length = 5 := by decide +kernel
  exact Nat.le_trans (show _ ≤ 100 by omega) (by decide)
theorem ok_do_tie (T : Txt w K mg g mt) : GF P w K mg base (L2.CX P w) 8 "do_tie" (spDo K g fun c => ∃ k h a b, c = .tie k h a b) := by
  refine gfX (F_do_tie T) (T.glo _ (by decide +kernel)) sc_do_tie (fun vs H Q E h => ?_) fun cdv A outer s H vs Q E hr h => ?_
  · obtain ⟨Z, dk, bd, rl, wl, ms, D, hs, r, c, rfl, _⟩ := h; rfl
  · obtain ⟨Z, dk, bd, rl, wl, ms, D, hs, r, c, rfl, ⟨k, h, x, y, rfl⟩, a, o, hr', hbl, gd, sh, hw, q1, q2⟩ := h
    have nd := sc_do_tie.nd
    have fS : mg "str" = none := T.free _ (by decide +kernel)
    have Bo := ok_book (P := P) (base := base) T
    have Ti := ok_tie (P := P) (base := base) T
    have tk := takes_of (X := cxOf (L2.CX P w) P w K mg base ["desk", "words", "number"] "do_tie" (defScope s_do_tie) (g "do_tie") cdv A outer s H E) rfl rfl rfl rfl
    refine ⟨_, pss_cons (ps_set (i := 2) nd rfl (.inl rfl) (pe_gm Ti (pe_gm Bo (pv 0) hr (passE tk rfl) (pa_cons (pe_ix ix_list (pv 1) pe_int (fun _ _ => rfl)) pa_nil)) hr (passE tk rfl) (pa_cons (pe_ix ix_list (pv 1) pe_int (fun _ _ => rfl)) (pa_cons (pe_ix ix_list (pv 1) pe_int (fun _ _ => rfl)) (pa_cons (pe_ix ix_list (pv 1) pe_int (fun _ _ => rfl)) pa_nil)))))
      (pss_one (ps_ret (pe_op op_add_str pe_str (pe_callTy call_str_int (by rfl) fS (by decide +kernel) (pa_cons (pv 2) pa_nil))))), ?_⟩
    obtain ⟨dx, ob⟩ := dob a
    simp only [exec, deed] at q1 q2
    refine ⟨_, rfl, dk, dx, _, rfl, ob, (dkN ..).1, _, rfl, wl, _, 1, _, rfl, rfl, SqL.of hw, ix_at (z := 1) (by omega) (v := .str h) rfl, Z, dk, bd, rl, ms, D, h, rfl, a, fun b i m hb hm hq => ?_, fun hn => q2 _ (by rw [hn])⟩
    rw [hb] at q1 q2
    have ha := a.ha i m _ hm hq
    obtain ⟨hdx, hlo, hob, hla⟩ := ha.ob
    have ho := book_ok o hr' hb
    refine ⟨m.p, hdx, _, rfl, hob, hN_tie .., _, rfl, wl, _, 0, _, rfl, rfl, SqL.of hw, ix_at (z := 0) (by omega) (v := .str k) rfl, _, rfl, wl, _, 2, _, rfl, rfl, SqL.of hw, ix_at (z := 2) (by omega) (v := .str x) rfl, _, rfl, wl, _, 3, _, rfl, rfl, SqL.of hw, ix_at (z := 3) (by omega) (v := .str y) rfl, ?_⟩
    have a0 := ho.bo.a0
    have am := ho.bo.am
    refine ⟨Z, m, b, 600, k, x, y, rfl, ha, ho, by omega, gd.1, fun b' e Z' H' m' nw => ?_, fun e he cls d H' rf => q2 e (by dsimp only; rw [he]; rfl) cls d H' rf⟩
    refine ⟨_, rfl, _, rfl, log_small a0 (by omega), _, _, rfl, rfl, kept_ans a0 (by omega), ?_⟩
    exact q1 _ _ (by dsimp only; rw [e]; rfl) _ _ _ (a.setB o.nd hm hq nw)
theorem ok_do_said (T : Txt w K mg g mt) : GF P w K mg base (L2.CX P w) 8 "do_said" (spDo K g fun c => ∃ h n z, c = .said h n z) := by
  refine gfX (F_do_said T) (T.glo _ (by decide +kernel)) sc_do_said (fun vs H Q E h => ?_) fun cdv A outer s H vs Q E hr h => ?_
  · obtain ⟨Z, dk, bd, rl, wl, ms, D, hs, r, c, rfl, _⟩ := h; rfl
  · obtain ⟨Z, dk, bd, rl, wl, ms, D, hs, r, c, rfl, ⟨h, n, z, rfl⟩, a, o, hr', hbl, gd, sh, hw, q1, q2⟩ := h
    have nd := sc_do_said.nd
    have fS : mg "str" = none := T.free _ (by decide +kernel)
    have Bo := ok_book (P := P) (base := base) T
    have Sa := ok_say (P := P) (base := base) T
    have Ni := ok_number_in (P := P) (base := base) T
    have tk := takes_of (X := cxOf (L2.CX P w) P w K mg base ["desk", "words", "section", "number"] "do_said" (defScope s_do_said) (g "do_said") cdv A outer s H E) rfl rfl rfl rfl
    refine ⟨_, pss_cons (ps_set (i := 2) nd rfl (.inl rfl) (pe_gf Ni hr pass0 (pa_cons (pe_ix ix_list (pv 1) pe_int (fun _ _ => rfl)) pa_nil)))
      (pss_cons (ps_set (i := 3) nd rfl (.inl rfl) (pe_gm Sa (pe_gm Bo (pv 0) hr (passE tk rfl) (pa_cons (pe_ix ix_list (pv 1) pe_int (fun _ _ => rfl)) pa_nil)) hr (passE tk rfl) (pa_cons (pe_ix ix_list (pv 1) pe_int (fun _ _ => rfl)) (pa_cons (pv 2) pa_nil))))
      (pss_one (ps_ret (pe_op op_add_str pe_str (pe_callTy call_str_int (by rfl) fS (by decide +kernel) (pa_cons (pv 3) pa_nil)))))), ?_⟩
    obtain ⟨dx, ob⟩ := dob a
    simp only [exec, deed] at q1 q2
    refine ⟨_, rfl, wl, _, 3, _, rfl, rfl, SqL.of hw, ix_at (z := 3) (by omega) (v := .str z) rfl, z, rfl, gd.2, ?_⟩
    refine ⟨_, rfl, dk, dx, _, rfl, ob, (dkN ..).1, _, rfl, wl, _, 1, _, rfl, rfl, SqL.of hw, ix_at (z := 1) (by omega) (v := .str h) rfl, Z, dk, bd, rl, ms, D, h, rfl, a, fun b i m hb hm hq => ?_, fun hn => q2 _ (by rw [hn])⟩
    rw [hb] at q1 q2
    have ha := a.ha i m _ hm hq
    obtain ⟨hdx, hlo, hob, hla⟩ := ha.ob
    have ho := book_ok o hr' hb
    refine ⟨m.p, hdx, _, rfl, hob, hN_say .., _, rfl, wl, _, 2, _, rfl, rfl, SqL.of hw, ix_at (z := 2) (by omega) (v := .str n) rfl, _, rfl, ?_⟩
    have a0 := ho.bo.a0
    have am := ho.bo.am
    refine ⟨Z, m, b, 600, n, _, rfl, ha, ho, by omega, fun b' e Z' H' m' nw => ?_, fun e he cls d H' rf => q2 e (by dsimp only; rw [he]; rfl) cls d H' rf⟩
    refine ⟨_, rfl, _, rfl, log_small a0 (by omega), _, _, rfl, rfl, kept_ans a0 (by omega), ?_⟩
    exact q1 _ _ (by dsimp only; rw [e]; rfl) _ _ _ (a.setB o.nd hm hq nw)
theorem ok_do_take (T : Txt w K mg g mt) : GF P w K mg base (L2.CX P w) 8 "do_take" (spDo K g fun c => ∃ h z, c = .take h z) := by
  refine gfX (F_do_take T) (T.glo _ (by decide +kernel)) sc_do_take (fun vs H Q E h => ?_) fun cdv A outer s H vs Q E hr h => ?_
  · obtain ⟨Z, dk, bd, rl, wl, ms, D, hs, r, c, rfl, _⟩ := h; rfl
  · obtain ⟨Z, dk, bd, rl, wl, ms, D, hs, r, c, rfl, ⟨h, z, rfl⟩, a, o, hr', hbl, gd, sh, hw, q1, q2⟩ := h
    have nd := sc_do_take.nd
    have Bo := ok_book (P := P) (base := base) T
    have Ta := ok_take (P := P) (base := base) T
    have Ni := ok_number_in (P := P) (base := base) T
    have tk := takes_of (X := cxOf (L2.CX P w) P w K mg base ["desk", "words", "number"] "do_take" (defScope s_do_take) (g "do_take") cdv A outer s H E) rfl rfl rfl rfl
    refine ⟨_, pss_cons (ps_set (i := 2) nd rfl (.inl rfl) (pe_gf Ni hr pass0 (pa_cons (pe_ix ix_list (pv 1) pe_int (fun _ _ => rfl)) pa_nil)))
      (pss_cons (ps_expr (pe_gm Ta (pe_gm Bo (pv 0) hr (passE tk rfl) (pa_cons (pe_ix ix_list (pv 1) pe_int (fun _ _ => rfl)) pa_nil)) hr (passE tk rfl) (pa_cons (pv 2) pa_nil)))
      (pss_one (ps_ret pe_str))), ?_⟩
    obtain ⟨dx, ob⟩ := dob a
    simp only [exec, deed] at q1 q2
    refine ⟨_, rfl, wl, _, 2, _, rfl, rfl, SqL.of hw, ix_at (z := 2) (by omega) (v := .str z) rfl, z, rfl, gd.2, ?_⟩
    refine ⟨_, rfl, dk, dx, _, rfl, ob, (dkN ..).1, _, rfl, wl, _, 1, _, rfl, rfl, SqL.of hw, ix_at (z := 1) (by omega) (v := .str h) rfl, Z, dk, bd, rl, ms, D, h, rfl, a, fun b i m hb hm hq => ?_, fun hn => q2 _ (by rw [hn])⟩
    rw [hb] at q1 q2
    have ha := a.ha i m _ hm hq
    obtain ⟨hdx, hlo, hob, hla⟩ := ha.ob
    have ho := book_ok o hr' hb
    refine ⟨m.p, hdx, _, rfl, hob, hN_take .., _, rfl, ?_⟩
    refine ⟨Z, m, b, 600, _, rfl, ha, ho, by omega, fun b' e Z' H' m' nw => ?_, fun e he cls d H' rf => q2 e (by dsimp only; rw [he]; rfl) cls d H' rf⟩
    exact q1 _ _ (by dsimp only; rw [e]; rfl) _ _ _ (a.setB o.nd hm hq nw)
theorem ok_do_undo (T : Txt w K mg g mt) : GF P w K mg base (L2.CX P w) 8 "do_undo" (spDo K g fun c => ∃ h, c = .undo h) := by
  refine gfX (F_do_undo T) (T.glo _ (by decide +kernel)) sc_do_undo (fun vs H Q E h => ?_) fun cdv A outer s H vs Q E hr h => ?_
  · obtain ⟨Z, dk, bd, rl, wl, ms, D, hs, r, c, rfl, _⟩ := h; rfl
  · obtain ⟨Z, dk, bd, rl, wl, ms, D, hs, r, c, rfl, ⟨h, rfl⟩, a, o, hr', hbl, gd, sh, hw, q1, q2⟩ := h
    have Bo := ok_book (P := P) (base := base) T
    have Un := ok_undo (P := P) (base := base) T
    have tk := takes_of (X := cxOf (L2.CX P w) P w K mg base ["desk", "words"] "do_undo" (defScope s_do_undo) (g "do_undo") cdv A outer s H E) rfl rfl rfl rfl
    refine ⟨_, pss_cons (ps_expr (pe_gm0 Un (pe_gm Bo (pv 0) hr (passE tk rfl) (pa_cons (pe_ix ix_list (pv 1) pe_int (fun _ _ => rfl)) pa_nil)) hr (passE tk rfl)))
      (pss_one (ps_ret pe_str)), ?_⟩
    obtain ⟨dx, ob⟩ := dob a
    simp only [exec, deed] at q1 q2
    refine ⟨_, rfl, dk, dx, _, rfl, ob, (dkN ..).1, _, rfl, wl, _, 1, _, rfl, rfl, SqL.of hw, ix_at (z := 1) (by omega) (v := .str h) rfl, Z, dk, bd, rl, ms, D, h, rfl, a, fun b i m hb hm hq => ?_, fun hn => q2 _ (by rw [hn])⟩
    rw [hb] at q1 q2
    have ha := a.ha i m _ hm hq
    obtain ⟨hdx, hlo, hob, hla⟩ := ha.ob
    have ho := book_ok o hr' hb
    refine ⟨m.p, hdx, _, rfl, hob, hN_undo .., Z, m, b, 600, rfl, ha, ho, by omega, fun b' e Z' H' m' nw => ?_, fun e he cls d H' rf => q2 e (by dsimp only; rw [he]; rfl) cls d H' rf⟩
    exact q1 _ _ (by dsimp only; rw [e]; rfl) _ _ _ (a.setB o.nd hm hq nw)
theorem ok_do_redo (T : Txt w K mg g mt) : GF P w K mg base (L2.CX P w) 8 "do_redo" (spDo K g fun c => ∃ h, c = .redo h) := by
  refine gfX (F_do_redo T) (T.glo _ (by decide +kernel)) sc_do_redo (fun vs H Q E h => ?_) fun cdv A outer s H vs Q E hr h => ?_
  · obtain ⟨Z, dk, bd, rl, wl, ms, D, hs, r, c, rfl, _⟩ := h; rfl
  · obtain ⟨Z, dk, bd, rl, wl, ms, D, hs, r, c, rfl, ⟨h, rfl⟩, a, o, hr', hbl, gd, sh, hw, q1, q2⟩ := h
    have Bo := ok_book (P := P) (base := base) T
    have Un := ok_redo (P := P) (base := base) T
    have tk := takes_of (X := cxOf (L2.CX P w) P w K mg base ["desk", "words"] "do_redo" (defScope s_do_redo) (g "do_redo") cdv A outer s H E) rfl rfl rfl rfl
    refine ⟨_, pss_cons (ps_expr (pe_gm0 Un (pe_gm Bo (pv 0) hr (passE tk rfl) (pa_cons (pe_ix ix_list (pv 1) pe_int (fun _ _ => rfl)) pa_nil)) hr (passE tk rfl)))
      (pss_one (ps_ret pe_str)), ?_⟩
    obtain ⟨dx, ob⟩ := dob a
    simp only [exec, deed] at q1 q2
    refine ⟨_, rfl, dk, dx, _, rfl, ob, (dkN ..).1, _, rfl, wl, _, 1, _, rfl, rfl, SqL.of hw, ix_at (z := 1) (by omega) (v := .str h) rfl, Z, dk, bd, rl, ms, D, h, rfl, a, fun b i m hb hm hq => ?_, fun hn => q2 _ (by rw [hn])⟩
    rw [hb] at q1 q2
    have ha := a.ha i m _ hm hq
    obtain ⟨hdx, hlo, hob, hla⟩ := ha.ob
    have ho := book_ok o hr' hb
    refine ⟨m.p, hdx, _, rfl, hob, hN_redo .., Z, m, b, 600, rfl, ha, ho, by omega, fun b' e Z' H' m' nw => ?_, fun e he cls d H' rf => q2 e (by dsimp only; rw [he]; rfl) cls d H' rf⟩
    exact q1 _ _ (by dsimp only; rw [e]; rfl) _ _ _ (a.setB o.nd hm hq nw)
end
end Kin
set_option maxHeartbeats 4000000
/-! K46: the desk's commands: who, count, road, open, join. -/
namespace Kin
open PySem L2
theorem open_ok {n : Nat} {J : JS} (o : JOk n J) {i : Nat} (h : i < n) : (openAt J i).length ≤ 8 ∧ ∀ x ∈ openAt J i, 0 ≤ x ∧ x < 10 := by
  obtain ⟨hA, fa, _⟩ := head_ok o h
  obtain ⟨ra, rl, rr⟩ := room_at o hA
  have fu := fit_undone fa
  have o8 := o.s8
  unfold openAt
  refine ⟨by rw [srt_len, List.length_map]; exact rl, fun x hx => ?_⟩
  obtain ⟨y, hy, rfl⟩ := List.mem_map.mp (srt_mem.mp hx)
  have q := rr y hy
  have := (fu.get q.1 q.2).2
  omega
theorem pow8 (n : Nat) : (8 : Nat) ^ n = 2 ^ (3 * n) := by
  rw [Nat.pow_mul]
theorem dealt_log {n : Nat} {J : JS} (o : JOk n J) (h : n ≤ 600) : (dealt J).natAbs.log2 < 1920 := by
  have b := dealt_bound o J.above.length (by rw [o.la]; exact Nat.le_refl _)
  have hd : dealt J = dealtTo J J.above.length := rfl
  rw [hd]
  rw [o.la] at b ⊢
  have h1 : (dealtTo J n).natAbs ≤ 8 ^ n := by
    have e : ((8 : Int) ^ n) = ((8 ^ n : Nat) : Int) := by rw [Int.natCast_pow]; rfl
    rw [e] at b
    omega
  have h2 : (dealtTo J n).natAbs < 2 ^ 1920 := by
    refine Nat.lt_of_le_of_lt h1 ?_
    rw [pow8]
    exact Nat.pow_lt_pow_right (by decide) (by omega)
  by_cases z : (dealtTo J n).natAbs = 0
  · rw [z]; decide
  · exact (Nat.log2_lt z).mpr h2
section
variable {P : Program} {w : World} {K : PySem.W.Frag} {mg : Str → Option Value} {g : Str → Addr} {mt : Str → Str → Addr} {base : Heap}
theorem ok_do_who (T : Txt w K mg g mt) : GF P w K mg base (L2.CX P w) 8 "do_who" (spDo K g fun c => ∃ h n, c = .who h n) := by
  refine gfX (F_do_who T) (T.glo _ (by decide +kernel)) sc_do_who (fun vs H Q E h => ?_) fun cdv A outer s H vs Q E hr h => ?_
  · obtain ⟨Z, dk, bd, rl, wl, ms, D, hs, r, c, rfl, _⟩ := h; rfl
  · obtain ⟨Z, dk, bd, rl, wl, ms, D, hs, r, c, rfl, ⟨h, n, rfl⟩, a, o, hr', hbl, gd, sh, hw, q1, q2⟩ := h
    have Bo := ok_book (P := P) (base := base) T
    have Op := ok_open_of (P := P) (base := base) T
    have Fi := ok_figures_of (P := P) (base := base) T
    have tk := takes_of (X := cxOf (L2.CX P w) P w K mg base ["desk", "words"] "do_who" (defScope s_do_who) (g "do_who") cdv A outer s H E) rfl rfl rfl rfl
    refine ⟨_, pss_one (ps_ret (pe_gf Fi hr pass0 (pa_cons (pe_gf Op hr (passE tk rfl) (pa_cons (pe_gm Bo (pv 0) hr (passE tk rfl) (pa_cons (pe_ix ix_list (pv 1) pe_int (fun _ _ => rfl)) pa_nil)) (pa_cons (pe_ix ix_list (pv 1) pe_int (fun _ _ => rfl)) pa_nil))) pa_nil))), ?_⟩
    obtain ⟨dx, ob⟩ := dob a
    simp only [exec, askB] at q1 q2
    refine ⟨_, rfl, dk, dx, _, rfl, ob, (dkN ..).1, _, rfl, wl, _, 1, _, rfl, rfl, SqL.of hw, ix_at (z := 1) (by omega) (v := .str h) rfl, Z, dk, bd, rl, ms, D, h, rfl, a, fun b i m hb hm hq => ?_, fun hn => q2 _ (by rw [hn])⟩
    rw [hb] at q1 q2
    have ha := a.ha i m _ hm hq
    have ho := book_ok o hr' hb
    refine ⟨_, rfl, wl, _, 2, _, rfl, rfl, SqL.of hw, ix_at (z := 2) (by omega) (v := .str n) rfl, Z, m, b, 600, n, rfl, ha, ho, by omega, fun xs hx q H' s' h' => ?_, fun e he cls d H' rf => q2 e (by dsimp only; rw [he]) cls d H' rf⟩
    have oo : xs.length ≤ 8 ∧ ∀ x ∈ xs, 0 ≤ x ∧ x < 10 := by
      unfold whoH at hx
      split at hx
      · rename_i hm
        cases hx
        exact open_ok ho.jo (ho.po.at hm).2
      · cases hx
    exact ⟨q, xs, rfl, h', by omega, oo.2, fun H2 s2 => q1 _ _ (by dsimp only; rw [hx]) _ _ _ ((DNow.refl a).same (s'.trans s2))⟩
theorem ok_do_count (T : Txt w K mg g mt) : GF P w K mg base (L2.CX P w) 8 "do_count" (spDo K g fun c => ∃ h, c = .count h) := by
  refine gfX (F_do_count T) (T.glo _ (by decide +kernel)) sc_do_count (fun vs H Q E h => ?_) fun cdv A outer s H vs Q E hr h => ?_
  · obtain ⟨Z, dk, bd, rl, wl, ms, D, hs, r, c, rfl, _⟩ := h; rfl
  · obtain ⟨Z, dk, bd, rl, wl, ms, D, hs, r, c, rfl, ⟨h, rfl⟩, a, o, hr', hbl, gd, sh, hw, q1, q2⟩ := h
    have fS : mg "str" = none := T.free _ (by decide +kernel)
    have Bo := ok_book (P := P) (base := base) T
    have De := ok_dealings (P := P) (base := base) T
    have tk := takes_of (X := cxOf (L2.CX P w) P w K mg base ["desk", "words"] "do_count" (defScope s_do_count) (g "do_count") cdv A outer s H E) rfl rfl rfl rfl
    refine ⟨_, pss_one (ps_ret (pe_callTy call_str_int (by rfl) fS (by decide +kernel) (pa_cons (pe_gf De hr pass0 (pa_cons (pe_gm Bo (pv 0) hr (passE tk rfl) (pa_cons (pe_ix ix_list (pv 1) pe_int (fun _ _ => rfl)) pa_nil)) pa_nil)) pa_nil))), ?_⟩
    obtain ⟨dx, ob⟩ := dob a
    simp only [exec, askB] at q1 q2
    refine ⟨_, rfl, dk, dx, _, rfl, ob, (dkN ..).1, _, rfl, wl, _, 1, _, rfl, rfl, SqL.of hw, ix_at (z := 1) (by omega) (v := .str h) rfl, Z, dk, bd, rl, ms, D, h, rfl, a, fun b i m hb hm hq => ?_, fun hn => q2 _ (by rw [hn])⟩
    rw [hb] at q1 q2
    have ha := a.ha i m _ hm hq
    have ho := book_ok o hr' hb
    have bl := ho.bo.ln
    refine ⟨Z, m, b, 600, rfl, ha, ho, by omega, fun H' s' => ⟨_, rfl, dealt_log ho.jo (by omega), q1 _ _ rfl _ _ _ ((DNow.refl a).same s')⟩⟩
theorem ok_do_road (T : Txt w K mg g mt) : GF P w K mg base (L2.CX P w) 8 "do_road" (spDo K g fun c => ∃ h x y, c = .road h x y) := by
  refine gfX (F_do_road T) (T.glo _ (by decide +kernel)) sc_do_road (fun vs H Q E h => ?_) fun cdv A outer s H vs Q E hr h => ?_
  · obtain ⟨Z, dk, bd, rl, wl, ms, D, hs, r, c, rfl, _⟩ := h; rfl
  · obtain ⟨Z, dk, bd, rl, wl, ms, D, hs, r, c, rfl, ⟨h, x, y, rfl⟩, a, o, hr', hbl, gd, sh, hw, q1, q2⟩ := h
    have nd := sc_do_road.nd
    have Bo := ok_book (P := P) (base := base) T
    have Ro := ok_road (P := P) (base := base) T
    have tk := takes_of (X := cxOf (L2.CX P w) P w K mg base ["desk", "words", "word"] "do_road" (defScope s_do_road) (g "do_road") cdv A outer s H E) rfl rfl rfl rfl
    refine ⟨_, pss_cons (ps_set (i := 2) nd rfl (.inl rfl) (pe_gf Ro hr (passE tk rfl) (pa_cons (pe_gm Bo (pv 0) hr (passE tk rfl) (pa_cons (pe_ix ix_list (pv 1) pe_int (fun _ _ => rfl)) pa_nil)) (pa_cons (pe_ix ix_list (pv 1) pe_int (fun _ _ => rfl)) (pa_cons (pe_ix ix_list (pv 1) pe_int (fun _ _ => rfl)) pa_nil)))))
      (pss_cons (ps_if (pt_cmpR op_isN1 (pv 2) pe_non (nomark _)) (pss_one (ps_ret pe_str)) pss_nil)
      (pss_one (ps_ret (pe_op op_add_str pe_str (pv 2))))), ?_⟩
    obtain ⟨dx, ob⟩ := dob a
    simp only [exec, askB] at q1 q2
    refine ⟨_, rfl, dk, dx, _, rfl, ob, (dkN ..).1, _, rfl, wl, _, 1, _, rfl, rfl, SqL.of hw, ix_at (z := 1) (by omega) (v := .str h) rfl, Z, dk, bd, rl, ms, D, h, rfl, a, fun b i m hb hm hq => ?_, fun hn => q2 _ (by rw [hn])⟩
    rw [hb] at q1 q2
    have ha := a.ha i m _ hm hq
    have ho := book_ok o hr' hb
    refine ⟨_, rfl, wl, _, 2, _, rfl, rfl, SqL.of hw, ix_at (z := 2) (by omega) (v := .str x) rfl, _, rfl, wl, _, 3, _, rfl, rfl, SqL.of hw, ix_at (z := 3) (by omega) (v := .str y) rfl, Z, m, b, 600, x, y, rfl, ha, ho, by omega, fun rr hx hl H' s' => ?_, fun e he cls d H' rf => q2 e (by dsimp only; rw [he]) cls d H' rf⟩
    cases rr with
    | none =>
      refine ⟨_, rfl, rfl, _, rfl, iteB (fun _ => ?_) (fun c => by cases c)⟩
      exact q1 _ _ (by dsimp only; rw [hx]) _ _ _ ((DNow.refl a).same s')
    | some z =>
      refine ⟨_, rfl, rfl, _, rfl, iteB (fun c => by cases c) (fun _ => ?_)⟩
      have lz := hl z rfl
      have l1 : ("." : Str).length = 1 := by decide +kernel
      refine ⟨_, rfl, _, _, rfl, rfl, Nat.le_trans (m := 200000) (by rw [l1]; omega) (by decide), ?_⟩
      exact q1 _ _ (by dsimp only; rw [hx]) _ _ _ ((DNow.refl a).same s')
end
end Kin
set_option maxHeartbeats 4000000
/-! K47: the desk's commands: open, join. -/
namespace Kin
open PySem L2
theorem digs_len {x : Str} (f : FigW x) : (digs x).length ≤ 9 := by
  have e : x.cps.toList.length = x.cps.size := Array.length_toList
  have h : x.cps.size ≤ 9 := f.l9
  unfold digs
  rw [List.length_map]
  omega
section
variable {P : Program} {w : World} {K : PySem.W.Frag} {mg : Str → Option Value} {g : Str → Addr} {mt : Str → Str → Addr} {base : Heap}
theorem ok_do_open (T : Txt w K mg g mt) : GF P w K mg base (L2.CX P w) 8 "do_open" (spDo K g fun c => ∃ h m w, c = .opn h m w) := by
  refine gfX (F_do_open T) (T.glo _ (by decide +kernel)) sc_do_open (fun vs H Q E h => ?_) fun cdv A outer s H vs Q E hr h => ?_
  · obtain ⟨Z, dk, bd, rl, wl, ms, D, hs, r, c, rfl, _⟩ := h; rfl
  · obtain ⟨Z, dk, bd, rl, wl, ms, D, hs, r, c, rfl, ⟨h, mw, ww, rfl⟩, a, o, hr', hbl, gd, sh, hw, q1, q2⟩ := h
    have nd := sc_do_open.nd
    have Ti := ok_turn_in (P := P) (base := base) T
    have Fr := ok_free (P := P) (base := base) T
    have Pu := ok_put (P := P) (base := base) T
    have Hi := ok_Hearth_init (P := P) (base := base) T
    have Lo := ok_land_of (P := P) (base := base) T
    have tk := takes_of (X := cxOf (L2.CX P w) P w K mg base ["desk", "words", "mother", "wife"] "do_open" (defScope s_do_open) (g "do_open") cdv A outer s H E) rfl rfl rfl rfl
    refine ⟨_, pss_cons (ps_set (i := 2) nd rfl (.inl rfl) (pe_gf Ti hr pass0 (pa_cons (pe_ix ix_list (pv 1) pe_int (fun _ _ => rfl)) pa_nil)))
      (pss_cons (ps_set (i := 3) nd rfl (.inl rfl) (pe_gf Ti hr pass0 (pa_cons (pe_ix ix_list (pv 1) pe_int (fun _ _ => rfl)) pa_nil)))
      (pss_cons (ps_expr (pe_gm Fr (pv 0) hr (passE tk rfl) (pa_cons (pe_ix ix_list (pv 1) pe_int (fun _ _ => rfl)) pa_nil)))
      (pss_cons (ps_expr (pe_gm Pu (pv 0) hr pass0 (pa_cons (pe_ix ix_list (pv 1) pe_int (fun _ _ => rfl)) (pa_cons (pe_cut (pe_gk Hi hr pass0 (pa_cons (pe_gf Lo hr (passE tk rfl) (pa_cons (pv 2) (pa_cons (pv 3) pa_nil))) pa_nil))) pa_nil))))
      (pss_one (ps_ret pe_str))))), ?_⟩
    obtain ⟨dx, ob⟩ := dob a
    simp only [exec] at q1 q2
    refine ⟨_, rfl, wl, _, 2, _, rfl, rfl, SqL.of hw, ix_at (z := 2) (by omega) (v := .str mw) rfl, mw, rfl, gd.1, fun p1 H1 s1 np1 h1 => ?_⟩
    refine ⟨_, rfl, wl, _, 3, _, rfl, rfl, SqL.of (s1 _ _ hw), ix_at (z := 3) (by omega) (v := .str ww) rfl, ww, rfl, gd.2, fun p2 H2 s2 np2 h2 => ?_⟩
    have s12 := s1.trans s2
    refine ⟨_, rfl, dk, dx, _, rfl, s12 _ _ ob, (dkN ..).2.1, _, rfl, wl, _, 1, _, rfl, rfl, SqL.of (s12 _ _ hw), ix_at (z := 1) (by omega) (v := .str h) rfl, Z, dk, bd, rl, ms, D, h, rfl, a.same s12, Nat.le_trans (sh h (by simp [Cmd.words])) (by decide), fun hf H3 s3 => ?_, fun e hf cls d H' rf => q2 e (by rw [hf]) cls d H' (rf.back s12)⟩
    rw [hf] at q1 q2
    have s13 := s12.trans s3
    refine ⟨_, rfl, dk, dx, _, rfl, s13 _ _ ob, (dkN ..).2.2.1, _, rfl, wl, _, 1, _, rfl, rfl, SqL.of (s13 _ _ hw), ix_at (z := 1) (by omega) (v := .str h) rfl, ?_⟩
    refine ⟨fun v H4 => ∃ (L : LS) (m3 : HM) (Z3 : Hp), landOf (digs mw) (digs ww) = .ok L ∧ v = .ref m3.p ∧ WB g Z H Z3 H4 m3 (newH L), ?_, ?_⟩
    · refine ⟨_, rfl, _, rfl, p1, p2, digs mw, digs ww, rfl, digs_len gd.1, digs_len gd.2, s3 _ _ (s2 _ _ h1), s3 _ _ h2, fun L hL lo fa H4 s4 nlo nfa l4 => ?_, fun e he cls d H' rf => q2 e (by dsimp only; rw [he]) cls d H' (rf.back s13)⟩
      refine fun x dx3 hx hdx hne => ?_
      have s14 := s13.trans s4
      have l4' := l4
      obtain ⟨ldx, e1, e2, e3, e4⟩ := l4'
      have n0 : ∀ b ∈ [lo, p1, fa, p2], H b = none := fun b hb => by
        simp only [List.mem_cons, List.not_mem_nil, or_false] at hb
        rcases hb with rfl | rfl | rfl | rfl
        · exact s13.free nlo
        · exact np1
        · exact s13.free nfa
        · exact s1.free np2
      have z0 : ∀ b ∈ [lo, p1, fa, p2], Z b = none := fun b hb => a.zs.free (n0 b hb)
      have i1 : ∀ b o, H4 b = some o → b ∈ [lo, p1, fa, p2] → frz Z H4 [lo, p1, fa, p2] b = some o := fun b o e hb => by rw [frz_in hb]; exact e
      have keep : ∀ b o, H4 b = some o → upd (upd H4 dx3 (.own x)) x (.ins (g "Hearth") dx3 []) b = some o := fun b o e => by rw [upd_ne (ne_of_none e hx), upd_ne (ne_of_none e hdx)]; exact e
      have zs4 : Same (frz Z H4 [lo, p1, fa, p2]) H4 := frz_same (a.zs.trans s14)
      refine ⟨frz Z H4 [lo, p1, fa, p2], x, dx3, lo, L, rfl, upd_same, fun b o e => keep b o (zs4 b o e), zs4.free hx, ⟨ldx, p1, fa, p2, i1 _ _ e1 (by simp), i1 _ _ e2 (by simp), i1 _ _ e3 (by simp), i1 _ _ e4 (by simp)⟩, landOf_ok hL, fun H' m' hm ha kp fr => ⟨rfl, L, m', _, hL, by rw [hm], ha, ?_, fun y hy => ?_⟩⟩
      · have sm' : Same H4 H' := fun b o e => kp b o (keep b o e) (by simpa using ne_of_none e hx)
        exact ((Step.ofSame (Z := Z) [] s14).freezeL n0 z0).trans (Step.ofSame _ sm')
      · rcases fr y hy with rfl | q
        · exact s14.free hx
        · exact s14.free (upd_none (upd_none q))
    rintro _ H4 ⟨L, m3, Z3, hL, rfl, wb⟩
    obtain ⟨n, hb⟩ := a.newB (free_none hf).2 wb
    have lk : (kvB ms D.books).length = D.books.length := kv_len a.len
    refine ⟨dk, dx, bd, rl, m3.p, h, kvB ms D.books, rfl, wb.sm _ _ ob, hb, by omega, ?_⟩
    exact q1 _ _ (by dsimp only; rw [hL]) _ _ _ n
theorem ok_do_join (T : Txt w K mg g mt) : GF P w K mg base (L2.CX P w) 9 "do_join" (spDo K g fun c => ∃ h x y, c = .join h x y) := by
  refine gfX (F_do_join T) (T.glo _ (by decide +kernel)) sc_do_join (fun vs H Q E h => ?_) fun cdv A outer s H vs Q E hr h => ?_
  · obtain ⟨Z, dk, bd, rl, wl, ms, D, hs, r, c, rfl, _⟩ := h; rfl
  · obtain ⟨Z, dk, bd, rl, wl, ms, D, hs, r, c, rfl, ⟨h, x, y, rfl⟩, a, o, hr', hbl, gd, sh, hw, q1, q2⟩ := h
    have nd := sc_do_join.nd
    have Bo := ok_book (P := P) (base := base) T
    have Fr := ok_free (P := P) (base := base) T
    have Pu := ok_put (P := P) (base := base) T
    have Jo := ok_joined (P := P) (base := base) T
    have tk := takes_of (X := cxOf (L2.CX P w) P w K mg base ["desk", "words", "same", "part", "pair", "one", "other"] "do_join" (defScope s_do_join) (g "do_join") cdv A outer s H E) rfl rfl rfl rfl
    refine ⟨_, pss_cons (ps_set (i := 2) nd rfl (.inl rfl) (pe_lst pa_nil))
      (pss_cons (ps_if (pt_cmpR op_ne (pe_ix ix_list (pv 1) pe_int (fun _ _ => rfl)) pe_str (nomark _)) pss_never pss_nil)
      (pss_cons (ps_set (i := 5) nd rfl (.inl rfl) (pe_gm Bo (pv 0) hr (passE tk rfl) (pa_cons (pe_ix ix_list (pv 1) pe_int (fun _ _ => rfl)) pa_nil)))
      (pss_cons (ps_set (i := 6) nd rfl (.inl rfl) (pe_gm Bo (pv 0) hr (passE tk rfl) (pa_cons (pe_ix ix_list (pv 1) pe_int (fun _ _ => rfl)) pa_nil)))
      (pss_cons (ps_expr (pe_gm Fr (pv 0) hr (passE tk rfl) (pa_cons (pe_ix ix_list (pv 1) pe_int (fun _ _ => rfl)) pa_nil)))
      (pss_cons (ps_expr (pe_gm Pu (pv 0) hr pass0 (pa_cons (pe_ix ix_list (pv 1) pe_int (fun _ _ => rfl)) (pa_cons (pe_gf Jo hr (passE tk rfl) (pa_cons (pv 5) (pa_cons (pv 6) (pa_cons (pv 2) pa_nil)))) pa_nil))))
      (pss_one (ps_ret pe_str))))))), ?_⟩
    obtain ⟨dx, ob⟩ := dob a
    simp only [exec] at q1 q2
    refine ⟨Nat.zero_le _, fun sl hsl => ?_⟩
    have s1 := same_new (o := .lst []) hsl
    have h1 : upd H sl (.lst []) sl = some (.lst []) := upd_same
    generalize upd H sl (.lst []) = H1 at s1 h1 ⊢
    have a1 := a.same s1
    have hw1 := s1 _ _ hw
    have ob1 := s1 _ _ ob
    refine ⟨_, rfl, wl, _, 4, _, rfl, rfl, SqL.of hw1, ix_at (z := 4) (by omega) (v := .str "none") rfl, rfl, _, rfl, iteB (fun c => ?_) (fun _ => ?_)⟩
    · exact absurd rfl (neT c)
    refine ⟨_, rfl, dk, dx, _, rfl, ob1, (dkN ..).1, _, rfl, wl, _, 2, _, rfl, rfl, SqL.of hw1, ix_at (z := 2) (by omega) (v := .str x) rfl, Z, dk, bd, rl, ms, D, x, rfl, a1, fun bx i mx hbx hmx hqx => ?_, fun hn cls d H' rf => q2 _ (by rw [hn]) cls d H' (rf.back s1)⟩
    rw [hbx] at q1 q2
    refine ⟨_, rfl, dk, dx, _, rfl, ob1, (dkN ..).1, _, rfl, wl, _, 3, _, rfl, rfl, SqL.of hw1, ix_at (z := 3) (by omega) (v := .str y) rfl, Z, dk, bd, rl, ms, D, y, rfl, a1, fun by_ j my hby hmy hqy => ?_, fun hn cls d H' rf => q2 _ (by rw [hn]) cls d H' (rf.back s1)⟩
    rw [hby] at q1 q2
    refine ⟨_, rfl, dk, dx, _, rfl, ob1, (dkN ..).2.1, _, rfl, wl, _, 1, _, rfl, rfl, SqL.of hw1, ix_at (z := 1) (by omega) (v := .str h) rfl, Z, dk, bd, rl, ms, D, h, rfl, a1, Nat.le_trans (sh h (by simp [Cmd.words])) (by decide), fun hf H3 s3 => ?_, fun e hf cls d H' rf => q2 e (by dsimp only; rw [hf]) cls d H' (rf.back s1)⟩
    dsimp only at q1 q2
    rw [hf] at q1 q2
    have s13 := s1.trans s3
    have a3 := a.same s13
    refine ⟨_, rfl, dk, dx, _, rfl, s13 _ _ ob, (dkN ..).2.2.1, _, rfl, wl, _, 1, _, rfl, rfl, SqL.of (s13 _ _ hw), ix_at (z := 1) (by omega) (v := .str h) rfl, ?_⟩
    refine ⟨_, rfl, _, rfl, _, rfl, Z, mx, my, bx, by_, 600, sl, rfl, a3.ha i mx _ hmx hqx, a3.ha j my _ hmy hqy, book_ok o hr' hbx, book_ok o hr' hby, by omega, s3 _ _ h1, fun z hz Z4 H4 m4 wb4 => ?_, fun e he cls d H' rf => q2 e (by dsimp only; rw [he]) cls d H' (rf.back s13)⟩
    have wb := wb4.back s13
    obtain ⟨n, hb⟩ := a.newB (free_none hf).2 wb
    have lk : (kvB ms D.books).length = D.books.length := kv_len a.len
    refine ⟨dk, dx, bd, rl, m4.p, h, kvB ms D.books, rfl, wb.sm _ _ ob, hb, by omega, ?_⟩
    exact q1 _ _ (by dsimp only; rw [hz]) _ _ _ n
end
end Kin
set_option maxHeartbeats 4000000
/-! K48: ahead of desk.run: refusals are short; rules; Desk(). -/
namespace Kin
open PySem PySem.Spec PyProof.Rows L2

/-! ### the words of refusals -/
def Sh (e : Str) : Prop := e.length ≤ 50
theorem look_sh {b : BS} {k one other e : Str} (h : lookH b k one other = some e) : Sh e := by
  unfold lookH at h
  repeat' split at h
  all_goals first
    | (cases h; unfold Sh; decide +kernel)
    | cases h
theorem person_sh {x : HS} {n s e : Str} (h : personH x n s = .error e) : Sh e := by
  unfold personH at h
  repeat' split at h
  all_goals first
    | (cases h; unfold Sh; decide +kernel)
    | cases h
theorem tie_sh {x : HS} {k a b e : Str} (h : tieH x k a b = .error e) : Sh e := by
  unfold tieH at h
  split at h
  · rename_i l
    cases h
    exact look_sh l
  · dsimp only at h
    split at h
    · cases h
    · cases h; unfold Sh; decide +kernel
theorem say_sh {x : HS} {n e : Str} {s : Int} (h : sayH x n s = .error e) : Sh e := by
  unfold sayH at h
  split at h
  · cases h; unfold Sh; decide +kernel
  · split at h
    · cases h; unfold Sh; decide +kernel
    · split at h
      · cases h; unfold Sh; decide +kernel
      · dsimp only at h
        split at h
        · cases h
        · cases h; unfold Sh; decide +kernel
theorem take_sh {x : HS} {k : Int} {e : Str} (h : takeH x k = .error e) : Sh e := by
  unfold takeH at h
  split at h
  · cases h; unfold Sh; decide +kernel
  · cases h
theorem undo_sh {x : HS} {e : Str} (h : undoH x = .error e) : Sh e := by
  unfold undoH at h
  split at h
  · cases h; unfold Sh; decide +kernel
  · cases h
theorem redo_sh {x : HS} {e : Str} (h : redoH x = .error e) : Sh e := by
  unfold redoH at h
  split at h
  · cases h; unfold Sh; decide +kernel
  · cases h
theorem each_sh {α : Type} {f : HS → α → Except Str HS} (hf : ∀ h x e, f h x = .error e → Sh e) : ∀ {l : List α} {h : HS} {e : Str}, each f l h = .error e → Sh e
  | [], h, e, q => by cases q
  | x :: r, h, e, q => by
    unfold each at q
    split at q
    · exact each_sh hf q
    · rename_i e' he
      cases q
      exact hf _ _ _ he
theorem putF1_sh {h : HS} {q : Int × Fact} {e : Str} (x : putF1 h q = .error e) : Sh e := by
  unfold putF1 at x
  split at x
  · cases x
  · split at x
    · exact say_sh x
    · exact tie_sh x
theorem join_sh {a b : HS} {e : Str} (h : joinH a b = .error e) : Sh e := by
  unfold joinH at h
  split at h
  · split at h
    · rename_i e' he
      cases h
      exact each_sh (fun _ _ _ => person_sh) he
    · split at h
      · rename_i e' he
        cases h
        exact each_sh (fun _ _ _ => person_sh) he
      · split at h
        · rename_i e' he
          cases h
          exact each_sh (fun _ _ _ => putF1_sh) he
        · split at h
          · rename_i e' he
            cases h
            exact each_sh (fun _ _ _ => putF1_sh) he
          · cases h
  · cases h; unfold Sh; decide +kernel
theorem free_sh {D : DS} {h e : Str} (x : freeB D h = some e) : Sh e := by
  unfold freeB at x
  repeat' split at x
  all_goals first
    | (cases x; unfold Sh; decide +kernel)
    | cases x
theorem land_sh {m w : List Int} {e : Str} (h : landOf m w = .error e) : Sh e := by
  unfold landOf at h
  split at h
  · cases h
  · cases h; unfold Sh; decide +kernel
theorem okA_sh {x : Except Str HS} {e : Str} (hx : ∀ e, x = .error e → Sh e) (h : okA x = .error e) : Sh e := by
  unfold okA at h
  split at h
  · cases h
  · rename_i e'
    cases h
    exact hx _ rfl
theorem kept_sh {b : HS} {x : Except Str HS} {e : Str} (hx : ∀ e, x = .error e → Sh e) (h : kept b x = .error e) : Sh e := by
  unfold kept at h
  split at h
  · cases h
  · rename_i e'
    cases h
    exact hx _ rfl
theorem deed_sh {D : DS} {h e : Str} {f : HS → Except Str (HS × Str)} (hf : ∀ b e, f b = .error e → Sh e) (x : deed D h f = .error e) : Sh e := by
  unfold deed at x
  split at x
  · cases x; unfold Sh; decide +kernel
  · split at x
    · rename_i e' he
      cases x
      exact hf _ _ he
    · cases x
theorem ask_sh {D : DS} {h e : Str} {f : HS → Except Str Str} (hf : ∀ b e, f b = .error e → Sh e) (x : askB D h f = .error e) : Sh e := by
  unfold askB at x
  split at x
  · cases x; unfold Sh; decide +kernel
  · split at x
    · rename_i e' he
      cases x
      exact hf _ _ he
    · cases x
theorem who_sh {x : HS} {n e : Str} (h : whoH x n = .error e) : Sh e := by
  unfold whoH at h
  split at h
  · cases h
  · cases h; unfold Sh; decide +kernel
theorem road_sh {x : HS} {a b e : Str} (h : roadH x a b = .error e) : Sh e := by
  unfold roadH at h
  split at h
  · cases h
  · cases h; unfold Sh; decide +kernel
theorem exec_sh {D : DS} {c : Cmd} {e : Str} (h : exec D c = .error e) : Sh e := by
  cases c with
  | opn h m w =>
    simp only [exec] at h
    split at h
    · rename_i q
      cases h
      exact free_sh q
    · split at h
      · rename_i q
        cases h
        exact land_sh q
      · cases h
  | join h x y =>
    simp only [exec] at h
    split at h
    · cases h; unfold Sh; decide +kernel
    · split at h
      · cases h; unfold Sh; decide +kernel
      · split at h
        · rename_i q
          cases h
          exact free_sh q
        · split at h
          · rename_i q
            cases h
            exact join_sh q
          · cases h
  | who => simp only [exec] at h; exact ask_sh (fun b e q => by split at q <;> cases q; rename_i q; exact who_sh q) h
  | count => simp only [exec] at h; exact ask_sh (fun b e q => by cases q) h
  | road => simp only [exec] at h; exact ask_sh (fun b e q => by split at q <;> cases q; rename_i q; exact road_sh q) h
  | person => simp only [exec] at h; exact deed_sh (fun b e q => okA_sh (fun _ => person_sh) q) h
  | tie => simp only [exec] at h; exact deed_sh (fun b e q => kept_sh (fun _ => tie_sh) q) h
  | said => simp only [exec] at h; exact deed_sh (fun b e q => kept_sh (fun _ => say_sh) q) h
  | take => simp only [exec] at h; exact deed_sh (fun b e q => okA_sh (fun _ => take_sh) q) h
  | undo => simp only [exec] at h; exact deed_sh (fun b e q => okA_sh (fun _ => undo_sh) q) h
  | redo => simp only [exec] at h; exact deed_sh (fun b e q => okA_sh (fun _ => redo_sh) q) h

/-! ### rules -/
theorem pssOf {X : Cx} {l : List Stmt} {t t' : TS} (h : PSs X l t) (i : ∀ D σ H, t' D σ H → t D σ H) : PSs X l t' := ⟨fun pins s σ H D I q => h.run pins s σ H D I (i D σ H q)⟩
/-- a call of a local name that holds one of several defs, what it lets out told by the slots -/
def HeldX (P : Program) (w : World) (K : PySem.W.Frag) (mg : Str → Option Value) (base : Heap) (k : Nat) (f : Addr) (sp : Sp) : Prop :=
  ∃ (fd : FuncData) (ps : List Str), FnOk P w K mg base (L2.CX P w) k f fd ps sp ∧ PySem.W.keepIn K (.ref f) = true ∧ Binds K fd ps []
def tCallAS (P : Program) (w : World) (K : PySem.W.Frag) (mg : Str → Option Value) (base : Heap) (k i : Nat) (E : L2.St → XK) (t : TA) : TE := fun σ H Q =>
  ∃ (f : Addr) (k' : Nat) (sp : Sp), σ[i]? = some (some (.ref f)) ∧ k' ≤ k ∧ HeldX P w K mg base k' f sp ∧ t σ H fun vs H1 => sp vs H1 Q (E σ)
section
variable {X : Cx} {k i : Nat} {E : L2.St → XK} {x : Str} {p pos : Pos} {e : Expr} {es : List Expr} {t : TA}
theorem pe_callAS (hr : Room k X.A) (hN : X.N[i]? = some x) (hv : Vis X.env.scope x) (hx : ∀ σ, PassesAt (L2.CX X.prog X.w) X σ (E σ)) (ha : PA X (e :: es) t)
    (hdb : (x == ("__debug__" : Str)) = false := by decide) (hcd : (x == ("__classdict__" : Str)) = false := by decide)
    (he : starEach (e :: es) X.env = (false, eval e X.env) :: starEach es X.env := by rfl) (hpl : (backTo pos (starEach es X.env)).any (·.1) = false := by rfl) :
    PE X (.Call (.Name x p) (e :: es) [] pos) (tCallAS X.prog X.w X.K X.mg X.base k i E t) := by
  refine ⟨fun pins s σ H Q I h => ?_⟩
  obtain ⟨f, k', sp, hs, hk, ⟨fd, ps, F, kp, hb⟩, ht⟩ := h
  refine wpAny_Call_Name_kw (thn ((pe_var (pos := p) hN hv hdb hcd).run pins s σ H (fun v H1 => v = .ref f ∧ H1 = H) I ⟨.ref f, hs, rfl, rfl⟩) fun u s1 ⟨v, H1, I1, r1, q1⟩ => ?_)
  obtain ⟨rfl, rfl⟩ := q1
  cases r1
  refine PySem.W.callWith_K (h₀ := X.base) I.ok.mod.kin kp (thn (ha.run pos pins s1 σ _ _ I1 ht) fun us s2 ⟨vs, H2, I2, r, q⟩ => ⟨I2.kIn, ?_⟩) he hpl
  exact run_fnS F (hr.mono hk) hb (hx σ) I2 r q
end
/-- e.word in an except suite, whatever own class e is of -/
def tXfA (K : PySem.W.Frag) (a : Addr) (cls : Value) (d : Option Addr) (n : Str) (te : TE) : TE := fun σ H Q => te σ H fun x H1 => x = .ref a ∧ ∃ (C dd : Addr) (fs : List (Str × V)) (v : V),
  cls = .ref C ∧ XfC K C ∧ PySem.W.findIn K (.ref C) n = some none ∧ d = some dd ∧ H1 dd = some (.xd fs) ∧ fs.lookup n = some v ∧ Q v H1
theorem pe_xfA {X : Cx} {a : Addr} {oe : Obj} {cls : Value} {d : Option Addr} {pn : List (Addr × Obj)} {e : Expr} {te : TE} {pos : Pos} {n : Str}
    (hz : Zc cls d oe) (hf : ∃ vs, oe.data = .fields vs) (he : PE (X.suite a ((a, oe) :: pn)) e te) (hb : attributeBase e n X.env (eval e X.env) = eval e X.env := by rfl) :
    PE (X.suite a ((a, oe) :: pn)) (.Attribute e n pos) (tXfA X.K a cls d n te) := by
  refine ⟨fun pins s σ H Q I h => ?_⟩
  refine attr_of hb (thn (he.run pins s σ H _ I h) fun u s1 hh => ?_)
  obtain ⟨x, H1, I1, rx, ex, C, dd, fs, v, ec, T, hno, ed, ea, l, q⟩ := hh
  subst ex
  obtain rfl : u = Value.ref a := rx
  subst ec
  subst ed
  obtain ⟨ha, _⟩ := I1.pin (a, oe) (List.mem_append_left _ List.mem_cons_self)
  obtain ⟨vs, hd⟩ := hf
  have hx : ObjOk X.prog X.w H1 s1.heap dd (.xd fs) := I1.hok dd _ ea
  obtain ⟨mA, hns, hr⟩ := hx
  obtain ⟨od, ho, hl⟩ := lookIn_ns hns
  obtain ⟨u, hu, ru⟩ := RelO.some_of (v := v) (o := mA n) (by rw [← l]; exact hr n)
  have J : PySem.W.InstAt s1.heap a oe C (some od) := ⟨ha, hz.1, by unfold PySem.W.notCls; rw [hd] <;> rfl, by rw [hz.2]; exact ho⟩
  exact HandSPX.exc_get I1.kIn J T.ga T.gg T.exC (PySem.W.findObj_own T.hdC hno rfl (by rw [hl, hu])) (handed_of ru) ⟨v, H1, I1.tok _, ru, q⟩
section
variable {P : Program} {w : World} {K : PySem.W.Frag} {mg : Str → Option Value} {g : Str → Addr} {mt : Str → Str → Addr} {base : Heap}
theorem GF.held {k : Nat} {x : Str} {sp : Sp} (G : GF P w K mg base (L2.CX P w) k x sp) (h : mg x = some (.ref (g x))) : HeldX P w K mg base k (g x) sp := by
  obtain ⟨f, fd, ps, F, hm, kp, b⟩ := G.ex
  rw [h] at hm
  cases hm
  exact ⟨fd, ps, F, kp, b⟩
/-! ### Desk() -/
def spDInit (g : Str → Addr) : Sp := fun vs H Q _ => ∃ (Z : Hp) (x dx : Addr), vs = [.ref x] ∧ H x = some (.ins (g "Desk") dx []) ∧ Same Z H ∧ Z x = none ∧
  ∀ H' bd rl, DA g Z H' x bd rl [] ⟨[], []⟩ → Kept [x] H H' → H bd = none → H rl = none → Q .non H'
theorem ok_Desk_init (T : Txt w K mg g mt) : GK P w K mg base CX0 1 "Desk" (g "Desk") (spDInit g) := by
  refine gk0 (F_Desk_init T) (T.glo _ (by decide +kernel)) (T.mkr _ (by decide +kernel)) sc_Desk_init (fun vs H Q E h => ?_) fun cdv A outer s H vs Q E hr h => ?_
  · obtain ⟨Z, x, dx, rfl, _⟩ := h; rfl
  · obtain ⟨Z, x, dx, rfl, hx, zs, zx, k⟩ := h
    have c : Cls K (g "Desk") := T.cls _ (by decide +kernel)
    refine ⟨_, pss_cons (ps_fld (pv 0) pe_dnewK rfl) (pss_one (ps_fld (pv 0) (pe_lst pa_nil) rfl)), ?_⟩
    have l0 : ([] : List (Str × V)).length = 0 := rfl
    have i0 := Ini.start hx
    refine fun bd h1 => ?_
    refine ⟨_, rfl, x, _, dx, _, rfl, (i0.more (same_new h1)).ob, c, T.noat ("Desk", "books") (by decide +kernel), by omega, ?_⟩
    have l1 := lenF "books" (.ref bd) []
    have i1 := i0.obj h1 (.dK []) (putF "books" (.ref bd) [])
    have z1 : Same Z (upd (upd H bd (.dK [])) x (.ins (g "Desk") dx (putF "books" (.ref bd) []))) := same_updZ (zs.trans (same_new h1)) zx
    generalize upd (upd H bd (.dK [])) x (.ins (g "Desk") dx (putF "books" (.ref bd) [])) = H1 at i1 z1 ⊢
    refine ⟨Nat.zero_le _, fun rl h2 => ?_⟩
    refine ⟨_, rfl, x, _, dx, _, rfl, (i1.more (same_new h2)).ob, c, T.noat ("Desk", "rows") (by decide +kernel), by omega, ?_⟩
    have i2 := i1.obj h2 (.lst []) (putF "rows" (.ref rl) (putF "books" (.ref bd) []))
    have z2 : Same Z (upd (upd H1 rl (.lst [])) x (.ins (g "Desk") dx (putF "rows" (.ref rl) (putF "books" (.ref bd) [])))) := same_updZ (z1.trans (same_new h2)) zx
    generalize upd (upd H1 rl (.lst [])) x (.ins (g "Desk") dx (putF "rows" (.ref rl) (putF "books" (.ref bd) []))) = H2 at i2 z2 ⊢
    rw [dkF_made] at i2
    have w1 := i2.nw (bd, .dK []) (by simp)
    have w2 := i2.nw (rl, .lst []) (by simp)
    refine k H2 bd rl ⟨z2, rfl, i2.nd, fun i j mi mj e => by simp at e, fun i mi e => by simp at e, fun a ha => ?_, ⟨dx, i2.ob⟩, w1.2, w2.2, fun i m q e => by simp at e⟩ i2.kp w1.1 w2.1
    simp only [List.mem_cons, List.not_mem_nil, or_false] at ha
    rcases ha with rfl | rfl | rfl
    · exact zx
    · exact zs.free w1.1
    · exact zs.free w2.1
end
end Kin
set_option maxHeartbeats 4000000
/-! K49: desk.run. -/
namespace Kin
open PySem L2
def Cmd.head : Cmd → Str
  | .opn _ _ _ => "open"
  | .person s _ _ => s
  | .tie k _ _ _ => k
  | .said _ _ _ => "said"
  | .take _ _ => "take"
  | .undo _ => "undo"
  | .redo _ => "redo"
  | .join _ _ _ => "join"
  | .who _ _ => "who"
  | .count _ => "count"
  | .road _ _ _ => "road"
def Cmd.fn : Cmd → Str
  | .opn _ _ _ => "do_open"
  | .person _ _ _ => "do_person"
  | .tie _ _ _ _ => "do_tie"
  | .said _ _ _ => "do_said"
  | .take _ _ => "do_take"
  | .undo _ => "do_undo"
  | .redo _ => "do_redo"
  | .join _ _ _ => "do_join"
  | .who _ _ => "do_who"
  | .count _ => "do_count"
  | .road _ _ _ => "do_road"
theorem words0 (c : Cmd) : (c.words.map V.str)[(0 : Int).toNat]? = some (.str c.head) := by cases c <;> rfl
theorem words_ne (c : Cmd) : c.words ≠ [] := by cases c <;> simp [Cmd.words]
theorem words_len (c : Cmd) : c.words.length ≤ 5 := by cases c <;> simp [Cmd.words]
/-- a row in order: its words without blanks -/
structure Rowy (hs : List Str) (c : Cmd) : Prop where
  gd : Good hs c
  sh : Short c
  cl : ∀ x ∈ c.words, 32 ∉ TL.tl x
theorem row_split {hs : List Str} {c : Cmd} (r : Rowy hs c) : Txt.split c.row " " = c.words :=
  TL.split_join (y := " ") (s := 32) (S := []) (by decide +kernel) (by decide +kernel) (words_ne c) r.cl
theorem joinL_len {S : List Nat} {m : Nat} : ∀ {ps : List (List Nat)}, (∀ p ∈ ps, p.length ≤ m) → (TL.joinL S ps).length ≤ ps.length * (m + S.length)
  | [], _ => Nat.zero_le _
  | [p], h => by
    have := h p (by simp)
    show p.length ≤ 1 * (m + S.length)
    omega
  | p :: q :: r, h => by
    have i := joinL_len (S := S) (m := m) (ps := q :: r) fun x hx => h x (List.mem_cons_of_mem _ hx)
    have := h p (by simp)
    show (p ++ (S ++ TL.joinL S (q :: r))).length ≤ _
    rw [List.length_append, List.length_append, List.length_cons, Nat.add_mul]
    omega
theorem str_len (x : Str) : (TL.tl x).length = x.length := Array.length_toList
theorem join_len {y : Str} {xs : List Str} {m : Nat} (h : ∀ x ∈ xs, x.length ≤ m) : (Txt.join y xs).length ≤ xs.length * (m + y.length) := by
  rw [TL.join_eq, ← str_len, TL.tl_join, ← str_len y]
  have i := joinL_len (S := TL.tl y) (m := m) (ps := xs.map TL.tl) fun p hp => by
    obtain ⟨x, hx, rfl⟩ := List.mem_map.mp hp
    rw [str_len]; exact h x hx
  rw [List.length_map] at i
  exact i
theorem row_len {c : Cmd} (s : Short c) : c.row.length ≤ 600 := by
  have h := join_len (y := " ") s
  have e : (" " : Str).length = 1 := by decide +kernel
  have l := words_len c
  rw [e] at h
  have : c.words.length * (100 + 1) ≤ 5 * (100 + 1) := Nat.mul_le_mul_right _ l
  exact Nat.le_trans h (by omega)
theorem ask_in {hs : List Str} {c : Cmd} (g : Good hs c) : inV (.str c.head) [.str "who", .str "count", .str "road"] = c.ask := by
  cases c with
  | person s h n => rcases g.1 with rfl | rfl <;> kernel_rfl
  | tie k h a b => rcases g.1 with rfl | rfl | rfl | rfl <;> kernel_rfl
  | _ => kernel_rfl
section
variable {P : Program} {w : World} {K : PySem.W.Frag} {mg : Str → Option Value} {g : Str → Addr} {mt : Str → Str → Addr} {base : Heap}
theorem deed_at (T : Txt w K mg g mt) {hs : List Str} {c : Cmd} (gd : Good hs c) : KDct K w (g "DEEDS") c.head (.ref (g c.fn)) := by
  have tb : ("DEEDS" : Str) ∈ tabNames := by decide +kernel
  cases c with
  | opn => exact tabGet T (d := .fn "do_open") 18 (by kernel_rfl) tb
  | person s h n =>
    rcases gd.1 with rfl | rfl
    · exact tabGet T (d := .fn "do_person") 19 (by kernel_rfl) tb
    · exact tabGet T (d := .fn "do_person") 20 (by kernel_rfl) tb
  | tie k h a b =>
    rcases gd.1 with rfl | rfl | rfl | rfl
    · exact tabGet T (d := .fn "do_tie") 21 (by kernel_rfl) tb
    · exact tabGet T (d := .fn "do_tie") 22 (by kernel_rfl) tb
    · exact tabGet T (d := .fn "do_tie") 23 (by kernel_rfl) tb
    · exact tabGet T (d := .fn "do_tie") 24 (by kernel_rfl) tb
  | said => exact tabGet T (d := .fn "do_said") 25 (by kernel_rfl) tb
  | take => exact tabGet T (d := .fn "do_take") 26 (by kernel_rfl) tb
  | undo => exact tabGet T (d := .fn "do_undo") 27 (by kernel_rfl) tb
  | redo => exact tabGet T (d := .fn "do_redo") 28 (by kernel_rfl) tb
  | join => exact tabGet T (d := .fn "do_join") 29 (by kernel_rfl) tb
  | who => exact tabGet T (d := .fn "do_who") 30 (by kernel_rfl) tb
  | count => exact tabGet T (d := .fn "do_count") 31 (by kernel_rfl) tb
  | road => exact tabGet T (d := .fn "do_road") 32 (by kernel_rfl) tb
theorem words_at (T : Txt w K mg g mt) {hs : List Str} {c : Cmd} (gd : Good hs c) : KDct K w (g "WORDS") c.head (.int (c.words.length : Nat)) := by
  have tb : ("WORDS" : Str) ∈ tabNames := by decide +kernel
  cases c with
  | opn => exact tabGet T (d := .int 4) 33 (by kernel_rfl) tb
  | person s h n =>
    rcases gd.1 with rfl | rfl
    · exact tabGet T (d := .int 3) 34 (by kernel_rfl) tb
    · exact tabGet T (d := .int 3) 35 (by kernel_rfl) tb
  | tie k h a b =>
    rcases gd.1 with rfl | rfl | rfl | rfl
    · exact tabGet T (d := .int 4) 36 (by kernel_rfl) tb
    · exact tabGet T (d := .int 4) 37 (by kernel_rfl) tb
    · exact tabGet T (d := .int 4) 38 (by kernel_rfl) tb
    · exact tabGet T (d := .int 4) 39 (by kernel_rfl) tb
  | said => exact tabGet T (d := .int 4) 40 (by kernel_rfl) tb
  | take => exact tabGet T (d := .int 3) 41 (by kernel_rfl) tb
  | undo => exact tabGet T (d := .int 2) 42 (by kernel_rfl) tb
  | redo => exact tabGet T (d := .int 2) 43 (by kernel_rfl) tb
  | join => exact tabGet T (d := .int 5) 44 (by kernel_rfl) tb
  | who => exact tabGet T (d := .int 3) 45 (by kernel_rfl) tb
  | count => exact tabGet T (d := .int 2) 46 (by kernel_rfl) tb
  | road => exact tabGet T (d := .int 4) 47 (by kernel_rfl) tb
theorem deed_held (T : Txt w K mg g mt) (c : Cmd) : ∃ (k : Nat) (sel : Cmd → Prop), k ≤ 9 ∧ sel c ∧ HeldX P w K mg base k (g c.fn) (spDo K g sel) := by
  have G : ∀ {k : Nat} {x : Str} {sp : Sp}, GF P w K mg base (L2.CX P w) k x sp → x ∈ gloNames → HeldX P w K mg base k (g x) sp := fun h hx => h.held (T.glo _ hx)
  cases c with
  | opn h m w => exact ⟨8, _, by decide, ⟨h, m, w, rfl⟩, G (ok_do_open T) (x := "do_open") (by decide +kernel)⟩
  | person s h n => exact ⟨8, _, by decide, ⟨s, h, n, rfl⟩, G (ok_do_person T) (x := "do_person") (by decide +kernel)⟩
  | tie k h a b => exact ⟨8, _, by decide, ⟨k, h, a, b, rfl⟩, G (ok_do_tie T) (x := "do_tie") (by decide +kernel)⟩
  | said h n z => exact ⟨8, _, by decide, ⟨h, n, z, rfl⟩, G (ok_do_said T) (x := "do_said") (by decide +kernel)⟩
  | take h z => exact ⟨8, _, by decide, ⟨h, z, rfl⟩, G (ok_do_take T) (x := "do_take") (by decide +kernel)⟩
  | undo h => exact ⟨8, _, by decide, ⟨h, rfl⟩, G (ok_do_undo T) (x := "do_undo") (by decide +kernel)⟩
  | redo h => exact ⟨8, _, by decide, ⟨h, rfl⟩, G (ok_do_redo T) (x := "do_redo") (by decide +kernel)⟩
  | join h a b => exact ⟨9, _, by decide, ⟨h, a, b, rfl⟩, G (ok_do_join T) (x := "do_join") (by decide +kernel)⟩
  | who h n => exact ⟨8, _, by decide, ⟨h, n, rfl⟩, G (ok_do_who T) (x := "do_who") (by decide +kernel)⟩
  | count h => exact ⟨8, _, by decide, ⟨h, rfl⟩, G (ok_do_count T) (x := "do_count") (by decide +kernel)⟩
  | road h a b => exact ⟨8, _, by decide, ⟨h, a, b, rfl⟩, G (ok_do_road T) (x := "do_road") (by decide +kernel)⟩
def tbRun (K : PySem.W.Frag) (g : Str → Addr) (c : Cmd) (DD : DS) (dk bd rl : Addr) (ms : List HM) (W : WX) : TS := fun D σ H => ∃ (Z : Hp) (wl : Addr),
  σ = [some (.ref dk), some (.str c.row), some (.ref wl), none, none, none] ∧ DA g Z H dk bd rl ms DD ∧ H wl = some (.lst (c.words.map V.str)) ∧
  (∀ D' a, exec DD c = .ok (D', a) → ∀ Z' H' ms' f, DNow g Z H dk bd rl ms Z' H' ms' D' → D.nx [some (.ref dk), some (.str c.row), some (.ref wl), some f, some (.str a), none] H') ∧
  (∀ e, exec DD c = .error e → ∀ cls d H' f, Refused K (g "KinError") e H cls d H' → W cls d [some (.ref dk), some (.str c.row), some (.ref wl), some f, none, none] H')
def tsRun (K : PySem.W.Frag) (a : Addr) (cls : Value) (d : Option Addr) : TS := fun D σ H => ∃ (C dd : Addr) (fs : List (Str × V)) (e : Str), cls = .ref C ∧ XfC K C ∧ PySem.W.findIn K (.ref C) "word" = some none ∧ d = some dd ∧ H dd = some (.xd fs) ∧ fs.lookup ("word" : Str) = some (.str e) ∧
  σ[5]? = some (some (.ref a)) ∧ Sh e ∧ D.rt (.str ("refused " ++ e)) H
def spRun (g : Str → Addr) : Sp := fun vs H Q _ => ∃ (Z : Hp) (dk bd rl : Addr) (ms : List HM) (D : DS) (hs : List Str) (r : Nat) (c : Cmd), vs = [.ref dk, .str c.row] ∧ DA g Z H dk bd rl ms D ∧ DOk hs r D ∧ r ≤ 150 ∧ D.books.length ≤ 1000 ∧ D.rows.length ≤ 1000 ∧ Rowy hs c ∧
  ∀ Z' H' ms', DNow g Z H dk bd rl ms Z' H' ms' (runD D c).1 → Q (.str (runD D c).2) H'
theorem ok_run (T : Txt w K mg g mt) : GM P w K mg base CX0 10 (g "Desk") "run" (spRun g) := by
  refine gm0 (F_Desk_run T) (T.cls _ (by decide +kernel)) (T.meth ("Desk", "run") (by decide +kernel)) sc_Desk_run (fun vs H Q E h => ?_) fun cdv A outer s H vs Q E hr h => ?_
  · obtain ⟨Z, dk, bd, rl, ms, D, hs, r, c, rfl, _⟩ := h; rfl
  · obtain ⟨Z, dk, bd, rl, ms, D, hs, r, c, rfl, a, o, hr', hbl, hrl, rwy, q⟩ := h
    have nd := sc_Desk_run.nd
    have fL : mg "len" = none := T.free _ (by decide +kernel)
    obtain ⟨gD, esD, nD, KD⟩ := T.tab "DEEDS" (by decide +kernel)
    have gW : mg "WORDS" = some (.ref (g "WORDS")) := (T.tab "WORDS" (by decide +kernel)).1
    have gA : mg "ASKS" = some (.ref (g "ASKS")) := T.asks.1
    have gK : mg "KinError" = some (.ref (g "KinError")) := T.glo _ (by decide +kernel)
    have gd := rwy.gd
    refine ⟨_, pss_cons (ps_set (i := 2) nd rfl (.inl rfl) (pe_split (pv 1) pe_str))
      (pss_cons (ps_try_as (i := 5) (tb := tbRun K g c D dk bd rl ms) (ts := tsRun K) (Wout := fun _ _ _ _ => False) rfl rfl nd rfl rfl ⟨rfl, by decide, .inl gK⟩ takes0
        (fun W pn xe tk _ => pssOf (pss_cons (ps_if (PW.pt (pw_or (pt_cmpR (op_notIn_kd KD) (pe_ix ix_list (pv 2) pe_int (fun _ _ => rfl)) (pe_glob (v := .ref (g "DEEDS")) rfl gD rfl) rfl)
              (pw_or1 (pt_cmpR op_ne (pe_callB call_len_seq (by rfl) fL PySem.boot_len (pa_cons (pv 2) pa_nil)) (pe_ix ix_kdict (pe_glob (v := .ref (g "WORDS")) rfl gW rfl) (pe_ix ix_list (pv 2) pe_int (fun _ _ => rfl)) (fun _ _ => rfl)) (nomark _))))) (pss_one ps_never) pss_nil)
            (pss_cons (ps_set (i := 3) nd rfl (.inl rfl) (pe_ix ix_kdict (pe_glob (v := .ref (g "DEEDS")) rfl gD rfl) (pe_ix ix_list (pv 2) pe_int (fun _ _ => rfl)) (fun _ _ => rfl)))
            (pss_one (ps_set (i := 4) nd rfl (.inl rfl) (pe_callAS (i := 3) (k := 9) (E := WE W) hr rfl (.inl rfl) (fun σ => passAt tk σ) (pa_cons (pv 0) (pa_cons (pv 2) pa_nil))))))) ?hb)
        (fun a oe cls d pn hz hf => pssOf (pss_one (ps_ret (pe_op op_add_str pe_str (pe_xfA hz hf (pv 5))))) ?hs))
      (pss_cons (ps_if (pt_cmpR (r := rIn K true) op_notIn_seq (pe_ix ix_list (pv 2) pe_int (fun _ _ => rfl)) (pe_glob (v := .ref (g "ASKS")) rfl gA rfl) rfl)
        (pss_one (ps_expr (pe_bm PySem.F.plainAttrs_list PySem.F.slot_list_append PySem.F.type_list_append mt_append (pe_sf 0) (pa_cons (pv 1) pa_nil)))) pss_nil)
      (pss_one (ps_ret (pv 4))))), ?_⟩
    case hb =>
      rintro D1 σ H1 ⟨Z1, wl, rfl, a1, hw, k1, k2⟩
      obtain ⟨es, n, u, _, _, hl, _⟩ := deed_at T gd
      obtain ⟨k', sel, hk, hsel, held⟩ := deed_held (P := P) (base := base) T c
      refine ⟨_, rfl, wl, _, 0, _, rfl, rfl, SqL.of hw, ix_at (z := 0) (by omega) (words0 c), c.head, some u, rfl, rfl, hl, _, rfl, iteB (fun c => by cases c) (fun _ => ?_)⟩
      refine ⟨_, rfl, wl, _, rfl, .inl (SqL.of hw), _, rfl, wl, _, 0, _, rfl, rfl, SqL.of hw, ix_at (z := 0) (by omega) (words0 c), g "WORDS", c.head, _, rfl, rfl, words_at T gd, rfl, _, rfl, ?_⟩
      rw [List.length_map]
      refine iteB (fun c => absurd rfl (neT c)) (fun _ => ?_)
      refine ⟨_, rfl, wl, _, 0, _, rfl, rfl, SqL.of hw, ix_at (z := 0) (by omega) (words0 c), g "DEEDS", c.head, _, rfl, rfl, deed_at T gd, ?_⟩
      refine ⟨g c.fn, k', _, rfl, hk, held, _, rfl, _, rfl, Z1, dk, bd, rl, wl, ms, D, hs, r, c, rfl, hsel, a1, o, hr', hbl, gd, rwy.sh, hw, fun D' x e Z' H' ms' n => k1 D' x e Z' H' ms' _ n, fun e he cls d H' rf => k2 e he cls d H' _ rf⟩
    case hs =>
      rintro D1 σ H1 ⟨C, dd, fs, e, rfl, xf, nw, rfl, hd, hl, h5, she, k⟩
      refine ⟨_, h5, rfl, C, dd, fs, .str e, rfl, xf, nw, rfl, hd, hl, _, _, rfl, rfl, ?_, k⟩
      have l1 : ("refused " : Str).length = 8 := by decide +kernel
      have l2 : e.length ≤ 50 := she
      exact Nat.le_trans (show _ ≤ 100 by omega) (by decide)
    refine ⟨_, rfl, ⟨_, rfl⟩, c.row, _, rfl, rfl, by decide +kernel, Nat.le_trans (Nat.add_le_add_right (row_len rwy.sh) 2) (by decide), nu fun wl H1 hwl s1 hw => ?_⟩
    rw [row_split rwy] at hw
    have a1 := a.same s1
    have wn : wl ∉ foot dk bd rl ms := a.live.ne hwl
    refine ⟨Z, wl, rfl, a1, hw, fun D' x e Z' H' ms' f n => ?_, fun e he cls d H' f rf => ?_⟩
    · have hw' : H' wl = some (.lst (c.words.map V.str)) := n.st.kp _ _ hw wn
      have n0 : DNow g Z H dk bd rl ms Z' H' ms' D' := ((DNow.refl a).same s1).trans n
      refine ⟨_, rfl, wl, _, 0, _, rfl, rfl, SqL.of hw', ix_at (z := 0) (by omega) (words0 c), g "ASKS", _, rfl, .inr (T.asks.2 H'), rfl, rfl, _, rfl, ?_⟩
      rw [ask_in gd]
      have er : runD D c = if c.ask = true then (D', x) else (⟨D'.books, D'.rows ++ [c.row]⟩, x) := by unfold runD; rw [e]
      rw [er] at q
      cases ha : c.ask with
      | true =>
        rw [ha, if_pos rfl] at q
        exact iteB (fun c => by cases c) (fun _ => ⟨_, rfl, q _ _ _ n0⟩)
      | false =>
        rw [ha, if_neg (by decide)] at q
        refine iteB (fun _ => ?_) (fun c => by cases c)
        have hrw := n.da.rw
        have ers := exec_rows e
        refine ⟨_, _, rfl, rd_rows T n.da, .inl ⟨rfl, _, .inl (.inl hrw)⟩, _, rfl, rl, _, _, rfl, rfl, hrw, ?_, ?_⟩
        · rw [List.length_map, ers]; exact smallL (by omega)
        · exact ⟨_, rfl, q _ _ _ (n0.trans (n.da.log c.row))⟩
    · obtain ⟨C, dd, fs, rfl, rfl, xf, nw, ex, h6, h7, h8⟩ := rf
      refine ⟨true, ex, fun _ b hb => ?_, fun q => nomatch q⟩
      have er : runD D c = (D, "refused " ++ e) := by unfold runD; rw [he]
      rw [er] at q
      exact ⟨C, dd, fs, e, rfl, xf, nw, rfl, h6, h7, rfl, exec_sh he, q _ _ _ ((DNow.refl a).same (s1.trans h8))⟩
end
end Kin
set_option maxHeartbeats 4000000
/-! K50: the law's cells, draws, turnings, rows of numbers (only what they are like). -/
namespace Kin
open PySem L2
/-- numbers below n -/
def Bel (n : Int) (xs : List Int) : Prop := ∀ x ∈ xs, 0 ≤ x ∧ x < n
theorem Bel.nil (n : Int) : Bel n [] := fun x h => by simp at h
theorem Bel.snoc {n : Int} {xs : List Int} {x : Int} (b : Bel n xs) (h : 0 ≤ x ∧ x < n) : Bel n (xs ++ [x]) := fun y hy => by
  rcases List.mem_append.mp hy with hy | hy
  · exact b y hy
  · rw [List.mem_singleton.mp hy]; exact h
theorem mod_bel (a : Int) {n : Int} (h : 0 < n) : 0 ≤ a % n ∧ a % n < n := ⟨Int.emod_nonneg a (by omega), Int.emod_lt_of_pos a h⟩
theorem map_erase {α β : Type} (f : α → β) : ∀ (xs : List α) (i : Nat), (xs.map f).eraseIdx i = (xs.eraseIdx i).map f
  | [], _ => by simp
  | x :: r, 0 => by simp
  | x :: r, i + 1 => by simp [map_erase f r i]
section
variable {P : Program} {w : World} {K : PySem.W.Frag} {mg : Str → Option Value} {g : Str → Addr} {mt : Str → Str → Addr} {base : Heap}
def spCell : Sp := fun vs H Q _ => ∃ (a : Addr) (zs : List Int) (k : Nat), vs = [.ref a, .int (k : Nat)] ∧ H a = some (li zs) ∧ ∀ v : Int, Q (.int v) H
theorem ok_cell (T : Txt w K mg g mt) : GF P w K mg base CX0 1 "_law_cell" spCell := by
  refine gf0 (F_law_cell T) (T.glo _ (by decide +kernel)) sc_law_cell (fun vs H Q E h => ?_) fun cdv A outer s H vs Q E hr h => ?_
  · obtain ⟨a, zs, k, rfl, _⟩ := h; rfl
  · obtain ⟨a, zs, k, rfl, ha, q⟩ := h
    have fL : mg "len" = none := T.free _ (by decide +kernel)
    refine ⟨_, pss_cons (ps_if (pt_cmpR op_lt (pv 1) (pe_callB call_len_seq (by rfl) fL PySem.boot_len (pa_cons (pv 0) pa_nil)) (nomark _)) (pss_one (ps_ret (pe_ix ix_list (pv 0) (pv 1) (fun _ _ => rfl)))) pss_nil) (pss_one (ps_ret pe_int)), ?_⟩
    refine ⟨_, rfl, _, rfl, a, _, rfl, .inl (SqL.of ha), _, _, rfl, rfl, _, rfl, iteB (fun c => ?_) (fun _ => q 0)⟩
    have hk := eqT c
    rw [List.length_map] at hk
    have hk' : k < zs.length := by omega
    exact ⟨_, rfl, _, rfl, a, _, _, _, rfl, rfl, SqL.of ha, ix_at (by omega) (at_map (List.getElem?_eq_getElem (l := zs) (i := ((k : Nat) : Int).toNat) (by omega))), q _⟩

def spDraws : Sp := fun vs H Q _ => ∃ (c : Int) (a : Addr) (ps : List Int), vs = [.int c, .ref a] ∧ H a = some (li ps) ∧ (∀ p ∈ ps, 0 < p ∧ p < 1000000) ∧ ps.length ≤ 10 ∧
  ∀ p (ds : List Int) H', Same H H' → H' p = some (li ds) → ds.length = ps.length → (∀ (i : Nat) d p, ds[i]? = some d → ps[i]? = some p → 0 ≤ d ∧ d < p) → Q (.ref p) H'
theorem ok_draws (T : Txt w K mg g mt) : GF P w K mg base CX0 1 "_law_draws" spDraws := by
  refine gf0 (F_law_draws T) (T.glo _ (by decide +kernel)) sc_law_draws (fun vs H Q E h => ?_) fun cdv A outer s H vs Q E hr h => ?_
  · obtain ⟨c, a, ps, rfl, _⟩ := h; rfl
  · obtain ⟨c, a, ps, rfl, ha, hp, hz, q⟩ := h
    have nd := sc_law_draws.nd
    have fA : mg "abs" = none := T.free _ (by decide +kernel)
    refine ⟨_, pss_cons (ps_cut (ps_if (pt_cmpR op_lt (pe_callB call_abs (by rfl) fA (by decide +kernel) (pa_cons (pv 0) pa_nil)) (pe_op op_pow pe_int pe_int) (nomark _))
        (pss_cons (ps_set (i := 2) nd rfl (.inl rfl) (pe_op op_mod (pe_op op_add (pe_op op_mul (pv 0) pe_int) pe_int) pe_int))
        (pss_cons (ps_set (i := 3) nd rfl (.inl rfl) (pe_op op_mod (pe_op op_add (pe_op op_add (pe_op op_mul (pv 2) (pv 2)) (pe_op op_mul pe_int (pv 2))) (pv 0)) pe_int))
        (pss_cons (ps_set (i := 4) nd rfl (.inl rfl) (pe_op op_mod (pe_op op_add (pe_op op_mul (pv 3) pe_int) (pv 2)) pe_int))
        (pss_one (ps_set (i := 0) nd rfl (.inl rfl) (pe_op op_add (pv 3) (pe_op op_mul pe_int (pe_op op_add (pv 4) (pe_op op_mul pe_int (pv 2))))))))))
        (pss_one (ps_set (i := 0) nd rfl (.inl rfl) (pe_op op_sub (pe_callB call_abs (by rfl) fA (by decide +kernel) (pa_cons (pv 0) pa_nil)) (pe_op op_pow pe_int pe_int))))))
      (pss_cons (ps_set (i := 5) nd rfl (.inl rfl) (pe_lst pa_nil))
      (pss_cons (ps_for PassesOwn.never rfl (pi_list (pv 1)) (pg_name (i := 6) nd rfl (.inl rfl))
        (pss_cons (ps_expr (pe_bm PySem.F.plainAttrs_list PySem.F.slot_list_append PySem.F.type_list_append mt_append (pv 5) (pa_cons (pe_op op_mod (pv 0) (pv 6)) pa_nil)))
        (pss_one (ps_set (i := 0) nd rfl (.inl rfl) (pe_op op_fdiv (pv 0) (pv 6))))))
      (pss_one (ps_ret (pv 5))))), ?_⟩
    have hpw : CPow (10 : Int) 18 := ⟨by decide, by decide, by decide⟩
    refine ⟨fun σ' H' => (∃ c1 u2 u3 u4, σ' = [some (.int c1), some (.ref a), u2, u3, u4, none, none]) ∧ H' = H, ?_, ?_⟩
    · refine ⟨_, rfl, c, rfl, _, _, rfl, rfl, hpw, _, _, rfl, rfl, _, rfl, iteB (fun _ => ?_) (fun _ => ?_)⟩
      · have m1 := mod_bel (c * 48271 + 11) (n := 2147483647) (by decide)
        have p1 : (0 : Int) < 2147483647 := by decide
        have p2 : (0 : Int) < 2147483399 := by decide
        have p3 : (0 : Int) < 1000000007 := by decide
        refine ⟨_, rfl, _, _, rfl, rfl, .inr ⟨by decide, by decide⟩, _, _, rfl, rfl, _, _, rfl, rfl, p1, ?_⟩
        refine ⟨_, rfl, _, rfl, _, _, rfl, rfl, .inl ⟨by omega, by omega⟩, _, rfl, _, _, rfl, rfl, .inl ⟨by decide, by decide⟩, _, _, rfl, rfl, _, rfl, _, _, rfl, rfl, _, _, rfl, rfl, p2, ?_⟩
        refine ⟨_, rfl, _, _, rfl, rfl, .inr ⟨by decide, by decide⟩, _, rfl, _, _, rfl, rfl, _, _, rfl, rfl, p3, ?_⟩
        refine ⟨_, rfl, _, rfl, _, rfl, _, _, rfl, rfl, .inl ⟨by decide, by decide⟩, _, _, rfl, rfl, _, _, rfl, rfl, .inl ⟨by decide, by decide⟩, _, _, rfl, rfl, ?_⟩
        exact ⟨⟨_, _, _, _, rfl⟩, rfl⟩
      · exact ⟨_, rfl, c, rfl, _, _, rfl, rfl, hpw, _, _, rfl, rfl, ⟨_, _, _, _, rfl⟩, rfl⟩
    rintro σ' H' ⟨⟨c1, u2, u3, u4, rfl⟩, rfl⟩
    refine ⟨Nat.zero_le _, nu fun F H1 hF s1 h1 => ?_⟩
    have haF : a ≠ F := ne_of_none ha hF
    refine ⟨_, rfl, a, rfl, ⟨_, SqL.of (s1 _ _ ha)⟩, ?_⟩
    refine for_it (walk_list (K := K) (a := a) (xs := ps.map V.int)) (fun i σ G => (∃ c1 u6, σ = [some (.int c1), some (.ref a), u2, u3, u4, some (.ref F), u6]) ∧ Same H' G ∧ ∃ ds : List Int, G F = some (li ds) ∧ ds.length = i ∧ ∀ (j : Nat) d p, ds[j]? = some d → ps[j]? = some p → 0 ≤ d ∧ d < p)
      ⟨⟨_, none, rfl⟩, s1, [], h1, rfl, fun j d p e => by simp at e⟩ (fun i σ G _ p => SqL.of (p.2.1 _ _ ha)) ?_ ?_
    · rintro i v σ G G' hi ⟨⟨c1, u6, rfl⟩, sG, ds, hd, hl, hb⟩ ⟨rfl, hv⟩
      obtain ⟨p, hpi, rfl⟩ := map_at hv
      obtain ⟨p0, p1⟩ := hp p (List.mem_of_getElem? hpi)
      rw [List.length_map] at hi
      refine ⟨_, rfl, .inl ⟨rfl, _, SqL.of hd⟩, _, rfl, _, rfl, _, _, rfl, rfl, p0, F, _, _, rfl, rfl, hd, by rw [List.length_map]; exact smallL (by omega), ?_⟩
      refine ⟨_, rfl, _, rfl, _, _, rfl, rfl, ⟨p0, by omega⟩, ⟨_, _, rfl⟩, same_mut sG hF, ds ++ [c1 % p], ?_, by simp [hl], fun j d p' e1 e2 => ?_⟩
      · rw [upd_same]; simp [li]
      · by_cases c : j < ds.length
        · rw [List.getElem?_append_left c] at e1
          exact hb j d p' e1 e2
        · rw [List.getElem?_append_right (by omega)] at e1
          have hj : j - ds.length = 0 := by
            cases q : j - ds.length with
            | zero => rfl
            | succ k => rw [q] at e1; simp at e1
          rw [hj] at e1
          have ej : j = i := by omega
          subst ej
          rw [hpi] at e2
          cases e2
          have e1 : c1 % p = d := by simpa using e1
          rw [← e1]
          exact mod_bel _ p0
    · rintro σ G ⟨⟨c1, u6, rfl⟩, sG, ds, hd, hl, hb⟩
      rw [List.length_map] at hl
      exact ⟨_, rfl, q F ds G sG hd hl hb⟩

def spTurn : Sp := fun vs H Q _ => ∃ (c : Int) (n : Nat), vs = [.int c, .int (n : Nat)] ∧ n ≤ 8 ∧ ∀ p (xs : List Int) H', Same H H' → H' p = some (ti xs) → xs.length = n → Bel n xs → Q (.ref p) H'
theorem ok_turn (T : Txt w K mg g mt) : GF P w K mg base CX0 1 "_law_turn" spTurn := by
  refine gf0 (F_law_turn T) (T.glo _ (by decide +kernel)) sc_law_turn (fun vs H Q E h => ?_) fun cdv A outer s H vs Q E hr h => ?_
  · obtain ⟨c, n, rfl, _⟩ := h; rfl
  · obtain ⟨c, n, rfl, hn, q⟩ := h
    have nd := sc_law_turn.nd
    have fL : mg "list" = none := T.free _ (by decide +kernel)
    have fR : mg "range" = none := T.free _ (by decide +kernel)
    have fT : mg "tuple" = none := T.free _ (by decide +kernel)
    refine ⟨_, pss_cons (ps_set (i := 2) nd rfl (.inl rfl) (pe_listRg rfl (by rfl) fL (prg_1 (by rfl) fR (pv 1))))
      (pss_cons (ps_set (i := 3) nd rfl (.inl rfl) (pe_lst pa_nil))
      (pss_cons (ps_for PassesOwn.never rfl (pi_range1 rfl fR (pa_cons (pv 1) pa_nil)) (pg_name (i := 4) nd rfl (.inl rfl))
        (pss_cons (ps_expr (pe_bm PySem.F.plainAttrs_list PySem.F.slot_list_append PySem.F.type_list_append mt_append (pv 3) (pa_cons
          (pe_bm PySem.F.plainAttrs_list PySem.F.slot_list_pop PySem.F.type_list_pop mt_popAt (pv 2) (pa_cons (pe_op op_mod (pv 0) (pe_op op_sub (pv 1) (pv 4))) pa_nil)) pa_nil)))
        (pss_one (ps_set (i := 0) nd rfl (.inl rfl) (pe_op op_fdiv (pv 0) (pe_op op_sub (pv 1) (pv 4)))))))
      (pss_one (ps_ret (pe_callTy call_tuple_of (by rfl) fT PyProof.Rows.boot_tuple (pa_cons (pv 3) pa_nil)))))), ?_⟩
    refine ⟨_, rfl, _, rfl, RgOk.of_le (by omega) (by omega) (by omega) (by omega), nu fun F H1 hF s1 h1 => ?_⟩
    rw [rg_still] at h1
    refine ⟨Nat.zero_le _, nu fun G H2 hG s2 h2 => ?_⟩
    have s12 := s1.trans s2
    have hG0 := s1.free hG
    have nFG : F ≠ G := ne_of_none h1 hG
    refine ⟨_, rfl, _, rfl, by omega, by omega, ?_⟩
    refine for_it (walk_r0 (n := n)) (fun i σ J => (∃ c1 u4, σ = [some (.int c1), some (.int (n : Nat)), some (.ref F), some (.ref G), u4]) ∧ Same H J ∧ (∃ fs : List Int, J F = some (li fs) ∧ fs.length = n - i ∧ Bel n fs) ∧ ∃ gs : List Int, J G = some (li gs) ∧ gs.length = i ∧ Bel n gs)
      ⟨⟨_, none, rfl⟩, s12, ⟨still n, s2 _ _ h1, by rw [(fit_still n).len]; rfl, (fit_still n).rng⟩, [], h2, rfl, Bel.nil _⟩ (fun _ _ _ _ _ => trivial) ?_ ?_
    · rintro i v σ J J' hi ⟨⟨c1, u4, rfl⟩, sJ, ⟨fs, f1, f2, f3⟩, gs, g1, g2, g3⟩ ⟨rfl, rfl⟩
      have m := mod_bel c1 (n := (n : Int) - (i : Nat)) (by omega)
      generalize hj : c1 % ((n : Int) - (i : Nat)) = j at m
      have hjl : j.toNat < fs.length := by omega
      have hy : fs[j.toNat]? = some fs[j.toNat] := List.getElem?_eq_getElem hjl
      have hm := f3 _ (List.mem_of_getElem? hy)
      refine ⟨_, rfl, .inl ⟨rfl, _, SqL.of g1⟩, _, rfl, .inl ⟨rfl, _, SqL.of f1⟩, _, rfl, _, rfl, _, rfl, _, _, rfl, rfl, _, _, rfl, rfl, (show (0 : Int) < (n : Int) - (i : Nat) by omega), ?_⟩
      refine ⟨F, fs.map V.int, j, j.toNat, .int fs[j.toNat], rfl, congrArg (fun z => [V.int z]) hj, f1, by omega, by omega, (ixN_seq (ixN_at m.1 (by rw [List.length_map]; exact hjl))).1, at_map hy, ?_⟩
      refine ⟨G, gs.map V.int, _, rfl, rfl, by rw [upd_ne (Ne.symm nFG)]; exact g1, by rw [List.length_map]; exact smallL (by omega), ?_⟩
      refine ⟨_, rfl, _, rfl, _, rfl, _, _, rfl, rfl, _, _, rfl, rfl, ⟨by omega, by omega⟩, ⟨_, _, rfl⟩, same_mut (same_mut sJ hF) hG0, ⟨fs.eraseIdx j.toNat, ?_, ?_, fun x hx => f3 x (List.mem_of_mem_eraseIdx hx)⟩, gs ++ [fs[j.toNat]], ?_, by simp [g2], g3.snoc hm⟩
      · rw [upd_ne nFG, upd_same, map_erase]
      · rw [List.length_eraseIdx]; split <;> omega
      · rw [upd_same]; simp [li]
    · rintro σ J ⟨⟨c1, u4, rfl⟩, sJ, _, gs, g1, g2, g3⟩
      exact ⟨_, rfl, G, _, rfl, .inl ⟨SqL.of g1, nu fun p H4 hp s4 h4 => q p gs H4 (sJ.trans s4) h4 g2 g3⟩⟩
theorem ok_row (T : Txt w K mg g mt) : GF P w K mg base CX0 2 "_law_row" spTurn := by
  refine gf0 (F_law_row T) (T.glo _ (by decide +kernel)) sc_law_row (fun vs H Q E h => ?_) fun cdv A outer s H vs Q E hr h => ?_
  · obtain ⟨c, n, rfl, _⟩ := h; rfl
  · obtain ⟨c, n, rfl, hn, q⟩ := h
    have nd := sc_law_row.nd
    have fR : mg "range" = none := T.free _ (by decide +kernel)
    have fT : mg "tuple" = none := T.free _ (by decide +kernel)
    have Dr := ok_draws (P := P) (base := base) T
    have Tu := ok_turn (P := P) (base := base) T
    refine ⟨_, pss_cons (ps_set (i := 2) nd rfl (by first | exact .inl rfl | exact .inr rfl) (pe_gf Dr hr pass0 (pa_cons (pv 0) (pa_cons (pe_lst (pa_cons pe_int (pa_cons pe_int pa_nil))) pa_nil))))
      (pss_cons (ps_if (pt_cmpR op_eq (pe_ix ix_list (pv 2) pe_int (fun _ _ => rfl)) pe_int (nomark _))
        (pss_one (ps_ret (pe_callTy call_tuple_of (by rfl) fT PyProof.Rows.boot_tuple (pa_cons
          (pe_lc (own := [("_law_at", 3)]) (g := gName 3) (tt := tYes) rfl nd (pi_range1 rfl fR (pa_cons (pv 1) pa_nil)) (blkOk_by (N := ["_law_cell_here", "_law_size", "_law_drawn", "_law_at"]) (sc := defScope s_law_row) (by decide +kernel)) (fun _ _ _ _ _ => pg_name (i := 3) nd rfl (Or.inl rfl)) (fun _ _ _ _ _ => pts_nil)
            (fun _ _ _ _ _ => pe_op op_mod (pe_op op_add (pv 3) (pe_ix (r := rIxL K) ix_list (pv 2) pe_int (fun _ _ => rfl))) (pv 1))) pa_nil)))) pss_nil)
      (pss_one (ps_ret (pe_gf Tu hr pass0 (pa_cons (pe_ix ix_list (pv 2) pe_int (fun _ _ => rfl)) (pa_cons (pv 1) pa_nil)))))), ?_⟩
    refine ⟨_, rfl, small 2 (by decide), nu fun l H1 hl s1 h1 => ?_⟩
    refine ⟨c, l, [3, 40320], rfl, h1, fun p hp => ?_, by decide, fun D ds H2 s2 h2 z2 b2 => ?_⟩
    · simp only [List.mem_cons, List.not_mem_nil, or_false] at hp
      rcases hp with rfl | rfl <;> omega
    have s12 := s1.trans s2
    have z2 : ds.length = 2 := z2
    have e0 : ds[0]? = some ds[0] := List.getElem?_eq_getElem (by omega)
    have e1 : ds[1]? = some ds[1] := List.getElem?_eq_getElem (by omega)
    refine ⟨_, rfl, D, _, 0, _, rfl, rfl, SqL.of h2, ix_at (z := 0) (by omega) (at_map e0), rfl, _, rfl, iteB (fun _ => ?_) (fun _ => ?_)⟩
    · refine ⟨_, rfl, _, rfl, by omega, by omega, fun L hL => lc_pure (walk_r0 (n := n)) (fun i => [.int (((i : Nat) + ds[1]) % (n : Nat))]) hL (by omega) (fun _ _ => trivial) ?_ ?_⟩
      · rintro i v G G' hi s3 ⟨rfl, rfl⟩ Qe Qn qe qn
        refine ⟨rfl, yesT ?_⟩
        refine ⟨_, rfl, _, rfl, D, _, 1, _, rfl, rfl, SqL.of (s3 _ _ h2), ix_at (z := 1) (by omega) (at_map e1), _, _, rfl, rfl, _, rfl, _, _, rfl, rfl, (show (0 : Int) < (n : Nat) by omega), qe _ _ (Same.refl _) rfl⟩
      · intro G s3 hG
        have e : outs (fun i => [V.int (((i : Nat) + ds[1]) % (n : Nat))]) n = ((List.range n).map fun i : Nat => ((i : Nat) + ds[1]) % (n : Nat)).map V.int := by
          unfold outs
          rw [List.map_map]
          induction (List.range n) with
          | nil => rfl
          | cons a r ih => rw [List.flatMap_cons, ih]; rfl
        rw [e] at hG
        refine ⟨L, _, rfl, .inl ⟨SqL.of hG, nu fun p H4 hp s4 h4 => q p _ H4 (s12.trans (s3.trans s4)) h4 (by simp) fun x hx => ?_⟩⟩
        obtain ⟨i, hi, rfl⟩ := List.mem_map.mp hx
        have : i < n := List.mem_range.mp hi
        exact mod_bel _ (by omega)
    · exact ⟨_, rfl, D, _, 1, _, rfl, rfl, SqL.of h2, ix_at (z := 1) (by omega) (at_map e1), _, rfl, _, n, rfl, hn, fun p xs H4 s4 h4 l4 b4 => q p xs H4 (s12.trans s4) h4 l4 b4⟩
end
end Kin
set_option maxHeartbeats 4000000
/-! K51: the law's names. -/
namespace Kin
open PySem L2
/-- a text of small letters and figures -/
structure NW (m : Nat) (x : Str) : Prop where
  l : x.length ≤ m
  s : ∀ c ∈ TL.tl x, (48 ≤ c ∧ c ≤ 57) ∨ (97 ≤ c ∧ c ≤ 122)
theorem NW.app {m n : Nat} {x y : Str} (h : NW m x) (h' : NW n y) : NW (m + n) (x ++ y) := by
  refine ⟨?_, fun c hc => ?_⟩
  · have := h.l
    have := h'.l
    rw [← str_len, TL.tl_append, List.length_append, str_len, str_len]
    omega
  · rw [TL.tl_append] at hc
    exact (List.mem_append.mp hc).elim (h.s c) (h'.s c)
theorem NW.mono {m n : Nat} {x : Str} (h : NW m x) (l : m ≤ n) : NW n x := ⟨Nat.le_trans h.l l, h.s⟩
theorem NW.clean {m : Nat} {x : Str} (h : NW m x) : 32 ∉ TL.tl x := fun hm => by
  have := h.s 32 hm
  omega
theorem tl_istr {i : Int} (h : 0 ≤ i) : TL.tl (istr i) = TL.numL i.toNat := by
  have e : i = ((i.toNat : Nat) : Int) := by omega
  rw [e]
  exact TL.tl_num _
theorem nw_istr {i : Int} (h0 : 0 ≤ i) (h1 : i ≤ 1000) : NW 4 (istr i) := by
  refine ⟨istr_le h0 h1, fun c hc => .inl ?_⟩
  rw [tl_istr h0] at hc
  exact TL.numL_digits _ c hc
theorem figw_istr {i : Int} (h0 : 0 ≤ i) (h1 : i ≤ 1000) : FigW (istr i) := by
  have e := tl_istr h0
  refine ⟨fun c hc => ?_, fun hn => ?_, Nat.le_trans (istr_le h0 h1) (by decide)⟩
  · have hc : c ∈ TL.tl (istr i) := hc
    rw [e] at hc
    exact TL.numL_digits _ c hc
  · have hn : TL.tl (istr i) = [] := hn
    rw [e] at hn
    exact TL.numL_ne _ hn
theorem mulq {m : Int} (h0 : 0 ≤ m) (h1 : m ≤ 9) : PySem.MulOk "q" m ∧ NW 9 (Txt.mul "q" m) := by
  have hc : m = 0 ∨ m = 1 ∨ m = 2 ∨ m = 3 ∨ m = 4 ∨ m = 5 ∨ m = 6 ∨ m = 7 ∨ m = 8 ∨ m = 9 := by omega
  rcases hc with rfl | rfl | rfl | rfl | rfl | rfl | rfl | rfl | rfl | rfl <;> exact ⟨by unfold MulOk; decide +kernel, by decide +kernel, by decide +kernel⟩
theorem let_at {i : Int} (h0 : 0 ≤ i) (h1 : i < 26) : ∃ c, (letters26).cps[i.toNat]? = some c ∧ NW 1 ⟨#[c]⟩ := by
  have hs : letters26.cps.size = 26 := by decide +kernel
  have hl : i.toNat < letters26.cps.size := by omega
  refine ⟨letters26.cps[i.toNat], Array.getElem?_eq_getElem hl, by show 1 ≤ 1; omega, fun c hc => .inr ?_⟩
  have hc : c ∈ [letters26.cps[i.toNat]] := hc
  rw [List.mem_singleton.mp hc]
  have al : ∀ c ∈ letters26.cps.toList, 97 ≤ c ∧ c ≤ 122 := by decide +kernel
  exact al _ (by rw [Array.mem_toList_iff]; exact Array.getElem_mem hl)
theorem let_len : letters26.length = 26 := by decide +kernel
theorem nw_fit {m n : Nat} {x y : Str} (h : NW m x) (h' : NW n y) (l : m + n ≤ 100) : x.length + y.length ≤ sizeLine := by
  have := h.l
  have := h'.l
  exact Nat.le_trans (show _ ≤ 100 by omega) (by decide)
section
variable {P : Program} {w : World} {K : PySem.W.Frag} {mg : Str → Option Value} {g : Str → Addr} {mt : Str → Str → Addr} {base : Heap}
def spName : Sp := fun vs H Q _ => ∃ (k s : Nat), vs = [.int (k : Nat), .int (s : Nat)] ∧ k ≤ 9 ∧ s ≤ 97 ∧ ∀ x, NW 20 x → Q (.str x) H
theorem ok_name (T : Txt w K mg g mt) : GF P w K mg base CX0 1 "_law_name" spName := by
  refine gf0 (F_law_name T) (T.glo _ (by decide +kernel)) sc_law_name (fun vs H Q E h => ?_) fun cdv A outer s H vs Q E hr h => ?_
  · obtain ⟨k, s, rfl, _⟩ := h; rfl
  · obtain ⟨k, sa, rfl, hk, hs, q⟩ := h
    have nd := sc_law_name.nd
    have fS : mg "str" = none := T.free _ (by decide +kernel)
    refine ⟨_, pss_cons (ps_set (i := 2) nd rfl (.inl rfl) pe_str)
      (pss_cons (ps_set (i := 3) nd rfl (.inl rfl) (pe_op op_mulS pe_str (pe_op op_mod (pe_op op_add (pe_op op_mul (pv 0) (pv 1)) (pv 1)) pe_int)))
      (pss_cons (ps_set (i := 4) nd rfl (.inl rfl) (pe_op op_mod (pe_op op_add (pe_op op_mul (pv 0) pe_int) (pv 1)) pe_int))
      (pss_cons (ps_cut (ps_if (pt_cmpR op_eq (pe_op op_mod (pe_op op_fdiv (pv 1) pe_int) pe_int) pe_int (nomark _)) (pss_one (ps_set (i := 3) nd rfl (.inl rfl) (pe_op op_mulS pe_str pe_int))) pss_nil))
      (pss_cons (ps_if (pt_cmpR op_eq (pe_op op_mod (pv 1) pe_int) pe_int (nomark _))
        (pss_one (ps_ret (pe_op op_add_str (pe_op op_add_str (pe_item_str (pv 2) (pe_op op_mod (pe_op op_add (pe_op op_mul (pv 0) pe_int) (pv 1)) pe_int) (fun _ _ => rfl)) (pe_callTy call_str_int (by rfl) fS (by decide +kernel) (pa_cons (pe_op op_fdiv (pv 0) pe_int) pa_nil))) (pv 3)))) pss_nil)
      (pss_cons (ps_if (pt_cmpR op_eq (pe_op op_mod (pv 1) pe_int) pe_int (nomark _))
        (pss_one (ps_ret (pe_op op_add_str (pe_op op_add_str (pe_item_str (pv 2) (pe_op op_mod (pv 1) pe_int) (fun _ _ => rfl)) (pv 3)) (pe_callTy call_str_int (by rfl) fS (by decide +kernel) (pa_cons (pv 4) pa_nil))))) pss_nil)
      (pss_one (ps_ret (pe_op op_add_str (pe_op op_add_str (pe_item_str (pv 2) (pe_op op_mod (pv 1) pe_int) (fun _ _ => rfl)) (pe_callTy call_str_int (by rfl) fS (by decide +kernel) (pa_cons (pv 4) pa_nil))) (pv 3))))))))), ?_⟩
    have p5 : (0 : Int) < 5 := by decide
    have p61 : (0 : Int) < 61 := by decide
    have p3 : (0 : Int) < 3 := by decide
    have p26 : (0 : Int) < 26 := by decide
    have m5 := mod_bel ((k : Int) * (sa : Nat) + (sa : Nat)) p5
    have m61 := mod_bel ((k : Int) * 17 + (sa : Nat)) p61
    have m26 := mod_bel ((k : Int) * 7 + (sa : Nat)) p26
    have n26 := mod_bel ((sa : Nat) : Int) p26
    obtain ⟨mq, nq⟩ := mulq m5.1 (by omega)
    obtain ⟨mq9, nq9⟩ := mulq (m := 9) (by decide) (by decide)
    obtain ⟨cA, hcA, nA⟩ := let_at m26.1 m26.2
    obtain ⟨cB, hcB, nB⟩ := let_at n26.1 n26.2
    have kd : 0 ≤ ((k : Nat) : Int) / 26 ∧ ((k : Nat) : Int) / 26 ≤ 1000 := by omega
    have nK := nw_istr kd.1 kd.2
    have nM := nw_istr m61.1 (by omega)
    refine ⟨_, rfl, _, rfl, _, _, rfl, rfl, .inl ⟨by omega, by omega⟩, _, rfl, _, _, rfl, rfl, _, _, rfl, rfl, p5, _, _, rfl, rfl, mq, ?_⟩
    refine ⟨_, rfl, _, _, rfl, rfl, .inr ⟨by decide, by decide⟩, _, rfl, _, _, rfl, rfl, _, _, rfl, rfl, p61, ?_⟩
    refine ⟨fun σ' H' => (∃ F, NW 9 F ∧ σ' = [some (.int (k : Nat)), some (.int (sa : Nat)), some (.str letters26), some (.str F), some (.int (((k : Nat) * 17 + (sa : Nat)) % 61))]) ∧ H' = H, ?_, ?_⟩
    · refine ⟨_, rfl, _, _, rfl, rfl, ⟨by decide, by decide⟩, _, _, rfl, rfl, p3, rfl, _, rfl, iteB (fun _ => ?_) (fun _ => ?_)⟩
      · exact ⟨_, _, rfl, rfl, mq9, ⟨_, nq9, rfl⟩, rfl⟩
      · exact ⟨⟨_, nq, rfl⟩, rfl⟩
    rintro σ' H' ⟨⟨F, nF, rfl⟩, rfl⟩
    refine ⟨_, rfl, _, _, rfl, rfl, p3, rfl, _, rfl, iteB (fun _ => ?_) (fun _ => ?_)⟩
    · refine ⟨_, rfl, _, rfl, _, _, rfl, rfl, .inr ⟨by decide, by decide⟩, _, rfl, _, _, rfl, rfl, _, _, rfl, rfl, p26, letters26, _, cA, rfl, rfl, m26.1, by omega, by rw [let_len]; omega, hcA, ?_⟩
      refine ⟨_, rfl, _, _, rfl, rfl, ⟨by decide, by decide⟩, _, rfl, log_small kd.1 kd.2, _, _, rfl, rfl, nw_fit nA nK (by decide), _, rfl, _, _, rfl, rfl, nw_fit (nA.app nK) nF (by decide), ?_⟩
      exact q _ (((nA.app nK).app nF).mono (by decide))
    refine ⟨_, rfl, _, _, rfl, rfl, p3, rfl, _, rfl, iteB (fun _ => ?_) (fun _ => ?_)⟩
    · refine ⟨_, rfl, _, rfl, _, _, rfl, rfl, p26, letters26, _, cB, rfl, rfl, n26.1, by omega, by rw [let_len]; omega, hcB, ?_⟩
      refine ⟨_, rfl, _, _, rfl, rfl, nw_fit nB nF (by decide), _, rfl, _, rfl, log_small m61.1 (by omega), _, _, rfl, rfl, nw_fit (nB.app nF) nM (by decide), ?_⟩
      exact q _ (((nB.app nF).app nM).mono (by decide))
    · refine ⟨_, rfl, _, rfl, _, _, rfl, rfl, p26, letters26, _, cB, rfl, rfl, n26.1, by omega, by rw [let_len]; omega, hcB, ?_⟩
      refine ⟨_, rfl, _, rfl, log_small m61.1 (by omega), _, _, rfl, rfl, nw_fit nB nM (by decide), _, rfl, _, _, rfl, rfl, nw_fit (nB.app nM) nF (by decide), ?_⟩
      exact q _ (((nB.app nM).app nF).mono (by decide))
end
end Kin
set_option maxHeartbeats 4000000
/-! K52: the law's words of a row. -/
namespace Kin
open PySem L2
def hallsL : List Str := ["b", "x9qqqqqqqqqb", "x9qqqqqqqqqc"]
def kindsA : List Str := ["man", "woman", "man", "woman", "mother", "father", "wed", "sibling", "mother", "father"]
def kindsB : List Str := ["said", "take", "undo", "redo", "who", "count", "road"]
/-- a word of a row -/
structure WW (x : Str) : Prop where
  l : x.length ≤ 100
  c : 32 ∉ TL.tl x
theorem NW.ww {m : Nat} {x : Str} (h : NW m x) (hm : m ≤ 100) : WW x := ⟨Nat.le_trans h.l hm, h.clean⟩
theorem halls_ww : ∀ x ∈ hallsL, WW x := by
  have h : ∀ x ∈ hallsL, x.length ≤ 100 ∧ 32 ∉ TL.tl x := by decide +kernel
  exact fun x hx => ⟨(h x hx).1, (h x hx).2⟩
theorem kinds_ww : ∀ x ∈ kindsA ++ kindsB, WW x := by
  have h : ∀ x ∈ kindsA ++ kindsB, x.length ≤ 100 ∧ 32 ∉ TL.tl x := by decide +kernel
  exact fun x hx => ⟨(h x hx).1, (h x hx).2⟩
/-- the book that a row makes -/
def Cmd.made : Cmd → Option Str
  | .opn h _ _ => some h
  | .join h _ _ => some h
  | _ => none
/-- a row of the law's -/
structure LawC (c : Cmd) : Prop where
  ry : Rowy hallsL c
  nl : c.made ≠ some "last"
theorem lawc_of {c : Cmd} (g : Good hallsL c) (h : ∀ x ∈ c.words, WW x) (n : c.made ≠ some "last") : LawC c := ⟨⟨g, fun x hx => (h x hx).l, fun x hx => (h x hx).c⟩, n⟩
theorem inV_str (x : Str) (l : List Str) : inV (.str x) (l.map V.str) = decide (x ∈ l) := by
  unfold inV
  rw [List.any_map]
  induction l with
  | nil => simp
  | cons y r ih =>
    rw [List.any_cons, ih]
    have e : ((fun z => eqV z (V.str x)) ∘ V.str) y = decide (x = y) := by
      show (y == x) = decide (x = y)
      by_cases c : x = y
      · rw [c]; simp
      · have : ¬ y = x := fun q => c q.symm
        simp [c, this]
    rw [e]
    by_cases c : x = y <;> by_cases c2 : x ∈ r <;> simp [c, c2]
theorem rest_kinds : ∀ hd ∈ kindsA ++ kindsB, hd ∉ (["man", "woman", "who"] : List Str) → hd ≠ "said" → hd ≠ "take" → hd ∉ (["undo", "redo", "count"] : List Str) → (hd = "mother" ∨ hd = "father" ∨ hd = "wed" ∨ hd = "sibling") ∨ hd = "road" := by decide +kernel
section
variable {P : Program} {w : World} {K : PySem.W.Frag} {mg : Str → Option Value} {g : Str → Addr} {mt : Str → Str → Addr} {base : Heap}
abbrev ls (xs : List Str) : HO := .lst (xs.map V.str)
def spWords : Sp := fun vs H Q _ => ∃ (c : Int) (ha pa : Addr) (pool : List Str), vs = [.int c, .ref ha, .ref pa] ∧ H ha = some (ls hallsL) ∧ H pa = some (ls pool) ∧ pool.length = 9 ∧ (∀ x ∈ pool, WW x) ∧
  ∀ p c H', Same H H' → H' p = some (ls c.words) → LawC c → Q (.ref p) H'
theorem ok_words (T : Txt w K mg g mt) : GF P w K mg base CX0 2 "_law_words" spWords := by
  refine gf0 (F_law_words T) (T.glo _ (by decide +kernel)) sc_law_words (fun vs H Q E h => ?_) fun cdv A outer s H vs Q E hr h => ?_
  · obtain ⟨c, ha, pa, pool, rfl, _⟩ := h; rfl
  · obtain ⟨c, ha, pa, pool, rfl, hha, hpa, pl, pw, q⟩ := h
    have nd := sc_law_words.nd
    have fL : mg "len" = none := T.free _ (by decide +kernel)
    have fS : mg "str" = none := T.free _ (by decide +kernel)
    have Dr := ok_draws (P := P) (base := base) T
    refine ⟨_, pss_cons (ps_set (i := 3) nd rfl (.inl rfl) (pe_gf Dr hr pass0 (pa_cons (pv 0) (pa_cons (pe_lst (pa_cons pe_int (pa_cons pe_int (pa_cons pe_int (pa_cons pe_int (pa_cons pe_int (pa_cons pe_int pa_nil))))))) pa_nil))))
      (pss_cons (ps_set (i := 4) nd rfl (.inl rfl) (pe_lst (pa_cons pe_str (pa_cons pe_str (pa_cons pe_str (pa_cons pe_str (pa_cons pe_str (pa_cons pe_str (pa_cons pe_str (pa_cons pe_str (pa_cons pe_str (pa_cons pe_str pa_nil))))))))))))
      (pss_cons (ps_set (i := 4) nd rfl (.inl rfl) (pe_op op_cat (pv 4) (pe_lst (pa_cons pe_str (pa_cons pe_str (pa_cons pe_str (pa_cons pe_str (pa_cons pe_str (pa_cons pe_str (pa_cons pe_str pa_nil))))))))))
      (pss_cons (ps_set (i := 5) nd rfl (.inl rfl) (pe_ix ix_list (pv 4) (pe_ix ix_list (pv 3) pe_int (fun _ _ => rfl)) (fun _ _ => rfl)))
      (pss_cons (ps_set (i := 6) nd rfl (.inl rfl) (pe_lst (pa_cons (pv 5) (pa_cons (pe_ix ix_list (pv 1) (pe_op op_mod (pe_ix ix_list (pv 3) pe_int (fun _ _ => rfl)) (pe_callB call_len_seq (by rfl) fL PySem.boot_len (pa_cons (pv 1) pa_nil))) (fun _ _ => rfl)) pa_nil))))
      (pss_cons (ps_set (i := 7) nd rfl (.inl rfl) (pe_ix ix_list (pv 2) (pe_op op_mod (pe_ix ix_list (pv 3) pe_int (fun _ _ => rfl)) (pe_callB call_len_seq (by rfl) fL PySem.boot_len (pa_cons (pv 2) pa_nil))) (fun _ _ => rfl)))
      (pss_cons (ps_if (pt_cmpR op_in_seq (pv 5) (pe_tup (pa_cons pe_str (pa_cons pe_str (pa_cons pe_str pa_nil)))) rfl)
        (pss_one (ps_ret (pe_op op_cat (pv 6) (pe_lst (pa_cons (pv 7) pa_nil))))) pss_nil)
      (pss_cons (ps_if (pt_cmpR op_eq (pv 5) pe_str (nomark _))
        (pss_one (ps_ret (pe_op op_cat (pv 6) (pe_lst (pa_cons (pv 7) (pa_cons (pe_callTy call_str_int (by rfl) fS (by decide +kernel) (pa_cons (pe_ix ix_list (pv 3) pe_int (fun _ _ => rfl)) pa_nil)) pa_nil)))))) pss_nil)
      (pss_cons (ps_if (pt_cmpR op_eq (pv 5) pe_str (nomark _))
        (pss_one (ps_ret (pe_op op_cat (pv 6) (pe_lst (pa_cons (pe_callTy call_str_int (by rfl) fS (by decide +kernel) (pa_cons (pe_op op_mod (pe_ix ix_list (pv 3) pe_int (fun _ _ => rfl)) (pe_op op_add pe_int (pe_ix ix_list (pv 3) pe_int (fun _ _ => rfl)))) pa_nil)) pa_nil))))) pss_nil)
      (pss_cons (ps_if (pt_cmpR op_in_seq (pv 5) (pe_tup (pa_cons pe_str (pa_cons pe_str (pa_cons pe_str pa_nil)))) rfl)
        (pss_one (ps_ret (pv 6))) pss_nil)
      (pss_one (ps_ret (pe_op op_cat (pv 6) (pe_lst (pa_cons (pv 7) (pa_cons (pe_ix ix_list (pv 2) (pe_op op_mod (pe_ix ix_list (pv 3) pe_int (fun _ _ => rfl)) (pe_callB call_len_seq (by rfl) fL PySem.boot_len (pa_cons (pv 2) pa_nil))) (fun _ _ => rfl)) pa_nil))))))))))))))), ?_⟩
    -- draws
    refine ⟨_, rfl, small 6 (by decide), nu fun l H1 hl s1 h1 => ?_⟩
    refine ⟨c, l, [17, 61, 59, 11, 7, 5], rfl, h1, fun p hp => ?_, by decide, fun D ds H2 s2 h2 z2 b2 => ?_⟩
    · simp only [List.mem_cons, List.not_mem_nil, or_false] at hp
      rcases hp with rfl | rfl | rfl | rfl | rfl | rfl <;> omega
    have s12 := s1.trans s2
    have z2 : ds.length = 6 := z2
    have e0 : ds[0]? = some ds[0] := List.getElem?_eq_getElem (by omega)
    have e1 : ds[1]? = some ds[1] := List.getElem?_eq_getElem (by omega)
    have e2 : ds[2]? = some ds[2] := List.getElem?_eq_getElem (by omega)
    have e3 : ds[3]? = some ds[3] := List.getElem?_eq_getElem (by omega)
    have e5 : ds[5]? = some ds[5] := List.getElem?_eq_getElem (by omega)
    have b0 := b2 0 _ 17 e0 rfl
    have b3 := b2 3 _ 11 e3 rfl
    -- kinds
    refine ⟨small 10 (by decide), nu fun ka H3 hka s3 h3 => ?_⟩
    refine ⟨_, rfl, small 7 (by decide), fun kb hkb => ?_⟩
    generalize e4 : upd H3 kb _ = H4
    have s4 : Same H3 H4 := by rw [← e4]; exact same_new hkb
    have h4 : H4 kb = some (ls kindsB) := by rw [← e4]; exact upd_same
    refine ⟨ka, kb, _, _, rfl, rfl, s4 _ _ h3, h4, by decide, nu fun kc H5 hkc s5 h5 => ?_⟩
    have h5 : H5 kc = some (ls (kindsA ++ kindsB)) := h5
    have s35 := s3.trans (s4.trans s5)
    have hD5 := s35 _ _ h2
    have kl : (kindsA ++ kindsB).length = 17 := by decide
    have eh : (kindsA ++ kindsB)[ds[0].toNat]? = some (kindsA ++ kindsB)[ds[0].toNat] := List.getElem?_eq_getElem (by omega)
    have hm := List.mem_of_getElem? eh
    generalize (kindsA ++ kindsB)[ds[0].toNat] = hd at eh hm
    refine ⟨_, rfl, _, rfl, D, _, 0, _, rfl, rfl, SqL.of hD5, ix_at (z := 0) (by omega) (at_map e0), kc, _, _, _, rfl, rfl, SqL.of h5, ix_at b0.1 (at_map eh), ?_⟩
    -- the hall
    have s15 := s12.trans s35
    have hh5 := s15 _ _ hha
    have hp5 := s15 _ _ hpa
    have p3 : (0 : Int) < ((List.map V.str hallsL).length : Nat) := by decide
    have l3 : (List.map V.str hallsL).length = 3 := rfl
    have m3 := mod_bel ds[5] p3
    have ea : hallsL[(ds[5] % ((List.map V.str hallsL).length : Nat)).toNat]? = some (hallsL[(ds[5] % ((List.map V.str hallsL).length : Nat)).toNat]'(by rw [l3] at m3 ⊢; show _ < 3; omega)) := List.getElem?_eq_getElem _
    have hhm := List.mem_of_getElem? ea
    generalize hallsL[(ds[5] % ((List.map V.str hallsL).length : Nat)).toNat]'_ = hall at ea hhm
    refine ⟨_, rfl, _, rfl, _, rfl, D, _, 5, _, rfl, rfl, SqL.of hD5, ix_at (z := 5) (by omega) (at_map e5), _, rfl, ha, _, rfl, .inl (SqL.of hh5), _, _, rfl, rfl, p3, ha, _, _, _, rfl, rfl, SqL.of hh5, ix_at m3.1 (at_map ea), small 2 (by decide), nu fun wa H6 hwa s6 h6 => ?_⟩
    -- the one
    have hD6 := s6 _ _ hD5
    have hp6 := s6 _ _ hp5
    have p9 : (0 : Int) < ((List.map V.str pool).length : Nat) := by rw [List.length_map, pl]; decide
    have l9 : (List.map V.str pool).length = 9 := by rw [List.length_map, pl]
    have m9 := mod_bel ds[1] p9
    have eb : pool[(ds[1] % ((List.map V.str pool).length : Nat)).toNat]? = some (pool[(ds[1] % ((List.map V.str pool).length : Nat)).toNat]'(by rw [l9] at m9 ⊢; omega)) := List.getElem?_eq_getElem _
    have hbm := List.mem_of_getElem? eb
    generalize pool[(ds[1] % ((List.map V.str pool).length : Nat)).toNat]'_ = one at eb hbm
    refine ⟨_, rfl, _, rfl, D, _, 1, _, rfl, rfl, SqL.of hD6, ix_at (z := 1) (by omega) (at_map e1), _, rfl, pa, _, rfl, .inl (SqL.of hp6), _, _, rfl, rfl, p9, pa, _, _, _, rfl, rfl, SqL.of hp6, ix_at m9.1 (at_map eb), ?_⟩
    have s16 := s15.trans s6
    have wd := kinds_ww hd hm
    have wh := halls_ww hall hhm
    have wo := pw one hbm
    -- man, woman, who
    refine ⟨_, rfl, small 3 (by decide), fun t1 ht1 => ?_⟩
    generalize e7 : upd H6 t1 _ = H7
    have s7 : Same H6 H7 := by rw [← e7]; exact same_new ht1
    have h7 : H7 t1 = some (.tup ((["man", "woman", "who"] : List Str).map V.str)) := by rw [← e7]; exact upd_same
    have s17 := s16.trans s7
    refine ⟨t1, _, rfl, .inr (SqT.of h7), rfl, rfl, _, rfl, ?_⟩
    rw [inV_str]
    refine iteB (fun c => ?_) (fun c1 => ?_)
    · have hc := eqT c
      refine ⟨_, rfl, _, rfl, small 1 (by decide), fun o1 ho1 => ?_⟩
      generalize e8 : upd H7 o1 _ = H8
      have s8 : Same H7 H8 := by rw [← e8]; exact same_new ho1
      have h8 : H8 o1 = some (ls [one]) := by rw [← e8]; exact upd_same
      refine ⟨wa, o1, _, _, rfl, rfl, s8 _ _ (s7 _ _ h6), h8, small 3 (by decide), nu fun p H9 hp s9 h9 => ?_⟩
      have s19 := s17.trans (s8.trans s9)
      simp only [List.mem_cons, List.not_mem_nil, or_false] at hc
      rcases hc with rfl | rfl | rfl
      · exact q p (.person "man" hall one) H9 s19 h9 (lawc_of ⟨.inl rfl, hhm⟩ (fun x hx => by
          simp only [Cmd.words, List.mem_cons, List.not_mem_nil, or_false] at hx
          rcases hx with rfl | rfl | rfl
          · exact wd
          · exact wh
          · exact wo) (fun e => by cases e))
      · exact q p (.person "woman" hall one) H9 s19 h9 (lawc_of ⟨.inr rfl, hhm⟩ (fun x hx => by
          simp only [Cmd.words, List.mem_cons, List.not_mem_nil, or_false] at hx
          rcases hx with rfl | rfl | rfl
          · exact wd
          · exact wh
          · exact wo) (fun e => by cases e))
      · exact q p (.who hall one) H9 s19 h9 (lawc_of trivial (fun x hx => by
          simp only [Cmd.words, List.mem_cons, List.not_mem_nil, or_false] at hx
          rcases hx with rfl | rfl | rfl
          · exact wd
          · exact wh
          · exact wo) (fun e => by cases e))
    have n1 : hd ∉ (["man", "woman", "who"] : List Str) := of_decide_eq_false c1
    have hD7 := s7 _ _ hD6
    -- said
    refine ⟨_, rfl, rfl, _, rfl, iteB (fun c => ?_) (fun c2 => ?_)⟩
    · have hc := vstr (eqT c)
      subst hc
      refine ⟨_, rfl, _, rfl, _, rfl, D, _, 3, _, rfl, rfl, SqL.of hD7, ix_at (z := 3) (by omega) (at_map e3), _, rfl, log_small b3.1 (by omega), small 2 (by decide), fun o1 ho1 => ?_⟩
      generalize e8 : upd H7 o1 _ = H8
      have s8 : Same H7 H8 := by rw [← e8]; exact same_new ho1
      have h8 : H8 o1 = some (ls [one, istr ds[3]]) := by rw [← e8]; exact upd_same
      refine ⟨wa, o1, _, _, rfl, rfl, s8 _ _ (s7 _ _ h6), h8, small 4 (by decide), nu fun p H9 hp s9 h9 => ?_⟩
      have s19 := s17.trans (s8.trans s9)
      exact q p (.said hall one (istr ds[3])) H9 s19 h9 (lawc_of ⟨hhm, figw_istr b3.1 (by omega)⟩ (fun x hx => by
          simp only [Cmd.words, List.mem_cons, List.not_mem_nil, or_false] at hx
          rcases hx with rfl | rfl | rfl | rfl
          · exact wd
          · exact wh
          · exact wo
          · exact (nw_istr b3.1 (by omega)).ww (by decide)) (fun e => by cases e))
    have n2 : hd ≠ "said" := fun e => eqF c2 (by rw [e])
    -- take
    refine ⟨_, rfl, rfl, _, rfl, iteB (fun c => ?_) (fun c3 => ?_)⟩
    · have hc := vstr (eqT c)
      subst hc
      have pp : (0 : Int) < 1 + ds[3] := by omega
      have mm := mod_bel ds[1] pp
      refine ⟨_, rfl, _, rfl, D, _, 1, _, rfl, rfl, SqL.of hD7, ix_at (z := 1) (by omega) (at_map e1), _, rfl, D, _, 3, _, rfl, rfl, SqL.of hD7, ix_at (z := 3) (by omega) (at_map e3), _, _, rfl, rfl, _, _, rfl, rfl, pp, _, rfl, log_small (i := ds[1] % (1 + ds[3])) mm.1 (by omega), small 1 (by decide), fun o1 ho1 => ?_⟩
      generalize e8 : upd H7 o1 _ = H8
      have s8 : Same H7 H8 := by rw [← e8]; exact same_new ho1
      have h8 : H8 o1 = some (ls [istr (ds[1] % (1 + ds[3]))]) := by rw [← e8]; exact upd_same
      refine ⟨wa, o1, _, _, rfl, rfl, s8 _ _ (s7 _ _ h6), h8, small 3 (by decide), nu fun p H9 hp s9 h9 => ?_⟩
      have s19 := s17.trans (s8.trans s9)
      exact q p (.take hall (istr (ds[1] % (1 + ds[3])))) H9 s19 h9 (lawc_of ⟨hhm, figw_istr mm.1 (by omega)⟩ (fun x hx => by
          simp only [Cmd.words, List.mem_cons, List.not_mem_nil, or_false] at hx
          rcases hx with rfl | rfl | rfl
          · exact wd
          · exact wh
          · exact (nw_istr mm.1 (by omega)).ww (by decide)) (fun e => by cases e))
    have n3 : hd ≠ "take" := fun e => eqF c3 (by rw [e])
    -- undo, redo, count
    refine ⟨_, rfl, small 3 (by decide), fun t2 ht2 => ?_⟩
    generalize e8 : upd H7 t2 _ = H8
    have s8 : Same H7 H8 := by rw [← e8]; exact same_new ht2
    have h8 : H8 t2 = some (.tup ((["undo", "redo", "count"] : List Str).map V.str)) := by rw [← e8]; exact upd_same
    have s18 := s17.trans s8
    have hw8 : H8 wa = some (ls [hd, hall]) := s8 _ _ (s7 _ _ h6)
    refine ⟨t2, _, rfl, .inr (SqT.of h8), rfl, rfl, _, rfl, ?_⟩
    rw [inV_str]
    refine iteB (fun c => ?_) (fun c4 => ?_)
    · have hc := eqT c
      simp only [List.mem_cons, List.not_mem_nil, or_false] at hc
      rcases hc with rfl | rfl | rfl
      · exact ⟨_, rfl, q wa (.undo hall) H8 s18 hw8 (lawc_of hhm (fun x hx => by
          simp only [Cmd.words, List.mem_cons, List.not_mem_nil, or_false] at hx
          rcases hx with rfl | rfl
          · exact wd
          · exact wh) (fun e => by cases e))⟩
      · exact ⟨_, rfl, q wa (.redo hall) H8 s18 hw8 (lawc_of hhm (fun x hx => by
          simp only [Cmd.words, List.mem_cons, List.not_mem_nil, or_false] at hx
          rcases hx with rfl | rfl
          · exact wd
          · exact wh) (fun e => by cases e))⟩
      · exact ⟨_, rfl, q wa (.count hall) H8 s18 hw8 (lawc_of trivial (fun x hx => by
          simp only [Cmd.words, List.mem_cons, List.not_mem_nil, or_false] at hx
          rcases hx with rfl | rfl
          · exact wd
          · exact wh) (fun e => by cases e))⟩
    have n4 : hd ∉ (["undo", "redo", "count"] : List Str) := of_decide_eq_false c4
    -- the rest
    have hD8 := s8 _ _ hD7
    have hp8 := s8 _ _ (s7 _ _ hp6)
    have m2 := mod_bel ds[2] p9
    have ec : pool[(ds[2] % ((List.map V.str pool).length : Nat)).toNat]? = some (pool[(ds[2] % ((List.map V.str pool).length : Nat)).toNat]'(by rw [l9] at m2 ⊢; omega)) := List.getElem?_eq_getElem _
    have hcm := List.mem_of_getElem? ec
    generalize pool[(ds[2] % ((List.map V.str pool).length : Nat)).toNat]'_ = two at ec hcm
    have wt := pw two hcm
    refine ⟨_, rfl, _, rfl, _, rfl, _, rfl, D, _, 2, _, rfl, rfl, SqL.of hD8, ix_at (z := 2) (by omega) (at_map e2), _, rfl, pa, _, rfl, .inl (SqL.of hp8), _, _, rfl, rfl, p9, pa, _, _, _, rfl, rfl, SqL.of hp8, ix_at m2.1 (at_map ec), small 2 (by decide), fun o1 ho1 => ?_⟩
    generalize e9 : upd H8 o1 _ = H9
    have s9 : Same H8 H9 := by rw [← e9]; exact same_new ho1
    have h9 : H9 o1 = some (ls [one, two]) := by rw [← e9]; exact upd_same
    refine ⟨wa, o1, _, _, rfl, rfl, s9 _ _ hw8, h9, small 4 (by decide), nu fun p H10 hp s10 h10 => ?_⟩
    have s20 := s18.trans (s9.trans s10)
    rcases rest_kinds hd hm n1 n2 n3 n4 with tie | rfl
    · exact q p (.tie hd hall one two) H10 s20 h10 (lawc_of ⟨tie, hhm⟩ (fun x hx => by
          simp only [Cmd.words, List.mem_cons, List.not_mem_nil, or_false] at hx
          rcases hx with rfl | rfl | rfl | rfl
          · exact wd
          · exact wh
          · exact wo
          · exact wt) (fun e => by cases e))
    · exact q p (.road hall one two) H10 s20 h10 (lawc_of trivial (fun x hx => by
          simp only [Cmd.words, List.mem_cons, List.not_mem_nil, or_false] at hx
          rcases hx with rfl | rfl | rfl | rfl
          · exact wd
          · exact wh
          · exact wo
          · exact wt) (fun e => by cases e))
end
end Kin
set_option maxHeartbeats 4000000
/-! K53: the law's opening rows. -/
namespace Kin
open PySem L2
theorem joinL_mem {c : Nat} {S : List Nat} : ∀ {ps : List (List Nat)}, c ∈ TL.joinL S ps → c ∈ S ∨ ∃ p ∈ ps, c ∈ p
  | [], h => by simp [TL.joinL] at h
  | [p], h => .inr ⟨p, by simp, h⟩
  | p :: q :: r, h => by
    have h : c ∈ p ++ (S ++ TL.joinL S (q :: r)) := h
    rcases List.mem_append.mp h with h | h
    · exact .inr ⟨p, by simp, h⟩
    · rcases List.mem_append.mp h with h | h
      · exact .inl h
      · rcases joinL_mem h with h | ⟨x, hx, hc⟩
        · exact .inl h
        · exact .inr ⟨x, List.mem_cons_of_mem _ hx, hc⟩
theorem joinL_ne {S p : List Nat} {r : List (List Nat)} (h : p ≠ []) : TL.joinL S (p :: r) ≠ [] := by
  cases r with
  | nil => exact h
  | cons q r =>
    show p ++ _ ≠ []
    intro e
    exact h (List.append_eq_nil_iff.mp e).1
theorem figs_w {n : Nat} {xs : List Int} (hl : xs.length = n) (h0 : 0 < n) (h8 : n ≤ 8) (b : Bel n xs) : FigW (figs xs) ∧ NW 8 (figs xs) := by
  have et : TL.tl (figs xs) = TL.joinL [] (xs.map fun x => TL.tl (istr x)) := by
    unfold figs
    rw [TL.join_eq, TL.tl_join, List.map_map]
    rfl
  have dg : ∀ c ∈ TL.tl (figs xs), 48 ≤ c ∧ c ≤ 57 := fun c hc => by
    rw [et] at hc
    rcases joinL_mem hc with hc | ⟨p, hp, hc⟩
    · simp at hc
    · obtain ⟨x, hx, rfl⟩ := List.mem_map.mp hp
      rw [tl_istr (b x hx).1] at hc
      exact TL.numL_digits _ c hc
  have ln : (figs xs).length ≤ 8 := by
    have h := join_len (y := "") (xs := xs.map istr) (m := 1) fun x hx => by
      obtain ⟨z, hz, rfl⟩ := List.mem_map.mp hx
      have r := b z hz
      rw [istr_len r.1 (by omega)]
      exact Nat.le_refl _
    have e : ("" : Str).length = 0 := rfl
    rw [List.length_map, e] at h
    exact Nat.le_trans h (by omega)
  refine ⟨⟨dg, ?_, by omega⟩, ln, fun c hc => .inl (dg c hc)⟩
  show TL.tl (figs xs) ≠ []
  rw [et]
  cases xs with
  | nil => simp at hl; omega
  | cons x r =>
    refine joinL_ne ?_
    show TL.tl (istr x) ≠ []
    rw [tl_istr (b x (by simp)).1]
    exact TL.numL_ne _
theorem sum_le {m : Nat} : ∀ {ys : List Str}, (∀ y ∈ ys, y.length ≤ m) → (ys.map (·.length)).sum ≤ ys.length * m
  | [], _ => Nat.zero_le _
  | y :: r, h => by
    have i := sum_le (ys := r) fun z hz => h z (List.mem_cons_of_mem _ hz)
    have := h y (by simp)
    rw [List.map_cons, List.sum_cons, List.length_cons, Nat.add_mul]
    omega
theorem join_fit {ys : List Str} {a : Str} (h : ∀ y ∈ ys, y.length ≤ 100) (ha : a.length ≤ 1) (hl : ys.length ≤ 10) : (ys.map (·.length)).sum + ys.length * a.length ≤ 16777216 := by
  have h1 := sum_le h
  have h2 : ys.length * a.length ≤ 10 * 1 := Nat.mul_le_mul hl ha
  have h3 : ys.length * 100 ≤ 10 * 100 := Nat.mul_le_mul_right _ hl
  omega
section
variable {P : Program} {w : World} {K : PySem.W.Frag} {mg : Str → Option Value} {g : Str → Addr} {mt : Str → Str → Addr} {base : Heap}
def spLOpen : Sp := fun vs H Q _ => ∃ (a : Addr) (zs : List Int) (k n : Nat) (hall : Str), vs = [.ref a, .int (k : Nat), .int (n : Nat), .str hall] ∧ H a = some (li zs) ∧ 2 ≤ n ∧ n ≤ 8 ∧ hall ∈ hallsL ∧
  ∀ p m wi c H', Same H H' → H' p = some (.tup [.ref m, .ref wi, .str c.row]) → LawC c → Q (.ref p) H'
/-- y.join(l), as pe_join has it -/
abbrev tJoin (K : PySem.W.Frag) (to te : TE) : TE := tM1 (fun x xs H Q => ∃ a p, ∃ ys : List Str, x = .str a ∧ xs = [.ref p] ∧ (SqL K H p (ys.map V.str) ∨ SqT K H p (ys.map V.str)) ∧ (ys.map (·.length)).sum + ys.length * a.length ≤ 16777216 ∧ Q (.str (Txt.join a ys)) H) to te
abbrev N_open : List Str := ["_law_script", "_law_k", "_law_size", "_law_hall", "_law_mother", "_law_wife", "_law_figures", "_law_turn_here", "_law_at"]
theorem ok_lopen (T : Txt w K mg g mt) : GF P w K mg base CX0 3 "_law_open" spLOpen := by
  refine gf0 (F_law_open T) (T.glo _ (by decide +kernel)) sc_law_open (fun vs H Q E h => ?_) fun cdv A outer s H vs Q E hr h => ?_
  · obtain ⟨a, zs, k, n, hall, rfl, _⟩ := h; rfl
  · obtain ⟨a, zs, k, n, hall, rfl, ha, n2, n8, hh, q⟩ := h
    have nd := sc_law_open.nd
    have fS : mg "str" = none := T.free _ (by decide +kernel)
    have Ce := ok_cell (P := P) (base := base) T
    have Ro := ok_row (P := P) (base := base) T
    refine ⟨_, pss_cons (ps_set (i := 4) nd rfl (.inl rfl) (pe_gf Ro hr pass0 (pa_cons (pe_op op_add (pe_gf Ce hr pass0 (pa_cons (pv 0) (pa_cons pe_int pa_nil))) (pe_op op_fdiv (pv 1) pe_int)) (pa_cons (pv 2) pa_nil))))
      (pss_cons (ps_set (i := 5) nd rfl (.inl rfl) (pe_gf Ro hr pass0 (pa_cons (pe_gf Ce hr pass0 (pa_cons (pv 0) (pa_cons pe_int pa_nil))) (pa_cons (pv 2) pa_nil))))
      (pss_cons (ps_setLc (te := tJoin K (tC (.str "")) (tLc (iTup K (tVar 7)) (gName 8) tYes _ [8])) (i := 6) (own := [("_law_turn_here", 7)]) (g := gName 7) (tt := tYes) rfl nd rfl rfl (sw_true rfl rfl rfl (by decide +kernel)) (pi_tup (pe_tup (pa_cons (pv 4) (pa_cons (pv 5) pa_nil)))) (blkOk_by (N := N_open) (sc := defScope s_law_open) (by decide +kernel))
          (fun _ _ _ _ _ => pg_name (i := 7) nd rfl (Or.inl rfl)) (fun _ _ _ _ _ => pts_nil)
          (fun _ _ _ _ _ => pe_join pe_str (pe_lc (own := [("_law_at", 8)]) (g := gName 8) (tt := tYes) rfl nd (pi_tup (pv 7)) (blkOk_by (N := N_open) (by kernel_rfl))
            (fun _ _ _ _ _ => pg_name (i := 8) nd rfl (Or.inl rfl)) (fun _ _ _ _ _ => pts_nil)
            (fun _ _ _ _ _ => pe_callTy call_str_int (by rfl) fS (by decide +kernel) (pa_cons (pv 8) pa_nil)))))
      (pss_one (ps_ret (pe_tup (pa_cons (pv 4) (pa_cons (pv 5) (pa_cons (pe_join pe_str (pe_op op_cat (pe_lst (pa_cons pe_str (pa_cons (pv 3) pa_nil))) (pv 6))) pa_nil)))))))), ?_⟩
    refine ⟨_, rfl, a, zs, 1, rfl, ha, fun v1 => ⟨_, rfl, _, _, rfl, rfl, ⟨by decide, by decide⟩, _, _, rfl, rfl, _, rfl, _, n, rfl, n8, fun m xs H1 s1 h1 l1 b1 => ?_⟩⟩
    refine ⟨_, rfl, a, zs, 2, rfl, s1 _ _ ha, fun v2 => ⟨_, rfl, _, n, rfl, n8, fun wi ys H2 s2 h2 l2 b2 => ?_⟩⟩
    have s12 := s1.trans s2
    have h1' := s2 _ _ h1
    obtain ⟨fx, nx⟩ := figs_w l1 (by omega) n8 b1
    obtain ⟨fy, ny⟩ := figs_w l2 (by omega) n8 b2
    refine ⟨_, rfl, _, rfl, small 2 (by decide), fun tp htp => ?_⟩
    generalize e3 : upd H2 tp _ = H3
    have s3 : Same H2 H3 := by rw [← e3]; exact same_new htp
    have h3 : H3 tp = some (.tup [.ref m, .ref wi]) := by rw [← e3]; exact upd_same
    refine ⟨tp, rfl, ⟨_, SqT.of h3⟩, fun D hD => lc_pure (walk_tup (K := K) (a := tp) (xs := [.ref m, .ref wi])) (fun i => [.str (figs (([xs, ys] : List (List Int)).getD i []))]) hD (show 2 ≤ 100000 by decide) (fun G s => SqT.of (s _ _ h3)) ?_ ?_⟩
    · rintro i v G G' hi s4 ⟨rfl, hv⟩ Qe Qn qe qn
      have hx : ∃ (t : Addr) (us : List Int), v = .ref t ∧ ([xs, ys] : List (List Int)).getD i [] = us ∧ H3 t = some (ti us) ∧ us.length = n ∧ Bel n us := by
        match i, hv with
        | 0, hv => exact ⟨m, xs, (Option.some.inj hv).symm, rfl, s3 _ _ h1', l1, b1⟩
        | 1, hv => exact ⟨wi, ys, (Option.some.inj hv).symm, rfl, s3 _ _ h2, l2, b2⟩
        | j + 2, hv => simp at hv
      obtain ⟨t, us, rfl, eu, ht, lu, bu⟩ := hx
      rw [eu] at qe
      have ht' := s4 _ _ ht
      refine ⟨rfl, yesT ?_⟩
      refine ⟨⟨_, rfl⟩, _, rfl, t, rfl, ⟨_, SqT.of ht'⟩, fun D2 hD2 => lc_pure (walk_tup (K := K) (a := t) (xs := us.map V.int)) (fun i => [.str (istr (us.getD i 0))]) hD2 (by rw [List.length_map]; omega) (fun G s => SqT.of (s _ _ ht')) ?_ ?_⟩
      · rintro j v J J' hj s5 ⟨rfl, hv⟩ Qe2 Qn2 qe2 qn2
        obtain ⟨z, hz, rfl⟩ := map_at hv
        rw [getD_of hz] at qe2
        have r := bu z (List.mem_of_getElem? hz)
        refine ⟨rfl, yesT ?_⟩
        exact ⟨_, rfl, z, rfl, log_small r.1 (by omega), qe2 _ _ (Same.refl _) rfl⟩
      · intro J s5 hl
        rw [List.length_map, outs_all (xs := us) _ (fun x => V.str (istr x)) (fun i x hx => by rw [getD_of hx])] at hl
        have e : us.map (fun x => V.str (istr x)) = (us.map istr).map V.str := by rw [List.map_map]; rfl
        rw [e] at hl
        refine ⟨_, D2, us.map istr, rfl, rfl, .inl (SqL.of hl), ?_, qe _ _ s5 rfl⟩
        refine join_fit (fun y hy => ?_) (by decide) (by rw [List.length_map]; omega)
        obtain ⟨z, hz, rfl⟩ := List.mem_map.mp hy
        have r := bu z hz
        rw [istr_len r.1 (by omega)]
        decide
    · intro H4 s4 h4
      have h4 : H4 D = some (ls [figs xs, figs ys]) := h4
      have s34 := s3.trans s4
      refine ⟨_, rfl, _, rfl, ⟨_, rfl⟩, _, rfl, small 2 (by decide), fun l hl => ?_⟩
      generalize e5 : upd H4 l _ = H5
      have s5 : Same H4 H5 := by rw [← e5]; exact same_new hl
      have h5 : H5 l = some (ls ["open", hall]) := by rw [← e5]; exact upd_same
      refine ⟨_, rfl, l, D, _, _, rfl, rfl, h5, s5 _ _ h4, small 4 (by decide), fun c hc => ?_⟩
      generalize e6 : upd H5 c _ = H6
      have s6 : Same H5 H6 := by rw [← e6]; exact same_new hc
      have h6 : H6 c = some (ls (Cmd.opn hall (figs xs) (figs ys)).words) := by rw [← e6]; exact upd_same
      have wh := halls_ww hall hh
      have ww : ∀ x ∈ (Cmd.opn hall (figs xs) (figs ys)).words, WW x := fun x hx => by
        simp only [Cmd.words, List.mem_cons, List.not_mem_nil, or_false] at hx
        rcases hx with rfl | rfl | rfl | rfl
        · exact ⟨by decide +kernel, by decide +kernel⟩
        · exact wh
        · exact nx.ww (by decide)
        · exact ny.ww (by decide)
      refine ⟨_, c, _, rfl, rfl, .inl (SqL.of h6), join_fit (fun y hy => (ww y hy).l) (by decide) (show 4 ≤ 10 by decide), small 3 (by decide), nu fun p H7 hp s7 h7 => ?_⟩
      refine q p m wi (.opn hall (figs xs) (figs ys)) H7 (s12.trans (s34.trans (s5.trans (s6.trans s7)))) h7 (lawc_of ⟨fx, fy⟩ ww fun e => ?_)
      have e : hall = "last" := Option.some.inj e
      rw [e] at hh
      exact absurd hh (by decide +kernel)
end
end Kin
set_option maxHeartbeats 4000000
/-! K54: the law's rows. -/
namespace Kin
open PySem L2
theorem new_ne {i : Int} {x : Str} (h : (TL.tl x).head? ≠ some 110) : ("new" : Str) ++ istr i ≠ x := fun e => h (by
  rw [← e, TL.tl_append]
  have t : TL.tl ("new" : Str) = [110, 101, 119] := by decide +kernel
  rw [t]; rfl)
theorem new_halls {i : Int} : ("new" : Str) ++ istr i ∉ hallsL := fun h => by
  have al : ∀ x ∈ hallsL, (TL.tl x).head? ≠ some 110 := by decide +kernel
  exact new_ne (al _ h) rfl
theorem nw_new : NW 3 "new" := ⟨by decide +kernel, by decide +kernel⟩
theorem rows_snoc (cs : List Cmd) (c : Cmd) : HO.lst ((cs.map Cmd.row).map V.str ++ [V.str c.row]) = ls ((cs ++ [c]).map Cmd.row) := by simp
theorem all_snoc {P : Cmd → Prop} {cs : List Cmd} {c : Cmd} (h : ∀ c ∈ cs, P c) (hc : P c) : ∀ d ∈ cs ++ [c], P d := fun d hd => by
  rcases List.mem_append.mp hd with hd | hd
  · exact h d hd
  · rw [List.mem_singleton.mp hd]; exact hc
theorem hall_at {i : Int} (h0 : 0 ≤ i) (h1 : i < 3) : ∃ h, hallsL[i.toNat]? = some h ∧ h ∈ hallsL := by
  have hl : i.toNat < hallsL.length := by show i.toNat < 3; omega
  exact ⟨hallsL[i.toNat], List.getElem?_eq_getElem hl, List.getElem_mem hl⟩
theorem pool_at {pool : List Str} (pl : pool.length = 9) {i : Int} (h0 : 0 ≤ i) (h1 : i < 9) : ∃ h, pool[i.toNat]? = some h ∧ h ∈ pool := by
  have hl : i.toNat < pool.length := by omega
  exact ⟨pool[i.toNat], List.getElem?_eq_getElem hl, List.getElem_mem hl⟩
section
variable {P : Program} {w : World} {K : PySem.W.Frag} {mg : Str → Option Value} {g : Str → Addr} {mt : Str → Str → Addr} {base : Heap}
def spRows : Sp := fun vs H Q _ => ∃ (a ha pa : Addr) (zs : List Int) (pool : List Str) (n : Nat), vs = [.ref a, .ref ha, .ref pa, .int (n : Nat)] ∧ H a = some (li zs) ∧ zs.length ≤ 63 ∧ H ha = some (ls hallsL) ∧ H pa = some (ls pool) ∧ pool.length = 9 ∧ (∀ x ∈ pool, WW x) ∧ 2 ≤ n ∧ n ≤ 8 ∧
  ∀ p (cs : List Cmd) H', Same H H' → H p = none → H' p = some (ls (cs.map Cmd.row)) → (∀ c ∈ cs, LawC c) → cs.length ≤ 100 → Q (.ref p) H'
abbrev N_rows : List Str := ["_law_script", "_law_halls", "_law_pool", "_law_size", "_law_rows_here", "_law_k", "_law_fresh"]
theorem ok_rows (T : Txt w K mg g mt) : GF P w K mg base CX0 4 "_law_rows" spRows := by
  refine gf0 (F_law_rows T) (T.glo _ (by decide +kernel)) sc_law_rows (fun vs H Q E h => ?_) fun cdv A outer s H vs Q E hr h => ?_
  · obtain ⟨a, ha, pa, zs, pool, n, rfl, _⟩ := h; rfl
  · obtain ⟨a, ha, pa, zs, pool, n, rfl, hza, z63, hha, hpa, pl, pw, n2, n8, q⟩ := h
    have nd := sc_law_rows.nd
    have fS : mg "str" = none := T.free _ (by decide +kernel)
    have fL : mg "len" = none := T.free _ (by decide +kernel)
    have fR : mg "range" = none := T.free _ (by decide +kernel)
    have Op := ok_lopen (P := P) (base := base) T
    have Wo := ok_words (P := P) (base := base) T
    refine ⟨_, pss_cons (ps_setLc (i := 4) (te := tOp (rIxT K) (tG spLOpen E0 (tCons (tVar 0) (tCons (tVar 5) (tCons (tVar 3) (tCons (tOp (rIxL K) (tVar 1) (tVar 5)) tNil))))) (tC (.int 2))) (own := [("_law_k", 5)]) (g := gName 5) (tt := tYes) rfl nd rfl rfl (sw_true rfl rfl rfl (by decide +kernel)) (pi_range1 rfl fR (pa_cons pe_int pa_nil)) (blkOk_by (N := N_rows) (sc := defScope s_law_rows) (by decide +kernel))
        (fun _ _ _ _ _ => pg_name (i := 5) nd rfl (Or.inl rfl)) (fun _ _ _ _ _ => pts_nil)
        (fun _ _ _ _ _ => pe_ix (r := rIxT K) ix_tup (pe_gf (E := E0) Op hr pass0 (pa_cons (pv 0) (pa_cons (pv 5) (pa_cons (pv 3) (pa_cons (pe_ix (r := rIxL K) ix_list (pv 1) (pv 5) (fun _ _ => rfl)) pa_nil))))) pe_int (fun _ _ => rfl)))
      (pss_cons (ps_for PassesOwn.never rfl (pi_range2 rfl fR (pa_cons pe_int (pa_cons (pe_callB call_len_seq (by rfl) fL PySem.boot_len (pa_cons (pv 0) pa_nil)) pa_nil))) (pg_name (i := 5) nd rfl (.inl rfl))
        (pss_cons (ps_expr (pe_bm PySem.F.plainAttrs_list PySem.F.slot_list_append PySem.F.type_list_append mt_append (pv 4) (pa_cons
          (pe_join pe_str (pe_gf Wo hr pass0 (pa_cons (pe_ix ix_list (pv 0) (pv 5) (fun _ _ => rfl)) (pa_cons (pv 1) (pa_cons (pv 2) pa_nil))))) pa_nil)))
        (pss_one (ps_if (pt_cmpR op_eq (pe_op op_mod (pv 5) pe_int) pe_int (nomark _))
          (pss_cons (ps_set (i := 6) nd rfl (.inl rfl) (pe_op op_add_str pe_str (pe_callTy call_str_int (by rfl) fS (by decide +kernel) (pa_cons (pv 5) pa_nil))))
          (pss_cons (ps_expr (pe_bm PySem.F.plainAttrs_list PySem.F.slot_list_append PySem.F.type_list_append mt_append (pv 4) (pa_cons
            (pe_join pe_str (pe_lst (pa_cons pe_str (pa_cons (pv 6) (pa_cons (pe_ix ix_list (pv 1) (pe_op op_mod (pv 5) pe_int) (fun _ _ => rfl)) (pa_cons (pe_ix ix_list (pv 1) (pe_op op_mod (pe_ix ix_list (pv 0) (pv 5) (fun _ _ => rfl)) pe_int) (fun _ _ => rfl)) (pa_cons pe_str pa_nil))))))) pa_nil)))
          (pss_one (ps_expr (pe_bm PySem.F.plainAttrs_list PySem.F.slot_list_append PySem.F.type_list_append mt_append (pv 4) (pa_cons
            (pe_join pe_str (pe_lst (pa_cons pe_str (pa_cons (pv 6) (pa_cons (pe_ix ix_list (pv 2) (pe_op op_mod (pv 5) pe_int) (fun _ _ => rfl)) pa_nil))))) pa_nil)))))) pss_nil))))
      (pss_one (ps_ret (pv 4)))), ?_⟩
    refine ⟨_, rfl, by decide, by decide, fun D hD => ?_⟩
    refine lc_it (walk_r0 (n := 3)) (fun i G => Same H G ∧ ∃ cs : List Cmd, G D = some (ls (cs.map Cmd.row)) ∧ cs.length = i ∧ ∀ c ∈ cs, LawC c) ⟨same_new hD, [], upd_same, rfl, fun c hc => by simp at hc⟩ (fun _ _ _ _ => trivial) ?_ ?_
    · rintro i v G G' hi ⟨s1, cs, h1, l1, al⟩ ⟨rfl, rfl⟩
      obtain ⟨hall, eh, hh⟩ := hall_at (i := ((i : Nat) : Int)) (by omega) (by omega)
      refine ⟨rfl, yesT ?_⟩
      refine ⟨_, rfl, _, rfl, _, rfl, _, rfl, _, rfl, ha, _, _, _, rfl, rfl, SqL.of (s1 _ _ hha), ix_at (by omega) (at_map eh), a, zs, i, n, hall, rfl, s1 _ _ hza, n2, n8, hh, fun p m wi c G5 s5 h5 lc => ?_⟩
      refine ⟨p, _, 2, _, rfl, rfl, SqT.of h5, ix_at (z := 2) (by omega) (v := .str c.row) rfl, ?_⟩
      refine ⟨_, s5 _ _ h1, by rw [List.length_map, List.length_map]; exact smallL (by omega), same_mut (s1.trans s5) hD, cs ++ [c], ?_, by simp [l1], all_snoc al lc⟩
      rw [upd_same, rows_snoc]
    rintro G0 ⟨s0, cs0, h0, l0, al0⟩
    have hza0 := s0 _ _ hza
    refine ⟨_, rfl, a, _, rfl, .inl (SqL.of hza0), 4, _, rfl, ⟨by decide, by decide, by omega, by rw [List.length_map]; omega⟩, ?_⟩
    rw [List.length_map]
    refine for_it (walk_range (lo := 4) (n := ((zs.length : Int) - 4).toNat)) (fun i σ G => (∃ u5 u6, σ = [some (.ref a), some (.ref ha), some (.ref pa), some (.int (n : Nat)), some (.ref D), u5, u6]) ∧ Same H G ∧ ∃ cs : List Cmd, G D = some (ls (cs.map Cmd.row)) ∧ cs.length ≤ 3 + i + 2 * (i / 10) ∧ ∀ c ∈ cs, LawC c)
      ⟨⟨_, _, rfl⟩, s0, cs0, h0, by omega, al0⟩ (fun _ _ _ _ _ => trivial) ?_ ?_
    · rintro i v σ G G' hi ⟨⟨u5, u6, rfl⟩, s1, cs, h1, l1, al⟩ ⟨rfl, rfl⟩
      have hza1 := s1 _ _ hza
      have hha1 := s1 _ _ hha
      have hpa1 := s1 _ _ hpa
      have ez : zs[((4 : Int) + (i : Nat)).toNat]? = some (zs[((4 : Int) + (i : Nat)).toNat]'(by omega)) := List.getElem?_eq_getElem _
      generalize zs[((4 : Int) + (i : Nat)).toNat]'_ = z at ez
      refine ⟨_, rfl, .inl ⟨rfl, _, SqL.of h1⟩, ⟨_, rfl⟩, _, rfl, _, rfl, a, _, _, _, rfl, rfl, SqL.of hza1, ix_at (by omega) (at_map ez), _, rfl, _, rfl, z, ha, pa, pool, rfl, hha1, hpa1, pl, pw, fun wl c G1 s2 h2 lc => ?_⟩
      refine ⟨_, wl, c.words, rfl, rfl, .inl (SqL.of h2), join_fit lc.ry.sh (by decide) (Nat.le_trans (words_len c) (by decide)), D, _, _, rfl, rfl, s2 _ _ h1, by rw [List.length_map, List.length_map]; exact smallL (by omega), ?_⟩
      have s3 : Same H (upd G1 D (.lst ((cs.map Cmd.row).map V.str ++ [.str (Txt.join " " c.words)]))) := same_mut (s1.trans s2) hD
      have h3 : upd G1 D (.lst ((cs.map Cmd.row).map V.str ++ [.str (Txt.join " " c.words)])) D = some (ls ((cs ++ [c]).map Cmd.row)) := by rw [upd_same]; exact congrArg some (rows_snoc cs c)
      generalize upd G1 D _ = G2 at s3 h3 ⊢
      have al2 := all_snoc al lc
      have l2 : (cs ++ [c]).length ≤ 4 + i + 2 * (i / 10) := by simp; omega
      generalize cs ++ [c] = cs2 at h3 al2 l2
      have p10 : (0 : Int) < 10 := by decide
      have p3 : (0 : Int) < 3 := by decide
      have p9 : (0 : Int) < 9 := by decide
      refine ⟨_, rfl, _, _, rfl, rfl, p10, rfl, _, rfl, iteB (fun c => ?_) (fun c => ?_)⟩
      · have e10 : ((4 : Int) + (i : Nat)) % 10 = 3 := vint (eqT c)
        have k0 : 0 ≤ (4 : Int) + (i : Nat) ∧ (4 : Int) + (i : Nat) ≤ 1000 := by omega
        have nk := nw_istr k0.1 k0.2
        refine ⟨_, rfl, _, rfl, log_small k0.1 k0.2, _, _, rfl, rfl, nw_fit nw_new nk (by decide), ?_⟩
        have nf := nw_new.app nk
        have m3 := mod_bel ((4 : Int) + (i : Nat)) p3
        have mz := mod_bel z p3
        have m9 := mod_bel ((4 : Int) + (i : Nat)) p9
        obtain ⟨x, ex, hx⟩ := hall_at m3.1 m3.2
        obtain ⟨y, ey, hy⟩ := hall_at mz.1 mz.2
        obtain ⟨o, eo, ho⟩ := pool_at pl m9.1 m9.2
        have hza2 := s3 _ _ hza
        have hha2 := s3 _ _ hha
        refine ⟨_, rfl, .inl ⟨rfl, _, SqL.of h3⟩, ⟨_, rfl⟩, _, rfl, _, rfl, _, rfl, _, _, rfl, rfl, p3, ha, _, _, _, rfl, rfl, SqL.of hha2, ix_at m3.1 (at_map ex), _, rfl, _, rfl, _, rfl, a, _, _, _, rfl, rfl, SqL.of hza2, ix_at (by omega) (at_map ez), _, _, rfl, rfl, p3, ha, _, _, _, rfl, rfl, SqL.of hha2, ix_at mz.1 (at_map ey), small 5 (by decide), fun l hl => ?_⟩
        generalize e4 : upd G2 l _ = G4
        have s4 : Same G2 G4 := by rw [← e4]; exact same_new hl
        have h4 : G4 l = some (ls (Cmd.join ("new" ++ istr (4 + (i : Nat))) x y).words) := by rw [← e4]; exact upd_same
        have wj : ∀ w ∈ (Cmd.join ("new" ++ istr (4 + (i : Nat))) x y).words, WW w := fun w hw => by
          simp only [Cmd.words, List.mem_cons, List.not_mem_nil, or_false] at hw
          rcases hw with rfl | rfl | rfl | rfl | rfl
          · exact ⟨by decide +kernel, by decide +kernel⟩
          · exact nf.ww (by decide)
          · exact halls_ww _ hx
          · exact halls_ww _ hy
          · exact ⟨by decide +kernel, by decide +kernel⟩
        have lj : LawC (Cmd.join ("new" ++ istr (4 + (i : Nat))) x y) := lawc_of ⟨new_halls, hx, hy⟩ wj fun e => new_ne (x := "last") (by decide +kernel) (Option.some.inj e)
        refine ⟨_, l, _, rfl, rfl, .inl (SqL.of h4), join_fit (fun w hw => (wj w hw).l) (by decide) (show 5 ≤ 10 by decide), D, _, _, rfl, rfl, s4 _ _ h3, by rw [List.length_map, List.length_map]; exact smallL (by omega), ?_⟩
        have s5 : Same H (upd G4 D (.lst ((cs2.map Cmd.row).map V.str ++ [.str (Txt.join " " (Cmd.join ("new" ++ istr (4 + (i : Nat))) x y).words)]))) := same_mut (s3.trans s4) hD
        have h5 : upd G4 D (.lst ((cs2.map Cmd.row).map V.str ++ [.str (Txt.join " " (Cmd.join ("new" ++ istr (4 + (i : Nat))) x y).words)])) D = some (ls ((cs2 ++ [Cmd.join ("new" ++ istr (4 + (i : Nat))) x y]).map Cmd.row)) := by rw [upd_same]; exact congrArg some (rows_snoc cs2 _)
        generalize upd G4 D _ = G5 at s5 h5 ⊢
        have al3 := all_snoc al2 lj
        have l3 : (cs2 ++ [Cmd.join ("new" ++ istr (4 + (i : Nat))) x y]).length ≤ 5 + i + 2 * (i / 10) := by simp; omega
        generalize cs2 ++ [Cmd.join ("new" ++ istr (4 + (i : Nat))) x y] = cs3 at h5 al3 l3
        have hpa5 := s5 _ _ hpa
        refine ⟨_, rfl, .inl ⟨rfl, _, SqL.of h5⟩, ⟨_, rfl⟩, _, rfl, _, rfl, _, rfl, _, _, rfl, rfl, p9, pa, _, _, _, rfl, rfl, SqL.of hpa5, ix_at m9.1 (at_map eo), small 3 (by decide), fun l' hl' => ?_⟩
        generalize e6 : upd G5 l' _ = G6
        have s6 : Same G5 G6 := by rw [← e6]; exact same_new hl'
        have h6 : G6 l' = some (ls (Cmd.who ("new" ++ istr (4 + (i : Nat))) o).words) := by rw [← e6]; exact upd_same
        have wo : ∀ w ∈ (Cmd.who ("new" ++ istr (4 + (i : Nat))) o).words, WW w := fun w hw => by
          simp only [Cmd.words, List.mem_cons, List.not_mem_nil, or_false] at hw
          rcases hw with rfl | rfl | rfl
          · exact ⟨by decide +kernel, by decide +kernel⟩
          · exact nf.ww (by decide)
          · exact pw _ ho
        have lo : LawC (Cmd.who ("new" ++ istr (4 + (i : Nat))) o) := lawc_of trivial wo fun e => by cases e
        refine ⟨_, l', _, rfl, rfl, .inl (SqL.of h6), join_fit (fun w hw => (wo w hw).l) (by decide) (show 3 ≤ 10 by decide), D, _, _, rfl, rfl, s6 _ _ h5, by rw [List.length_map, List.length_map]; exact smallL (by omega), ?_⟩
        refine ⟨⟨_, _, rfl⟩, same_mut (s5.trans s6) hD, cs3 ++ [Cmd.who ("new" ++ istr (4 + (i : Nat))) o], ?_, by simp; omega, all_snoc al3 lo⟩
        rw [upd_same]; exact congrArg some (rows_snoc cs3 _)
      · exact ⟨⟨_, _, rfl⟩, s3, cs2, h3, by omega, al2⟩
    · rintro σ G ⟨⟨u5, u6, rfl⟩, s1, cs, h1, l1, al⟩
      exact ⟨_, rfl, q D cs G s1 hD h1 al (by omega)⟩
end
end Kin
set_option maxHeartbeats 4000000
/-! K55: the law's likeness: True of equal data. -/
namespace Kin
open PySem L2
/-- two values that are the same data: numbers, texts, lists and tuples of such as R tells -/
def Like (R : Hp → V → V → Prop) : Hp → V → V → Prop := fun H x y => (∃ i, x = .int i ∧ y = .int i) ∨ (∃ z, x = .str z ∧ y = .str z) ∨
  ∃ p q xs ys, x = .ref p ∧ y = .ref q ∧ ((H p = some (.lst xs) ∧ H q = some (.lst ys)) ∨ (H p = some (.tup xs) ∧ H q = some (.tup ys))) ∧ xs.length = ys.length ∧ ys.length ≤ 99999 ∧
    ∀ (i : Nat) x y, xs[i]? = some x → ys[i]? = some y → ∀ H', Same H H' → R H' x y
def L0 : Hp → V → V → Prop := fun _ _ _ => False
/-- flat values; lists of flat values; lists of lists of such -/
abbrev Like1 := Like L0
abbrev Like2 := Like Like1
abbrev Like3 := Like Like2
def spSame (R : Hp → V → V → Prop) : Sp := fun vs H Q _ => ∃ x y, vs = [x, y] ∧ R H x y ∧ ∀ H', Same H H' → Q (.bl true) H'
section
variable {X : Cx}
def rIxA (K : PySem.W.Frag) : R2 := fun x y H Q => rIxL K x y H Q ∨ rIxT K x y H Q
theorem ix_any : IxR X (rIxA X.K) := by
  intro value slice pins s σ H x y v u Q I rx ry h hs
  rcases h with h | h
  · exact ix_list value slice pins s σ H x y v u Q I rx ry h hs
  · exact ix_tup value slice pins s σ H x y v u Q I rx ry h hs
end
theorem outs_true (n : Nat) : outs (fun _ => [V.bl true]) n = (List.replicate n true).map V.bl := by
  induction n with
  | zero => rfl
  | succ n ih => rw [outs_succ, ih, List.replicate_succ', List.map_append]; rfl
section
variable {P : Program} {w : World} {K : PySem.W.Frag} {mg : Str → Option Value} {g : Str → Addr} {mt : Str → Str → Addr} {base : Heap}
theorem same_none (T : Txt w K mg g mt) : GF P w K mg base CX0 1 "_law_same" (spSame L0) := by
  refine gf0 (F_law_same T) (T.glo _ (by decide +kernel)) sc_law_same (fun vs H Q E h => ?_) fun cdv A outer s H vs Q E hr h => ?_
  · obtain ⟨x, y, rfl, _⟩ := h; rfl
  · obtain ⟨x, y, rfl, h, _⟩ := h; exact h.elim
theorem same_step (T : Txt w K mg g mt) {k : Nat} {R : Hp → V → V → Prop} (G : GF P w K mg base CX0 k "_law_same" (spSame R)) : GF P w K mg base CX0 (k + 1) "_law_same" (spSame (Like R)) := by
  refine gf0 (F_law_same T) (T.glo _ (by decide +kernel)) sc_law_same (fun vs H Q E h => ?_) fun cdv A outer s H vs Q E hr h => ?_
  · obtain ⟨x, y, rfl, _⟩ := h; rfl
  · obtain ⟨x, y, rfl, h, q⟩ := h
    have nd := sc_law_same.nd
    have fI : mg "isinstance" = none := T.free _ (by decide +kernel)
    have fb : mg "bool" = none := T.free _ (by decide +kernel)
    have fi : mg "int" = none := T.free _ (by decide +kernel)
    have fs : mg "str" = none := T.free _ (by decide +kernel)
    have fl : mg "list" = none := T.free _ (by decide +kernel)
    have ft : mg "tuple" = none := T.free _ (by decide +kernel)
    have fL : mg "len" = none := T.free _ (by decide +kernel)
    have fR : mg "range" = none := T.free _ (by decide +kernel)
    have fA : mg "all" = none := T.free _ (by decide +kernel)
    refine ⟨_, pss_cons (ps_if (pt_cmpR op_isN1 (pv 1) pe_non (nomark _)) (pss_one ps_never) pss_nil)
      (pss_cons (ps_if (pt_val (pe_callB call_isi (by rfl) fI PyProof.Rows.boot_isinstance (pa_cons (pv 1) (pa_cons (pe_bltn (v := .ty "bool") (u := .type "bool") (by rfl) fb (by decide +kernel) rfl) pa_nil)))) (pss_one ps_never) pss_nil)
      (pss_cons (ps_if (pt_val (pe_callB call_isi (by rfl) fI PyProof.Rows.boot_isinstance (pa_cons (pv 1) (pa_cons (pe_bltn (v := .ty "int") (u := .type "int") (by rfl) fi (by decide +kernel) rfl) pa_nil))))
        (pss_one (ps_ret (pe_and (pe_callB call_isi (by rfl) fI PyProof.Rows.boot_isinstance (pa_cons (pv 0) (pa_cons (pe_bltn (v := .ty "int") (u := .type "int") (by rfl) fi (by decide +kernel) rfl) pa_nil)))
          (pe_and (pe_not (pe_callB call_isi (by rfl) fI PyProof.Rows.boot_isinstance (pa_cons (pv 0) (pa_cons (pe_bltn (v := .ty "bool") (u := .type "bool") (by rfl) fb (by decide +kernel) rfl) pa_nil))))
          (pe_one (pe_cmpR op_eq (pv 0) (pv 1) (nomark _))))))) pss_nil)
      (pss_cons (ps_if (pt_val (pe_callB call_isi (by rfl) fI PyProof.Rows.boot_isinstance (pa_cons (pv 1) (pa_cons (pe_bltn (v := .ty "str") (u := .type "str") (by rfl) fs (by decide +kernel) rfl) pa_nil))))
        (pss_one (ps_ret (pe_and (pe_callB call_isi (by rfl) fI PyProof.Rows.boot_isinstance (pa_cons (pv 0) (pa_cons (pe_bltn (v := .ty "str") (u := .type "str") (by rfl) fs (by decide +kernel) rfl) pa_nil)))
          (pe_one (pe_cmpR op_eq (pv 0) (pv 1) (nomark _)))))) pss_nil)
      (pss_cons (ps_if (PW.pt (pw_or (pt_cmpR op_ne (pe_callB call_isi (by rfl) fI PyProof.Rows.boot_isinstance (pa_cons (pv 1) (pa_cons (pe_bltn (v := .ty "list") (u := .type "list") (by rfl) fl (by decide +kernel) rfl) pa_nil)))
            (pe_callB call_isi (by rfl) fI PyProof.Rows.boot_isinstance (pa_cons (pv 0) (pa_cons (pe_bltn (v := .ty "list") (u := .type "list") (by rfl) fl (by decide +kernel) rfl) pa_nil))) (nomark _))
          (pw_or1 (pt_cmpR op_ne (pe_callB call_isi (by rfl) fI PyProof.Rows.boot_isinstance (pa_cons (pv 1) (pa_cons (pe_bltn (v := .ty "tuple") (u := .type "tuple") (by rfl) ft (by decide +kernel) rfl) pa_nil)))
            (pe_callB call_isi (by rfl) fI PyProof.Rows.boot_isinstance (pa_cons (pv 0) (pa_cons (pe_bltn (v := .ty "tuple") (u := .type "tuple") (by rfl) ft (by decide +kernel) rfl) pa_nil))) (nomark _))))) (pss_one ps_never) pss_nil)
      (pss_cons (ps_if (pt_cmpR op_ne (pe_callB call_len_seq (by rfl) fL PySem.boot_len (pa_cons (pv 0) pa_nil)) (pe_callB call_len_seq (by rfl) fL PySem.boot_len (pa_cons (pv 1) pa_nil)) (nomark _)) (pss_one ps_never) pss_nil)
      (pss_one (ps_ret (pe_callB (cr_all rfl) (by rfl) fA PyProof.Rows.boot_all (pa_cons
        (pe_lc (te := tG (spSame R) E0 (tCons (tOp (rIxA K) (tVar 0) (tVar 2)) (tCons (tOp (rIxA K) (tVar 1) (tVar 2)) tNil))) (own := [("_law_k", 2)]) (g := gName 2) (tt := tYes) rfl nd (pi_range1 rfl fR (pa_cons (pe_callB call_len_seq (by rfl) fL PySem.boot_len (pa_cons (pv 1) pa_nil)) pa_nil)) (blkOk_by (N := ["_law_found", "_law_due", "_law_k"]) (sc := defScope s_law_same) (by decide +kernel))
          (fun _ _ _ _ _ => pg_name (i := 2) nd rfl (Or.inl rfl)) (fun _ _ _ _ _ => pts_nil)
          (fun _ _ _ _ _ => pe_gf (E := E0) G hr pass0 (pa_cons (pe_ix (r := rIxA K) ix_any (pv 0) (pv 2) (fun _ _ => rfl)) (pa_cons (pe_ix (r := rIxA K) ix_any (pv 1) (pv 2) (fun _ _ => rfl)) pa_nil)) (Nat.le_refl _))) pa_nil))))))))), ?_⟩
    rcases h with ⟨i, rfl, rfl⟩ | ⟨z, rfl, rfl⟩ | ⟨p, r, xs, ys, rfl, rfl, hh, hl, hz, hr2⟩
    · refine ⟨_, rfl, rfl, _, rfl, iteB (fun c => nomatch (eqT c)) (fun _ => ?_)⟩
      refine ⟨_, rfl, _, _, _, _, _, rfl, .ty _, .base (.int i), kit_ty (a := "int") (b := "bool") (r := false) (by decide +kernel), _, rfl, iteB (fun c => by cases c) (fun _ => ?_)⟩
      refine ⟨_, rfl, _, _, _, _, _, rfl, .ty _, .base (.int i), kit_ty (a := "int") (b := "int") (r := true) (by decide +kernel), _, rfl, iteB (fun _ => ?_) (fun c => by cases c)⟩
      refine ⟨_, rfl, _, _, _, _, _, rfl, .ty _, .base (.int i), kit_ty (a := "int") (b := "int") (r := true) (by decide +kernel), _, rfl, iteB (fun _ => ?_) (fun c => by cases c)⟩
      refine ⟨_, rfl, _, _, _, _, _, rfl, .ty _, .base (.int i), kit_ty (a := "int") (b := "bool") (r := false) (by decide +kernel), _, rfl, _, rfl, iteB (fun _ => ?_) (fun c => by cases c)⟩
      refine ⟨_, rfl, _, rfl, rfl, ?_⟩
      rw [decide_eq_true rfl]
      exact q _ (Same.refl _)
    · refine ⟨_, rfl, rfl, _, rfl, iteB (fun c => nomatch (eqT c)) (fun _ => ?_)⟩
      refine ⟨_, rfl, _, _, _, _, _, rfl, .ty _, .base (.str z), kit_ty (a := "str") (b := "bool") (r := false) (by decide +kernel), _, rfl, iteB (fun c => by cases c) (fun _ => ?_)⟩
      refine ⟨_, rfl, _, _, _, _, _, rfl, .ty _, .base (.str z), kit_ty (a := "str") (b := "int") (r := false) (by decide +kernel), _, rfl, iteB (fun c => by cases c) (fun _ => ?_)⟩
      refine ⟨_, rfl, _, _, _, _, _, rfl, .ty _, .base (.str z), kit_ty (a := "str") (b := "str") (r := true) (by decide +kernel), _, rfl, iteB (fun _ => ?_) (fun c => by cases c)⟩
      refine ⟨_, rfl, _, _, _, _, _, rfl, .ty _, .base (.str z), kit_ty (a := "str") (b := "str") (r := true) (by decide +kernel), _, rfl, iteB (fun _ => ?_) (fun c => by cases c)⟩
      refine ⟨_, rfl, _, rfl, rfl, ?_⟩
      rw [decide_eq_true rfl]
      exact q _ (Same.refl _)
    · rcases hh with ⟨hx, hy⟩ | ⟨hx, hy⟩
      · skip
        refine ⟨_, rfl, rfl, _, rfl, iteB (fun c => nomatch (eqT c)) (fun _ => ?_)⟩
        refine ⟨_, rfl, _, _, _, _, _, rfl, .ty _, .base (.lst hy), kit_ty (a := "list") (b := "bool") (r := false) (by decide +kernel), _, rfl, iteB (fun c => by cases c) (fun _ => ?_)⟩
        refine ⟨_, rfl, _, _, _, _, _, rfl, .ty _, .base (.lst hy), kit_ty (a := "list") (b := "int") (r := false) (by decide +kernel), _, rfl, iteB (fun c => by cases c) (fun _ => ?_)⟩
        refine ⟨_, rfl, _, _, _, _, _, rfl, .ty _, .base (.lst hy), kit_ty (a := "list") (b := "str") (r := false) (by decide +kernel), _, rfl, iteB (fun c => by cases c) (fun _ => ?_)⟩
        refine ⟨_, rfl, _, _, _, _, _, rfl, .ty _, .base (.lst hy), kit_ty (a := "list") (b := "list") (r := true) (by decide +kernel), _, rfl, _, _, _, _, _, rfl, .ty _, .base (.lst hx), kit_ty (a := "list") (b := "list") (r := true) (by decide +kernel), rfl, _, rfl, iteB (fun c => absurd rfl (neT c)) (fun _ => ?_)⟩
        refine ⟨_, rfl, _, _, _, _, _, rfl, .ty _, .base (.lst hy), kit_ty (a := "list") (b := "tuple") (r := false) (by decide +kernel), _, rfl, _, _, _, _, _, rfl, .ty _, .base (.lst hx), kit_ty (a := "list") (b := "tuple") (r := false) (by decide +kernel), rfl, _, rfl, iteB (fun c => absurd rfl (neT c)) (fun _ => ?_)⟩
        refine ⟨_, rfl, p, _, rfl, .inl (SqL.of hx), _, rfl, r, _, rfl, .inl (SqL.of hy), rfl, _, rfl, iteB (fun c => absurd (congrArg (fun n : Nat => V.int (n : Int)) hl) (neT c)) (fun _ => ?_)⟩
        refine ⟨_, rfl, r, _, rfl, .inl (SqL.of hy), _, rfl, by omega, by omega, fun D hD => lc_pure (walk_r0 (n := ys.length)) (fun _ => [.bl true]) hD (by omega) (fun _ _ => trivial) ?_ ?_⟩
        · rintro i v G G' hi s1 ⟨rfl, rfl⟩ Qe Qn qe qn
          have ex : xs[i]? = some (xs[i]'(by omega)) := List.getElem?_eq_getElem _
          have ey : ys[i]? = some (ys[i]'(by omega)) := List.getElem?_eq_getElem _
          refine ⟨rfl, yesT ?_⟩
          exact ⟨_, rfl, _, rfl, .inl ⟨p, _, ((i : Nat) : Int), _, rfl, rfl, SqL.of (s1 _ _ hx), ix_at (by omega) ex, _, rfl, _, rfl, .inl ⟨r, _, ((i : Nat) : Int), _, rfl, rfl, SqL.of (s1 _ _ hy), ix_at (by omega) ey, _, _, rfl, hr2 i _ _ ex ey _ s1, fun H4 s4 => qe _ _ s4 rfl⟩⟩⟩
        · intro G s1 hG
          rw [outs_true] at hG
          refine ⟨D, List.replicate ys.length true, rfl, SqL.of hG, ?_⟩
          have e : (List.replicate ys.length true).all id = true := by simp
          rw [e]
          exact q G s1
      · skip
        refine ⟨_, rfl, rfl, _, rfl, iteB (fun c => nomatch (eqT c)) (fun _ => ?_)⟩
        refine ⟨_, rfl, _, _, _, _, _, rfl, .ty _, .base (.tup hy), kit_ty (a := "tuple") (b := "bool") (r := false) (by decide +kernel), _, rfl, iteB (fun c => by cases c) (fun _ => ?_)⟩
        refine ⟨_, rfl, _, _, _, _, _, rfl, .ty _, .base (.tup hy), kit_ty (a := "tuple") (b := "int") (r := false) (by decide +kernel), _, rfl, iteB (fun c => by cases c) (fun _ => ?_)⟩
        refine ⟨_, rfl, _, _, _, _, _, rfl, .ty _, .base (.tup hy), kit_ty (a := "tuple") (b := "str") (r := false) (by decide +kernel), _, rfl, iteB (fun c => by cases c) (fun _ => ?_)⟩
        refine ⟨_, rfl, _, _, _, _, _, rfl, .ty _, .base (.tup hy), kit_ty (a := "tuple") (b := "list") (r := false) (by decide +kernel), _, rfl, _, _, _, _, _, rfl, .ty _, .base (.tup hx), kit_ty (a := "tuple") (b := "list") (r := false) (by decide +kernel), rfl, _, rfl, iteB (fun c => absurd rfl (neT c)) (fun _ => ?_)⟩
        refine ⟨_, rfl, _, _, _, _, _, rfl, .ty _, .base (.tup hy), kit_ty (a := "tuple") (b := "tuple") (r := true) (by decide +kernel), _, rfl, _, _, _, _, _, rfl, .ty _, .base (.tup hx), kit_ty (a := "tuple") (b := "tuple") (r := true) (by decide +kernel), rfl, _, rfl, iteB (fun c => absurd rfl (neT c)) (fun _ => ?_)⟩
        refine ⟨_, rfl, p, _, rfl, .inr (SqT.of hx), _, rfl, r, _, rfl, .inr (SqT.of hy), rfl, _, rfl, iteB (fun c => absurd (congrArg (fun n : Nat => V.int (n : Int)) hl) (neT c)) (fun _ => ?_)⟩
        refine ⟨_, rfl, r, _, rfl, .inr (SqT.of hy), _, rfl, by omega, by omega, fun D hD => lc_pure (walk_r0 (n := ys.length)) (fun _ => [.bl true]) hD (by omega) (fun _ _ => trivial) ?_ ?_⟩
        · rintro i v G G' hi s1 ⟨rfl, rfl⟩ Qe Qn qe qn
          have ex : xs[i]? = some (xs[i]'(by omega)) := List.getElem?_eq_getElem _
          have ey : ys[i]? = some (ys[i]'(by omega)) := List.getElem?_eq_getElem _
          refine ⟨rfl, yesT ?_⟩
          exact ⟨_, rfl, _, rfl, .inr ⟨p, _, ((i : Nat) : Int), _, rfl, rfl, SqT.of (s1 _ _ hx), ix_at (by omega) ex, _, rfl, _, rfl, .inr ⟨r, _, ((i : Nat) : Int), _, rfl, rfl, SqT.of (s1 _ _ hy), ix_at (by omega) ey, _, _, rfl, hr2 i _ _ ex ey _ s1, fun H4 s4 => qe _ _ s4 rfl⟩⟩⟩
        · intro G s1 hG
          rw [outs_true] at hG
          refine ⟨D, List.replicate ys.length true, rfl, SqL.of hG, ?_⟩
          have e : (List.replicate ys.length true).all id = true := by simp
          rw [e]
          exact q G s1
end
end Kin
set_option maxHeartbeats 4000000
/-! K56: two desks in one heap; what is ours beside them; the books' names. -/
namespace Kin
open PySem L2
/-- a desk's addresses -/
structure DM where
  dk : Addr
  bd : Addr
  rl : Addr
  ms : List HM
def DM.f (d : DM) : List Addr := foot d.dk d.bd d.rl d.ms
abbrev DM.put (d : DM) (ms : List HM) : DM := ⟨d.dk, d.bd, d.rl, ms⟩
structure Two (g : Str → Addr) (Z H : Hp) (d1 : DM) (D1 : DS) (d2 : DM) (D2 : DS) : Prop where
  a1 : DA g Z H d1.dk d1.bd d1.rl d1.ms D1
  a2 : DA g Z H d2.dk d2.bd d2.rl d2.ms D2
  dj : ∀ x ∈ d1.f, x ∉ d2.f
/-- an object beside both -/
structure Free2 (Z H : Hp) (d1 d2 : DM) (x : Addr) (o : HO) : Prop where
  e : H x = some o
  z : Z x = none
  n1 : x ∉ d1.f
  n2 : x ∉ d2.f
section
variable {g : Str → Addr} {Z Z' H H' : Hp} {d1 d2 : DM} {D1 D2 D' : DS} {ms' : List HM} {x y : Addr} {o o' : HO}
theorem Two.swap (t : Two g Z H d1 D1 d2 D2) : Two g Z H d2 D2 d1 D1 := ⟨t.a2, t.a1, fun x hx hm => t.dj x hm hx⟩
theorem Two.same (t : Two g Z H d1 D1 d2 D2) (s : Same H H') : Two g Z H' d1 D1 d2 D2 := ⟨t.a1.same s, t.a2.same s, t.dj⟩
theorem Two.left (t : Two g Z H d1 D1 d2 D2) (n : DNow g Z H d1.dk d1.bd d1.rl d1.ms Z' H' ms' D') : Two g Z' H' (d1.put ms') D' d2 D2 := by
  refine ⟨n.da, t.a2.frame n.st n.da.zs fun x hx hm => t.dj x hm hx, fun x hx hm => ?_⟩
  rcases n.mv x hx with q | q
  · exact t.dj x q hm
  · obtain ⟨u, e⟩ := t.a2.live x hm
    rw [q] at e; cases e
theorem Two.right (t : Two g Z H d1 D1 d2 D2) (n : DNow g Z H d2.dk d2.bd d2.rl d2.ms Z' H' ms' D') : Two g Z' H' d1 D1 (d2.put ms') D' := (t.swap.left n).swap
theorem Free2.swap (f : Free2 Z H d1 d2 x o) : Free2 Z H d2 d1 x o := ⟨f.e, f.z, f.n2, f.n1⟩
theorem Free2.same (f : Free2 Z H d1 d2 x o) (s : Same H H') : Free2 Z H' d1 d2 x o := ⟨s _ _ f.e, f.z, f.n1, f.n2⟩
theorem Free2.left (f : Free2 Z H d1 d2 x o) (n : DNow g Z H d1.dk d1.bd d1.rl d1.ms Z' H' ms' D') : Free2 Z' H' (d1.put ms') d2 x o := by
  refine ⟨n.st.kp _ _ f.e f.n1, ?_, fun hm => ?_, f.n2⟩
  · cases e : Z' x with
    | none => rfl
    | some u =>
      rcases n.st.nw x u e with q | q
      · rw [f.z] at q; cases q
      · rw [f.e] at q; cases q
  · rcases n.mv x hm with q | q
    · exact f.n1 q
    · rw [f.e] at q; cases q
theorem Free2.right (f : Free2 Z H d1 d2 x o) (n : DNow g Z H d2.dk d2.bd d2.rl d2.ms Z' H' ms' D') : Free2 Z' H' d1 (d2.put ms') x o := (f.swap.left n).swap
theorem Free2.put (f : Free2 Z H d1 d2 x o) (h : x ≠ y) : Free2 Z (upd H y o') d1 d2 x o := ⟨by rw [upd_ne h]; exact f.e, f.z, f.n1, f.n2⟩
theorem Free2.set (f : Free2 Z H d1 d2 x o) : Free2 Z (upd H x o') d1 d2 x o' := ⟨upd_same, f.z, f.n1, f.n2⟩
theorem Two.new (t : Two g Z H d1 D1 d2 D2) (h : H x = none) (s : Same H H') (e : H' x = some o) : Free2 Z H' d1 d2 x o :=
  ⟨e, t.a1.zs.free h, t.a1.live.ne h, t.a2.live.ne h⟩
theorem Two.put (t : Two g Z H d1 D1 d2 D2) (f : Free2 Z H d1 d2 x o) (u : HO) : Two g Z (upd H x u) d1 D1 d2 D2 :=
  ⟨t.a1.frame (M := [x]) ((Step.refl _ _ _).upd (by simp)) (same_updZ t.a1.zs f.z) fun y hy hm => f.n1 (by rw [← List.mem_singleton.mp hm]; exact hy),
   t.a2.frame (M := [x]) ((Step.refl _ _ _).upd (by simp)) (same_updZ t.a1.zs f.z) fun y hy hm => f.n2 (by rw [← List.mem_singleton.mp hm]; exact hy), t.dj⟩
theorem Free2.ne (f : Free2 Z H d1 d2 x o) (h : H y = none) : x ≠ y := ne_of_none f.e h
end

/-! ### the books' names -/
def KOk (D : DS) : Prop := ∀ q ∈ D.books, isName q.1 = true ∧ q.1 ≠ "last"
theorem name_ww {x : Str} (h : isName x = true) : WW x := by
  unfold isName at h
  split at h
  · cases h
  · rename_i c r e
    simp only [Bool.and_eq_true, List.all_eq_true, decide_eq_true_eq] at h
    obtain ⟨h1, h2, h3⟩ := h
    refine ⟨Nat.le_trans h1 (by decide), fun hm => ?_⟩
    have hm : 32 ∈ x.cps.toList := hm
    rw [e] at hm
    exact absurd (h3 32 hm) (by decide +kernel)
theorem deed_keys {D D' : DS} {h a : Str} {f : HS → Except Str (HS × Str)} (e : deed D h f = .ok (D', a)) : D'.books.map (·.1) = D.books.map (·.1) := by
  unfold deed at e
  split at e
  · cases e
  · split at e
    · cases e
    · cases e; exact set_keys _ _ _
theorem kok_keys {D D' : DS} (k : KOk D) (e : D'.books.map (·.1) = D.books.map (·.1)) : KOk D' := fun q hq => by
  have : q.1 ∈ D'.books.map (·.1) := List.mem_map.mpr ⟨q, hq, rfl⟩
  rw [e] at this
  obtain ⟨p, hp, ep⟩ := List.mem_map.mp this
  rw [← ep]; exact k p hp
theorem kok_new {D : DS} (k : KOk D) {h : Str} {b : HS} (hf : freeB D h = none) (hl : h ≠ "last") : KOk (newB D h b) := fun q hq => by
  rcases List.mem_append.mp hq with hq | hq
  · exact k q hq
  · rw [List.mem_singleton.mp hq]; exact ⟨(free_none hf).1, hl⟩
theorem exec_kok {D D' : DS} {c : Cmd} {a : Str} (k : KOk D) (l : c.made ≠ some "last") (e : exec D c = .ok (D', a)) : KOk D' := by
  cases c with
  | opn h m w =>
    have hl : h ≠ "last" := fun e => l (congrArg some e)
    simp only [exec] at e
    split at e
    · cases e
    · rename_i hf
      split at e
      · cases e
      · cases e; exact kok_new k hf hl
  | join h x y =>
    have hl : h ≠ "last" := fun e => l (congrArg some e)
    simp only [exec] at e
    split at e
    · cases e
    · split at e
      · cases e
      · split at e
        · cases e
        · rename_i hf
          split at e
          · cases e
          · cases e; exact kok_new k hf hl
  | who => simp only [exec] at e; rw [ask_same e]; exact k
  | count => simp only [exec] at e; rw [ask_same e]; exact k
  | road => simp only [exec] at e; rw [ask_same e]; exact k
  | person => simp only [exec] at e; exact kok_keys k (deed_keys e)
  | tie => simp only [exec] at e; exact kok_keys k (deed_keys e)
  | said => simp only [exec] at e; exact kok_keys k (deed_keys e)
  | take => simp only [exec] at e; exact kok_keys k (deed_keys e)
  | undo => simp only [exec] at e; exact kok_keys k (deed_keys e)
  | redo => simp only [exec] at e; exact kok_keys k (deed_keys e)
theorem run_kok {D : DS} {c : Cmd} (k : KOk D) (l : c.made ≠ some "last") : KOk (runD D c).1 := by
  unfold runD
  cases e : exec D c with
  | error => exact k
  | ok p =>
    obtain ⟨D', a⟩ := p
    have q := exec_kok k l e
    show KOk (if c.ask = true then ((D', a) : DS × Str) else (⟨D'.books, D'.rows ++ [c.row]⟩, a)).1
    split
    · exact q
    · exact q
theorem exec_len {D D' : DS} {c : Cmd} {a : Str} (e : exec D c = .ok (D', a)) : D'.books.length ≤ D.books.length + 1 := by
  have dl : ∀ {h : Str} {f : HS → Except Str (HS × Str)}, deed D h f = .ok (D', a) → D'.books.length ≤ D.books.length + 1 := fun e => by
    have q := congrArg List.length (deed_keys e)
    simp only [List.length_map] at q
    omega
  have nl : ∀ (h : Str) (b : HS), (newB D h b).books.length ≤ D.books.length + 1 := fun h b => by
    show (D.books ++ [(h, b)]).length ≤ _
    simp
  cases c with
  | opn h m w =>
    simp only [exec] at e
    split at e
    · cases e
    · split at e
      · cases e
      · cases e; exact nl _ _
  | join h x y =>
    simp only [exec] at e
    split at e
    · cases e
    · split at e
      · cases e
      · split at e
        · cases e
        · split at e
          · cases e
          · cases e; exact nl _ _
  | who => simp only [exec] at e; rw [ask_same e]; omega
  | count => simp only [exec] at e; rw [ask_same e]; omega
  | road => simp only [exec] at e; rw [ask_same e]; omega
  | person => simp only [exec] at e; exact dl e
  | tie => simp only [exec] at e; exact dl e
  | said => simp only [exec] at e; exact dl e
  | take => simp only [exec] at e; exact dl e
  | undo => simp only [exec] at e; exact dl e
  | redo => simp only [exec] at e; exact dl e
theorem run_len {D : DS} {c : Cmd} : (runD D c).1.books.length ≤ D.books.length + 1 ∧ (runD D c).1.rows.length ≤ D.rows.length + 1 := by
  unfold runD
  cases e : exec D c with
  | error => exact ⟨Nat.le_succ _, Nat.le_succ _⟩
  | ok p =>
    obtain ⟨D', a⟩ := p
    have q := exec_len e
    have r := exec_rows e
    show (if c.ask = true then ((D', a) : DS × Str) else (⟨D'.books, D'.rows ++ [c.row]⟩, a)).1.books.length ≤ _ ∧ (if c.ask = true then ((D', a) : DS × Str) else (⟨D'.books, D'.rows ++ [c.row]⟩, a)).1.rows.length ≤ _
    split
    · exact ⟨q, by show D'.rows.length ≤ _; rw [r]; omega⟩
    · exact ⟨q, by show (D'.rows ++ [c.row]).length ≤ _; rw [r]; simp⟩
theorem logs_ask {D : DS} {c : Cmd} (h : c.ask = true) : logs D c = false := by
  unfold logs
  split
  · rfl
  · rw [h]; rfl
theorem ask_run {D : DS} {c : Cmd} (h : c.ask = true) : (runD D c).1 = D := run_not (logs_ask h)
/-- a desk in order -/
structure Fine (r : Nat) (D : DS) : Prop where
  o : DOk hallsL r D
  k : KOk D
  bl : D.books.length ≤ r
  rl : D.rows.length ≤ r
theorem Fine.run {r : Nat} {D : DS} {c : Cmd} (f : Fine r D) (l : LawC c) : Fine (r + 1) (runD D c).1 :=
  ⟨run_ok f.o l.ry.gd, run_kok f.k l.nl, Nat.le_trans run_len.1 (Nat.succ_le_succ f.bl), Nat.le_trans run_len.2 (Nat.succ_le_succ f.rl)⟩
theorem fine_new : Fine 0 ⟨[], []⟩ := ⟨⟨fun q hq => by simp at hq, List.nodup_nil⟩, fun q hq => by simp at hq, Nat.le_refl _, Nat.le_refl _⟩

/-! ### rows put together -/
theorem tl_inj {x y : Str} (h : TL.tl x = TL.tl y) : x = y := by rw [← TL.mk_tl x, ← TL.mk_tl y, h]
theorem row_count (h : Str) : ("count " : Str) ++ h = (Cmd.count h).row := by
  refine tl_inj ?_
  show _ = TL.tl (Txt.join " " ["count", h])
  rw [TL.join_eq, TL.tl_join, TL.tl_append]
  have e : TL.tl ("count " : Str) = TL.tl ("count" : Str) ++ TL.tl (" " : Str) := by decide +kernel
  rw [e, List.append_assoc]
  rfl
theorem row_who (h n : Str) : (("who " : Str) ++ h ++ " ") ++ n = (Cmd.who h n).row := by
  refine tl_inj ?_
  show _ = TL.tl (Txt.join " " ["who", h, n])
  rw [TL.join_eq, TL.tl_join, TL.tl_append, TL.tl_append, TL.tl_append]
  have e : TL.tl ("who " : Str) = TL.tl ("who" : Str) ++ TL.tl (" " : Str) := by decide +kernel
  rw [e]
  simp only [List.append_assoc]
  rfl
theorem row_road (h a b : Str) : (((("road " : Str) ++ h ++ " ") ++ a) ++ " ") ++ b = (Cmd.road h a b).row := by
  refine tl_inj ?_
  show _ = TL.tl (Txt.join " " ["road", h, a, b])
  rw [TL.join_eq, TL.tl_join, TL.tl_append, TL.tl_append, TL.tl_append, TL.tl_append, TL.tl_append]
  have e : TL.tl ("road " : Str) = TL.tl ("road" : Str) ++ TL.tl (" " : Str) := by decide +kernel
  rw [e]
  simp only [List.append_assoc]
  rfl

/-! ### alike data -/
section
variable {H : Hp} {p q : Addr}
theorem like_str (R : Hp → V → V → Prop) (z : Str) : Like R H (.str z) (.str z) := .inr (.inl ⟨z, rfl, rfl⟩)
theorem like_int (R : Hp → V → V → Prop) (i : Int) : Like R H (.int i) (.int i) := .inl ⟨i, rfl, rfl⟩
theorem like_strs {xs : List Str} (hp : H p = some (ls xs)) (hq : H q = some (ls xs)) (hz : xs.length ≤ 99999) : Like3 H (.ref p) (.ref q) := by
  refine .inr (.inr ⟨p, q, _, _, rfl, rfl, .inl ⟨hp, hq⟩, rfl, by rw [List.length_map]; exact hz, fun i x y ex ey H' s => ?_⟩)
  rw [ex] at ey; cases ey
  obtain ⟨z, hz, rfl⟩ := map_at ex
  exact like_str _ z
theorem like_pair {a b : Int} (hp : H p = some (.tup [.int a, .int b])) (hq : H q = some (.tup [.int a, .int b])) : Like3 H (.ref p) (.ref q) := by
  refine .inr (.inr ⟨p, q, _, _, rfl, rfl, .inr ⟨hp, hq⟩, rfl, show 2 ≤ 99999 by decide, fun i x y ex ey H' s => ?_⟩)
  rw [ex] at ey; cases ey
  match i, ex with
  | 0, ex => cases ex; exact like_int _ _
  | 1, ex => cases ex; exact like_int _ _
  | j + 2, ex => simp at ex
theorem like_rows {size : Nat} {names : List Str} {L : List (Int × Fact)} (r1 : Rows H p size names L) (r2 : Rows H q size names L) : Like3 H (.ref p) (.ref q) := by
  obtain ⟨as, e1, f1⟩ := r1.ex
  obtain ⟨bs, e2, f2⟩ := r2.ex
  refine .inr (.inr ⟨p, q, _, _, rfl, rfl, .inl ⟨e1, e2⟩, by rw [List.length_map, List.length_map, f1.len, f2.len], by rw [List.length_map, f2.len]; exact r1.sz, fun i x y ex ey H' s => ?_⟩)
  obtain ⟨a, u, rfl, hu, ha⟩ := f1.back ex
  obtain ⟨b, v, rfl, hv, hb⟩ := f2.back ey
  rw [hu] at hv; cases hv
  have fo := r1.ok u (List.mem_of_getElem? hu)
  refine .inr (.inr ⟨a, b, _, _, rfl, rfl, .inr ⟨s _ _ ha, s _ _ hb⟩, rfl, show 4 ≤ 99999 by decide, fun j x y ex ey H2 s2 => ?_⟩)
  rw [ex] at ey; cases ey
  match j, ex with
  | 0, ex => cases ex; exact like_int _ _
  | 1, ex => cases ex; exact like_str _ _
  | 2, ex => cases ex; exact like_str _ _
  | 3, ex =>
    cases ex
    obtain ⟨k, f⟩ := u
    cases fo with
    | said => exact like_int _ _
    | tie => exact like_str _ _
  | j + 4, ex => simp at ex
end
end Kin
set_option maxHeartbeats 4000000
/-! K57: the law's look at one book of both desks. -/
namespace Kin
open PySem L2
/-- a row that asks -/
structure AskC (c : Cmd) : Prop where
  ry : Rowy hallsL c
  ask : c.ask = true
theorem askc_of {c : Cmd} (g : Good hallsL c) (h : ∀ x ∈ c.words, WW x) (a : c.ask = true) : AskC c := ⟨⟨g, fun x hx => (h x hx).l, fun x hx => (h x hx).c⟩, a⟩
theorem ww_fit {x y : Str} {m n : Nat} (h : x.length ≤ m) (h' : y.length ≤ n) (l : m + n ≤ 100000) : x.length + y.length ≤ sizeLine :=
  Nat.le_trans (show _ ≤ 100000 by omega) (by decide)
theorem appS_len {x y : Str} {m n : Nat} (h : x.length ≤ m) (h' : y.length ≤ n) : (x ++ y).length ≤ m + n := by
  rw [← str_len, TL.tl_append, List.length_append, str_len, str_len]
  omega
section
variable {P : Program} {w : World} {K : PySem.W.Frag} {mg : Str → Option Value} {g : Str → Addr} {mt : Str → Str → Addr} {base : Heap}
def spLAlike (g : Str → Addr) : Sp := fun vs H Q _ => ∃ (Z : Hp) (d1 d2 : DM) (D : DS) (r : Nat) (h : Str) (b : HS), vs = [.ref d1.dk, .ref d2.dk, .str h] ∧ Two g Z H d1 D d2 D ∧ Fine r D ∧ r ≤ 100 ∧ bookAt D h = some b ∧
  ∀ Z' H' m1 m2, Two g Z' H' (d1.put m1) D (d2.put m2) D → (∀ x o, Free2 Z H d1 d2 x o → Free2 Z' H' (d1.put m1) (d2.put m2) x o) → Q (.bl true) H'
abbrev N_alike : List Str := ["_law_desk", "_law_other", "_law_hall", "_law_one", "_law_two", "_law_rows_here", "_law_name_here", "_law_row_here"]
theorem ok_law_alike (T : Txt w K mg g mt) : GF P w K mg base CX0 11 "_law_alike" (spLAlike g) := by
  refine gf0 (F_law_alike T) (T.glo _ (by decide +kernel)) sc_law_alike (fun vs H Q E h => ?_) fun cdv A outer s H vs Q E hr h => ?_
  · obtain ⟨Z, d1, d2, D, r, h, b, rfl, _⟩ := h; rfl
  · obtain ⟨Z, d1, d2, D, r, h, b, rfl, t, fi, hr1, hb, q⟩ := h
    have nd := sc_law_alike.nd
    have fA : mg "all" = none := T.free _ (by decide +kernel)
    have Bo := ok_book (P := P) (base := base) T
    have Pe := ok_people (P := P) (base := base) T
    have Ke := ok_kept (P := P) (base := base) T
    have Un := ok_undoable (P := P) (base := base) T
    have Re := ok_redoable (P := P) (base := base) T
    have Ru := ok_run (P := P) (base := base) T
    have S3 : GF P w K mg base CX0 4 "_law_same" (spSame Like3) := same_step T (same_step T (same_step T (same_none T)))
    refine ⟨_, pss_cons (ps_set (i := 3) nd rfl (.inl rfl) (pe_gm (E := E0) Bo (pv 0) hr (passE takes0 rfl) (pa_cons (pv 2) pa_nil)))
      (pss_cons (ps_set (i := 4) nd rfl (.inl rfl) (pe_gm (E := E0) Bo (pv 1) hr (passE takes0 rfl) (pa_cons (pv 2) pa_nil)))
      (pss_cons (ps_if (PW.pt (pw_or (pt_not (pt_val (pe_gf (E := E0) S3 hr pass0 (pa_cons (pe_gm0 (E := E0) Pe (pv 4) hr pass0) (pa_cons (pe_gm0 (E := E0) Pe (pv 3) hr pass0) pa_nil)))))
          (pw_or1 (pt_not (pt_val (pe_gf (E := E0) S3 hr pass0 (pa_cons (pe_gm0 (E := E0) Ke (pv 4) hr pass0) (pa_cons (pe_gm0 (E := E0) Ke (pv 3) hr pass0) pa_nil)))))))) (pss_one ps_never) pss_nil)
      (pss_cons (ps_if (pt_not (pt_val (pe_gf (E := E0) S3 hr pass0 (pa_cons (pe_tup (pa_cons (pe_gm0 (E := E0) Un (pv 4) hr pass0) (pa_cons (pe_gm0 (E := E0) Re (pv 4) hr pass0) pa_nil))) (pa_cons (pe_tup (pa_cons (pe_gm0 (E := E0) Un (pv 3) hr pass0) (pa_cons (pe_gm0 (E := E0) Re (pv 3) hr pass0) pa_nil))) pa_nil))))) (pss_one ps_never) pss_nil)
      (pss_cons (ps_set (i := 5) nd rfl (.inl rfl) (pe_lst (pa_cons (pe_op op_add_str pe_str (pv 2)) pa_nil)))
      (pss_cons (ps_for PassesOwn.never rfl (pi_list (pe_gm0 (E := E0) Pe (pv 3) hr pass0)) (pg_name (i := 6) nd rfl (.inl rfl))
        (pss_one (ps_set (i := 5) nd rfl (.inl rfl) (pe_op op_cat (pv 5) (pe_lst (pa_cons (pe_op op_add_str (pe_op op_add_str (pe_op op_add_str pe_str (pv 2)) pe_str) (pv 6))
          (pa_cons (pe_op op_add_str (pe_op op_add_str (pe_op op_add_str (pe_op op_add_str (pe_op op_add_str pe_str (pv 2)) pe_str) (pv 6)) pe_str) (pe_ix ix_list (pe_gm0 (E := E0) Pe (pv 3) hr pass0) pe_int (fun _ _ => rfl))) pa_nil)))))))
      (pss_one (ps_ret (pe_callB (cr_all rfl) (by rfl) fA PyProof.Rows.boot_all (pa_cons
        (pe_lc (te := tG (spSame Like3) E0 (tCons (tGm (g "Desk") "run" (spRun g) E0 (tVar 1) (tCons (tVar 7) tNil)) (tCons (tGm (g "Desk") "run" (spRun g) E0 (tVar 0) (tCons (tVar 7) tNil)) tNil))) (own := [("_law_row_here", 7)]) (g := gName 7) (tt := tYes) rfl nd (pi_list (pv 5)) (blkOk_by (N := N_alike) (sc := defScope s_law_alike) (by decide +kernel))
          (fun _ _ _ _ _ => pg_name (i := 7) nd rfl (Or.inl rfl)) (fun _ _ _ _ _ => pts_nil)
          (fun _ _ _ _ _ => pe_gf (E := E0) S3 hr pass0 (pa_cons (pe_gm (E := E0) Ru (pv 1) hr pass0 (pa_cons (pv 7) pa_nil)) (pa_cons (pe_gm (E := E0) Ru (pv 0) hr pass0 (pa_cons (pv 7) pa_nil)) pa_nil)))) pa_nil))))))))), ?_⟩
    have ho := book_ok fi.o (by omega) hb
    have nz := ho.bo.ln
    have hww : WW h := name_ww (fi.k _ (bookAt_mem hb)).1
    have nww : ∀ n ∈ b.st.names, WW n := fun n hn => name_ww (ho.bo.nk n hn)
    obtain ⟨dx1, ob1⟩ := dob t.a1
    obtain ⟨dx2, ob2⟩ := dob t.a2
    refine ⟨_, rfl, d1.dk, dx1, _, rfl, ob1, (dkN ..).1, _, rfl, Z, d1.dk, d1.bd, d1.rl, d1.ms, D, h, rfl, t.a1, fun b1 i1 m1 hb1 hm1 hq1 => ?_, fun hn => by rw [hb] at hn; cases hn⟩
    obtain rfl : b = b1 := Option.some.inj (hb.symm.trans hb1)
    refine ⟨_, rfl, d2.dk, dx2, _, rfl, ob2, (dkN ..).1, _, rfl, Z, d2.dk, d2.bd, d2.rl, d2.ms, D, h, rfl, t.a2, fun b2 i2 m2 hb2 hm2 hq2 => ?_, fun hn => by rw [hb] at hn; cases hn⟩
    obtain rfl : b = b2 := Option.some.inj (hb.symm.trans hb2)
    have ha1 : HA g Z H m1 b := t.a1.ha i1 m1 _ hm1 hq1
    have ha2 : HA g Z H m2 b := t.a2.ha i2 m2 _ hm2 hq2
    obtain ⟨hx1, lo1, hob1, _⟩ := ha1.ob
    obtain ⟨hx2, lo2, hob2, _⟩ := ha2.ob
    -- people
    refine ⟨_, rfl, m2.p, hx2, _, rfl, hob2, hN_people .., Z, m2, b, rfl, ha2, fun p2 H1 s1 np2 e2 => ?_⟩
    refine ⟨_, rfl, m1.p, hx1, _, rfl, s1 _ _ hob1, hN_people .., Z, m1, b, rfl, ha1.same s1, fun p1 H2 s2 np1 e1 => ?_⟩
    refine ⟨_, _, rfl, like_strs (s2 _ _ e2) e1 (by omega), fun H3 s3 => ⟨_, rfl, iteB (fun c => by cases c) (fun _ => ?_)⟩⟩
    have s03 := s1.trans (s2.trans s3)
    -- facts
    refine ⟨_, rfl, m2.p, hx2, _, rfl, s03 _ _ hob2, hN_kept .., Z, m2, b, 600, rfl, ha2.same s03, ho.bo, by omega, fun k2 H4 s4 nk2 r2 => ?_⟩
    have s04 := s03.trans s4
    refine ⟨_, rfl, m1.p, hx1, _, rfl, s04 _ _ hob1, hN_kept .., Z, m1, b, 600, rfl, ha1.same s04, ho.bo, by omega, fun k1 H5 s5 nk1 r1 => ?_⟩
    refine ⟨_, _, rfl, like_rows (r2.same s5) r1, fun H6 s6 => ⟨_, rfl, iteB (fun c => by cases c) (fun _ => ?_)⟩⟩
    have s06 := s04.trans (s5.trans s6)
    -- counts
    refine ⟨_, rfl, m2.p, hx2, _, rfl, s06 _ _ hob2, hN_undoable .., Z, m2, b, rfl, ha2.same s06, fun H7 s7 => ?_⟩
    have s07 := s06.trans s7
    refine ⟨_, rfl, m2.p, hx2, _, rfl, s07 _ _ hob2, hN_redoable .., Z, m2, b, rfl, ha2.same s07, fun H8 s8 => ?_⟩
    have s08 := s07.trans s8
    refine ⟨small 2 (by decide), fun t2 ht2 => ?_⟩
    generalize g9 : upd H8 t2 _ = H9
    have s9 : Same H8 H9 := by rw [← g9]; exact same_new ht2
    have h9 : H9 t2 = some (.tup [.int (b.past.length : Nat), .int (b.ahead.length : Nat)]) := by rw [← g9]; exact upd_same
    have s09 := s08.trans s9
    refine ⟨_, rfl, m1.p, hx1, _, rfl, s09 _ _ hob1, hN_undoable .., Z, m1, b, rfl, ha1.same s09, fun H10 s10 => ?_⟩
    have s010 := s09.trans s10
    refine ⟨_, rfl, m1.p, hx1, _, rfl, s010 _ _ hob1, hN_redoable .., Z, m1, b, rfl, ha1.same s010, fun H11 s11 => ?_⟩
    have s011 := s010.trans s11
    refine ⟨small 2 (by decide), fun t1 ht1 => ?_⟩
    generalize g12 : upd H11 t1 _ = H12
    have s12 : Same H11 H12 := by rw [← g12]; exact same_new ht1
    have h12 : H12 t1 = some (.tup [.int (b.past.length : Nat), .int (b.ahead.length : Nat)]) := by rw [← g12]; exact upd_same
    have s012 := s011.trans s12
    refine ⟨_, _, rfl, like_pair (s12 _ _ (s11 _ _ (s10 _ _ h9))) h12, fun H13 s13 => ⟨_, rfl, iteB (fun c => by cases c) (fun _ => ?_)⟩⟩
    have s013 := s012.trans s13
    -- the rows
    have lc : ("count " : Str).length ≤ 10 := by decide +kernel
    have lw : ("who " : Str).length ≤ 10 := by decide +kernel
    have lr : ("road " : Str).length ≤ 10 := by decide +kernel
    have lb : (" " : Str).length ≤ 1 := by decide +kernel
    refine ⟨_, rfl, _, _, rfl, rfl, ww_fit lc hww.l (by decide), small 1 (by decide), fun rp hrp => ?_⟩
    generalize g14 : upd H13 rp _ = H14
    have s14 : Same H13 H14 := by rw [← g14]; exact same_new hrp
    have h14 : H14 rp = some (ls ([Cmd.count h].map Cmd.row)) := by
      rw [← g14]
      show _ = some (ls [(Cmd.count h).row])
      rw [← row_count]
      exact upd_same
    have s014 := s013.trans s14
    have ac : AskC (.count h) := askc_of trivial (fun x hx => by
      simp only [Cmd.words, List.mem_cons, List.not_mem_nil, or_false] at hx
      rcases hx with rfl | rfl
      · exact ⟨by decide +kernel, by decide +kernel⟩
      · exact hww) rfl
    refine ⟨_, rfl, m1.p, hx1, _, rfl, s014 _ _ hob1, hN_people .., Z, m1, b, rfl, ha1.same s014, fun pl G1 sl npl el => ?_⟩
    have s0 := s014.trans sl
    refine ⟨pl, rfl, ⟨_, SqL.of el⟩, ?_⟩
    refine for_it (walk_list (K := K) (a := pl) (xs := b.st.names.map V.str)) (fun i σ G => (∃ rp u, σ = [some (.ref d1.dk), some (.ref d2.dk), some (.str h), some (.ref m1.p), some (.ref m2.p), some (.ref rp), u, none] ∧ ∃ cs : List Cmd, G rp = some (ls (cs.map Cmd.row)) ∧ cs.length ≤ 1 + 2 * i ∧ (∀ c ∈ cs, AskC c) ∧ H rp = none) ∧ Same G1 G)
      ⟨⟨rp, none, rfl, [.count h], sl _ _ h14, by simp, fun c hc => (by rw [List.mem_singleton.mp hc]; exact ac), s013.free hrp⟩, Same.refl _⟩ (fun i σ G _ p => SqL.of (p.2 _ _ el)) ?_ ?_
    · rintro i v σ G G' hi ⟨⟨rp, u, rfl, cs, hcs, lcs, acs, frp⟩, sG⟩ ⟨rfl, hv⟩
      obtain ⟨n, hn, rfl⟩ := map_at hv
      rw [List.length_map] at hi
      have hnm := List.mem_of_getElem? hn
      have nw := nww n hnm
      have e0 : b.st.names[0]? = some (b.st.names[0]'(by omega)) := List.getElem?_eq_getElem _
      have nw0 := nww _ (List.mem_of_getElem? e0)
      generalize b.st.names[0]'_ = n0 at e0 nw0
      have sH := s0.trans sG
      have l1 := appS_len lw hww.l
      have l2 := appS_len l1 lb
      have r1 := appS_len lr hww.l
      have r2 := appS_len r1 lb
      have r3 := appS_len r2 nw.l
      have r4 := appS_len r3 lb
      refine ⟨_, rfl, _, rfl, _, _, rfl, rfl, ww_fit lw hww.l (by decide), _, _, rfl, rfl, ww_fit l1 lb (by decide), _, rfl, _, _, rfl, rfl, ww_fit l2 nw.l (by decide), ?_⟩
      refine ⟨_, rfl, _, _, rfl, rfl, ww_fit lr hww.l (by decide), _, _, rfl, rfl, ww_fit r1 lb (by decide), _, rfl, _, _, rfl, rfl, ww_fit r2 nw.l (by decide), _, _, rfl, rfl, ww_fit r3 lb (by decide), ?_⟩
      refine ⟨_, rfl, m1.p, hx1, _, rfl, sH _ _ hob1, hN_people .., Z, m1, b, rfl, ha1.same sH, fun pp G2 s2 npp epp => ?_⟩
      refine ⟨pp, _, 0, _, rfl, rfl, SqL.of epp, ix_at (z := 0) (by omega) (at_map e0), _, _, rfl, rfl, ww_fit r4 nw0.l (by decide), small 2 (by decide), fun lp hlp => ?_⟩
      generalize g3 : upd G2 lp _ = G3
      have s3 : Same G2 G3 := by rw [← g3]; exact same_new hlp
      have h3 : G3 lp = some (ls ([Cmd.who h n, Cmd.road h n n0].map Cmd.row)) := by
        rw [← g3]
        show _ = some (ls [(Cmd.who h n).row, (Cmd.road h n n0).row])
        rw [← row_who, ← row_road]
        exact upd_same
      have s23 := s2.trans s3
      refine ⟨rp, lp, _, _, rfl, rfl, s23 _ _ hcs, h3, by rw [List.length_map, List.length_map]; exact small _ (by show cs.length + 2 ≤ 100000; omega), fun np hnp => ?_⟩
      generalize g4 : upd G3 np _ = G4
      have s4 : Same G3 G4 := by rw [← g4]; exact same_new hnp
      have h4 : G4 np = some (ls ((cs ++ [Cmd.who h n, Cmd.road h n n0]).map Cmd.row)) := by
        rw [← g4, List.map_append]
        unfold ls
        rw [List.map_append]
        exact upd_same
      refine ⟨⟨np, _, rfl, _, h4, by simp; omega, fun c hc => ?_, (sH.trans s23).free hnp⟩, sG.trans (s23.trans s4)⟩
      rcases List.mem_append.mp hc with hc | hc
      · exact acs c hc
      · simp only [List.mem_cons, List.not_mem_nil, or_false] at hc
        rcases hc with rfl | rfl
        · exact askc_of trivial (fun x hx => by
            simp only [Cmd.words, List.mem_cons, List.not_mem_nil, or_false] at hx
            rcases hx with rfl | rfl | rfl
            · exact ⟨by decide +kernel, by decide +kernel⟩
            · exact hww
            · exact nw) rfl
        · exact askc_of trivial (fun x hx => by
            simp only [Cmd.words, List.mem_cons, List.not_mem_nil, or_false] at hx
            rcases hx with rfl | rfl | rfl | rfl
            · exact ⟨by decide +kernel, by decide +kernel⟩
            · exact hww
            · exact nw
            · exact nw0) rfl
    -- the answers
    rintro σ G ⟨⟨rp, u, rfl, cs, hcs, lcs, acs, frp⟩, sG⟩
    rw [List.length_map] at lcs
    have sH := s0.trans sG
    refine ⟨_, rfl, rp, rfl, ⟨_, SqL.of hcs⟩, fun L hL => ?_⟩
    have sL : Same G (upd G L (.lst [])) := same_new hL
    have tG := t.same sH
    have L0 : H L = none := sH.free hL
    have nl : ((cs.map Cmd.row).map V.str).length ≤ 1300 := by rw [List.length_map, List.length_map]; omega
    have fB := fi.bl
    have fR := fi.rl
    refine lc_it (walk_list (K := K) (a := rp) (xs := (cs.map Cmd.row).map V.str)) (fun i J => ∃ Z' m1' m2', Two g Z' J (d1.put m1') D (d2.put m2') D ∧ Free2 Z' J (d1.put m1') (d2.put m2') L (.lst ((List.replicate i true).map V.bl)) ∧ Free2 Z' J (d1.put m1') (d2.put m2') rp (ls (cs.map Cmd.row)) ∧
        ∀ x o, Free2 Z H d1 d2 x o → Free2 Z' J (d1.put m1') (d2.put m2') x o) ?_ (fun i J _ p => by obtain ⟨_, _, _, _, _, f, _⟩ := p; exact SqL.of f.e) ?_ ?_
    · exact ⟨Z, d1.ms, d2.ms, tG.same sL, tG.new hL sL upd_same, (t.new frp sH hcs).same sL, fun x o f => f.same (sH.trans sL)⟩
    · rintro i v J J' hi ⟨Z', m1', m2', tJ, fL, fr, keep⟩ ⟨rfl, hv⟩
      obtain ⟨row, hrow, rfl⟩ := map_at hv
      obtain ⟨c, hc, rfl⟩ := map_at hrow
      have acc := acs c (List.mem_of_getElem? hc)
      refine ⟨rfl, yesT ?_⟩
      obtain ⟨dy2, oy2⟩ := dob tJ.a2
      refine ⟨_, rfl, d2.dk, dy2, _, rfl, oy2, (dkN ..).2.2.2.1, _, rfl, Z', d2.dk, d2.bd, d2.rl, m2', D, hallsL, r, c, rfl, tJ.a2, fi.o, by omega, by omega, by omega, acc.ry, fun Z2 J2 k2 n2 => ?_⟩
      have er : (runD D c).1 = D := ask_run acc.ask
      rw [er] at n2
      have t2 := tJ.right n2
      obtain ⟨dy1, oy1⟩ := dob t2.a1
      refine ⟨_, rfl, d1.dk, dy1, _, rfl, oy1, (dkN ..).2.2.2.1, _, rfl, Z2, d1.dk, d1.bd, d1.rl, m1', D, hallsL, r, c, rfl, t2.a1, fi.o, by omega, by omega, by omega, acc.ry, fun Z3 J3 k1 n1 => ?_⟩
      rw [er] at n1
      have t3 := t2.left n1
      refine ⟨_, _, rfl, like_str _ _, fun J4 s4 => ?_⟩
      have fL4 := ((fL.right n2).left n1).same s4
      have fr4 := ((fr.right n2).left n1).same s4
      have nr : rp ≠ L := ne_of_none hcs hL
      refine ⟨_, fL4.e, by rw [List.length_map, List.length_replicate]; exact smallL (by omega), Z3, k1, k2, (t3.same s4).put fL4 _, ?_, fr4.put nr, fun x o f => ((((keep x o f).right n2).left n1).same s4).put (ne_of_none f.e L0)⟩
      have e : (List.replicate i true).map V.bl ++ [V.bl true] = (List.replicate (i + 1) true).map V.bl := by rw [List.replicate_succ', List.map_append]; rfl
      rw [e]
      exact fL4.set
    · rintro J ⟨Z', m1', m2', tJ, fL, fr, keep⟩
      refine ⟨L, List.replicate _ true, rfl, SqL.of fL.e, ?_⟩
      have e : ∀ n, (List.replicate n true).all id = true := fun n => by simp
      rw [e]
      exact q Z' J m1' m2' tJ keep
end
end Kin
set_option maxHeartbeats 4000000
/-! K58: a log told again, plain: what the law's loops need. -/
namespace Kin
open PySem L2
theorem tell_snoc : ∀ (cs : List Cmd) (D : DS) (c : Cmd), tell D (cs ++ [c]) = ((runD (tell D cs).1 c).1, if logs (tell D cs).1 c = true then (tell D cs).2 ++ [(c, (runD (tell D cs).1 c).2)] else (tell D cs).2)
  | [], D, c => rfl
  | x :: r, D, c => by
    have ih := tell_snoc r (runD D x).1 c
    show ((tell (runD D x).1 (r ++ [c])).1, if logs D x = true then (x, (runD D x).2) :: (tell (runD D x).1 (r ++ [c])).2 else (tell (runD D x).1 (r ++ [c])).2) = _
    rw [ih]
    show (_, _) = ((runD (tell (runD D x).1 r).1 c).1, if logs (tell (runD D x).1 r).1 c = true then (if logs D x = true then (x, (runD D x).2) :: (tell (runD D x).1 r).2 else (tell (runD D x).1 r).2) ++ [(c, (runD (tell (runD D x).1 r).1 c).2)] else (if logs D x = true then (x, (runD D x).2) :: (tell (runD D x).1 r).2 else (tell (runD D x).1 r).2))
    by_cases h1 : logs D x = true <;> by_cases h2 : logs (tell (runD D x).1 r).1 c = true <;> simp [h1, h2]
theorem tell_len : ∀ (cs : List Cmd) (D : DS), (tell D cs).2.length ≤ cs.length
  | [], D => Nat.le_refl _
  | c :: r, D => by
    have ih := tell_len r (runD D c).1
    show (if logs D c = true then (c, (runD D c).2) :: (tell (runD D c).1 r).2 else (tell (runD D c).1 r).2).length ≤ r.length + 1
    split
    · simp; exact ih
    · omega
/-- the rows kept are those logged -/
theorem tell_rows : ∀ (cs : List Cmd) (D : DS), (tell D cs).1.rows = D.rows ++ (tell D cs).2.map fun p => p.1.row
  | [], D => by simp [tell]
  | c :: r, D => by
    have ih := tell_rows r (runD D c).1
    show (tell (runD D c).1 r).1.rows = D.rows ++ (if logs D c = true then (c, (runD D c).2) :: (tell (runD D c).1 r).2 else (tell (runD D c).1 r).2).map fun p => p.1.row
    rw [ih]
    by_cases h : logs D c = true
    · rw [if_pos h, run_log h]
      simp
    · have h' : logs D c = false := by simpa using h
      rw [if_neg h, run_not h']
theorem tell_mem : ∀ (cs : List Cmd) (D : DS), ∀ p ∈ (tell D cs).2, p.1 ∈ cs
  | [], D => fun p hp => by simp [tell] at hp
  | c :: r, D => fun p hp => by
    have ih := tell_mem r (runD D c).1
    have hp : p ∈ (if logs D c = true then (c, (runD D c).2) :: (tell (runD D c).1 r).2 else (tell (runD D c).1 r).2) := hp
    split at hp
    · rcases List.mem_cons.mp hp with rfl | hp
      · simp
      · exact List.mem_cons_of_mem _ (ih p hp)
    · exact List.mem_cons_of_mem _ (ih p hp)
/-- a telling in which all was logged -/
theorem tell_all : ∀ (L : List Cmd) (D : DS), (tell D L).2.map (·.1) = L → ∀ (i : Nat) (c : Cmd) (a : Str), (tell D L).2[i]? = some (c, a) → logs (tell D (L.take i)).1 c = true ∧ (runD (tell D (L.take i)).1 c).2 = a ∧ L[i]? = some c
  | [], D, _, i, c, a, e => by simp [tell] at e
  | x :: r, D, h, i, c, a, e => by
    have h : (if logs D x = true then (x, (runD D x).2) :: (tell (runD D x).1 r).2 else (tell (runD D x).1 r).2).map (·.1) = x :: r := h
    have e : (if logs D x = true then (x, (runD D x).2) :: (tell (runD D x).1 r).2 else (tell (runD D x).1 r).2)[i]? = some (c, a) := e
    by_cases l : logs D x = true
    · rw [if_pos l] at h e
      have h2 : (tell (runD D x).1 r).2.map (·.1) = r := (List.cons.inj h).2
      cases i with
      | zero =>
        have e : (x, (runD D x).2) = (c, a) := Option.some.inj e
        cases e
        exact ⟨l, rfl, rfl⟩
      | succ j =>
        have e : (tell (runD D x).1 r).2[j]? = some (c, a) := by simpa using e
        exact tell_all r (runD D x).1 h2 j c a e
    · rw [if_neg l] at h
      have := congrArg List.length h
      have z := tell_len r (runD D x).1
      simp at this
      omega
theorem tell_fine : ∀ (cs : List Cmd) (D : DS) (r : Nat), Fine r D → (∀ c ∈ cs, LawC c) → Fine (r + cs.length) (tell D cs).1
  | [], D, r, f, _ => f
  | c :: t, D, r, f, h => by
    have q := tell_fine t (runD D c).1 (r + 1) (f.run (h c (by simp))) fun x hx => h x (List.mem_cons_of_mem _ hx)
    have e : r + (c :: t).length = r + 1 + t.length := by simp; omega
    rw [e]
    exact q
theorem Fine.mono {r r' : Nat} {D : DS} (f : Fine r D) (h : r ≤ r') : Fine r' D :=
  ⟨⟨fun q hq => (f.o.bo q hq).mono (by split <;> omega), f.o.nd⟩, f.k, Nat.le_trans f.bl h, Nat.le_trans f.rl h⟩

/-! ### the answer of a row that was done -/
/-- its first word is not the refusal's -/
structure Done (a : Str) : Prop where
  ex : ∃ ws : List Str, a = Txt.join " " ws ∧ ws ≠ [] ∧ (∀ w ∈ ws, 32 ∉ TL.tl w) ∧ (∃ x : Str, ws[0]? = some x ∧ x ≠ "refused") ∧ a.length ≤ 200
theorem done_ok : Done "ok" := ⟨["ok"], by decide +kernel, by simp, by decide +kernel, ⟨"ok", rfl, by decide +kernel⟩, by decide +kernel⟩
theorem done_kept {i : Int} (h0 : 0 ≤ i) (h1 : i ≤ 1000) : Done ("kept " ++ istr i) := by
  have n := nw_istr h0 h1
  refine ⟨["kept", istr i], ?_, by simp, fun w hw => ?_, ⟨"kept", rfl, by decide +kernel⟩, ?_⟩
  · refine tl_inj ?_
    rw [TL.join_eq, TL.tl_join, TL.tl_append]
    have e : TL.tl ("kept " : Str) = TL.tl ("kept" : Str) ++ TL.tl (" " : Str) := by decide +kernel
    rw [e, List.append_assoc]
    rfl
  · simp only [List.mem_cons, List.not_mem_nil, or_false] at hw
    rcases hw with rfl | rfl
    · decide +kernel
    · exact n.clean
  · have l : ("kept " : Str).length ≤ 10 := by decide +kernel
    exact Nat.le_trans (appS_len l n.l) (by decide)
theorem deed_ans {D D' : DS} {h a : Str} {f : HS → Except Str (HS × Str)} {P : Str → Prop} (hf : ∀ b b' x, bookAt D h = some b → f b = .ok (b', x) → P x) (e : deed D h f = .ok (D', a)) : P a := by
  unfold deed at e
  split at e
  · cases e
  · rename_i b hb
    split at e
    · cases e
    · rename_i b' x hx
      cases e
      exact hf b b' _ hb hx
theorem okA_ans {x : Except Str HS} {b : HS} {a : Str} (e : okA x = .ok (b, a)) : Done a := by
  unfold okA at e
  split at e
  · cases e; exact done_ok
  · cases e
theorem exec_done {r : Nat} {D D' : DS} {c : Cmd} {a : Str} (f : Fine r D) (hr : r ≤ 150) (hc : c.ask = false) (e : exec D c = .ok (D', a)) : Done a := by
  have bk : ∀ {h : Str} {b : HS}, bookAt D h = some b → 0 ≤ b.st.after ∧ b.st.after ≤ 1000 := fun hb => by
    have o := book_ok f.o hr hb
    have := o.bo.a0
    have := o.bo.am
    omega
  have kp : ∀ {h : Str} {b b' : HS} {x : Except Str HS} {y : Str}, bookAt D h = some b → kept b x = .ok (b', y) → Done y := fun hb e => by
    unfold kept at e
    split at e
    · cases e
      exact done_kept (bk hb).1 (bk hb).2
    · cases e
  cases c with
  | opn h m w =>
    simp only [exec] at e
    split at e
    · cases e
    · split at e
      · cases e
      · cases e; exact done_ok
  | join h x y =>
    simp only [exec] at e
    split at e
    · cases e
    · split at e
      · cases e
      · split at e
        · cases e
        · split at e
          · cases e
          · cases e; exact done_ok
  | who => cases hc
  | count => cases hc
  | road => cases hc
  | person => simp only [exec] at e; exact deed_ans (fun b b' x _ hx => okA_ans hx) e
  | tie => simp only [exec] at e; exact deed_ans (fun b b' x hb hx => kp hb hx) e
  | said => simp only [exec] at e; exact deed_ans (fun b b' x hb hx => kp hb hx) e
  | take => simp only [exec] at e; exact deed_ans (fun b b' x _ hx => okA_ans hx) e
  | undo => simp only [exec] at e; exact deed_ans (fun b b' x _ hx => okA_ans hx) e
  | redo => simp only [exec] at e; exact deed_ans (fun b b' x _ hx => okA_ans hx) e
theorem logs_done {r : Nat} {D : DS} {c : Cmd} (f : Fine r D) (hr : r ≤ 150) (h : logs D c = true) : Done (runD D c).2 := by
  unfold logs at h
  unfold runD
  cases e : exec D c with
  | error => rw [e] at h; cases h
  | ok p =>
    obtain ⟨D', a⟩ := p
    rw [e] at h
    have hc : c.ask = false := by simpa using h
    have q := exec_done f hr hc e
    show Done (if c.ask = true then ((D', a) : DS × Str) else (⟨D'.books, D'.rows ++ [c.row]⟩, a)).2
    rw [hc]
    exact q
/-- a row is kept just where it is logged -/
theorem rows_grow {D : DS} {c : Cmd} : (runD D c).1.rows.length = D.rows.length + (if logs D c = true then 1 else 0) := by
  by_cases h : logs D c = true
  · rw [if_pos h, run_log h]; simp
  · have h' : logs D c = false := by simpa using h
    rw [if_neg h, run_not h']
    rfl

/-! ### one book more, at the end -/
abbrev lastC : Cmd := .opn "last" "10" "10"
theorem fig10 : FigW "10" := ⟨by decide +kernel, by decide +kernel, by decide +kernel⟩
theorem last_ry : Rowy hallsL lastC := by
  have h : ∀ x ∈ lastC.words, x.length ≤ 100 ∧ 32 ∉ TL.tl x := by decide +kernel
  exact ⟨⟨fig10, fig10⟩, fun x hx => (h x hx).1, fun x hx => (h x hx).2⟩
theorem last_row : lastC.row = "open last 10 10" := by decide +kernel
theorem digs10 : digs "10" = [1, 0] := by decide +kernel
theorem land10 : ∃ L, landOf (digs "10") (digs "10") = .ok L := by
  rw [digs10]
  have c : isTurn [1, 0] = true ∧ isTurn [1, 0] = true ∧ ([1, 0] : List Int).length = ([1, 0] : List Int).length ∧ isTurn (led [1, 0] [1, 0]) = true ∧ 2 ≤ ([1, 0] : List Int).length ∧ ([1, 0] : List Int).length ≤ 8 := by decide +kernel
  exact ⟨_, by unfold landOf; rw [if_pos c]⟩
theorem no_last {D : DS} (k : KOk D) : bookAt D "last" = none := by
  cases e : bookAt D "last" with
  | none => rfl
  | some b => exact absurd rfl (k _ (bookAt_mem e)).2
theorem last_ok {D : DS} (k : KOk D) : (runD D lastC).2 = "ok" := by
  obtain ⟨L, hL⟩ := land10
  have hf : freeB D "last" = none := by
    unfold freeB
    rw [if_neg (by decide +kernel), no_last k, if_neg (by decide)]
  have e : exec D lastC = .ok (newB D "last" (newH L), "ok") := by
    simp only [exec]
    rw [hf]
    dsimp only
    rw [hL]
  unfold runD
  rw [e]
  rfl
theorem last_nin {D : DS} (k : KOk D) : ("last" : Str) ∉ D.books.map (·.1) := fun h => by
  obtain ⟨q, hq, e⟩ := List.mem_map.mp h
  exact (k q hq).2 e
end Kin
set_option maxHeartbeats 4000000
/-! K59: the law. -/
namespace Kin
open PySem L2
section
variable {P : Program} {w : World} {K : PySem.W.Frag} {mg : Str → Option Value} {g : Str → Addr} {mt : Str → Str → Addr} {base : Heap}
def spLaw (K : PySem.W.Frag) : Sp := fun vs H Q _ => ∃ (a : Addr) (zs : List Int), vs = [.ref a] ∧ SqL K H a (zs.map V.int) ∧ zs.length ≤ 63 ∧ ∀ H', Q (.bl true) H'
abbrev N_law : List Str := ["_law_script", "_law_size", "_law_salt", "_law_pool", "_law_halls", "_law_desk", "_law_other", "_law_answers", "_law_row_here", "_law_before", "_law_answer", "_law_hall", "_law_kept", "_law_k", "_law_name_here", "_law_pair"]
def Z0 : Hp := fun _ => none
theorem z0s (H : Hp) : Same Z0 H := fun b o e => by cases e
/-- the pairs of rows and answers, in a list of ours -/
def ansO (p : Cmd × Str) : HO := .tup [.str p.1.row, .str p.2]
structure AnsA (Z G : Hp) (d1 d2 : DM) (al : Addr) (L : List (Cmd × Str)) : Prop where
  ex : ∃ as : List Addr, Free2 Z G d1 d2 al (.lst (as.map V.ref)) ∧ EachR (fun t p => Free2 Z G d1 d2 t (ansO p)) as L
theorem AnsA.mono {Z G Z' G' : Hp} {d1 d2 d1' d2' : DM} {al : Addr} {L : List (Cmd × Str)} (h : AnsA Z G d1 d2 al L) (k : ∀ x o, Free2 Z G d1 d2 x o → Free2 Z' G' d1' d2' x o) : AnsA Z' G' d1' d2' al L := by
  obtain ⟨as, f, e⟩ := h.ex
  exact ⟨as, k _ _ f, e.mono fun a x => k _ _⟩
theorem take_succ' {cs : List Cmd} {i : Nat} {c : Cmd} (h : cs[i]? = some c) : cs.take (i + 1) = cs.take i ++ [c] := by
  have hl := (List.getElem?_eq_some_iff.mp h).1
  rw [← List.take_append_getElem hl, (List.getElem?_eq_some_iff.mp h).2]
theorem EachR.back {α : Type} {R : Addr → α → Prop} {as : List Addr} {xs : List α} (e : EachR R as xs) {i : Nat} {v : V} (h : (as.map V.ref)[i]? = some v) : ∃ a x, v = .ref a ∧ xs[i]? = some x ∧ R a x := by
  obtain ⟨a, h1, rfl⟩ := map_at h
  have hi : i < xs.length := by rw [← e.len]; exact (List.getElem?_eq_some_iff.mp h1).1
  obtain ⟨b, h2, h3⟩ := e.at_ i xs[i] (List.getElem?_eq_getElem hi)
  rw [h1] at h2
  cases h2
  exact ⟨a, xs[i], rfl, List.getElem?_eq_getElem hi, h3⟩
theorem held_keys (D : DS) : HO.lst (D.books.map fun q => V.str q.1) = ls (D.books.map (·.1)) := by
  unfold ls
  rw [List.map_map]
  rfl
theorem flat_strs (l : List Str) : (l.map V.str).all flatV = true := by
  rw [List.all_map]
  exact List.all_eq_true.mpr fun x _ => rfl
abbrev D0 : DS := ⟨[], []⟩
/-- Desk() -/
def WD (g : Str → Addr) (H : Hp) (v : V) (H' : Hp) : Prop := ∃ x bd rl, v = .ref x ∧ DA g Z0 H' x bd rl [] ⟨[], []⟩ ∧ Same H H' ∧ H x = none ∧ H bd = none ∧ H rl = none
theorem mk_desk {H : Hp} {E : XK} : tGk (g "Desk") (spDInit g) E tNil σ H (WD g H) := by
  intro x dx hx hdx hne
  have keep : ∀ b o, H b = some o → upd (upd H dx (.own x)) x (.ins (g "Desk") dx []) b = some o := fun b o e => by rw [upd_ne (ne_of_none e hx), upd_ne (ne_of_none e hdx)]; exact e
  refine ⟨Z0, x, dx, rfl, upd_same, z0s _, rfl, fun H' bd rl a kp nb nr => ⟨rfl, x, bd, rl, rfl, a, fun b o e => kp b o (keep b o e) (by simpa using ne_of_none e hx), hx, upd_none (upd_none nb), upd_none (upd_none nr)⟩⟩
theorem law_bd (T : Txt w K mg g mt) : Bd0 P w K mg base N_law 11 (spLaw K) s_law "law" (g "law") := by
  intro cdv A outer s H vs Q E hr h
  · obtain ⟨a, zs, rfl, ha, hz, q⟩ := h
    have nd := sc_law.nd
    have fL : mg "len" = none := T.free _ (by decide +kernel)
    have fR : mg "range" = none := T.free _ (by decide +kernel)
    have Ce := ok_cell (P := P) (base := base) T
    have Na := ok_name (P := P) (base := base) T
    have De := ok_Desk_init (P := P) (base := base) T
    have Ro := ok_rows (P := P) (base := base) T
    have Lo := ok_log (P := P) (base := base) T
    have Hd := ok_held (P := P) (base := base) T
    have Ru := ok_run (P := P) (base := base) T
    have Al := ok_law_alike (P := P) (base := base) T
    have S3 : GF P w K mg base CX0 4 "_law_same" (spSame Like3) := same_step T (same_step T (same_step T (same_none T)))
    refine ⟨_, pss_cons (ps_set (i := 0) nd rfl (.inl rfl) (pe_slice sl_list (pv 0) po_none (po_some pe_int)))
      (pss_cons (ps_set (i := 1) nd rfl (.inl rfl) (pe_op op_add pe_int (pe_op op_mod (pe_gf (E := E0) Ce hr pass0 (pa_cons (pv 0) (pa_cons pe_int pa_nil))) pe_int)))
      (pss_cons (ps_set (i := 2) nd rfl (by first | exact .inl rfl | exact .inr rfl) (pe_op op_mod (pe_gf (E := E0) Ce hr pass0 (pa_cons (pv 0) (pa_cons pe_int pa_nil))) pe_int))
      (pss_cons (ps_set (i := 3) nd rfl (.inl rfl) (pe_op op_cat (pe_lc (te := tG spName E0 (tCons (tVar 13) (tCons (tVar 2) tNil))) (own := [("_law_k", 13)]) (g := gName 13) (tt := tYes) rfl nd (pi_range1 rfl fR (pa_cons pe_int pa_nil)) (blkOk_by (N := N_law) (sc := defScope s_law) (by decide +kernel))
          (fun _ _ _ _ _ => pg_name (i := 13) nd rfl (Or.inl rfl)) (fun _ _ _ _ _ => pts_nil)
          (fun _ _ _ _ _ => pe_gf (E := E0) Na hr pass0 (pa_cons (pv 13) (pa_cons (pv 2) pa_nil)))) (pe_lst (pa_cons pe_str pa_nil))))
      (pss_cons (ps_set (i := 4) nd rfl (.inl rfl) (pe_lst (pa_cons pe_str (pa_cons pe_str (pa_cons pe_str pa_nil)))))
      (pss_cons (ps_setLc (i := 3) (te := tVar 14) (own := [("_law_name_here", 14)]) (g := gName 14) (tt := _) rfl nd rfl rfl (sw_true rfl rfl rfl (by decide +kernel)) (pi_list (pv 3)) (blkOk_by (N := N_law) (sc := defScope s_law) (by decide +kernel))
          (fun _ _ _ _ _ => pg_name (i := 14) nd rfl (Or.inl rfl)) (fun _ _ _ _ _ => pts_one (pt_cmpR op_ne (pv 14) pe_str (nomark _)))
          (fun _ _ _ _ _ => pv 14))
      (pss_cons (ps_set (i := 5) nd rfl (.inl rfl) (pe_cut (pe_gk0 (E := E0) De hr pass0)))
      (pss_cons (ps_set (i := 6) nd rfl (.inl rfl) (pe_cut (pe_gk0 (E := E0) De hr pass0)))
      (pss_cons (ps_set (i := 7) nd rfl (.inl rfl) (pe_lst pa_nil))
      (pss_cons (ps_for PassesOwn.never rfl (pi_list (pe_gf (E := E0) Ro hr pass0 (pa_cons (pv 0) (pa_cons (pv 4) (pa_cons (pv 3) (pa_cons (pv 1) pa_nil)))))) (pg_name (i := 8) nd rfl (.inl rfl))
        (pss_cons (ps_set (i := 9) nd rfl (.inl rfl) (pe_callB call_len_seq (by rfl) fL PySem.boot_len (pa_cons (pe_gm0 (E := E0) Lo (pv 5) hr pass0) pa_nil)))
        (pss_cons (ps_set (i := 10) nd rfl (.inl rfl) (pe_gm (E := E0) Ru (pv 5) hr pass0 (pa_cons (pv 8) pa_nil)))
        (pss_one (ps_if (pt_cmpR op_gt (pe_callB call_len_seq (by rfl) fL PySem.boot_len (pa_cons (pe_gm0 (E := E0) Lo (pv 5) hr pass0) pa_nil)) (pv 9) (nomark _))
          (pss_one (ps_set (i := 7) nd rfl (.inl rfl) (pe_op op_cat (pv 7) (pe_lst (pa_cons (pe_tup (pa_cons (pv 8) (pa_cons (pv 10) pa_nil))) pa_nil))))) pss_nil)))))
      (pss_cons (ps_if (pt_not (pt_val (pe_gf (E := E0) S3 hr pass0 (pa_cons (pe_gm0 (E := E0) Lo (pv 5) hr pass0) (pa_cons
          (pe_lc (te := tOp (rIxT K) (tVar 15) (tC (.int 0))) (own := [("_law_pair", 15)]) (g := gName 15) (tt := tYes) rfl nd (pi_list (pv 7)) (blkOk_by (N := N_law) (sc := defScope s_law) (by decide +kernel))
            (fun _ _ _ _ _ => pg_name (i := 15) nd rfl (Or.inl rfl)) (fun _ _ _ _ _ => pts_nil) (fun _ _ _ _ _ => pe_ix (r := rIxT K) ix_tup (pv 15) pe_int (fun _ _ => rfl))) pa_nil))))) (pss_one ps_never) pss_nil)
      (pss_cons (ps_for PassesOwn.never rfl (pi_list (pv 7)) (pg_tup rfl (pgs_cons (pg_name (i := 8) nd rfl (.inl rfl)) (pgs_cons (pg_name (i := 10) nd rfl (.inl rfl)) pgs_nil)))
        (pss_one (ps_if (PW.pt (pw_or (pt_not (pt_val (pe_gf (E := E0) S3 hr pass0 (pa_cons (pe_gm (E := E0) Ru (pv 6) hr pass0 (pa_cons (pv 8) pa_nil)) (pa_cons (pv 10) pa_nil)))))
          (pw_or1 (pt_cmpR op_eq (pe_ix ix_list (pe_split (pv 10) pe_str) pe_int (fun _ _ => rfl)) pe_str (nomark _))))) (pss_one ps_never) pss_nil)))
      (pss_cons (ps_if (PW.pt (pw_or (pt_not (pt_val (pe_gf (E := E0) S3 hr pass0 (pa_cons (pe_gm0 (E := E0) Lo (pv 6) hr pass0) (pa_cons (pe_gm0 (E := E0) Lo (pv 5) hr pass0) pa_nil)))))
          (pw_or1 (pt_not (pt_val (pe_gf (E := E0) S3 hr pass0 (pa_cons (pe_gm0 (E := E0) Hd (pv 6) hr pass0) (pa_cons (pe_gm0 (E := E0) Hd (pv 5) hr pass0) pa_nil)))))))) (pss_one ps_never) pss_nil)
      (pss_cons (ps_for PassesOwn.never rfl (pi_list (pe_gm0 (E := E0) Hd (pv 5) hr pass0)) (pg_name (i := 11) nd rfl (.inl rfl))
        (pss_one (ps_if (pt_not (pt_val (pe_gf (E := E0) Al hr pass0 (pa_cons (pv 5) (pa_cons (pv 6) (pa_cons (pv 11) pa_nil)))))) (pss_one ps_never) pss_nil)))
      (pss_cons (ps_set (i := 12) nd rfl (.inl rfl) (pe_gm0 (E := E0) Lo (pv 6) hr pass0))
      (pss_cons (ps_if (pt_cmpR op_ne (pe_gm (E := E0) Ru (pv 5) hr pass0 (pa_cons pe_str pa_nil)) pe_str (nomark _)) (pss_one ps_never) pss_nil)
      (pss_one (ps_ret (pe_and (pe_gf (E := E0) S3 hr pass0 (pa_cons (pe_gm0 (E := E0) Lo (pv 6) hr pass0) (pa_cons (pv 12) pa_nil))) (pe_one (pe_cmpR (r := rIn K true) op_notIn_seq pe_str (pe_gm0 (E := E0) Hd (pv 6) hr pass0) rfl)))))))))))))))))))), ?_⟩
    -- the first 63 numbers
    have ecut : ∃ ys : List Int, cutV (zs.map V.int) none (some 63) = ys.map V.int := ⟨_, by unfold cutV; rw [← List.map_drop, ← List.map_take]⟩
    obtain ⟨ys, ey⟩ := ecut
    have ly : ys.length ≤ 63 := by
      have h1 := cutV_length (zs.map V.int) none (some 63)
      rw [ey, List.length_map, List.length_map] at h1
      omega
    refine ⟨_, rfl, 63, rfl, a, _, rfl, ha, fun sp hsp => ?_⟩
    rw [ey]
    have s1 : Same H (upd H sp (li ys)) := same_new hsp
    have h1 : upd H sp (li ys) sp = some (li ys) := upd_same
    generalize upd H sp (li ys) = H1 at s1 h1 ⊢
    -- size, salt
    have p7 : (0 : Int) < 7 := by decide
    have p97 : (0 : Int) < 97 := by decide
    refine ⟨_, rfl, sp, ys, 0, rfl, h1, fun v0 => ⟨_, _, rfl, rfl, p7, _, _, rfl, rfl, ?_⟩⟩
    have m7 := mod_bel v0 p7
    obtain ⟨n, en⟩ : ∃ n : Nat, (2 : Int) + v0 % 7 = (n : Nat) := ⟨((2 : Int) + v0 % 7).toNat, by omega⟩
    have n2 : 2 ≤ n := by omega
    have n8 : n ≤ 8 := by omega
    refine ⟨_, rfl, sp, ys, 3, rfl, h1, fun v3 => ⟨_, _, rfl, rfl, p97, ?_⟩⟩
    have m97 := mod_bel v3 p97
    obtain ⟨sa, es⟩ : ∃ sa : Nat, v3 % 97 = (sa : Nat) := ⟨(v3 % 97).toNat, by omega⟩
    have sa97 : sa ≤ 97 := by omega
    -- names
    refine ⟨_, rfl, by decide, by decide, fun D hD => ?_⟩
    refine lc_it (walk_r0 (n := 9)) (fun i G => Same H1 G ∧ ∃ xs : List Str, G D = some (ls xs) ∧ xs.length = i ∧ ∀ x ∈ xs, NW 20 x) ⟨same_new hD, [], upd_same, rfl, fun x hx => by simp at hx⟩ (fun _ _ _ _ => trivial) ?_ ?_
    · rintro i v G G' hi ⟨sG, xs, hxs, lxs, axs⟩ ⟨rfl, rfl⟩
      refine ⟨rfl, yesT ?_⟩
      refine ⟨_, rfl, _, rfl, i, sa, congrArg (fun z : Int => [V.int (i : Nat), V.int z]) es, by omega, sa97, fun x nx => ⟨_, hxs, by rw [List.length_map]; exact smallL (by omega), same_mut sG hD, xs ++ [x], ?_, by simp [lxs], fun y hy => ?_⟩⟩
      · rw [upd_same]; simp
      · rcases List.mem_append.mp hy with hy | hy
        · exact axs y hy
        · rw [List.mem_singleton.mp hy]; exact nx
    rintro G2 ⟨s2, pool, hpool, lpool, apool⟩
    refine ⟨small 1 (by decide), fun zl hzl => ?_⟩
    generalize g3 : upd G2 zl _ = G3
    have s3 : Same G2 G3 := by rw [← g3]; exact same_new hzl
    have h3 : G3 zl = some (ls ["Zz"]) := by rw [← g3]; exact upd_same
    refine ⟨D, zl, _, _, rfl, rfl, s3 _ _ hpool, h3, by rw [List.length_map, lpool]; decide, fun pz hpz => ?_⟩
    generalize g4 : upd G3 pz _ = G4
    have s4 : Same G3 G4 := by rw [← g4]; exact same_new hpz
    have h4 : G4 pz = some (ls (pool ++ [("Zz" : Str)])) := by rw [← g4]; unfold ls; rw [List.map_append]; exact upd_same
    -- halls
    refine ⟨small 3 (by decide), fun hp hhp => ?_⟩
    generalize g5 : upd G4 hp _ = G5
    have s5 : Same G4 G5 := by rw [← g5]; exact same_new hhp
    have h5 : G5 hp = some (ls hallsL) := by rw [← g5]; exact upd_same
    have h45 := s5 _ _ h4
    have h15 : G5 sp = some (li ys) := s5 _ _ (s4 _ _ (s3 _ _ (s2 _ _ h1)))
    -- the pool
    refine ⟨_, rfl, pz, rfl, ⟨_, SqL.of h45⟩, fun pl hpl => ?_⟩
    refine lc_pure (walk_list (K := K) (a := pz) (xs := (pool ++ [("Zz" : Str)]).map V.str)) (fun i => if decide ((pool ++ [("Zz" : Str)]).getD i ("" : Str) ≠ ("Zz" : Str)) = true then [.str ((pool ++ [("Zz" : Str)]).getD i ("" : Str))] else []) hpl (by simp [lpool]) (fun J s => SqL.of (s _ _ h45)) ?_ ?_
    · rintro i v J J' hi sJ ⟨rfl, hv⟩ Qe Qn qe qn
      obtain ⟨x, hx, rfl⟩ := map_at hv
      rw [getD_of hx] at qe qn
      refine ⟨rfl, _, rfl, rfl, _, rfl, iteB (fun c => ?_) (fun c => ?_)⟩
      · have e : x ≠ ("Zz" : Str) := fun e => neT c (by rw [e])
        exact ⟨_, rfl, qe _ _ (Same.refl _) (if_pos (decide_eq_true e))⟩
      · have e : x = ("Zz" : Str) := vstr (neF c)
        exact qn _ (Same.refl _) (if_neg (by rw [decide_eq_false (fun n => n e)]; decide))
    intro J0 sJ0 hJ0
    have epool : outs (fun i => if decide ((pool ++ [("Zz" : Str)]).getD i ("" : Str) ≠ ("Zz" : Str)) = true then [V.str ((pool ++ [("Zz" : Str)]).getD i ("" : Str))] else []) ((pool ++ [("Zz" : Str)]).map V.str).length = pool.map V.str := by
      rw [List.length_map, outs_filterAll (xs := pool ++ [("Zz" : Str)]) _ V.str (fun x => decide (x ≠ ("Zz" : Str))) (fun i x hx => by rw [getD_of hx]), List.filter_append]
      have e1 : pool.filter (fun x => decide (x ≠ ("Zz" : Str))) = pool := List.filter_eq_self.mpr fun x hx => decide_eq_true fun e => by
        have hn := (apool x hx).s 90 (by rw [e]; decide +kernel)
        omega
      have e2 : ([("Zz" : Str)]).filter (fun x => decide (x ≠ ("Zz" : Str))) = [] := by decide +kernel
      rw [e1, e2, List.append_nil]
    rw [epool] at hJ0
    have pw : ∀ x ∈ pool, WW x := fun x hx => (apool x hx).ww (by decide)
    have sp0 := sJ0 _ _ h15
    have hh0 := sJ0 _ _ h5
    -- the desks
    refine ⟨WD g J0, mk_desk, ?_⟩
    rintro _ J1 ⟨x1, bd1, rl1, rfl, a1, sJ1, nx1, nb1, nr1⟩
    refine ⟨WD g J1, mk_desk, ?_⟩
    rintro _ J2 ⟨x2, bd2, rl2, rfl, a2, sJ2, nx2, nb2, nr2⟩
    have t0 : Two g Z0 J2 (DM.mk x1 bd1 rl1 []) D0 (DM.mk x2 bd2 rl2 []) D0 := by
      refine ⟨a1.same sJ2, a2, fun x hx hm => ?_⟩
      obtain ⟨o, e⟩ := a1.live x hx
      rcases foot_in.mp hm with hm | ⟨i, m, hm, _⟩
      · simp only [List.mem_cons, List.not_mem_nil, or_false] at hm
        rcases hm with rfl | rfl | rfl
        · rw [nx2] at e; cases e
        · rw [nb2] at e; cases e
        · rw [nr2] at e; cases e
      · simp at hm
    -- the answers' list
    refine ⟨Nat.zero_le _, fun al0 hal0 => ?_⟩
    generalize g6 : upd J2 al0 _ = J3
    have sJ3 : Same J2 J3 := by rw [← g6]; exact same_new hal0
    have hJ3 : J3 al0 = some (.lst []) := by rw [← g6]; exact upd_same
    have s03 := sJ1.trans (sJ2.trans sJ3)
    have t3 := t0.same sJ3
    have f3 := t0.new hal0 sJ3 hJ3
    -- the rows
    refine ⟨_, rfl, _, rfl, _, rfl, _, rfl, sp, hp, pl, ys, pool, n, congrArg (fun z : Int => [V.ref sp, V.ref hp, V.ref pl, V.int z]) en, s03 _ _ sp0, ly, s03 _ _ hh0, s03 _ _ hJ0, lpool, pw, n2, n8, fun rp cs J4 sJ4 nrp hrp lc lcs => ?_⟩
    have tfine : ∀ i, Fine 100 (tell D0 (cs.take i)).1 := fun i => (tell_fine (cs.take i) D0 0 fine_new fun c hc => lc c (List.mem_of_mem_take hc)).mono (by rw [List.length_take]; omega)
    refine ⟨rp, rfl, ⟨_, SqL.of hrp⟩, ?_⟩
    refine for_it (walk_list (K := K) (a := rp) (xs := (cs.map Cmd.row).map V.str)) (fun i σ G => ∃ Z' m1 m2 al u8 u9 u10, σ = [some (.ref sp), some (.int (2 + v0 % 7)), some (.int (v3 % 97)), some (.ref pl), some (.ref hp), some (.ref x1), some (.ref x2), some (.ref al), u8, u9, u10, none, none, none, none, none] ∧
        Two g Z' G (DM.mk x1 bd1 rl1 m1) (tell D0 (cs.take i)).1 (DM.mk x2 bd2 rl2 m2) D0 ∧ Free2 Z' G (DM.mk x1 bd1 rl1 m1) (DM.mk x2 bd2 rl2 m2) rp (ls (cs.map Cmd.row)) ∧ AnsA Z' G (DM.mk x1 bd1 rl1 m1) (DM.mk x2 bd2 rl2 m2) al (tell D0 (cs.take i)).2)
      ⟨Z0, [], [], al0, none, none, none, rfl, t3.same sJ4, t3.new nrp sJ4 hrp, [], f3.same sJ4, EachR.nil⟩ (fun i σ G _ p => by obtain ⟨_, _, _, _, _, _, _, _, _, f, _⟩ := p; exact SqL.of f.e) ?_ ?_
    · rintro i v σ G G' hi ⟨Z', m1, m2, al, u8, u9, u10, rfl, t, fr, an⟩ ⟨rfl, hv⟩
      obtain ⟨row, hrow, rfl⟩ := map_at hv
      obtain ⟨c, hc, rfl⟩ := map_at hrow
      have lcc := lc c (List.mem_of_getElem? hc)
      have fi := tfine i
      have ts := tell_snoc (cs.take i) D0 c
      rw [← take_succ' hc] at ts
      rw [ts]
      have lz : (tell D0 (cs.take i)).2.length ≤ 100 := Nat.le_trans (tell_len _ _) (by rw [List.length_take]; omega)
      generalize tell D0 (cs.take i) = TT at t an fi lz
      have fo := fi.o
      have fB := fi.bl
      have fR := fi.rl
      obtain ⟨dx, ob⟩ := dob t.a1
      refine ⟨_, rfl, x1, dx, _, rfl, ob, (dkN ..).2.2.2.2.1, Z', x1, bd1, rl1, m1, TT.1, rfl, t.a1, fun p5 G5 s5 np5 h5 => ?_⟩
      refine ⟨p5, _, rfl, .inl (SqL.of h5), ?_⟩
      have t5 := t.same s5
      refine ⟨_, rfl, x1, dx, _, rfl, s5 _ _ ob, (dkN ..).2.2.2.1, _, rfl, Z', x1, bd1, rl1, m1, TT.1, hallsL, 100, c, rfl, t5.a1, fo, by omega, by omega, by omega, lcc.ry, fun Z2 G6 m1' n6 => ?_⟩
      have t6 := t5.left n6
      have k6 : ∀ x o, Free2 Z' G' (DM.mk x1 bd1 rl1 m1) (DM.mk x2 bd2 rl2 m2) x o → Free2 Z2 G6 (DM.mk x1 bd1 rl1 m1') (DM.mk x2 bd2 rl2 m2) x o := fun x o f => (f.same s5).left n6
      obtain ⟨dy, oy⟩ := dob t6.a1
      refine ⟨_, rfl, x1, dy, _, rfl, oy, (dkN ..).2.2.2.2.1, Z2, x1, bd1, rl1, m1', (runD TT.1 c).1, rfl, t6.a1, fun p7 G7 s7 np7 h7 => ?_⟩
      refine ⟨p7, _, rfl, .inl (SqL.of h7), _, rfl, _, _, rfl, rfl, _, rfl, ?_⟩
      rw [List.length_map, List.length_map, rows_grow]
      have t7 := t6.same s7
      refine iteB (fun cg => ?_) (fun cg => ?_)
      · have cg := eqT cg
        have hl : logs TT.1 c = true := by
          cases e : logs TT.1 c with
          | true => rfl
          | false => rw [e] at cg; simp at cg
        rw [if_pos hl]
        obtain ⟨as, fa, ea⟩ := an.ex
        have fa7 := (k6 _ _ fa).same s7
        have la : as.length ≤ 100 := by rw [ea.len]; exact lz
        refine ⟨_, rfl, _, rfl, _, rfl, small 2 (by decide), fun tp htp => ?_⟩
        generalize g8 : upd G7 tp _ = G8
        have s8 : Same G7 G8 := by rw [← g8]; exact same_new htp
        have h8 : G8 tp = some (ansO (c, (runD TT.1 c).2)) := by rw [← g8]; exact upd_same
        refine ⟨small 1 (by decide), fun lp hlp => ?_⟩
        generalize g9 : upd G8 lp _ = G9
        have s9 : Same G8 G9 := by rw [← g9]; exact same_new hlp
        have h9 : G9 lp = some (.lst [.ref tp]) := by rw [← g9]; exact upd_same
        have s79 := s8.trans s9
        refine ⟨al, lp, _, _, rfl, rfl, s79 _ _ fa7.e, h9, by rw [List.length_map]; exact small _ (by show as.length + 1 ≤ 100000; omega), fun np hnp => ?_⟩
        generalize g10 : upd G9 np _ = G10
        have s10 : Same G9 G10 := by rw [← g10]; exact same_new hnp
        have h10 : G10 np = some (.lst ((as ++ [tp]).map V.ref)) := by rw [← g10, List.map_append]; exact upd_same
        have s710 := s79.trans s10
        have s610 := s7.trans s710
        have ft := (t7.new htp s8 h8).same (s9.trans s10)
        exact ⟨Z2, m1', m2, np, _, _, _, rfl, t7.same s710, (k6 _ _ fr).same s610, as ++ [tp], (t7.same s79).new hnp s10 h10, (ea.mono fun a x f => (k6 _ _ f).same s610).snoc ft⟩
      · have cg := eqF cg
        have hl : ¬ logs TT.1 c = true := fun e => cg (by rw [if_pos e]; omega)
        rw [if_neg hl]
        exact ⟨Z2, m1', m2, al, _, _, _, rfl, t7, (k6 _ _ fr).same s7, an.mono fun x o f => (k6 x o f).same s7⟩
    rintro σ G ⟨Z', m1, m2, al, u8, u9, u10, rfl, t, fr, an⟩
    have ecs : cs.take ((cs.map Cmd.row).map V.str).length = cs := by rw [List.length_map, List.length_map, List.take_length]
    rw [ecs] at t an
    have fin := tfine cs.length
    rw [List.take_length] at fin
    have again := tell_again cs D0
    have rws := tell_rows cs D0
    have lz : (tell D0 cs).2.length ≤ 100 := Nat.le_trans (tell_len _ _) lcs
    have lL : ∀ c ∈ (tell D0 cs).2.map (·.1), LawC c := fun c hc => by
      obtain ⟨p, hp, rfl⟩ := List.mem_map.mp hc
      exact lc _ (tell_mem cs D0 p hp)
    generalize tell D0 cs = TT at t an fin again rws lz lL
    clear fr
    have rws : TT.1.rows = TT.2.map fun p => p.1.row := rws
    have fB := fin.bl
    have fR := fin.rl
    obtain ⟨as, fa, ea⟩ := an.ex
    have la : as.length ≤ 100 := by rw [ea.len]; exact lz
    -- the log is what was answered
    obtain ⟨dx, ob⟩ := dob t.a1
    refine ⟨_, rfl, x1, dx, _, rfl, ob, (dkN ..).2.2.2.2.1, Z', x1, bd1, rl1, m1, TT.1, rfl, t.a1, fun p5 G5 s5 np5 h5 => ?_⟩
    have fa5 := fa.same s5
    have ea5 := ea.mono fun a x f => f.same s5
    refine ⟨_, rfl, al, rfl, ⟨_, SqL.of fa5.e⟩, fun L5 hL5 => ?_⟩
    refine lc_pure (walk_list (K := K) (a := al) (xs := as.map V.ref)) (fun i => [.str ((TT.2.map fun p => p.1.row).getD i "")]) hL5 (by rw [List.length_map]; omega) (fun J s => SqL.of (s _ _ fa5.e)) ?_ ?_
    · rintro i v J J' hi sJ ⟨rfl, hv⟩ Qe Qn qe qn
      obtain ⟨b, p, rfl, hp, fb⟩ := ea5.back hv
      rw [getD_of (at_map (f := fun p : Cmd × Str => p.1.row) hp)] at qe
      refine ⟨rfl, yesT ?_⟩
      exact ⟨_, rfl, b, _, 0, _, rfl, rfl, SqT.of (sJ _ _ fb.e), ix_at (z := 0) (by omega) (v := .str p.1.row) rfl, qe _ _ (Same.refl _) rfl⟩
    intro G6 s6 h6
    have e6 : (as.map V.ref).length = (TT.2.map fun p => p.1.row).length := by rw [List.length_map, List.length_map, ea.len]
    rw [e6, outs_all (xs := TT.2.map fun p => p.1.row) _ V.str (fun i x hx => by rw [getD_of hx])] at h6
    have h5' : G5 p5 = some (ls (TT.2.map fun p => p.1.row)) := by rw [h5, rws]
    refine ⟨_, _, rfl, like_strs (s6 _ _ h5') h6 (by rw [List.length_map]; omega), fun G7 s7 => ⟨_, rfl, iteB (fun c => by cases c) (fun _ => ?_)⟩⟩
    have s57 := s5.trans (s6.trans s7)
    have t7 := t.same s57
    have fa7 := fa.same s57
    have ea7 := ea.mono fun a x f => f.same s57
    -- the log told again
    have efin : ∀ i, Fine 100 (tell D0 ((TT.2.map (·.1)).take i)).1 := fun i => (tell_fine _ D0 0 fine_new fun c hc => lL c (List.mem_of_mem_take hc)).mono (by rw [List.length_take, List.length_map]; omega)
    have hall : (tell D0 (TT.2.map (·.1))).2.map (·.1) = TT.2.map (·.1) := by rw [again]
    have tall := tell_all (TT.2.map (·.1)) D0 hall
    refine ⟨_, rfl, al, rfl, ⟨_, SqL.of fa7.e⟩, ?_⟩
    refine for_it (walk_list (K := K) (a := al) (xs := as.map V.ref)) (fun i σ G => ∃ Z' m2 u8 u9 u10, σ = [some (.ref sp), some (.int (2 + v0 % 7)), some (.int (v3 % 97)), some (.ref pl), some (.ref hp), some (.ref x1), some (.ref x2), some (.ref al), u8, u9, u10, none, none, none, none, none] ∧
        Two g Z' G (DM.mk x1 bd1 rl1 m1) TT.1 (DM.mk x2 bd2 rl2 m2) (tell D0 ((TT.2.map (·.1)).take i)).1 ∧ Free2 Z' G (DM.mk x1 bd1 rl1 m1) (DM.mk x2 bd2 rl2 m2) al (.lst (as.map V.ref)) ∧ EachR (fun t p => Free2 Z' G (DM.mk x1 bd1 rl1 m1) (DM.mk x2 bd2 rl2 m2) t (ansO p)) as TT.2)
      ⟨Z', m2, u8, u9, u10, rfl, t7, fa7, ea7⟩ (fun i σ G _ p => by obtain ⟨_, _, _, _, _, _, _, f, _⟩ := p; exact SqL.of f.e) ?_ ?_
    · rintro i v σ J J' hi ⟨Z', m2, u8, u9, u10, rfl, t, fa, ea⟩ ⟨rfl, hv⟩
      obtain ⟨b, p, rfl, hp, fb⟩ := ea.back hv
      obtain ⟨c, ans⟩ := p
      have hpa : (tell D0 (TT.2.map (·.1))).2[i]? = some (c, ans) := by rw [again]; exact hp
      obtain ⟨lg, ean, hci⟩ := tall i c ans hpa
      have ts := tell_snoc ((TT.2.map (·.1)).take i) D0 c
      rw [← take_succ' hci] at ts
      rw [ts]
      have fi := efin i
      generalize tell D0 ((TT.2.map (·.1)).take i) = UU at t lg ean fi
      have dn := logs_done fi (by decide) lg
      rw [ean] at dn
      have fB2 := fi.bl
      have fR2 := fi.rl
      have lcc := lL c (List.mem_of_getElem? hci)
      obtain ⟨dy, oy⟩ := dob t.a2
      refine ⟨b, _, rfl, SqT.of fb.e, rfl, _, _, rfl, _, _, rfl, rfl, ?_⟩
      refine ⟨_, rfl, x2, dy, _, rfl, oy, (dkN ..).2.2.2.1, _, rfl, Z', x2, bd2, rl2, m2, UU.1, hallsL, 100, c, rfl, t.a2, fi.o, by omega, by omega, by omega, lcc.ry, fun Z2 J2 k2 n2 => ?_⟩
      have t2 := t.right n2
      have al2 : Like3 J2 (.str (runD UU.1 c).2) (.str ans) := by rw [ean]; exact like_str _ _
      refine ⟨_, rfl, _, _, rfl, al2, fun J3 s3 => ⟨_, rfl, iteB (fun c => by cases c) (fun _ => ?_)⟩⟩
      obtain ⟨ws, ews, wne, wcl, ⟨x0, ex0, nx0⟩, lans⟩ := dn.ex
      have esp : Txt.split ans " " = ws := by
        rw [ews]
        exact TL.split_join (y := " ") (s := 32) (S := []) (by decide +kernel) (by decide +kernel) wne wcl
      refine ⟨_, rfl, ⟨_, rfl⟩, ans, _, rfl, rfl, by decide +kernel, Nat.le_trans (Nat.add_le_add_right lans 2) (by decide), fun wl hwl => ?_⟩
      rw [esp]
      generalize g4 : upd J3 wl _ = J4
      have s4 : Same J3 J4 := by rw [← g4]; exact same_new hwl
      have h4 : J4 wl = some (ls ws) := by rw [← g4]; exact upd_same
      refine ⟨wl, _, 0, _, rfl, rfl, SqL.of h4, ix_at (z := 0) (by omega) (at_map ex0), rfl, _, rfl, iteB (fun c => absurd (vstr (eqT c)) nx0) (fun _ => ?_)⟩
      have s34 := s3.trans s4
      exact ⟨Z2, k2, _, _, _, rfl, t2.same s34, (fa.right n2).same s34, ea.mono fun a x f => (f.right n2).same s34⟩
    rintro σ G8 ⟨Z8, m8, w8, w9, w10, rfl, t8, _, _⟩
    have eL : (TT.2.map (·.1)).take (as.map V.ref).length = TT.2.map (·.1) := by
      have e : (as.map V.ref).length = (TT.2.map (·.1)).length := by rw [List.length_map, List.length_map, ea.len]
      rw [e, List.take_length]
    rw [eL, again] at t8
    -- logs, books held
    obtain ⟨e1, o1⟩ := dob t8.a1
    obtain ⟨e2, o2⟩ := dob t8.a2
    refine ⟨_, rfl, x2, e2, _, rfl, o2, (dkN ..).2.2.2.2.1, Z8, x2, bd2, rl2, m8, TT.1, rfl, t8.a2, fun q1 H1' r1 nq1 k1 => ?_⟩
    refine ⟨_, rfl, x1, e1, _, rfl, r1 _ _ o1, (dkN ..).2.2.2.2.1, Z8, x1, bd1, rl1, m1, TT.1, rfl, t8.a1.same r1, fun q2 H2' r2 nq2 k2 => ?_⟩
    refine ⟨_, _, rfl, like_strs (r2 _ _ k1) k2 (by omega), fun H3' r3 => ⟨_, rfl, iteB (fun c => by cases c) (fun _ => ?_)⟩⟩
    have r03 := r1.trans (r2.trans r3)
    refine ⟨_, rfl, x2, e2, _, rfl, r03 _ _ o2, (dkN ..).2.2.2.2.2, Z8, x2, bd2, rl2, m8, TT.1, rfl, t8.a2.same r03, fun q4 H4' r4 nq4 k4 => ?_⟩
    have r04 := r03.trans r4
    refine ⟨_, rfl, x1, e1, _, rfl, r04 _ _ o1, (dkN ..).2.2.2.2.2, Z8, x1, bd1, rl1, m1, TT.1, rfl, t8.a1.same r04, fun q5 H5' r5 nq5 k5 => ?_⟩
    rw [held_keys] at k4 k5
    refine ⟨_, _, rfl, like_strs (r5 _ _ k4) k5 (by rw [List.length_map]; omega), fun H6' r6 => ⟨_, rfl, iteB (fun c => by cases c) (fun _ => ?_)⟩⟩
    have r06 := r04.trans (r5.trans r6)
    -- each book
    refine ⟨_, rfl, x1, e1, _, rfl, r06 _ _ o1, (dkN ..).2.2.2.2.2, Z8, x1, bd1, rl1, m1, TT.1, rfl, t8.a1.same r06, fun hq H7' r7 nhq khq => ?_⟩
    refine ⟨hq, rfl, ⟨_, SqL.of khq⟩, ?_⟩
    refine for_it (walk_list (K := K) (a := hq) (xs := TT.1.books.map fun q => V.str q.1)) (fun i σ G => ∃ Z' m1 m2 u11, σ = [some (.ref sp), some (.int (2 + v0 % 7)), some (.int (v3 % 97)), some (.ref pl), some (.ref hp), some (.ref x1), some (.ref x2), some (.ref al), w8, w9, w10, u11, none, none, none, none] ∧
        Two g Z' G (DM.mk x1 bd1 rl1 m1) TT.1 (DM.mk x2 bd2 rl2 m2) TT.1 ∧ Free2 Z' G (DM.mk x1 bd1 rl1 m1) (DM.mk x2 bd2 rl2 m2) hq (.lst (TT.1.books.map fun q => V.str q.1)))
      ⟨Z8, m1, m8, none, rfl, t8.same (r06.trans r7), (t8.same r06).new nhq r7 khq⟩ (fun i σ G _ p => by obtain ⟨_, _, _, _, _, _, f⟩ := p; exact SqL.of f.e) ?_ ?_
    · rintro i v σ J J' hi ⟨Z', m1, m2, u11, rfl, t, fh⟩ ⟨rfl, hv⟩
      obtain ⟨qb, hqb, rfl⟩ := map_at hv
      have hb : ∃ b, bookAt TT.1 qb.1 = some b := by
        cases e : bookAt TT.1 qb.1 with
        | some b => exact ⟨b, rfl⟩
        | none => exact absurd (List.mem_map.mpr ⟨qb, List.mem_of_getElem? hqb, rfl⟩) (bookAt_none e)
      obtain ⟨b, hb⟩ := hb
      refine ⟨_, rfl, _, rfl, _, rfl, Z', DM.mk x1 bd1 rl1 m1, DM.mk x2 bd2 rl2 m2, TT.1, 100, qb.1, b, rfl, t, fin, by omega, hb, fun Z2 J2 k1 k2 t2 keep => ⟨_, rfl, iteB (fun c => by cases c) (fun _ => ?_)⟩⟩
      exact ⟨Z2, k1, k2, _, rfl, t2, keep _ _ fh⟩
    rintro σ G9 ⟨Z9, m9, n9, w11, rfl, t9, _⟩
    -- one book more
    obtain ⟨e3, o3⟩ := dob t9.a1
    obtain ⟨e4, o4⟩ := dob t9.a2
    refine ⟨_, rfl, x2, e4, _, rfl, o4, (dkN ..).2.2.2.2.1, Z9, x2, bd2, rl2, n9, TT.1, rfl, t9.a2, fun kp G10 y1 nkp hkp => ?_⟩
    have t10 := t9.same y1
    have fk := t9.new nkp y1 hkp
    have elast : ([V.ref x1, V.str "open last 10 10"] : List V) = [.ref x1, .str lastC.row] := by rw [last_row]
    refine ⟨_, rfl, x1, e3, _, rfl, y1 _ _ o3, (dkN ..).2.2.2.1, Z9, x1, bd1, rl1, m9, TT.1, hallsL, 100, lastC, elast, t10.a1, fin.o, by omega, by omega, by omega, last_ry, fun Z11 G11 m11 n11 => ?_⟩
    have t11 := t10.left n11
    have fk11 := fk.left n11
    refine ⟨rfl, _, rfl, iteB (fun c => absurd (congrArg V.str (last_ok fin.k)) (neT c)) (fun _ => ?_)⟩
    obtain ⟨e5, o5⟩ := dob t11.a2
    refine ⟨_, rfl, x2, e5, _, rfl, o5, (dkN ..).2.2.2.2.1, Z11, x2, bd2, rl2, n9, TT.1, rfl, t11.a2, fun kq G12 y2 nkq hkq => ?_⟩
    refine ⟨_, rfl, _, _, rfl, like_strs hkq (fk11.same y2).e (by omega), fun G13 y3 => ⟨_, rfl, iteB (fun _ => ?_) (fun c => by cases c)⟩⟩
    have y23 := y2.trans y3
    refine ⟨_, rfl, x2, e5, _, rfl, y23 _ _ o5, (dkN ..).2.2.2.2.2, Z11, x2, bd2, rl2, n9, TT.1, rfl, t11.a2.same y23, fun hz G14 y4 nhz hhz => ?_⟩
    rw [held_keys] at hhz
    refine ⟨hz, _, rfl, .inl (SqL.of hhz), rfl, flat_strs _, ?_⟩
    rw [inV_str, decide_eq_false (last_nin fin.k)]
    exact q _
theorem law_all (T : Txt w K mg g mt) : ∃ fd : FuncData, (∀ (s : Shared) (u : Value), BindsTo s fd ⟨[u], []⟩ [("_law_script", u)]) ∧ ∀ base : Heap, FnOk P w K mg base CX0 12 (g "law") fd ["_law_script"] (spLaw K) := by
  obtain ⟨fd, Fd, b⟩ := (F_law T).ex
  have bA := FunD.bindsA (ps := ["_law_script"]) Fd fun _ _ _ _ _ _ us hl => match us, hl with | [_], _ => by kernel_rfl
  refine ⟨fd, fun s u => bA s [u] rfl, fun base => Fd.ok sc_law (fun vs H Q E h => ?_) fun cdv A outer s H vs Q E hr h => ?_⟩
  · obtain ⟨a, zs, rfl, _⟩ := h; rfl
  · obtain ⟨t, h1, h2⟩ := law_bd T cdv A outer s H vs Q E hr h
    exact ⟨t, h1.nox, h2⟩
end
end Kin
set_option maxHeartbeats 0
/-! K62: the end. -/
open PySem PySem.W PySem.Calls PyProof.Rows
theorem PySem.Challenge.cw_kinhearth_k53_whole_log_told_again_holds : PySem.Challenge.rw_kinhearth_k53_whole_log_told_again.Holds := by
  w_on; o_law
  refine HandSHeadRun.head_any (r := OpenLaw.row PySem.Challenge.rw_kinhearth_k53_whole_log_told_again) (q := view (OpenLaw.row PySem.Challenge.rw_kinhearth_k53_whole_log_told_again).prog [96]) (H := Kin.hookK) (ob := Kin.obK) (M := 20000) (loose := Kin.looseK) (d := HandSHeadRun.topDef (OpenLaw.row PySem.Challenge.rw_kinhearth_k53_whole_log_told_again).prog 96) (kwd := []) Kin.obK_eq
    (by kernel_rfl) (fun s => by kernel_rfl) Kin.runK (by kernel_rfl) (by kernel_rfl) (by kernel_rfl) (by rfl) (by first | assumption | decide +kernel) (by decide +kernel) ⟨rfl, rfl, rfl, rfl, rfl, by decide +kernel⟩ ?hw ?hc
  case hw => w_witness2
  case hc =>
    refine L2.walk_ofE (l := PySem.Challenge.rw_kinhearth_k53_whole_log_told_again) (n := 63) (k := 12) (x := "_law_script") (CX := L2.CX0) rfl (by decide) (by kernel_rfl) ⟨rfl, by decide, by decide⟩ ?F (fun _ _ _ _ z => z)
    intro w mg fa h Y G hmg0
    obtain ⟨K, KX, c⟩ := Y
    have hmg : mg ("law" : PySem.Str) = some (.ref fa) := by
      have e : (HandSHeadRun.topDef (OpenLaw.row PySem.Challenge.rw_kinhearth_k53_whole_log_told_again).prog 96).name = ("law" : PySem.Str) := by kernel_rfl
      rw [← e]
      exact hmg0
    have T := Kin.txt_of KX G c
    have hg := T.glo "law" (by decide +kernel)
    rw [hmg] at hg
    cases hg
    obtain ⟨fd, hb, hF⟩ := Kin.law_all (P := (PySem.Challenge.rw_kinhearth_k53_whole_log_told_again).prog) T
    exact ⟨K, fd, Kin.spLaw K, KX, hb, fun H a ns hl _ hS => ⟨a, ns, rfl, hS, hl, fun _ => rfl⟩, fun base _ _ => hF base⟩
