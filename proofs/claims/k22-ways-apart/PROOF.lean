import PyProof.Rows.All
import Wide.All
import OpenK.AllK
import Wide.FinOn
import KE.KStateDown
import Lean
import HandS.ForMost
import HandS.WordsExc
import HandS.More
import HandS.Exc
import HandS.ExcInit
import HandS.Defaults
import HandS.Conv
import HandS.Walk
import HandS.Zip
import HandS.Deep
import HandS.Strs
import HandS.SortKw
import HandS.TupAny
import HandS.TupSets
import HandS.DictTup
import HandS.IsInst
import HandS.Flow
import HandS.Wide
import HandS.WideMore
import HandS.WideBits
import HandS.Style
import HandS.Head0
import HandS.Head1
import HandS.Head2
import HandS.HeadEnd
import HandS.HeadHook1
import HandS.HeadHook2
import HandS.HeadWalk
import KE.SortUse
import KE.GoesZip
import KE.GoesMore
import KE.KDictZip
import PySem.Challenge.RW_growalong_k22_whole_first_sights_and_way
import KE.GoesNew
import KE.KDictPairs
import KE.KRevSl
import HandS.Evl
set_option Elab.async false
set_option linter.all false
set_option maxRecDepth 100000
set_option maxHeartbeats 0
namespace G
open PySem PySem.Spec PyProof.Rows L2
/-! ### the text by places -/
def top (i : Nat) : Stmt := PySem.Challenge.pw_growalong_k22_whole_first_sights_and_way.main.body.getD i (.Pass ⟨0, 0, 0, 0⟩)
abbrev s_is_integer : Stmt := top 5
abbrev s_is_within : Stmt := top 6
abbrev s_is_listed : Stmt := top 7
abbrev s_is_pair : Stmt := top 8
abbrev s_is_row : Stmt := top 9
abbrev s_are_unlike : Stmt := top 10
abbrev s_is_wire_pair : Stmt := top 13
abbrev s_Web_init : Stmt := inClass (top 14) 0
abbrev s_Web_keep : Stmt := inClass (top 14) 1
abbrev s_outs : Stmt := top 15
abbrev s_Wires_init : Stmt := inClass (top 18) 0
abbrev s_Wires_write : Stmt := inClass (top 18) 1
abbrev s_Wires_can_do : Stmt := inClass (top 18) 2
abbrev s_Wires_put : Stmt := inClass (top 18) 3
abbrev s_Wires_come : Stmt := inClass (top 18) 4
abbrev s_Wires_do : Stmt := inClass (top 18) 5
abbrev s_first_bad : Stmt := top 19
abbrev s_is_steps : Stmt := top 20
abbrev s_leads_to : Stmt := top 21
abbrev s_are_sights : Stmt := top 24
abbrev s_check_sights : Stmt := top 25
abbrev s_ways_between : Stmt := top 26
abbrev s_ways_behind : Stmt := top 27
abbrev s_ways_apart : Stmt := top 28
abbrev s_first_sights : Stmt := top 29
abbrev s_is_way : Stmt := top 30
abbrev s_is_ways_apart : Stmt := top 31
abbrev s_is_first_sights : Stmt := top 32
abbrev s_L_draw : Stmt := top 34
abbrev s_L_both : Stmt := top 35
abbrev s_L_wires : Stmt := top 36
abbrev s_L_web : Stmt := top 37
abbrev s_L_deep : Stmt := top 38
abbrev s_L_hand : Stmt := top 39
abbrev s_L_shuffled : Stmt := top 40
abbrev s_L_sights : Stmt := top 41
abbrev s_L_ways : Stmt := top 42
abbrev s_L_some_ways : Stmt := top 43
abbrev s_L_whole : Stmt := top 44
abbrev s_L_ways_right : Stmt := top 45
abbrev s_L_floor : Stmt := top 46
abbrev s_L_write : Stmt := top 47
abbrev s_L_step : Stmt := top 48
abbrev s_L_sight_right : Stmt := top 49
abbrev s_L_flag : Stmt := top 50
abbrev s_L_shape : Stmt := top 51
abbrev s_L_bent : Stmt := top 52
abbrev s_law : Stmt := top 53
abbrev N_is_integer : List Str := ["thing"]
theorem sc_is_integer : FnScope N_is_integer ["thing"] (defScope s_is_integer) := ⟨rfl, rfl, rfl, by decide +kernel, rfl, by decide +kernel, by decide +kernel⟩
abbrev N_is_within : List Str := ["thing", "least", "most"]
theorem sc_is_within : FnScope N_is_within ["thing", "least", "most"] (defScope s_is_within) := ⟨rfl, rfl, rfl, by decide +kernel, rfl, by decide +kernel, by decide +kernel⟩
abbrev N_is_listed : List Str := ["thing"]
theorem sc_is_listed : FnScope N_is_listed ["thing"] (defScope s_is_listed) := ⟨rfl, rfl, rfl, by decide +kernel, rfl, by decide +kernel, by decide +kernel⟩
abbrev N_is_pair : List Str := ["thing"]
theorem sc_is_pair : FnScope N_is_pair ["thing"] (defScope s_is_pair) := ⟨rfl, rfl, rfl, by decide +kernel, rfl, by decide +kernel, by decide +kernel⟩
abbrev N_is_row : List Str := ["thing", "size"]
theorem sc_is_row : FnScope N_is_row ["thing", "size"] (defScope s_is_row) := ⟨rfl, rfl, rfl, by decide +kernel, rfl, by decide +kernel, by decide +kernel⟩
abbrev N_are_unlike : List Str := ["thing", "size", "number"]
theorem sc_are_unlike : FnScope N_are_unlike ["thing", "size"] (defScope s_are_unlike) := ⟨rfl, rfl, rfl, by decide +kernel, rfl, by decide +kernel, by decide +kernel⟩
abbrev N_is_wire_pair : List Str := ["many", "thing", "machine"]
theorem sc_is_wire_pair : FnScope N_is_wire_pair ["many", "thing"] (defScope s_is_wire_pair) := ⟨rfl, rfl, rfl, by decide +kernel, rfl, by decide +kernel, by decide +kernel⟩
abbrev N_Web_init : List Str := ["self", "machines", "wires", "at", "wire"]
theorem sc_Web_init : FnScope N_Web_init ["self", "machines", "wires"] (defScope s_Web_init) := ⟨rfl, rfl, rfl, by decide +kernel, rfl, by decide +kernel, by decide +kernel⟩
abbrev N_Web_keep : List Str := ["self", "machines", "wires"]
theorem sc_Web_keep : FnScope N_Web_keep ["self", "machines", "wires"] (defScope s_Web_keep) := ⟨rfl, rfl, rfl, by decide +kernel, rfl, by decide +kernel, by decide +kernel⟩
abbrev N_outs : List Str := ["web", "machine", "y", "x"]
theorem sc_outs : FnScope N_outs ["web", "machine"] (defScope s_outs) := ⟨rfl, rfl, rfl, by decide +kernel, rfl, by decide +kernel, by decide +kernel⟩
abbrev N_Wires_init : List Str := ["self", "web", "writers", "machine", "wire"]
theorem sc_Wires_init : FnScope N_Wires_init ["self", "web", "writers"] (defScope s_Wires_init) := ⟨rfl, rfl, rfl, by decide +kernel, rfl, by decide +kernel, by decide +kernel⟩
abbrev N_Wires_write : List Str := ["self", "machine", "put", "goal"]
theorem sc_Wires_write : FnScope N_Wires_write ["self", "machine", "put"] (defScope s_Wires_write) := ⟨rfl, rfl, rfl, by decide +kernel, rfl, by decide +kernel, by decide +kernel⟩
abbrev N_Wires_can_do : List Str := ["self", "step"]
theorem sc_Wires_can_do : FnScope N_Wires_can_do ["self", "step"] (defScope s_Wires_can_do) := ⟨rfl, rfl, rfl, by decide +kernel, rfl, by decide +kernel, by decide +kernel⟩
abbrev N_Wires_put : List Str := ["self", "put"]
theorem sc_Wires_put : FnScope N_Wires_put ["self", "put"] (defScope s_Wires_put) := ⟨rfl, rfl, rfl, by decide +kernel, rfl, by decide +kernel, by decide +kernel⟩
abbrev N_Wires_come : List Str := ["self", "y", "x", "put"]
theorem sc_Wires_come : FnScope N_Wires_come ["self", "y", "x"] (defScope s_Wires_come) := ⟨rfl, rfl, rfl, by decide +kernel, rfl, by decide +kernel, by decide +kernel⟩
abbrev N_Wires_do : List Str := ["self", "step"]
theorem sc_Wires_do : FnScope N_Wires_do ["self", "step"] (defScope s_Wires_do) := ⟨rfl, rfl, rfl, by decide +kernel, rfl, by decide +kernel, by decide +kernel⟩
abbrev N_first_bad : List Str := ["wires", "steps", "index", "step"]
theorem sc_first_bad : FnScope N_first_bad ["wires", "steps"] (defScope s_first_bad) := ⟨rfl, rfl, rfl, by decide +kernel, rfl, by decide +kernel, by decide +kernel⟩
abbrev N_is_steps : List Str := ["thing"]
theorem sc_is_steps : FnScope N_is_steps ["thing"] (defScope s_is_steps) := ⟨rfl, rfl, rfl, by decide +kernel, rfl, by decide +kernel, by decide +kernel⟩
abbrev N_leads_to : List Str := ["web", "writers", "steps", "wires", "diary"]
theorem sc_leads_to : FnScope N_leads_to ["web", "writers", "steps"] (defScope s_leads_to) := ⟨rfl, rfl, rfl, by decide +kernel, rfl, by decide +kernel, by decide +kernel⟩
abbrev N_are_sights : List Str := ["web", "thing", "last", "pair", "writer", "seer", "at"]
theorem sc_are_sights : FnScope N_are_sights ["web", "thing"] (defScope s_are_sights) := ⟨rfl, rfl, rfl, by decide +kernel, rfl, by decide +kernel, by decide +kernel⟩
abbrev N_check_sights : List Str := ["web", "thing"]
theorem sc_check_sights : FnScope N_check_sights ["web", "thing"] (defScope s_check_sights) := ⟨rfl, rfl, rfl, by decide +kernel, rfl, by decide +kernel, by decide +kernel⟩
abbrev N_ways_between : List Str := ["web", "pair", "taken", "writer", "seer", "found", "waiting", "way", "x"]
theorem sc_ways_between : FnScope N_ways_between ["web", "pair", "taken"] (defScope s_ways_between) := ⟨rfl, rfl, rfl, by decide +kernel, rfl, by decide +kernel, by decide +kernel⟩
abbrev N_ways_behind : List Str := ["web", "sights", "ways", "taken", "way", "found"]
theorem sc_ways_behind : FnScope N_ways_behind ["web", "sights", "ways"] (defScope s_ways_behind) := ⟨rfl, rfl, rfl, by decide +kernel, rfl, by decide +kernel, by decide +kernel⟩
abbrev N_ways_apart : List Str := ["web", "sights"]
theorem sc_ways_apart : FnScope N_ways_apart ["web", "sights"] (defScope s_ways_apart) := ⟨rfl, rfl, rfl, by decide +kernel, rfl, by decide +kernel, by decide +kernel⟩
abbrev N_first_sights : List Str := ["web", "sights", "ways", "steps", "put", "way", "at"]
theorem sc_first_sights : FnScope N_first_sights ["web", "sights"] (defScope s_first_sights) := ⟨rfl, rfl, rfl, by decide +kernel, rfl, by decide +kernel, by decide +kernel⟩
abbrev N_is_way : List Str := ["web", "pair", "thing", "at"]
theorem sc_is_way : FnScope N_is_way ["web", "pair", "thing"] (defScope s_is_way) := ⟨rfl, rfl, rfl, by decide +kernel, rfl, by decide +kernel, by decide +kernel⟩
abbrev N_is_ways_apart : List Str := ["web", "sights", "thing", "used", "way", "pair"]
theorem sc_is_ways_apart : FnScope N_is_ways_apart ["web", "sights", "thing"] (defScope s_is_ways_apart) := ⟨rfl, rfl, rfl, by decide +kernel, rfl, by decide +kernel, by decide +kernel⟩
abbrev N_is_first_sights : List Str := ["web", "sights", "thing", "diaries", "writer", "seer", "put", "pair"]
theorem sc_is_first_sights : FnScope N_is_first_sights ["web", "sights", "thing"] (defScope s_is_first_sights) := ⟨rfl, rfl, rfl, by decide +kernel, rfl, by decide +kernel, by decide +kernel⟩
abbrev N_L_draw : List Str := ["_law_hand_here", "_law_many", "_law_cell", "_law_digit", "_law_number"]
theorem sc_L_draw : FnScope N_L_draw ["_law_hand_here", "_law_many"] (defScope s_L_draw) := ⟨rfl, rfl, rfl, by decide +kernel, rfl, by decide +kernel, by decide +kernel⟩
abbrev N_L_both : List Str := ["_law_pairs", "_law_y", "_law_x"]
theorem sc_L_both : FnScope N_L_both ["_law_pairs"] (defScope s_L_both) := ⟨rfl, rfl, rfl, by decide +kernel, rfl, by decide +kernel, by decide +kernel⟩
abbrev N_L_wires : List Str := ["_law_hand_here", "_law_machines", "_law_share", "_law_found", "_law_y", "_law_x"]
theorem sc_L_wires : FnScope N_L_wires ["_law_hand_here", "_law_machines", "_law_share"] (defScope s_L_wires) := ⟨rfl, rfl, rfl, by decide +kernel, rfl, by decide +kernel, by decide +kernel⟩
abbrev N_L_web : List Str := ["_law_hand_here", "_law_most", "_law_machines"]
theorem sc_L_web : FnScope N_L_web ["_law_hand_here", "_law_most"] (defScope s_L_web) := ⟨rfl, rfl, rfl, by decide +kernel, rfl, by decide +kernel, by decide +kernel⟩
abbrev N_L_deep : List Str := ["_law_hand_here", "_law_found", "_law_turn"]
theorem sc_L_deep : FnScope N_L_deep ["_law_hand_here"] (defScope s_L_deep) := ⟨rfl, rfl, rfl, by decide +kernel, rfl, by decide +kernel, by decide +kernel⟩
abbrev N_L_hand : List Str := ["_law_script", "_law_cells", "_law_cell"]
theorem sc_L_hand : FnScope N_L_hand ["_law_script"] (defScope s_L_hand) := ⟨rfl, rfl, rfl, by decide +kernel, rfl, by decide +kernel, by decide +kernel⟩
abbrev N_L_shuffled : List Str := ["_law_hand_here", "_law_things", "_law_left", "_law_found"]
theorem sc_L_shuffled : FnScope N_L_shuffled ["_law_hand_here", "_law_things"] (defScope s_L_shuffled) := ⟨rfl, rfl, rfl, by decide +kernel, rfl, by decide +kernel, by decide +kernel⟩
abbrev N_L_sights : List Str := ["_law_hand_here", "_law_machines", "_law_many", "_law_writers", "_law_seers"]
theorem sc_L_sights : FnScope N_L_sights ["_law_hand_here", "_law_machines", "_law_many"] (defScope s_L_sights) := ⟨rfl, rfl, rfl, by decide +kernel, rfl, by decide +kernel, by decide +kernel⟩
abbrev N_L_ways : List Str := ["_law_wires_here", "_law_first", "_law_last", "_law_barred", "_law_found", "_law_waiting", "_law_way", "_law_y", "_law_x"]
theorem sc_L_ways : FnScope N_L_ways ["_law_wires_here", "_law_first", "_law_last", "_law_barred"] (defScope s_L_ways) := ⟨rfl, rfl, rfl, by decide +kernel, rfl, by decide +kernel, by decide +kernel⟩
abbrev N_L_some_ways : List Str := ["_law_wires_here", "_law_pairs", "_law_rows", "_law_first", "_law_last", "_law_later", "_law_used", "_law_way", "_law_more"]
theorem sc_L_some_ways : FnScope N_L_some_ways ["_law_wires_here", "_law_pairs"] (defScope s_L_some_ways) := ⟨rfl, rfl, rfl, by decide +kernel, rfl, by decide +kernel, by decide +kernel⟩
abbrev N_L_whole : List Str := ["_law_thing", "_law_least", "_law_most"]
theorem sc_L_whole : FnScope N_L_whole ["_law_thing", "_law_least", "_law_most"] (defScope s_L_whole) := ⟨rfl, rfl, rfl, by decide +kernel, rfl, by decide +kernel, by decide +kernel⟩
abbrev N_L_ways_right : List Str := ["_law_machines", "_law_wires_here", "_law_pairs", "_law_thing", "_law_met", "_law_way", "_law_pair", "_law_x", "_law_step_here"]
theorem sc_L_ways_right : FnScope N_L_ways_right ["_law_machines", "_law_wires_here", "_law_pairs", "_law_thing"] (defScope s_L_ways_right) := ⟨rfl, rfl, rfl, by decide +kernel, rfl, by decide +kernel, by decide +kernel⟩
abbrev N_L_floor : List Str := ["_law_machines", "_law_wires_here", "_law_machine", "_law_wire"]
theorem sc_L_floor : FnScope N_L_floor ["_law_machines", "_law_wires_here"] (defScope s_L_floor) := ⟨rfl, rfl, rfl, by decide +kernel, rfl, by decide +kernel, by decide +kernel⟩
abbrev N_L_write : List Str := ["_law_floor_here", "_law_machine", "_law_put", "_law_y", "_law_x"]
theorem sc_L_write : FnScope N_L_write ["_law_floor_here", "_law_machine", "_law_put"] (defScope s_L_write) := ⟨rfl, rfl, rfl, by decide +kernel, rfl, by decide +kernel, by decide +kernel⟩
abbrev N_L_step : List Str := ["_law_floor_here", "_law_writers", "_law_step_here", "_law_put", "_law_diary"]
theorem sc_L_step : FnScope N_L_step ["_law_floor_here", "_law_writers", "_law_step_here"] (defScope s_L_step) := ⟨rfl, rfl, rfl, by decide +kernel, rfl, by decide +kernel, by decide +kernel⟩
abbrev N_L_sight_right : List Str := ["_law_machines", "_law_wires_here", "_law_pairs", "_law_thing", "_law_writers", "_law_floor_here", "_law_step_here", "_law_put", "_law_pair", "_law_part"]
theorem sc_L_sight_right : FnScope N_L_sight_right ["_law_machines", "_law_wires_here", "_law_pairs", "_law_thing"] (defScope s_L_sight_right) := ⟨rfl, rfl, rfl, by decide +kernel, rfl, by decide +kernel, by decide +kernel⟩
abbrev N_L_flag : List Str := ["_law_told", "_law_due"]
theorem sc_L_flag : FnScope N_L_flag ["_law_told", "_law_due"] (defScope s_L_flag) := ⟨rfl, rfl, rfl, by decide +kernel, rfl, by decide +kernel, by decide +kernel⟩
abbrev N_L_shape : List Str := ["_law_hand_here", "_law_kind", "_law_machines", "_law_steps", "_law_x"]
theorem sc_L_shape : FnScope N_L_shape ["_law_hand_here"] (defScope s_L_shape) := ⟨rfl, rfl, rfl, by decide +kernel, rfl, by decide +kernel, by decide +kernel⟩
abbrev N_L_bent : List Str := ["_law_hand_here", "_law_thing", "_law_machines", "_law_kind", "_law_at", "_law_item", "_law_more", "_law_odd", "_law_found", "_law_part"]
theorem sc_L_bent : FnScope N_L_bent ["_law_hand_here", "_law_thing", "_law_machines"] (defScope s_L_bent) := ⟨rfl, rfl, rfl, by decide +kernel, rfl, by decide +kernel, by decide +kernel⟩
abbrev N_law : List Str := ["_law_script", "_law_hand_here", "_law_turn", "_law_machines", "_law_wires_here", "_law_web_here", "_law_pairs", "_law_due", "_law_ways_told", "_law_run", "_law_first", "_law_thing", "_law_pair", "_law_put"]
theorem sc_law : FnScope N_law ["_law_script"] (defScope s_law) := ⟨rfl, rfl, rfl, by decide +kernel, rfl, by decide +kernel, by decide +kernel⟩
/-! ### the defs and the facts -/
def d_is_integer : He.DefD := ⟨("is_integer", none), "is_integer", "is_integer", defArgs s_is_integer, defBody s_is_integer, defScope s_is_integer, [], []⟩
def d_is_within : He.DefD := ⟨("is_within", none), "is_within", "is_within", defArgs s_is_within, defBody s_is_within, defScope s_is_within, [], []⟩
def d_is_listed : He.DefD := ⟨("is_listed", none), "is_listed", "is_listed", defArgs s_is_listed, defBody s_is_listed, defScope s_is_listed, [], []⟩
def d_is_pair : He.DefD := ⟨("is_pair", none), "is_pair", "is_pair", defArgs s_is_pair, defBody s_is_pair, defScope s_is_pair, [], []⟩
def d_is_row : He.DefD := ⟨("is_row", none), "is_row", "is_row", defArgs s_is_row, defBody s_is_row, defScope s_is_row, [], []⟩
def d_are_unlike : He.DefD := ⟨("are_unlike", none), "are_unlike", "are_unlike", defArgs s_are_unlike, defBody s_are_unlike, defScope s_are_unlike, [], []⟩
def d_is_wire_pair : He.DefD := ⟨("is_wire_pair", none), "is_wire_pair", "is_wire_pair", defArgs s_is_wire_pair, defBody s_is_wire_pair, defScope s_is_wire_pair, [], []⟩
def d_Web_init : He.DefD := ⟨("Web", some "__init__"), "__init__", "Web.__init__", defArgs s_Web_init, defBody s_Web_init, defScope s_Web_init, [], []⟩
def d_Web_keep : He.DefD := ⟨("Web", some "keep"), "keep", "Web.keep", defArgs s_Web_keep, defBody s_Web_keep, defScope s_Web_keep, [], []⟩
def d_outs : He.DefD := ⟨("outs", none), "outs", "outs", defArgs s_outs, defBody s_outs, defScope s_outs, [], []⟩
def d_Wires_init : He.DefD := ⟨("Wires", some "__init__"), "__init__", "Wires.__init__", defArgs s_Wires_init, defBody s_Wires_init, defScope s_Wires_init, [], []⟩
def d_Wires_write : He.DefD := ⟨("Wires", some "write"), "write", "Wires.write", defArgs s_Wires_write, defBody s_Wires_write, defScope s_Wires_write, [], []⟩
def d_Wires_can_do : He.DefD := ⟨("Wires", some "can_do"), "can_do", "Wires.can_do", defArgs s_Wires_can_do, defBody s_Wires_can_do, defScope s_Wires_can_do, [], []⟩
def d_Wires_put : He.DefD := ⟨("Wires", some "put"), "put", "Wires.put", defArgs s_Wires_put, defBody s_Wires_put, defScope s_Wires_put, [], []⟩
def d_Wires_come : He.DefD := ⟨("Wires", some "come"), "come", "Wires.come", defArgs s_Wires_come, defBody s_Wires_come, defScope s_Wires_come, [], []⟩
def d_Wires_do : He.DefD := ⟨("Wires", some "do"), "do", "Wires.do", defArgs s_Wires_do, defBody s_Wires_do, defScope s_Wires_do, [], []⟩
def d_first_bad : He.DefD := ⟨("first_bad", none), "first_bad", "first_bad", defArgs s_first_bad, defBody s_first_bad, defScope s_first_bad, [], []⟩
def d_is_steps : He.DefD := ⟨("is_steps", none), "is_steps", "is_steps", defArgs s_is_steps, defBody s_is_steps, defScope s_is_steps, [], []⟩
def d_leads_to : He.DefD := ⟨("leads_to", none), "leads_to", "leads_to", defArgs s_leads_to, defBody s_leads_to, defScope s_leads_to, [], []⟩
def d_are_sights : He.DefD := ⟨("are_sights", none), "are_sights", "are_sights", defArgs s_are_sights, defBody s_are_sights, defScope s_are_sights, [], []⟩
def d_check_sights : He.DefD := ⟨("check_sights", none), "check_sights", "check_sights", defArgs s_check_sights, defBody s_check_sights, defScope s_check_sights, [], []⟩
def d_ways_between : He.DefD := ⟨("ways_between", none), "ways_between", "ways_between", defArgs s_ways_between, defBody s_ways_between, defScope s_ways_between, [], []⟩
def d_ways_behind : He.DefD := ⟨("ways_behind", none), "ways_behind", "ways_behind", defArgs s_ways_behind, defBody s_ways_behind, defScope s_ways_behind, [], []⟩
def d_ways_apart : He.DefD := ⟨("ways_apart", none), "ways_apart", "ways_apart", defArgs s_ways_apart, defBody s_ways_apart, defScope s_ways_apart, [], []⟩
def d_first_sights : He.DefD := ⟨("first_sights", none), "first_sights", "first_sights", defArgs s_first_sights, defBody s_first_sights, defScope s_first_sights, [], []⟩
def d_is_way : He.DefD := ⟨("is_way", none), "is_way", "is_way", defArgs s_is_way, defBody s_is_way, defScope s_is_way, [], []⟩
def d_is_ways_apart : He.DefD := ⟨("is_ways_apart", none), "is_ways_apart", "is_ways_apart", defArgs s_is_ways_apart, defBody s_is_ways_apart, defScope s_is_ways_apart, [], []⟩
def d_is_first_sights : He.DefD := ⟨("is_first_sights", none), "is_first_sights", "is_first_sights", defArgs s_is_first_sights, defBody s_is_first_sights, defScope s_is_first_sights, [], []⟩
def d_L_draw : He.DefD := ⟨("_law_draw", none), "_law_draw", "_law_draw", defArgs s_L_draw, defBody s_L_draw, defScope s_L_draw, [], []⟩
def d_L_both : He.DefD := ⟨("_law_both", none), "_law_both", "_law_both", defArgs s_L_both, defBody s_L_both, defScope s_L_both, [], []⟩
def d_L_wires : He.DefD := ⟨("_law_wires", none), "_law_wires", "_law_wires", defArgs s_L_wires, defBody s_L_wires, defScope s_L_wires, [], []⟩
def d_L_web : He.DefD := ⟨("_law_web", none), "_law_web", "_law_web", defArgs s_L_web, defBody s_L_web, defScope s_L_web, [], []⟩
def d_L_deep : He.DefD := ⟨("_law_deep", none), "_law_deep", "_law_deep", defArgs s_L_deep, defBody s_L_deep, defScope s_L_deep, [], []⟩
def d_L_hand : He.DefD := ⟨("_law_hand", none), "_law_hand", "_law_hand", defArgs s_L_hand, defBody s_L_hand, defScope s_L_hand, [], []⟩
def d_L_shuffled : He.DefD := ⟨("_law_shuffled", none), "_law_shuffled", "_law_shuffled", defArgs s_L_shuffled, defBody s_L_shuffled, defScope s_L_shuffled, [], []⟩
def d_L_sights : He.DefD := ⟨("_law_sights", none), "_law_sights", "_law_sights", defArgs s_L_sights, defBody s_L_sights, defScope s_L_sights, [], []⟩
def d_L_ways : He.DefD := ⟨("_law_ways", none), "_law_ways", "_law_ways", defArgs s_L_ways, defBody s_L_ways, defScope s_L_ways, [], []⟩
def d_L_some_ways : He.DefD := ⟨("_law_some_ways", none), "_law_some_ways", "_law_some_ways", defArgs s_L_some_ways, defBody s_L_some_ways, defScope s_L_some_ways, [], []⟩
def d_L_whole : He.DefD := ⟨("_law_whole", none), "_law_whole", "_law_whole", defArgs s_L_whole, defBody s_L_whole, defScope s_L_whole, [], []⟩
def d_L_ways_right : He.DefD := ⟨("_law_ways_right", none), "_law_ways_right", "_law_ways_right", defArgs s_L_ways_right, defBody s_L_ways_right, defScope s_L_ways_right, [], []⟩
def d_L_floor : He.DefD := ⟨("_law_floor", none), "_law_floor", "_law_floor", defArgs s_L_floor, defBody s_L_floor, defScope s_L_floor, [], []⟩
def d_L_write : He.DefD := ⟨("_law_write", none), "_law_write", "_law_write", defArgs s_L_write, defBody s_L_write, defScope s_L_write, [], []⟩
def d_L_step : He.DefD := ⟨("_law_step", none), "_law_step", "_law_step", defArgs s_L_step, defBody s_L_step, defScope s_L_step, [], []⟩
def d_L_sight_right : He.DefD := ⟨("_law_sight_right", none), "_law_sight_right", "_law_sight_right", defArgs s_L_sight_right, defBody s_L_sight_right, defScope s_L_sight_right, [], []⟩
def d_L_flag : He.DefD := ⟨("_law_flag", none), "_law_flag", "_law_flag", defArgs s_L_flag, defBody s_L_flag, defScope s_L_flag, [], []⟩
def d_L_shape : He.DefD := ⟨("_law_shape", none), "_law_shape", "_law_shape", defArgs s_L_shape, defBody s_L_shape, defScope s_L_shape, [], []⟩
def d_L_bent : He.DefD := ⟨("_law_bent", none), "_law_bent", "_law_bent", defArgs s_L_bent, defBody s_L_bent, defScope s_L_bent, [], []⟩
def d_law : He.DefD := ⟨("law", none), "law", "law", defArgs s_law, defBody s_law, defScope s_law, [], []⟩
def fn : List He.DefD := [d_is_integer, d_is_within, d_is_listed, d_is_pair, d_is_row, d_are_unlike, d_is_wire_pair, d_Web_init, d_Web_keep, d_outs, d_Wires_init, d_Wires_write, d_Wires_can_do, d_Wires_put, d_Wires_come, d_Wires_do, d_first_bad, d_is_steps, d_leads_to, d_are_sights, d_check_sights, d_ways_between, d_ways_behind, d_ways_apart, d_first_sights, d_is_way, d_is_ways_apart, d_is_first_sights, d_L_draw, d_L_both, d_L_wires, d_L_web, d_L_deep, d_L_hand, d_L_shuffled, d_L_sights, d_L_ways, d_L_some_ways, d_L_whole, d_L_ways_right, d_L_floor, d_L_write, d_L_step, d_L_sight_right, d_L_flag, d_L_shape, d_L_bent, d_law]
def fa : List He.Fa := [.glo "is_integer", .glo "is_within", .glo "is_listed", .glo "is_pair", .glo "is_row", .glo "are_unlike", .glo "is_wire_pair", .glo "outs", .glo "first_bad", .glo "is_steps", .glo "leads_to", .glo "are_sights", .glo "check_sights", .glo "ways_between", .glo "ways_behind", .glo "ways_apart", .glo "first_sights", .glo "is_way", .glo "is_ways_apart", .glo "is_first_sights", .glo "_law_draw", .glo "_law_both", .glo "_law_wires", .glo "_law_web", .glo "_law_deep", .glo "_law_hand", .glo "_law_shuffled", .glo "_law_sights", .glo "_law_ways", .glo "_law_some_ways", .glo "_law_whole", .glo "_law_ways_right", .glo "_law_floor", .glo "_law_write", .glo "_law_step", .glo "_law_sight_right", .glo "_law_flag", .glo "_law_shape", .glo "_law_bent", .glo "law", .glo "Web", .glo "Wires", .free "abs", .free "all", .free "any", .free "bool", .free "dict", .free "enumerate", .free "int", .free "isinstance", .free "len", .free "list", .free "range", .free "set", .free "sorted", .free "str", .free "sum", .free "tuple", .free "zip", .int "MOST_MACHINES" 7, .int "MOST_STEPS" 4000, .int "MOST_SIGHTS" 4, .cls "Web", .mkr "Web", .noat "Web" "machines", .noat "Web" "wires", .meth "Web" "keep", .cls "Wires", .mkr "Wires", .noat "Wires" "writers", .noat "Wires" "diaries", .noat "Wires" "letters", .noat "Wires" "goals", .noat "Wires" "done", .meth "Wires" "write", .meth "Wires" "can_do", .meth "Wires" "put", .meth "Wires" "come", .meth "Wires" "do"]
/-- what the walks ask of the top as it stands -/
structure TX (K : PySem.W.Frag) (mg : Str → Option Value) : Prop where
  c : He.SaysD fa fn K
  h : ∃ h : Heap, K.In h ∧ h.Ns mainGlobals mg
def fdOf (K : PySem.W.Frag) (f : Addr) : FuncData := match K.lookup f with
  | some ⟨_, _, .func fd, _⟩ => fd
  | _ => PySem.W.fnOf "" "" ⟨[], [], none, [], [], none, []⟩ [] ⟨.function, [], false, false, []⟩ .none .none .none .none none .none .none
theorem fdOf_eq {K : PySem.W.Frag} {x qual : Str} {params : Arguments} {body : List Stmt} {scope : Scope} {dvs : List V} {kws : List (Str × V)} {f : Addr} {fd : FuncData} (F : FunD K x qual params body scope dvs kws f fd) : fd = fdOf K f := by
  obtain ⟨oc, od, dV, kV, doc, pm, an, cdv, ct, osl, e, lk, _⟩ := F.ex
  unfold fdOf
  rw [lk]
section
variable {K : PySem.W.Frag} {mg : Str → Option Value}
abbrev a_is_integer (K : PySem.W.Frag) : Addr := He.fAd K d_is_integer.at_
theorem TX.f_is_integer (T : TX K mg) : FunD K "is_integer" "is_integer" (defArgs s_is_integer) (defBody s_is_integer) (defScope s_is_integer) [] [] (a_is_integer K) (fdOf K (a_is_integer K)) := by
  obtain ⟨fd, F⟩ := T.c.def_ 0 (d := d_is_integer) rfl
  have e := fdOf_eq F
  rw [← e]
  exact F
theorem TX.b_is_integer (T : TX K mg) : Binds K (fdOf K (a_is_integer K)) ["thing"] [] := T.f_is_integer.bindsN fun _ _ _ _ _ _ us hl => match us, hl with | [_], _ => rfl
abbrev a_is_within (K : PySem.W.Frag) : Addr := He.fAd K d_is_within.at_
theorem TX.f_is_within (T : TX K mg) : FunD K "is_within" "is_within" (defArgs s_is_within) (defBody s_is_within) (defScope s_is_within) [] [] (a_is_within K) (fdOf K (a_is_within K)) := by
  obtain ⟨fd, F⟩ := T.c.def_ 1 (d := d_is_within) rfl
  have e := fdOf_eq F
  rw [← e]
  exact F
theorem TX.b_is_within (T : TX K mg) : Binds K (fdOf K (a_is_within K)) ["thing", "least", "most"] [] := T.f_is_within.bindsN fun _ _ _ _ _ _ us hl => match us, hl with | [_, _, _], _ => rfl
abbrev a_is_listed (K : PySem.W.Frag) : Addr := He.fAd K d_is_listed.at_
theorem TX.f_is_listed (T : TX K mg) : FunD K "is_listed" "is_listed" (defArgs s_is_listed) (defBody s_is_listed) (defScope s_is_listed) [] [] (a_is_listed K) (fdOf K (a_is_listed K)) := by
  obtain ⟨fd, F⟩ := T.c.def_ 2 (d := d_is_listed) rfl
  have e := fdOf_eq F
  rw [← e]
  exact F
theorem TX.b_is_listed (T : TX K mg) : Binds K (fdOf K (a_is_listed K)) ["thing"] [] := T.f_is_listed.bindsN fun _ _ _ _ _ _ us hl => match us, hl with | [_], _ => rfl
abbrev a_is_pair (K : PySem.W.Frag) : Addr := He.fAd K d_is_pair.at_
theorem TX.f_is_pair (T : TX K mg) : FunD K "is_pair" "is_pair" (defArgs s_is_pair) (defBody s_is_pair) (defScope s_is_pair) [] [] (a_is_pair K) (fdOf K (a_is_pair K)) := by
  obtain ⟨fd, F⟩ := T.c.def_ 3 (d := d_is_pair) rfl
  have e := fdOf_eq F
  rw [← e]
  exact F
theorem TX.b_is_pair (T : TX K mg) : Binds K (fdOf K (a_is_pair K)) ["thing"] [] := T.f_is_pair.bindsN fun _ _ _ _ _ _ us hl => match us, hl with | [_], _ => rfl
abbrev a_is_row (K : PySem.W.Frag) : Addr := He.fAd K d_is_row.at_
theorem TX.f_is_row (T : TX K mg) : FunD K "is_row" "is_row" (defArgs s_is_row) (defBody s_is_row) (defScope s_is_row) [] [] (a_is_row K) (fdOf K (a_is_row K)) := by
  obtain ⟨fd, F⟩ := T.c.def_ 4 (d := d_is_row) rfl
  have e := fdOf_eq F
  rw [← e]
  exact F
theorem TX.b_is_row (T : TX K mg) : Binds K (fdOf K (a_is_row K)) ["thing", "size"] [] := T.f_is_row.bindsN fun _ _ _ _ _ _ us hl => match us, hl with | [_, _], _ => rfl
abbrev a_are_unlike (K : PySem.W.Frag) : Addr := He.fAd K d_are_unlike.at_
theorem TX.f_are_unlike (T : TX K mg) : FunD K "are_unlike" "are_unlike" (defArgs s_are_unlike) (defBody s_are_unlike) (defScope s_are_unlike) [] [] (a_are_unlike K) (fdOf K (a_are_unlike K)) := by
  obtain ⟨fd, F⟩ := T.c.def_ 5 (d := d_are_unlike) rfl
  have e := fdOf_eq F
  rw [← e]
  exact F
theorem TX.b_are_unlike (T : TX K mg) : Binds K (fdOf K (a_are_unlike K)) ["thing", "size"] [] := T.f_are_unlike.bindsN fun _ _ _ _ _ _ us hl => match us, hl with | [_, _], _ => rfl
abbrev a_is_wire_pair (K : PySem.W.Frag) : Addr := He.fAd K d_is_wire_pair.at_
theorem TX.f_is_wire_pair (T : TX K mg) : FunD K "is_wire_pair" "is_wire_pair" (defArgs s_is_wire_pair) (defBody s_is_wire_pair) (defScope s_is_wire_pair) [] [] (a_is_wire_pair K) (fdOf K (a_is_wire_pair K)) := by
  obtain ⟨fd, F⟩ := T.c.def_ 6 (d := d_is_wire_pair) rfl
  have e := fdOf_eq F
  rw [← e]
  exact F
theorem TX.b_is_wire_pair (T : TX K mg) : Binds K (fdOf K (a_is_wire_pair K)) ["many", "thing"] [] := T.f_is_wire_pair.bindsN fun _ _ _ _ _ _ us hl => match us, hl with | [_, _], _ => rfl
abbrev a_Web_init (K : PySem.W.Frag) : Addr := He.fAd K d_Web_init.at_
theorem TX.f_Web_init (T : TX K mg) : FunD K "__init__" "Web.__init__" (defArgs s_Web_init) (defBody s_Web_init) (defScope s_Web_init) [] [] (a_Web_init K) (fdOf K (a_Web_init K)) := by
  obtain ⟨fd, F⟩ := T.c.def_ 7 (d := d_Web_init) rfl
  have e := fdOf_eq F
  rw [← e]
  exact F
theorem TX.b_Web_init (T : TX K mg) : Binds K (fdOf K (a_Web_init K)) ["self", "machines", "wires"] [] := T.f_Web_init.bindsN fun _ _ _ _ _ _ us hl => match us, hl with | [_, _, _], _ => rfl
abbrev a_Web_keep (K : PySem.W.Frag) : Addr := He.fAd K d_Web_keep.at_
theorem TX.f_Web_keep (T : TX K mg) : FunD K "keep" "Web.keep" (defArgs s_Web_keep) (defBody s_Web_keep) (defScope s_Web_keep) [] [] (a_Web_keep K) (fdOf K (a_Web_keep K)) := by
  obtain ⟨fd, F⟩ := T.c.def_ 8 (d := d_Web_keep) rfl
  have e := fdOf_eq F
  rw [← e]
  exact F
theorem TX.b_Web_keep (T : TX K mg) : Binds K (fdOf K (a_Web_keep K)) ["self", "machines", "wires"] [] := T.f_Web_keep.bindsN fun _ _ _ _ _ _ us hl => match us, hl with | [_, _, _], _ => rfl
abbrev a_outs (K : PySem.W.Frag) : Addr := He.fAd K d_outs.at_
theorem TX.f_outs (T : TX K mg) : FunD K "outs" "outs" (defArgs s_outs) (defBody s_outs) (defScope s_outs) [] [] (a_outs K) (fdOf K (a_outs K)) := by
  obtain ⟨fd, F⟩ := T.c.def_ 9 (d := d_outs) rfl
  have e := fdOf_eq F
  rw [← e]
  exact F
theorem TX.b_outs (T : TX K mg) : Binds K (fdOf K (a_outs K)) ["web", "machine"] [] := T.f_outs.bindsN fun _ _ _ _ _ _ us hl => match us, hl with | [_, _], _ => rfl
abbrev a_Wires_init (K : PySem.W.Frag) : Addr := He.fAd K d_Wires_init.at_
theorem TX.f_Wires_init (T : TX K mg) : FunD K "__init__" "Wires.__init__" (defArgs s_Wires_init) (defBody s_Wires_init) (defScope s_Wires_init) [] [] (a_Wires_init K) (fdOf K (a_Wires_init K)) := by
  obtain ⟨fd, F⟩ := T.c.def_ 10 (d := d_Wires_init) rfl
  have e := fdOf_eq F
  rw [← e]
  exact F
theorem TX.b_Wires_init (T : TX K mg) : Binds K (fdOf K (a_Wires_init K)) ["self", "web", "writers"] [] := T.f_Wires_init.bindsN fun _ _ _ _ _ _ us hl => match us, hl with | [_, _, _], _ => rfl
abbrev a_Wires_write (K : PySem.W.Frag) : Addr := He.fAd K d_Wires_write.at_
theorem TX.f_Wires_write (T : TX K mg) : FunD K "write" "Wires.write" (defArgs s_Wires_write) (defBody s_Wires_write) (defScope s_Wires_write) [] [] (a_Wires_write K) (fdOf K (a_Wires_write K)) := by
  obtain ⟨fd, F⟩ := T.c.def_ 11 (d := d_Wires_write) rfl
  have e := fdOf_eq F
  rw [← e]
  exact F
theorem TX.b_Wires_write (T : TX K mg) : Binds K (fdOf K (a_Wires_write K)) ["self", "machine", "put"] [] := T.f_Wires_write.bindsN fun _ _ _ _ _ _ us hl => match us, hl with | [_, _, _], _ => rfl
abbrev a_Wires_can_do (K : PySem.W.Frag) : Addr := He.fAd K d_Wires_can_do.at_
theorem TX.f_Wires_can_do (T : TX K mg) : FunD K "can_do" "Wires.can_do" (defArgs s_Wires_can_do) (defBody s_Wires_can_do) (defScope s_Wires_can_do) [] [] (a_Wires_can_do K) (fdOf K (a_Wires_can_do K)) := by
  obtain ⟨fd, F⟩ := T.c.def_ 12 (d := d_Wires_can_do) rfl
  have e := fdOf_eq F
  rw [← e]
  exact F
theorem TX.b_Wires_can_do (T : TX K mg) : Binds K (fdOf K (a_Wires_can_do K)) ["self", "step"] [] := T.f_Wires_can_do.bindsN fun _ _ _ _ _ _ us hl => match us, hl with | [_, _], _ => rfl
abbrev a_Wires_put (K : PySem.W.Frag) : Addr := He.fAd K d_Wires_put.at_
theorem TX.f_Wires_put (T : TX K mg) : FunD K "put" "Wires.put" (defArgs s_Wires_put) (defBody s_Wires_put) (defScope s_Wires_put) [] [] (a_Wires_put K) (fdOf K (a_Wires_put K)) := by
  obtain ⟨fd, F⟩ := T.c.def_ 13 (d := d_Wires_put) rfl
  have e := fdOf_eq F
  rw [← e]
  exact F
theorem TX.b_Wires_put (T : TX K mg) : Binds K (fdOf K (a_Wires_put K)) ["self", "put"] [] := T.f_Wires_put.bindsN fun _ _ _ _ _ _ us hl => match us, hl with | [_, _], _ => rfl
abbrev a_Wires_come (K : PySem.W.Frag) : Addr := He.fAd K d_Wires_come.at_
theorem TX.f_Wires_come (T : TX K mg) : FunD K "come" "Wires.come" (defArgs s_Wires_come) (defBody s_Wires_come) (defScope s_Wires_come) [] [] (a_Wires_come K) (fdOf K (a_Wires_come K)) := by
  obtain ⟨fd, F⟩ := T.c.def_ 14 (d := d_Wires_come) rfl
  have e := fdOf_eq F
  rw [← e]
  exact F
theorem TX.b_Wires_come (T : TX K mg) : Binds K (fdOf K (a_Wires_come K)) ["self", "y", "x"] [] := T.f_Wires_come.bindsN fun _ _ _ _ _ _ us hl => match us, hl with | [_, _, _], _ => rfl
abbrev a_Wires_do (K : PySem.W.Frag) : Addr := He.fAd K d_Wires_do.at_
theorem TX.f_Wires_do (T : TX K mg) : FunD K "do" "Wires.do" (defArgs s_Wires_do) (defBody s_Wires_do) (defScope s_Wires_do) [] [] (a_Wires_do K) (fdOf K (a_Wires_do K)) := by
  obtain ⟨fd, F⟩ := T.c.def_ 15 (d := d_Wires_do) rfl
  have e := fdOf_eq F
  rw [← e]
  exact F
theorem TX.b_Wires_do (T : TX K mg) : Binds K (fdOf K (a_Wires_do K)) ["self", "step"] [] := T.f_Wires_do.bindsN fun _ _ _ _ _ _ us hl => match us, hl with | [_, _], _ => rfl
abbrev a_first_bad (K : PySem.W.Frag) : Addr := He.fAd K d_first_bad.at_
theorem TX.f_first_bad (T : TX K mg) : FunD K "first_bad" "first_bad" (defArgs s_first_bad) (defBody s_first_bad) (defScope s_first_bad) [] [] (a_first_bad K) (fdOf K (a_first_bad K)) := by
  obtain ⟨fd, F⟩ := T.c.def_ 16 (d := d_first_bad) rfl
  have e := fdOf_eq F
  rw [← e]
  exact F
theorem TX.b_first_bad (T : TX K mg) : Binds K (fdOf K (a_first_bad K)) ["wires", "steps"] [] := T.f_first_bad.bindsN fun _ _ _ _ _ _ us hl => match us, hl with | [_, _], _ => rfl
abbrev a_is_steps (K : PySem.W.Frag) : Addr := He.fAd K d_is_steps.at_
theorem TX.f_is_steps (T : TX K mg) : FunD K "is_steps" "is_steps" (defArgs s_is_steps) (defBody s_is_steps) (defScope s_is_steps) [] [] (a_is_steps K) (fdOf K (a_is_steps K)) := by
  obtain ⟨fd, F⟩ := T.c.def_ 17 (d := d_is_steps) rfl
  have e := fdOf_eq F
  rw [← e]
  exact F
theorem TX.b_is_steps (T : TX K mg) : Binds K (fdOf K (a_is_steps K)) ["thing"] [] := T.f_is_steps.bindsN fun _ _ _ _ _ _ us hl => match us, hl with | [_], _ => rfl
abbrev a_leads_to (K : PySem.W.Frag) : Addr := He.fAd K d_leads_to.at_
theorem TX.f_leads_to (T : TX K mg) : FunD K "leads_to" "leads_to" (defArgs s_leads_to) (defBody s_leads_to) (defScope s_leads_to) [] [] (a_leads_to K) (fdOf K (a_leads_to K)) := by
  obtain ⟨fd, F⟩ := T.c.def_ 18 (d := d_leads_to) rfl
  have e := fdOf_eq F
  rw [← e]
  exact F
theorem TX.b_leads_to (T : TX K mg) : Binds K (fdOf K (a_leads_to K)) ["web", "writers", "steps"] [] := T.f_leads_to.bindsN fun _ _ _ _ _ _ us hl => match us, hl with | [_, _, _], _ => rfl
abbrev a_are_sights (K : PySem.W.Frag) : Addr := He.fAd K d_are_sights.at_
theorem TX.f_are_sights (T : TX K mg) : FunD K "are_sights" "are_sights" (defArgs s_are_sights) (defBody s_are_sights) (defScope s_are_sights) [] [] (a_are_sights K) (fdOf K (a_are_sights K)) := by
  obtain ⟨fd, F⟩ := T.c.def_ 19 (d := d_are_sights) rfl
  have e := fdOf_eq F
  rw [← e]
  exact F
theorem TX.b_are_sights (T : TX K mg) : Binds K (fdOf K (a_are_sights K)) ["web", "thing"] [] := T.f_are_sights.bindsN fun _ _ _ _ _ _ us hl => match us, hl with | [_, _], _ => rfl
abbrev a_check_sights (K : PySem.W.Frag) : Addr := He.fAd K d_check_sights.at_
theorem TX.f_check_sights (T : TX K mg) : FunD K "check_sights" "check_sights" (defArgs s_check_sights) (defBody s_check_sights) (defScope s_check_sights) [] [] (a_check_sights K) (fdOf K (a_check_sights K)) := by
  obtain ⟨fd, F⟩ := T.c.def_ 20 (d := d_check_sights) rfl
  have e := fdOf_eq F
  rw [← e]
  exact F
theorem TX.b_check_sights (T : TX K mg) : Binds K (fdOf K (a_check_sights K)) ["web", "thing"] [] := T.f_check_sights.bindsN fun _ _ _ _ _ _ us hl => match us, hl with | [_, _], _ => rfl
abbrev a_ways_between (K : PySem.W.Frag) : Addr := He.fAd K d_ways_between.at_
theorem TX.f_ways_between (T : TX K mg) : FunD K "ways_between" "ways_between" (defArgs s_ways_between) (defBody s_ways_between) (defScope s_ways_between) [] [] (a_ways_between K) (fdOf K (a_ways_between K)) := by
  obtain ⟨fd, F⟩ := T.c.def_ 21 (d := d_ways_between) rfl
  have e := fdOf_eq F
  rw [← e]
  exact F
theorem TX.b_ways_between (T : TX K mg) : Binds K (fdOf K (a_ways_between K)) ["web", "pair", "taken"] [] := T.f_ways_between.bindsN fun _ _ _ _ _ _ us hl => match us, hl with | [_, _, _], _ => rfl
abbrev a_ways_behind (K : PySem.W.Frag) : Addr := He.fAd K d_ways_behind.at_
theorem TX.f_ways_behind (T : TX K mg) : FunD K "ways_behind" "ways_behind" (defArgs s_ways_behind) (defBody s_ways_behind) (defScope s_ways_behind) [] [] (a_ways_behind K) (fdOf K (a_ways_behind K)) := by
  obtain ⟨fd, F⟩ := T.c.def_ 22 (d := d_ways_behind) rfl
  have e := fdOf_eq F
  rw [← e]
  exact F
theorem TX.b_ways_behind (T : TX K mg) : Binds K (fdOf K (a_ways_behind K)) ["web", "sights", "ways"] [] := T.f_ways_behind.bindsN fun _ _ _ _ _ _ us hl => match us, hl with | [_, _, _], _ => rfl
abbrev a_ways_apart (K : PySem.W.Frag) : Addr := He.fAd K d_ways_apart.at_
theorem TX.f_ways_apart (T : TX K mg) : FunD K "ways_apart" "ways_apart" (defArgs s_ways_apart) (defBody s_ways_apart) (defScope s_ways_apart) [] [] (a_ways_apart K) (fdOf K (a_ways_apart K)) := by
  obtain ⟨fd, F⟩ := T.c.def_ 23 (d := d_ways_apart) rfl
  have e := fdOf_eq F
  rw [← e]
  exact F
theorem TX.b_ways_apart (T : TX K mg) : Binds K (fdOf K (a_ways_apart K)) ["web", "sights"] [] := T.f_ways_apart.bindsN fun _ _ _ _ _ _ us hl => match us, hl with | [_, _], _ => rfl
abbrev a_first_sights (K : PySem.W.Frag) : Addr := He.fAd K d_first_sights.at_
theorem TX.f_first_sights (T : TX K mg) : FunD K "first_sights" "first_sights" (defArgs s_first_sights) (defBody s_first_sights) (defScope s_first_sights) [] [] (a_first_sights K) (fdOf K (a_first_sights K)) := by
  obtain ⟨fd, F⟩ := T.c.def_ 24 (d := d_first_sights) rfl
  have e := fdOf_eq F
  rw [← e]
  exact F
theorem TX.b_first_sights (T : TX K mg) : Binds K (fdOf K (a_first_sights K)) ["web", "sights"] [] := T.f_first_sights.bindsN fun _ _ _ _ _ _ us hl => match us, hl with | [_, _], _ => rfl
abbrev a_is_way (K : PySem.W.Frag) : Addr := He.fAd K d_is_way.at_
theorem TX.f_is_way (T : TX K mg) : FunD K "is_way" "is_way" (defArgs s_is_way) (defBody s_is_way) (defScope s_is_way) [] [] (a_is_way K) (fdOf K (a_is_way K)) := by
  obtain ⟨fd, F⟩ := T.c.def_ 25 (d := d_is_way) rfl
  have e := fdOf_eq F
  rw [← e]
  exact F
theorem TX.b_is_way (T : TX K mg) : Binds K (fdOf K (a_is_way K)) ["web", "pair", "thing"] [] := T.f_is_way.bindsN fun _ _ _ _ _ _ us hl => match us, hl with | [_, _, _], _ => rfl
abbrev a_is_ways_apart (K : PySem.W.Frag) : Addr := He.fAd K d_is_ways_apart.at_
theorem TX.f_is_ways_apart (T : TX K mg) : FunD K "is_ways_apart" "is_ways_apart" (defArgs s_is_ways_apart) (defBody s_is_ways_apart) (defScope s_is_ways_apart) [] [] (a_is_ways_apart K) (fdOf K (a_is_ways_apart K)) := by
  obtain ⟨fd, F⟩ := T.c.def_ 26 (d := d_is_ways_apart) rfl
  have e := fdOf_eq F
  rw [← e]
  exact F
theorem TX.b_is_ways_apart (T : TX K mg) : Binds K (fdOf K (a_is_ways_apart K)) ["web", "sights", "thing"] [] := T.f_is_ways_apart.bindsN fun _ _ _ _ _ _ us hl => match us, hl with | [_, _, _], _ => rfl
abbrev a_is_first_sights (K : PySem.W.Frag) : Addr := He.fAd K d_is_first_sights.at_
theorem TX.f_is_first_sights (T : TX K mg) : FunD K "is_first_sights" "is_first_sights" (defArgs s_is_first_sights) (defBody s_is_first_sights) (defScope s_is_first_sights) [] [] (a_is_first_sights K) (fdOf K (a_is_first_sights K)) := by
  obtain ⟨fd, F⟩ := T.c.def_ 27 (d := d_is_first_sights) rfl
  have e := fdOf_eq F
  rw [← e]
  exact F
theorem TX.b_is_first_sights (T : TX K mg) : Binds K (fdOf K (a_is_first_sights K)) ["web", "sights", "thing"] [] := T.f_is_first_sights.bindsN fun _ _ _ _ _ _ us hl => match us, hl with | [_, _, _], _ => rfl
abbrev a_L_draw (K : PySem.W.Frag) : Addr := He.fAd K d_L_draw.at_
theorem TX.f_L_draw (T : TX K mg) : FunD K "_law_draw" "_law_draw" (defArgs s_L_draw) (defBody s_L_draw) (defScope s_L_draw) [] [] (a_L_draw K) (fdOf K (a_L_draw K)) := by
  obtain ⟨fd, F⟩ := T.c.def_ 28 (d := d_L_draw) rfl
  have e := fdOf_eq F
  rw [← e]
  exact F
theorem TX.b_L_draw (T : TX K mg) : Binds K (fdOf K (a_L_draw K)) ["_law_hand_here", "_law_many"] [] := T.f_L_draw.bindsN fun _ _ _ _ _ _ us hl => match us, hl with | [_, _], _ => rfl
abbrev a_L_both (K : PySem.W.Frag) : Addr := He.fAd K d_L_both.at_
theorem TX.f_L_both (T : TX K mg) : FunD K "_law_both" "_law_both" (defArgs s_L_both) (defBody s_L_both) (defScope s_L_both) [] [] (a_L_both K) (fdOf K (a_L_both K)) := by
  obtain ⟨fd, F⟩ := T.c.def_ 29 (d := d_L_both) rfl
  have e := fdOf_eq F
  rw [← e]
  exact F
theorem TX.b_L_both (T : TX K mg) : Binds K (fdOf K (a_L_both K)) ["_law_pairs"] [] := T.f_L_both.bindsN fun _ _ _ _ _ _ us hl => match us, hl with | [_], _ => rfl
abbrev a_L_wires (K : PySem.W.Frag) : Addr := He.fAd K d_L_wires.at_
theorem TX.f_L_wires (T : TX K mg) : FunD K "_law_wires" "_law_wires" (defArgs s_L_wires) (defBody s_L_wires) (defScope s_L_wires) [] [] (a_L_wires K) (fdOf K (a_L_wires K)) := by
  obtain ⟨fd, F⟩ := T.c.def_ 30 (d := d_L_wires) rfl
  have e := fdOf_eq F
  rw [← e]
  exact F
theorem TX.b_L_wires (T : TX K mg) : Binds K (fdOf K (a_L_wires K)) ["_law_hand_here", "_law_machines", "_law_share"] [] := T.f_L_wires.bindsN fun _ _ _ _ _ _ us hl => match us, hl with | [_, _, _], _ => rfl
abbrev a_L_web (K : PySem.W.Frag) : Addr := He.fAd K d_L_web.at_
theorem TX.f_L_web (T : TX K mg) : FunD K "_law_web" "_law_web" (defArgs s_L_web) (defBody s_L_web) (defScope s_L_web) [] [] (a_L_web K) (fdOf K (a_L_web K)) := by
  obtain ⟨fd, F⟩ := T.c.def_ 31 (d := d_L_web) rfl
  have e := fdOf_eq F
  rw [← e]
  exact F
theorem TX.b_L_web (T : TX K mg) : Binds K (fdOf K (a_L_web K)) ["_law_hand_here", "_law_most"] [] := T.f_L_web.bindsN fun _ _ _ _ _ _ us hl => match us, hl with | [_, _], _ => rfl
abbrev a_L_deep (K : PySem.W.Frag) : Addr := He.fAd K d_L_deep.at_
theorem TX.f_L_deep (T : TX K mg) : FunD K "_law_deep" "_law_deep" (defArgs s_L_deep) (defBody s_L_deep) (defScope s_L_deep) [] [] (a_L_deep K) (fdOf K (a_L_deep K)) := by
  obtain ⟨fd, F⟩ := T.c.def_ 32 (d := d_L_deep) rfl
  have e := fdOf_eq F
  rw [← e]
  exact F
theorem TX.b_L_deep (T : TX K mg) : Binds K (fdOf K (a_L_deep K)) ["_law_hand_here"] [] := T.f_L_deep.bindsN fun _ _ _ _ _ _ us hl => match us, hl with | [_], _ => rfl
abbrev a_L_hand (K : PySem.W.Frag) : Addr := He.fAd K d_L_hand.at_
theorem TX.f_L_hand (T : TX K mg) : FunD K "_law_hand" "_law_hand" (defArgs s_L_hand) (defBody s_L_hand) (defScope s_L_hand) [] [] (a_L_hand K) (fdOf K (a_L_hand K)) := by
  obtain ⟨fd, F⟩ := T.c.def_ 33 (d := d_L_hand) rfl
  have e := fdOf_eq F
  rw [← e]
  exact F
theorem TX.b_L_hand (T : TX K mg) : Binds K (fdOf K (a_L_hand K)) ["_law_script"] [] := T.f_L_hand.bindsN fun _ _ _ _ _ _ us hl => match us, hl with | [_], _ => rfl
abbrev a_L_shuffled (K : PySem.W.Frag) : Addr := He.fAd K d_L_shuffled.at_
theorem TX.f_L_shuffled (T : TX K mg) : FunD K "_law_shuffled" "_law_shuffled" (defArgs s_L_shuffled) (defBody s_L_shuffled) (defScope s_L_shuffled) [] [] (a_L_shuffled K) (fdOf K (a_L_shuffled K)) := by
  obtain ⟨fd, F⟩ := T.c.def_ 34 (d := d_L_shuffled) rfl
  have e := fdOf_eq F
  rw [← e]
  exact F
theorem TX.b_L_shuffled (T : TX K mg) : Binds K (fdOf K (a_L_shuffled K)) ["_law_hand_here", "_law_things"] [] := T.f_L_shuffled.bindsN fun _ _ _ _ _ _ us hl => match us, hl with | [_, _], _ => rfl
abbrev a_L_sights (K : PySem.W.Frag) : Addr := He.fAd K d_L_sights.at_
theorem TX.f_L_sights (T : TX K mg) : FunD K "_law_sights" "_law_sights" (defArgs s_L_sights) (defBody s_L_sights) (defScope s_L_sights) [] [] (a_L_sights K) (fdOf K (a_L_sights K)) := by
  obtain ⟨fd, F⟩ := T.c.def_ 35 (d := d_L_sights) rfl
  have e := fdOf_eq F
  rw [← e]
  exact F
theorem TX.b_L_sights (T : TX K mg) : Binds K (fdOf K (a_L_sights K)) ["_law_hand_here", "_law_machines", "_law_many"] [] := T.f_L_sights.bindsN fun _ _ _ _ _ _ us hl => match us, hl with | [_, _, _], _ => rfl
abbrev a_L_ways (K : PySem.W.Frag) : Addr := He.fAd K d_L_ways.at_
theorem TX.f_L_ways (T : TX K mg) : FunD K "_law_ways" "_law_ways" (defArgs s_L_ways) (defBody s_L_ways) (defScope s_L_ways) [] [] (a_L_ways K) (fdOf K (a_L_ways K)) := by
  obtain ⟨fd, F⟩ := T.c.def_ 36 (d := d_L_ways) rfl
  have e := fdOf_eq F
  rw [← e]
  exact F
theorem TX.b_L_ways (T : TX K mg) : Binds K (fdOf K (a_L_ways K)) ["_law_wires_here", "_law_first", "_law_last", "_law_barred"] [] := T.f_L_ways.bindsN fun _ _ _ _ _ _ us hl => match us, hl with | [_, _, _, _], _ => rfl
abbrev a_L_some_ways (K : PySem.W.Frag) : Addr := He.fAd K d_L_some_ways.at_
theorem TX.f_L_some_ways (T : TX K mg) : FunD K "_law_some_ways" "_law_some_ways" (defArgs s_L_some_ways) (defBody s_L_some_ways) (defScope s_L_some_ways) [] [] (a_L_some_ways K) (fdOf K (a_L_some_ways K)) := by
  obtain ⟨fd, F⟩ := T.c.def_ 37 (d := d_L_some_ways) rfl
  have e := fdOf_eq F
  rw [← e]
  exact F
theorem TX.b_L_some_ways (T : TX K mg) : Binds K (fdOf K (a_L_some_ways K)) ["_law_wires_here", "_law_pairs"] [] := T.f_L_some_ways.bindsN fun _ _ _ _ _ _ us hl => match us, hl with | [_, _], _ => rfl
abbrev a_L_whole (K : PySem.W.Frag) : Addr := He.fAd K d_L_whole.at_
theorem TX.f_L_whole (T : TX K mg) : FunD K "_law_whole" "_law_whole" (defArgs s_L_whole) (defBody s_L_whole) (defScope s_L_whole) [] [] (a_L_whole K) (fdOf K (a_L_whole K)) := by
  obtain ⟨fd, F⟩ := T.c.def_ 38 (d := d_L_whole) rfl
  have e := fdOf_eq F
  rw [← e]
  exact F
theorem TX.b_L_whole (T : TX K mg) : Binds K (fdOf K (a_L_whole K)) ["_law_thing", "_law_least", "_law_most"] [] := T.f_L_whole.bindsN fun _ _ _ _ _ _ us hl => match us, hl with | [_, _, _], _ => rfl
abbrev a_L_ways_right (K : PySem.W.Frag) : Addr := He.fAd K d_L_ways_right.at_
theorem TX.f_L_ways_right (T : TX K mg) : FunD K "_law_ways_right" "_law_ways_right" (defArgs s_L_ways_right) (defBody s_L_ways_right) (defScope s_L_ways_right) [] [] (a_L_ways_right K) (fdOf K (a_L_ways_right K)) := by
  obtain ⟨fd, F⟩ := T.c.def_ 39 (d := d_L_ways_right) rfl
  have e := fdOf_eq F
  rw [← e]
  exact F
theorem TX.b_L_ways_right (T : TX K mg) : Binds K (fdOf K (a_L_ways_right K)) ["_law_machines", "_law_wires_here", "_law_pairs", "_law_thing"] [] := T.f_L_ways_right.bindsN fun _ _ _ _ _ _ us hl => match us, hl with | [_, _, _, _], _ => rfl
abbrev a_L_floor (K : PySem.W.Frag) : Addr := He.fAd K d_L_floor.at_
theorem TX.f_L_floor (T : TX K mg) : FunD K "_law_floor" "_law_floor" (defArgs s_L_floor) (defBody s_L_floor) (defScope s_L_floor) [] [] (a_L_floor K) (fdOf K (a_L_floor K)) := by
  obtain ⟨fd, F⟩ := T.c.def_ 40 (d := d_L_floor) rfl
  have e := fdOf_eq F
  rw [← e]
  exact F
theorem TX.b_L_floor (T : TX K mg) : Binds K (fdOf K (a_L_floor K)) ["_law_machines", "_law_wires_here"] [] := T.f_L_floor.bindsN fun _ _ _ _ _ _ us hl => match us, hl with | [_, _], _ => rfl
abbrev a_L_write (K : PySem.W.Frag) : Addr := He.fAd K d_L_write.at_
theorem TX.f_L_write (T : TX K mg) : FunD K "_law_write" "_law_write" (defArgs s_L_write) (defBody s_L_write) (defScope s_L_write) [] [] (a_L_write K) (fdOf K (a_L_write K)) := by
  obtain ⟨fd, F⟩ := T.c.def_ 41 (d := d_L_write) rfl
  have e := fdOf_eq F
  rw [← e]
  exact F
theorem TX.b_L_write (T : TX K mg) : Binds K (fdOf K (a_L_write K)) ["_law_floor_here", "_law_machine", "_law_put"] [] := T.f_L_write.bindsN fun _ _ _ _ _ _ us hl => match us, hl with | [_, _, _], _ => rfl
abbrev a_L_step (K : PySem.W.Frag) : Addr := He.fAd K d_L_step.at_
theorem TX.f_L_step (T : TX K mg) : FunD K "_law_step" "_law_step" (defArgs s_L_step) (defBody s_L_step) (defScope s_L_step) [] [] (a_L_step K) (fdOf K (a_L_step K)) := by
  obtain ⟨fd, F⟩ := T.c.def_ 42 (d := d_L_step) rfl
  have e := fdOf_eq F
  rw [← e]
  exact F
theorem TX.b_L_step (T : TX K mg) : Binds K (fdOf K (a_L_step K)) ["_law_floor_here", "_law_writers", "_law_step_here"] [] := T.f_L_step.bindsN fun _ _ _ _ _ _ us hl => match us, hl with | [_, _, _], _ => rfl
abbrev a_L_sight_right (K : PySem.W.Frag) : Addr := He.fAd K d_L_sight_right.at_
theorem TX.f_L_sight_right (T : TX K mg) : FunD K "_law_sight_right" "_law_sight_right" (defArgs s_L_sight_right) (defBody s_L_sight_right) (defScope s_L_sight_right) [] [] (a_L_sight_right K) (fdOf K (a_L_sight_right K)) := by
  obtain ⟨fd, F⟩ := T.c.def_ 43 (d := d_L_sight_right) rfl
  have e := fdOf_eq F
  rw [← e]
  exact F
theorem TX.b_L_sight_right (T : TX K mg) : Binds K (fdOf K (a_L_sight_right K)) ["_law_machines", "_law_wires_here", "_law_pairs", "_law_thing"] [] := T.f_L_sight_right.bindsN fun _ _ _ _ _ _ us hl => match us, hl with | [_, _, _, _], _ => rfl
abbrev a_L_flag (K : PySem.W.Frag) : Addr := He.fAd K d_L_flag.at_
theorem TX.f_L_flag (T : TX K mg) : FunD K "_law_flag" "_law_flag" (defArgs s_L_flag) (defBody s_L_flag) (defScope s_L_flag) [] [] (a_L_flag K) (fdOf K (a_L_flag K)) := by
  obtain ⟨fd, F⟩ := T.c.def_ 44 (d := d_L_flag) rfl
  have e := fdOf_eq F
  rw [← e]
  exact F
theorem TX.b_L_flag (T : TX K mg) : Binds K (fdOf K (a_L_flag K)) ["_law_told", "_law_due"] [] := T.f_L_flag.bindsN fun _ _ _ _ _ _ us hl => match us, hl with | [_, _], _ => rfl
abbrev a_L_shape (K : PySem.W.Frag) : Addr := He.fAd K d_L_shape.at_
theorem TX.f_L_shape (T : TX K mg) : FunD K "_law_shape" "_law_shape" (defArgs s_L_shape) (defBody s_L_shape) (defScope s_L_shape) [] [] (a_L_shape K) (fdOf K (a_L_shape K)) := by
  obtain ⟨fd, F⟩ := T.c.def_ 45 (d := d_L_shape) rfl
  have e := fdOf_eq F
  rw [← e]
  exact F
theorem TX.b_L_shape (T : TX K mg) : Binds K (fdOf K (a_L_shape K)) ["_law_hand_here"] [] := T.f_L_shape.bindsN fun _ _ _ _ _ _ us hl => match us, hl with | [_], _ => rfl
abbrev a_L_bent (K : PySem.W.Frag) : Addr := He.fAd K d_L_bent.at_
theorem TX.f_L_bent (T : TX K mg) : FunD K "_law_bent" "_law_bent" (defArgs s_L_bent) (defBody s_L_bent) (defScope s_L_bent) [] [] (a_L_bent K) (fdOf K (a_L_bent K)) := by
  obtain ⟨fd, F⟩ := T.c.def_ 46 (d := d_L_bent) rfl
  have e := fdOf_eq F
  rw [← e]
  exact F
theorem TX.b_L_bent (T : TX K mg) : Binds K (fdOf K (a_L_bent K)) ["_law_hand_here", "_law_thing", "_law_machines"] [] := T.f_L_bent.bindsN fun _ _ _ _ _ _ us hl => match us, hl with | [_, _, _], _ => rfl
abbrev a_law (K : PySem.W.Frag) : Addr := He.fAd K d_law.at_
theorem TX.f_law (T : TX K mg) : FunD K "law" "law" (defArgs s_law) (defBody s_law) (defScope s_law) [] [] (a_law K) (fdOf K (a_law K)) := by
  obtain ⟨fd, F⟩ := T.c.def_ 47 (d := d_law) rfl
  have e := fdOf_eq F
  rw [← e]
  exact F
theorem TX.b_law (T : TX K mg) : Binds K (fdOf K (a_law K)) ["_law_script"] [] := T.f_law.bindsN fun _ _ _ _ _ _ us hl => match us, hl with | [_], _ => rfl
theorem TX.g_is_integer (T : TX K mg) : mg "is_integer" = some (.ref (a_is_integer K)) := by
  obtain ⟨h, X, G⟩ := T.h
  exact He.glo_ok X G (T.c.fact 0 (f := .glo "is_integer") rfl)
theorem TX.g_is_within (T : TX K mg) : mg "is_within" = some (.ref (a_is_within K)) := by
  obtain ⟨h, X, G⟩ := T.h
  exact He.glo_ok X G (T.c.fact 1 (f := .glo "is_within") rfl)
theorem TX.g_is_listed (T : TX K mg) : mg "is_listed" = some (.ref (a_is_listed K)) := by
  obtain ⟨h, X, G⟩ := T.h
  exact He.glo_ok X G (T.c.fact 2 (f := .glo "is_listed") rfl)
theorem TX.g_is_pair (T : TX K mg) : mg "is_pair" = some (.ref (a_is_pair K)) := by
  obtain ⟨h, X, G⟩ := T.h
  exact He.glo_ok X G (T.c.fact 3 (f := .glo "is_pair") rfl)
theorem TX.g_is_row (T : TX K mg) : mg "is_row" = some (.ref (a_is_row K)) := by
  obtain ⟨h, X, G⟩ := T.h
  exact He.glo_ok X G (T.c.fact 4 (f := .glo "is_row") rfl)
theorem TX.g_are_unlike (T : TX K mg) : mg "are_unlike" = some (.ref (a_are_unlike K)) := by
  obtain ⟨h, X, G⟩ := T.h
  exact He.glo_ok X G (T.c.fact 5 (f := .glo "are_unlike") rfl)
theorem TX.g_is_wire_pair (T : TX K mg) : mg "is_wire_pair" = some (.ref (a_is_wire_pair K)) := by
  obtain ⟨h, X, G⟩ := T.h
  exact He.glo_ok X G (T.c.fact 6 (f := .glo "is_wire_pair") rfl)
theorem TX.g_outs (T : TX K mg) : mg "outs" = some (.ref (a_outs K)) := by
  obtain ⟨h, X, G⟩ := T.h
  exact He.glo_ok X G (T.c.fact 7 (f := .glo "outs") rfl)
theorem TX.g_first_bad (T : TX K mg) : mg "first_bad" = some (.ref (a_first_bad K)) := by
  obtain ⟨h, X, G⟩ := T.h
  exact He.glo_ok X G (T.c.fact 8 (f := .glo "first_bad") rfl)
theorem TX.g_is_steps (T : TX K mg) : mg "is_steps" = some (.ref (a_is_steps K)) := by
  obtain ⟨h, X, G⟩ := T.h
  exact He.glo_ok X G (T.c.fact 9 (f := .glo "is_steps") rfl)
theorem TX.g_leads_to (T : TX K mg) : mg "leads_to" = some (.ref (a_leads_to K)) := by
  obtain ⟨h, X, G⟩ := T.h
  exact He.glo_ok X G (T.c.fact 10 (f := .glo "leads_to") rfl)
theorem TX.g_are_sights (T : TX K mg) : mg "are_sights" = some (.ref (a_are_sights K)) := by
  obtain ⟨h, X, G⟩ := T.h
  exact He.glo_ok X G (T.c.fact 11 (f := .glo "are_sights") rfl)
theorem TX.g_check_sights (T : TX K mg) : mg "check_sights" = some (.ref (a_check_sights K)) := by
  obtain ⟨h, X, G⟩ := T.h
  exact He.glo_ok X G (T.c.fact 12 (f := .glo "check_sights") rfl)
theorem TX.g_ways_between (T : TX K mg) : mg "ways_between" = some (.ref (a_ways_between K)) := by
  obtain ⟨h, X, G⟩ := T.h
  exact He.glo_ok X G (T.c.fact 13 (f := .glo "ways_between") rfl)
theorem TX.g_ways_behind (T : TX K mg) : mg "ways_behind" = some (.ref (a_ways_behind K)) := by
  obtain ⟨h, X, G⟩ := T.h
  exact He.glo_ok X G (T.c.fact 14 (f := .glo "ways_behind") rfl)
theorem TX.g_ways_apart (T : TX K mg) : mg "ways_apart" = some (.ref (a_ways_apart K)) := by
  obtain ⟨h, X, G⟩ := T.h
  exact He.glo_ok X G (T.c.fact 15 (f := .glo "ways_apart") rfl)
theorem TX.g_first_sights (T : TX K mg) : mg "first_sights" = some (.ref (a_first_sights K)) := by
  obtain ⟨h, X, G⟩ := T.h
  exact He.glo_ok X G (T.c.fact 16 (f := .glo "first_sights") rfl)
theorem TX.g_is_way (T : TX K mg) : mg "is_way" = some (.ref (a_is_way K)) := by
  obtain ⟨h, X, G⟩ := T.h
  exact He.glo_ok X G (T.c.fact 17 (f := .glo "is_way") rfl)
theorem TX.g_is_ways_apart (T : TX K mg) : mg "is_ways_apart" = some (.ref (a_is_ways_apart K)) := by
  obtain ⟨h, X, G⟩ := T.h
  exact He.glo_ok X G (T.c.fact 18 (f := .glo "is_ways_apart") rfl)
theorem TX.g_is_first_sights (T : TX K mg) : mg "is_first_sights" = some (.ref (a_is_first_sights K)) := by
  obtain ⟨h, X, G⟩ := T.h
  exact He.glo_ok X G (T.c.fact 19 (f := .glo "is_first_sights") rfl)
theorem TX.g_L_draw (T : TX K mg) : mg "_law_draw" = some (.ref (a_L_draw K)) := by
  obtain ⟨h, X, G⟩ := T.h
  exact He.glo_ok X G (T.c.fact 20 (f := .glo "_law_draw") rfl)
theorem TX.g_L_both (T : TX K mg) : mg "_law_both" = some (.ref (a_L_both K)) := by
  obtain ⟨h, X, G⟩ := T.h
  exact He.glo_ok X G (T.c.fact 21 (f := .glo "_law_both") rfl)
theorem TX.g_L_wires (T : TX K mg) : mg "_law_wires" = some (.ref (a_L_wires K)) := by
  obtain ⟨h, X, G⟩ := T.h
  exact He.glo_ok X G (T.c.fact 22 (f := .glo "_law_wires") rfl)
theorem TX.g_L_web (T : TX K mg) : mg "_law_web" = some (.ref (a_L_web K)) := by
  obtain ⟨h, X, G⟩ := T.h
  exact He.glo_ok X G (T.c.fact 23 (f := .glo "_law_web") rfl)
theorem TX.g_L_deep (T : TX K mg) : mg "_law_deep" = some (.ref (a_L_deep K)) := by
  obtain ⟨h, X, G⟩ := T.h
  exact He.glo_ok X G (T.c.fact 24 (f := .glo "_law_deep") rfl)
theorem TX.g_L_hand (T : TX K mg) : mg "_law_hand" = some (.ref (a_L_hand K)) := by
  obtain ⟨h, X, G⟩ := T.h
  exact He.glo_ok X G (T.c.fact 25 (f := .glo "_law_hand") rfl)
theorem TX.g_L_shuffled (T : TX K mg) : mg "_law_shuffled" = some (.ref (a_L_shuffled K)) := by
  obtain ⟨h, X, G⟩ := T.h
  exact He.glo_ok X G (T.c.fact 26 (f := .glo "_law_shuffled") rfl)
theorem TX.g_L_sights (T : TX K mg) : mg "_law_sights" = some (.ref (a_L_sights K)) := by
  obtain ⟨h, X, G⟩ := T.h
  exact He.glo_ok X G (T.c.fact 27 (f := .glo "_law_sights") rfl)
theorem TX.g_L_ways (T : TX K mg) : mg "_law_ways" = some (.ref (a_L_ways K)) := by
  obtain ⟨h, X, G⟩ := T.h
  exact He.glo_ok X G (T.c.fact 28 (f := .glo "_law_ways") rfl)
theorem TX.g_L_some_ways (T : TX K mg) : mg "_law_some_ways" = some (.ref (a_L_some_ways K)) := by
  obtain ⟨h, X, G⟩ := T.h
  exact He.glo_ok X G (T.c.fact 29 (f := .glo "_law_some_ways") rfl)
theorem TX.g_L_whole (T : TX K mg) : mg "_law_whole" = some (.ref (a_L_whole K)) := by
  obtain ⟨h, X, G⟩ := T.h
  exact He.glo_ok X G (T.c.fact 30 (f := .glo "_law_whole") rfl)
theorem TX.g_L_ways_right (T : TX K mg) : mg "_law_ways_right" = some (.ref (a_L_ways_right K)) := by
  obtain ⟨h, X, G⟩ := T.h
  exact He.glo_ok X G (T.c.fact 31 (f := .glo "_law_ways_right") rfl)
theorem TX.g_L_floor (T : TX K mg) : mg "_law_floor" = some (.ref (a_L_floor K)) := by
  obtain ⟨h, X, G⟩ := T.h
  exact He.glo_ok X G (T.c.fact 32 (f := .glo "_law_floor") rfl)
theorem TX.g_L_write (T : TX K mg) : mg "_law_write" = some (.ref (a_L_write K)) := by
  obtain ⟨h, X, G⟩ := T.h
  exact He.glo_ok X G (T.c.fact 33 (f := .glo "_law_write") rfl)
theorem TX.g_L_step (T : TX K mg) : mg "_law_step" = some (.ref (a_L_step K)) := by
  obtain ⟨h, X, G⟩ := T.h
  exact He.glo_ok X G (T.c.fact 34 (f := .glo "_law_step") rfl)
theorem TX.g_L_sight_right (T : TX K mg) : mg "_law_sight_right" = some (.ref (a_L_sight_right K)) := by
  obtain ⟨h, X, G⟩ := T.h
  exact He.glo_ok X G (T.c.fact 35 (f := .glo "_law_sight_right") rfl)
theorem TX.g_L_flag (T : TX K mg) : mg "_law_flag" = some (.ref (a_L_flag K)) := by
  obtain ⟨h, X, G⟩ := T.h
  exact He.glo_ok X G (T.c.fact 36 (f := .glo "_law_flag") rfl)
theorem TX.g_L_shape (T : TX K mg) : mg "_law_shape" = some (.ref (a_L_shape K)) := by
  obtain ⟨h, X, G⟩ := T.h
  exact He.glo_ok X G (T.c.fact 37 (f := .glo "_law_shape") rfl)
theorem TX.g_L_bent (T : TX K mg) : mg "_law_bent" = some (.ref (a_L_bent K)) := by
  obtain ⟨h, X, G⟩ := T.h
  exact He.glo_ok X G (T.c.fact 38 (f := .glo "_law_bent") rfl)
theorem TX.g_law (T : TX K mg) : mg "law" = some (.ref (a_law K)) := by
  obtain ⟨h, X, G⟩ := T.h
  exact He.glo_ok X G (T.c.fact 39 (f := .glo "law") rfl)
theorem TX.g_Web (T : TX K mg) : mg "Web" = some (.ref (He.ga K "Web")) := by
  obtain ⟨h, X, G⟩ := T.h
  exact He.glo_ok X G (T.c.fact 40 (f := .glo "Web") rfl)
theorem TX.g_Wires (T : TX K mg) : mg "Wires" = some (.ref (He.ga K "Wires")) := by
  obtain ⟨h, X, G⟩ := T.h
  exact He.glo_ok X G (T.c.fact 41 (f := .glo "Wires") rfl)
theorem TX.z_abs (T : TX K mg) : mg "abs" = none := by
  obtain ⟨h, X, G⟩ := T.h
  exact He.free_ok X G (T.c.fact 42 (f := .free "abs") rfl)
theorem TX.z_all (T : TX K mg) : mg "all" = none := by
  obtain ⟨h, X, G⟩ := T.h
  exact He.free_ok X G (T.c.fact 43 (f := .free "all") rfl)
theorem TX.z_any (T : TX K mg) : mg "any" = none := by
  obtain ⟨h, X, G⟩ := T.h
  exact He.free_ok X G (T.c.fact 44 (f := .free "any") rfl)
theorem TX.z_bool (T : TX K mg) : mg "bool" = none := by
  obtain ⟨h, X, G⟩ := T.h
  exact He.free_ok X G (T.c.fact 45 (f := .free "bool") rfl)
theorem TX.z_dict (T : TX K mg) : mg "dict" = none := by
  obtain ⟨h, X, G⟩ := T.h
  exact He.free_ok X G (T.c.fact 46 (f := .free "dict") rfl)
theorem TX.z_enumerate (T : TX K mg) : mg "enumerate" = none := by
  obtain ⟨h, X, G⟩ := T.h
  exact He.free_ok X G (T.c.fact 47 (f := .free "enumerate") rfl)
theorem TX.z_int (T : TX K mg) : mg "int" = none := by
  obtain ⟨h, X, G⟩ := T.h
  exact He.free_ok X G (T.c.fact 48 (f := .free "int") rfl)
theorem TX.z_isinstance (T : TX K mg) : mg "isinstance" = none := by
  obtain ⟨h, X, G⟩ := T.h
  exact He.free_ok X G (T.c.fact 49 (f := .free "isinstance") rfl)
theorem TX.z_len (T : TX K mg) : mg "len" = none := by
  obtain ⟨h, X, G⟩ := T.h
  exact He.free_ok X G (T.c.fact 50 (f := .free "len") rfl)
theorem TX.z_list (T : TX K mg) : mg "list" = none := by
  obtain ⟨h, X, G⟩ := T.h
  exact He.free_ok X G (T.c.fact 51 (f := .free "list") rfl)
theorem TX.z_range (T : TX K mg) : mg "range" = none := by
  obtain ⟨h, X, G⟩ := T.h
  exact He.free_ok X G (T.c.fact 52 (f := .free "range") rfl)
theorem TX.z_set (T : TX K mg) : mg "set" = none := by
  obtain ⟨h, X, G⟩ := T.h
  exact He.free_ok X G (T.c.fact 53 (f := .free "set") rfl)
theorem TX.z_sorted (T : TX K mg) : mg "sorted" = none := by
  obtain ⟨h, X, G⟩ := T.h
  exact He.free_ok X G (T.c.fact 54 (f := .free "sorted") rfl)
theorem TX.z_str (T : TX K mg) : mg "str" = none := by
  obtain ⟨h, X, G⟩ := T.h
  exact He.free_ok X G (T.c.fact 55 (f := .free "str") rfl)
theorem TX.z_sum (T : TX K mg) : mg "sum" = none := by
  obtain ⟨h, X, G⟩ := T.h
  exact He.free_ok X G (T.c.fact 56 (f := .free "sum") rfl)
theorem TX.z_tuple (T : TX K mg) : mg "tuple" = none := by
  obtain ⟨h, X, G⟩ := T.h
  exact He.free_ok X G (T.c.fact 57 (f := .free "tuple") rfl)
theorem TX.z_zip (T : TX K mg) : mg "zip" = none := by
  obtain ⟨h, X, G⟩ := T.h
  exact He.free_ok X G (T.c.fact 58 (f := .free "zip") rfl)
theorem TX.i_MOST_MACHINES (T : TX K mg) : ∃ t, mg "MOST_MACHINES" = some (.int 7 t) := by
  obtain ⟨h, X, G⟩ := T.h
  exact He.int_ok X G (T.c.fact 59 (f := .int "MOST_MACHINES" 7) rfl)
theorem TX.i_MOST_STEPS (T : TX K mg) : ∃ t, mg "MOST_STEPS" = some (.int 4000 t) := by
  obtain ⟨h, X, G⟩ := T.h
  exact He.int_ok X G (T.c.fact 60 (f := .int "MOST_STEPS" 4000) rfl)
theorem TX.i_MOST_SIGHTS (T : TX K mg) : ∃ t, mg "MOST_SIGHTS" = some (.int 4 t) := by
  obtain ⟨h, X, G⟩ := T.h
  exact He.int_ok X G (T.c.fact 61 (f := .int "MOST_SIGHTS" 4) rfl)
theorem TX.cl_Web (T : TX K mg) : Cls K (He.ga K "Web") := He.cls_ok (T.c.fact 62 (f := .cls "Web") rfl)
theorem TX.mk_Web (T : TX K mg) : Mk K (He.ga K "Web") (a_Web_init K) := He.mkr_ok (T.c.fact 63 (f := .mkr "Web") rfl)
theorem TX.n_Web_machines (T : TX K mg) : NoAttr K (He.ga K "Web") "machines" := He.noat_ok (T.c.fact 64 (f := .noat "Web" "machines") rfl)
theorem TX.n_Web_wires (T : TX K mg) : NoAttr K (He.ga K "Web") "wires" := He.noat_ok (T.c.fact 65 (f := .noat "Web" "wires") rfl)
theorem TX.m_Web_keep (T : TX K mg) : Meth K (He.ga K "Web") "keep" (a_Web_keep K) := He.meth_ok (T.c.fact 66 (f := .meth "Web" "keep") rfl)
theorem TX.cl_Wires (T : TX K mg) : Cls K (He.ga K "Wires") := He.cls_ok (T.c.fact 67 (f := .cls "Wires") rfl)
theorem TX.mk_Wires (T : TX K mg) : Mk K (He.ga K "Wires") (a_Wires_init K) := He.mkr_ok (T.c.fact 68 (f := .mkr "Wires") rfl)
theorem TX.n_Wires_writers (T : TX K mg) : NoAttr K (He.ga K "Wires") "writers" := He.noat_ok (T.c.fact 69 (f := .noat "Wires" "writers") rfl)
theorem TX.n_Wires_diaries (T : TX K mg) : NoAttr K (He.ga K "Wires") "diaries" := He.noat_ok (T.c.fact 70 (f := .noat "Wires" "diaries") rfl)
theorem TX.n_Wires_letters (T : TX K mg) : NoAttr K (He.ga K "Wires") "letters" := He.noat_ok (T.c.fact 71 (f := .noat "Wires" "letters") rfl)
theorem TX.n_Wires_goals (T : TX K mg) : NoAttr K (He.ga K "Wires") "goals" := He.noat_ok (T.c.fact 72 (f := .noat "Wires" "goals") rfl)
theorem TX.n_Wires_done (T : TX K mg) : NoAttr K (He.ga K "Wires") "done" := He.noat_ok (T.c.fact 73 (f := .noat "Wires" "done") rfl)
theorem TX.m_Wires_write (T : TX K mg) : Meth K (He.ga K "Wires") "write" (a_Wires_write K) := He.meth_ok (T.c.fact 74 (f := .meth "Wires" "write") rfl)
theorem TX.m_Wires_can_do (T : TX K mg) : Meth K (He.ga K "Wires") "can_do" (a_Wires_can_do K) := He.meth_ok (T.c.fact 75 (f := .meth "Wires" "can_do") rfl)
theorem TX.m_Wires_put (T : TX K mg) : Meth K (He.ga K "Wires") "put" (a_Wires_put K) := He.meth_ok (T.c.fact 76 (f := .meth "Wires" "put") rfl)
theorem TX.m_Wires_come (T : TX K mg) : Meth K (He.ga K "Wires") "come" (a_Wires_come K) := He.meth_ok (T.c.fact 77 (f := .meth "Wires" "come") rfl)
theorem TX.m_Wires_do (T : TX K mg) : Meth K (He.ga K "Wires") "do" (a_Wires_do K) := He.meth_ok (T.c.fact 78 (f := .meth "Wires" "do") rfl)
end
end G

/-! ## Rules of our own, 1: zip to one name, over lists and tuples -/
namespace ZN
open PySem PySem.Spec PyProof.Rows

/-- a zip whatever it knows of its last tuple -/
abbrev ZF (h : Heap) (z TI TO : Addr) (f0 : Value) (f1 : Bool) : Prop :=
  h.get? z = some { cls := .type "zip", dict := none, data := .fields #[f0, .bool f1, .bool false, .ref TI, .ref TO], slots := #[] }
def ZAny (h : Heap) (z TI TO : Addr) : Prop := ∃ f0 f1, ZF h z TI TO f0 f1 ∧ (f0 = .none ∨ ∃ T : Nat, f0 = rawInt (T : Int))
theorem ZAny.at {h h' : Heap} {z TI TO : Addr} (x : ZAny h z TI TO) (k : ∀ o, h.get? z = some o → h'.get? z = some o) : ZAny h' z TI TO :=
  let ⟨f0, f1, a, b⟩ := x
  ⟨f0, f1, k _ a, b⟩

section
variable {prog : Program} {w : World} {A : Around} {E : Value → Shared → Prop} {s : Shared} {z TI TO i1 i2 : Addr} {fp1 fp2 : List Addr} {n1 n2 i : Nat} {P1 P2 : Nat → Value → Prop} {St1 St2 : Nat → Heap → Prop}

theorem alive_look {a : Addr} {Q : Option Obj → Shared → Prop} (h : Q (s.heap.get? a) s) : wpAny (model prog w) A (loadIfAlive a) Q E s := fun _ _ _ => h

/-- the look whether the tuple may be used again: any answer -/
theorem free_look {Q : Bool → Shared → Prop} (hz : ZAny s.heap z TI TO)
    (hQ : ∀ (b : Bool) (g : Heap) (f0 : Value) (f1 : Bool), ZF g z TI TO f0 f1 → (f0 = .none ∨ ∃ T : Nat, f0 = rawInt (T : Int)) → Heap.SameBut z s.heap g → Q b { s with heap := g }) :
    wpAny (model prog w) A (Builtin.SmallTypes.ownedTupleIsFree (.ref z)) Q E s := by
  obtain ⟨f0, f1, zz, form⟩ := hz
  unfold Builtin.SmallTypes.ownedTupleIsFree
  refine wpAny_bind (wpAny_field zz rfl (x := f0) rfl ?_)
  rcases form with rfl | ⟨T, rfl⟩
  · exact wpAny_pure (hQ true s.heap _ _ zz (.inl rfl) (Heap.SameBut.refl _ _))
  · show wpAny _ _ (loadIfAlive ((T : Int).toNat) >>= _) _ _ _
    refine wpAny_bind (alive_look ?_)
    cases hT : s.heap.get? ((T : Int).toNat) with
    | none =>
      simp only [Option.isNone_none, if_true]
      exact wpAny_pure (hQ true s.heap _ _ zz (.inr ⟨T, rfl⟩) (Heap.SameBut.refl _ _))
    | some o =>
      simp only [Option.isNone_some, Bool.false_eq_true, if_false]
      refine wpAny_bind (wpAny_field zz rfl (x := .bool f1) rfl ?_)
      cases f1 with
      | true =>
        rw [if_neg (show ¬ ((Value.bool true != Value.bool true) = true) from Bool.false_ne_true)]
        exact wpAny_pure (hQ false s.heap _ _ zz (.inr ⟨T, rfl⟩) (Heap.SameBut.refl _ _))
      | false =>
        rw [if_pos (show (Value.bool false != Value.bool true) = true from rfl)]
        refine wpAny_bind (wpAny_setField_rec zz (by simp) fun g zg sg => wpAny_pure ?_)
        exact hQ false g _ true zg (.inr ⟨T, rfl⟩) sg

/-- one more pair -/
theorem zn_item {Q : Value → Shared → Prop} {a1 a2 : Value} (S : ZipSep2 z TI TO i1 i2 fp1 fp2) (D1 : Draws prog w A i1 fp1 n1 P1 St1) (D2 : Draws prog w A i2 fp2 n2 P2 St2)
    (hz : ZAny s.heap z TI TO) (hTI : IsTupOf2 s.heap TI (.ref i1) (.ref i2)) (hTO : IsTupOf2 s.heap TO a1 a2) (t1 : St1 i s.heap) (t2 : St2 i s.heap) (l1 : i < n1) (l2 : i < n2)
    (hQ : ∀ x1 x2 T g tk, P1 i x1 → P2 i x2 → ZAny g z TI TO → (∃ b1 b2, IsTupOf2 g TO b1 b2) → St1 (i + 1) g → St2 (i + 1) g → IsTupOf2 g T x1 x2 → s.heap.objs.size ≤ T →
      (∀ c o, c ≠ z → c ≠ TO → c ≠ i1 → c ≠ i2 → s.heap.get? c = some o → g.get? c = some o) → Q (.ref T) { s with heap := g, toks := tk }) :
    wpAny (model prog w) A (Builtin.«zip.__next__» ⟨[.ref z], []⟩) (fun fin s' => ∃ v, fin = .done (.ret v) ∧ Q v s') E s := by
  obtain ⟨hp, gn, dr, tk0, os⟩ := s
  obtain ⟨f0, f1, zz, form⟩ := id hz
  show wpAny _ _ (field (.ref z) 2 >>= _) _ _ _
  refine wpAny_bind (wpAny_field zz rfl (x := .bool false) rfl ?_)
  show wpAny _ _ (field (.ref z) 3 >>= _) _ _ _
  refine wpAny_bind (wpAny_field zz rfl (x := .ref TI) rfl ?_)
  refine wpAny_bind (wpAny_seqItems hTI rfl ?_)
  show wpAny _ _ (Builtin.SmallTypes.ownedTupleIsFree (.ref z) >>= _) _ _ _
  refine wpAny_bind (free_look hz fun b g e0 e1 ze forme sg => ?_)
  replace sg : Heap.SameBut z hp g := sg
  have hTO1 : IsTupOf2 g TO a1 a2 := sg.extBut _ _ S.TOz hTO
  have u1 : St1 i g := D1.over t1 sg S.zf1
  have u2 : St2 i g := D2.over t2 sg S.zf2
  cases b with
  | true =>
    simp only [if_true]
    refine wpAny_bind (wpAny_rule ?_)
    refine wpAny_bind (wpAny_field ze rfl (x := .ref TO) rfl ?_)
    refine wpAny_bind (wpAny_setField_rec ze (by simp) fun q0 zq0 sq0 => ?_)
    replace zq0 : ZF q0 z TI TO .ellipsis e1 := zq0
    replace sq0 : Heap.SameBut z g q0 := sq0
    refine wpAny_bind ?_
    simp only [List.zipIdx_cons, List.zipIdx_nil, List.forIn_cons, List.forIn_nil]
    refine wpAny_bind (wpAny_bind (wpAny_onRaise ?_))
    show wpAny _ _ (Builtin.SmallTypes.nextOf (.ref i1) >>= _) _ _ ⟨q0, gn, dr, tk0, os⟩
    refine wpAny_bind (D1.item i _ _ _ l1 (D1.over u1 sq0 S.zf1) fun x1 q1 tk1 hx1 sn1 sq1 => wpAny_pure ?_)
    replace sq1 : Heap.SameBut i1 q0 q1 := sq1
    have hU1 : IsTupOf2 q1 TO a1 a2 := sq1.extBut _ _ S.Ti1 (sq0.extBut _ _ S.TOz hTO1)
    refine wpAny_bind (wpAny_seqItems (s := ⟨q1, gn, dr, tk1, os⟩) hU1 rfl ?_)
    refine wpAny_bind (updateSeq_IsTupOf2 (s := ⟨q1, gn, dr, tk1, os⟩) hU1 fun q2 hT2 sq2 => ?_)
    replace hT2 : IsTupOf2 q2 TO x1 a2 := hT2
    replace sq2 : Heap.SameBut TO q1 q2 := sq2
    refine wpAny_bind (wpAny_letGo (wpAny_pure ?_))
    refine wpAny_bind (wpAny_bind (wpAny_onRaise ?_))
    show wpAny _ _ (Builtin.SmallTypes.nextOf (.ref i2) >>= _) _ _ ⟨q2, gn, dr, tk1, os⟩
    refine wpAny_bind (D2.item i _ _ _ l2 (D2.over (D2.over (D2.over u2 sq0 S.zf2) sq1 S.sep1_2) sq2 S.Tf2) fun x2 q3 tk2 hx2 sn2 sq3 => wpAny_pure ?_)
    replace sq3 : Heap.SameBut i2 q2 q3 := sq3
    have hU2 : IsTupOf2 q3 TO x1 a2 := sq3.extBut _ _ S.Ti2 hT2
    refine wpAny_bind (wpAny_seqItems (s := ⟨q3, gn, dr, tk2, os⟩) hU2 rfl ?_)
    refine wpAny_bind (updateSeq_IsTupOf2 (s := ⟨q3, gn, dr, tk2, os⟩) hU2 fun q4 hT4 sq4 => ?_)
    replace hT4 : IsTupOf2 q4 TO x1 x2 := hT4
    replace sq4 : Heap.SameBut TO q3 q4 := sq4
    refine wpAny_bind (wpAny_letGo (wpAny_pure (wpAny_pure ?_)))
    refine wpAny_bind (wpAny_seqItems (s := ⟨q4, gn, dr, tk2, os⟩) hT4 rfl ?_)
    refine wpAny_bind (wpAny_newTuple ?_)
    have hsz : q4.objs.size = hp.objs.size := by rw [sq4.1, sq3.1, sq2.1, sq1.1, sq0.1, sg.1]
    have zq4 : ZF q4 z TI TO .ellipsis e1 := sq4.extBut _ _ S.TOz.symm (sq3.extBut _ _ S.zi2 (sq2.extBut _ _ S.TOz.symm (sq1.extBut _ _ S.zi1 zq0)))
    have kk : ∀ c o, c ≠ z → c ≠ TO → c ≠ i1 → c ≠ i2 → hp.get? c = some o → q4.get? c = some o := fun c o cz cT c1 c2 e =>
      sq4.extBut _ _ cT (sq3.extBut _ _ c2 (sq2.extBut _ _ cT (sq1.extBut _ _ c1 (sq0.extBut _ _ cz (sg.extBut _ _ cz e)))))
    have j1 : St1 (i + 1) q4 := D1.over (D1.over (D1.over sn1 sq2 S.Tf1) sq3 S.sep2_1) sq4 S.Tf1
    have j2 : St2 (i + 1) q4 := D2.over sn2 sq4 S.Tf2
    have zlt : z < q4.objs.size := Heap.lt_size zq4
    show wpAny _ _ (Builtin.SmallTypes.ownedTupleHandOut (.ref z) (.ref q4.objs.size) >>= _) _ _ ⟨q4.push { cls := .type "tuple", data := .seq #[x1, x2] }, gn, dr, tk2, os⟩
    refine wpAny_bind ?_
    unfold Builtin.SmallTypes.ownedTupleHandOut
    have zq5 : ZF (q4.push { cls := .type "tuple", data := .seq #[x1, x2] }) z TI TO .ellipsis e1 := Heap.get?_push_of_some _ zq4
    refine wpAny_bind (wpAny_setField_rec zq5 (by simp) fun q6 zq6 sq6 => ?_)
    replace zq6 : ZF q6 z TI TO (rawInt q4.objs.size) e1 := zq6
    refine wpAny_setField_rec zq6 (by simp) fun q7 zq7 sq7 => ?_
    replace zq7 : ZF q7 z TI TO (rawInt q4.objs.size) false := zq7
    replace sq6 : Heap.SameBut z (q4.push { cls := .type "tuple", data := .seq #[x1, x2] }) q6 := sq6
    replace sq7 : Heap.SameBut z q6 q7 := sq7
    have up : ∀ c o, c ≠ z → q4.get? c = some o → q7.get? c = some o := fun c o c1 e => sq7.extBut _ _ c1 (sq6.extBut _ _ c1 (Heap.get?_push_of_some _ e))
    have hT7 : IsTupOf2 q7 q4.objs.size x1 x2 := sq7.extBut _ _ (Nat.ne_of_gt zlt) (sq6.extBut _ _ (Nat.ne_of_gt zlt) (Heap.get?_push_size _ rfl))
    refine wpAny_pure ⟨_, rfl, ?_⟩
    show Q (.ref q4.objs.size) ⟨q7, gn, dr, tk2, os⟩
    exact hQ x1 x2 _ q7 tk2 hx1 hx2 ⟨_, _, zq7, .inr ⟨_, rfl⟩⟩ ⟨x1, x2, up _ _ S.TOz hT4⟩ (D1.frame _ _ _ j1 fun b hb o e => up b o (fun q => S.zf1 (q ▸ hb)) e) (D2.frame _ _ _ j2 fun b hb o e => up b o (fun q => S.zf2 (q ▸ hb)) e)
      hT7 (Nat.le_of_eq hsz.symm) fun c o cz cT c1 c2 e => up c o cz (kk c o cz cT c1 c2 e)
  | false =>
    simp only [Bool.false_eq_true, if_false]
    refine wpAny_bind ?_
    rw [← Array.forIn_toList]
    simp only [List.forIn_cons, List.forIn_nil]
    refine wpAny_bind (wpAny_bind (wpAny_holding ?_))
    show wpAny _ _ (Builtin.SmallTypes.nextOf (.ref i1) >>= _) _ _ ⟨g, gn, dr, tk0, os⟩
    refine wpAny_bind (D1.item i _ _ _ l1 u1 fun x1 q1 tk1 hx1 sn1 sq1 => wpAny_pure ?_)
    replace sq1 : Heap.SameBut i1 g q1 := sq1
    refine wpAny_pure ?_
    refine wpAny_bind (wpAny_bind (wpAny_holding ?_))
    show wpAny _ _ (Builtin.SmallTypes.nextOf (.ref i2) >>= _) _ _ ⟨q1, gn, dr, tk1, os⟩
    refine wpAny_bind (D2.item i _ _ _ l2 (D2.over u2 sq1 S.sep1_2) fun x2 q2 tk2 hx2 sn2 sq2 => wpAny_pure ?_)
    replace sq2 : Heap.SameBut i2 q1 q2 := sq2
    refine wpAny_pure (wpAny_pure ?_)
    show wpAny _ _ (newTuple [x1, x2] >>= _) _ _ ⟨q2, gn, dr, tk2, os⟩
    refine wpAny_bind (wpAny_newTuple ?_)
    have hsz : q2.objs.size = hp.objs.size := by rw [sq2.1, sq1.1, sg.1]
    have zq : ZF q2 z TI TO e0 e1 := sq2.extBut _ _ S.zi2 (sq1.extBut _ _ S.zi1 ze)
    have kk : ∀ c o, c ≠ z → c ≠ TO → c ≠ i1 → c ≠ i2 → hp.get? c = some o → q2.get? c = some o := fun c o cz _ c1 c2 e =>
      sq2.extBut _ _ c2 (sq1.extBut _ _ c1 (sg.extBut _ _ cz e))
    have hTOq : IsTupOf2 q2 TO a1 a2 := sq2.extBut _ _ S.Ti2 (sq1.extBut _ _ S.Ti1 hTO1)
    have j1 : St1 (i + 1) q2 := D1.over sn1 sq2 S.sep2_1
    refine wpAny_pure ⟨_, rfl, ?_⟩
    show Q (.ref q2.objs.size) ⟨q2.push { cls := .type "tuple", data := .seq #[x1, x2] }, gn, dr, tk2, os⟩
    exact hQ x1 x2 _ _ tk2 hx1 hx2 ⟨_, _, Heap.get?_push_of_some _ zq, forme⟩ ⟨_, _, Heap.get?_push_of_some _ hTOq⟩ (D1.frame _ _ _ j1 fun b _ o e => Heap.get?_push_of_some _ e) (D2.frame _ _ _ sn2 fun b _ o e => Heap.get?_push_of_some _ e)
      (Heap.get?_push_size _ rfl) (Nat.le_of_eq hsz.symm) fun c o cz cT c1 c2 e => Heap.get?_push_of_some _ (kk c o cz cT c1 c2 e)

/-- the end -/
theorem zn_end {Q : PySem.Fin → Shared → Prop} {a1 a2 : Value} (S : ZipSep2 z TI TO i1 i2 fp1 fp2) (D1 : Draws prog w A i1 fp1 n1 P1 St1) (D2 : Draws prog w A i2 fp2 n2 P2 St2)
    (hz : ZAny s.heap z TI TO) (hTI : IsTupOf2 s.heap TI (.ref i1) (.ref i2)) (hTO : IsTupOf2 s.heap TO a1 a2) (t1 : St1 i s.heap) (t2 : St2 i s.heap) (e1 : i ≤ n1) (e2 : i ≤ n2) (he : i = n1 ∨ i = n2)
    (hE : ∀ g tk e, (∀ c o, c ≠ z → c ≠ TO → c ≠ i1 → c ≠ i2 → s.heap.get? c = some o → g.get? c = some o) → (∃ o, g.get? e = some o ∧ o.cls = .type "StopIteration") → E (.ref e) { s with heap := g, toks := tk }) :
    wpAny (model prog w) A (Builtin.«zip.__next__» ⟨[.ref z], []⟩) Q E s := by
  obtain ⟨hp, gn, dr, tk0, os⟩ := s
  obtain ⟨f0, f1, zz, form⟩ := id hz
  show wpAny _ _ (field (.ref z) 2 >>= _) _ _ _
  refine wpAny_bind (wpAny_field zz rfl (x := .bool false) rfl ?_)
  show wpAny _ _ (field (.ref z) 3 >>= _) _ _ _
  refine wpAny_bind (wpAny_field zz rfl (x := .ref TI) rfl ?_)
  refine wpAny_bind (wpAny_seqItems hTI rfl ?_)
  show wpAny _ _ (Builtin.SmallTypes.ownedTupleIsFree (.ref z) >>= _) _ _ _
  refine wpAny_bind (free_look hz fun b g d0 d1 ze forme sg => ?_)
  replace sg : Heap.SameBut z hp g := sg
  have hTO1 : IsTupOf2 g TO a1 a2 := sg.extBut _ _ S.TOz hTO
  have u1 : St1 i g := D1.over t1 sg S.zf1
  have u2 : St2 i g := D2.over t2 sg S.zf2
  cases b with
  | true =>
    simp only [if_true]
    refine wpAny_bind (wpAny_rule ?_)
    refine wpAny_bind (wpAny_field ze rfl (x := .ref TO) rfl ?_)
    refine wpAny_bind (wpAny_setField_rec ze (by simp) fun q0 zq0 sq0 => ?_)
    replace zq0 : ZF q0 z TI TO .ellipsis d1 := zq0
    replace sq0 : Heap.SameBut z g q0 := sq0
    refine wpAny_bind ?_
    simp only [List.zipIdx_cons, List.zipIdx_nil, List.forIn_cons, List.forIn_nil]
    refine wpAny_bind (wpAny_bind (wpAny_onRaise ?_))
    show wpAny _ _ (Builtin.SmallTypes.nextOf (.ref i1) >>= _) _ _ ⟨q0, gn, dr, tk0, os⟩
    by_cases l1 : i < n1
    · refine wpAny_bind (D1.item i _ _ _ l1 (D1.over u1 sq0 S.zf1) fun x1 q1 tk1 hx1 sn1 sq1 => wpAny_pure ?_)
      replace sq1 : Heap.SameBut i1 q0 q1 := sq1
      have hU1 : IsTupOf2 q1 TO a1 a2 := sq1.extBut _ _ S.Ti1 (sq0.extBut _ _ S.TOz hTO1)
      refine wpAny_bind (wpAny_seqItems (s := ⟨q1, gn, dr, tk1, os⟩) hU1 rfl ?_)
      refine wpAny_bind (updateSeq_IsTupOf2 (s := ⟨q1, gn, dr, tk1, os⟩) hU1 fun q2 hT2 sq2 => ?_)
      replace hT2 : IsTupOf2 q2 TO x1 a2 := hT2
      replace sq2 : Heap.SameBut TO q1 q2 := sq2
      refine wpAny_bind (wpAny_letGo (wpAny_pure ?_))
      have i2n : i = n2 := by omega
      refine wpAny_bind (wpAny_bind (wpAny_onRaise ?_))
      show wpAny _ _ (Builtin.SmallTypes.nextOf (.ref i2) >>= _) _ _ ⟨q2, gn, dr, tk1, os⟩
      refine wpAny_bind (D2.done ⟨q2, gn, dr, tk1, os⟩ _ _ (by rw [← i2n]; exact D2.over (D2.over (D2.over u2 sq0 S.zf2) sq1 S.sep1_2) sq2 S.Tf2) fun q e hq hs => ?_)
      replace hq : Heap.ExtBut i2 q2 q := hq
      obtain ⟨oe, hoe, hce⟩ := hs
      replace hoe : q.get? e = some oe := hoe
      have zq : ZF q z TI TO .ellipsis d1 := hq _ _ S.zi2 (sq2.extBut _ _ S.TOz.symm (sq1.extBut _ _ S.zi1 zq0))
      have hez : e ≠ z := fun x => by
        subst x
        rw [zq] at hoe
        cases hoe
        simp at hce
      refine wpAny_setField_rec (s := ⟨q, gn, dr, tk1, os⟩) zq (by simp) fun q' _ hq' => ?_
      replace hq' : Heap.SameBut z q q' := hq'
      exact hE q' tk1 e (fun c o cz cT c1 c2 x => hq'.extBut _ _ cz (hq _ _ c2 (sq2.extBut _ _ cT (sq1.extBut _ _ c1 (sq0.extBut _ _ cz (sg.extBut _ _ cz x)))))) ⟨oe, hq'.extBut _ _ hez hoe, hce⟩
    · have i1n : i = n1 := by omega
      refine wpAny_bind (D1.done ⟨q0, gn, dr, tk0, os⟩ _ _ (by rw [← i1n]; exact D1.over u1 sq0 S.zf1) fun q e hq hs => ?_)
      replace hq : Heap.ExtBut i1 q0 q := hq
      obtain ⟨oe, hoe, hce⟩ := hs
      replace hoe : q.get? e = some oe := hoe
      have zq : ZF q z TI TO .ellipsis d1 := hq _ _ S.zi1 zq0
      have hez : e ≠ z := fun x => by
        subst x
        rw [zq] at hoe
        cases hoe
        simp at hce
      refine wpAny_setField_rec (s := ⟨q, gn, dr, tk0, os⟩) zq (by simp) fun q' _ hq' => ?_
      replace hq' : Heap.SameBut z q q' := hq'
      exact hE q' tk0 e (fun c o cz cT c1 c2 x => hq'.extBut _ _ cz (hq _ _ c1 (sq0.extBut _ _ cz (sg.extBut _ _ cz x)))) ⟨oe, hq'.extBut _ _ hez hoe, hce⟩
  | false =>
    simp only [Bool.false_eq_true, if_false]
    refine wpAny_bind ?_
    rw [← Array.forIn_toList]
    simp only [List.forIn_cons, List.forIn_nil]
    refine wpAny_bind (wpAny_bind (wpAny_holding ?_))
    show wpAny _ _ (Builtin.SmallTypes.nextOf (.ref i1) >>= _) _ _ ⟨g, gn, dr, tk0, os⟩
    by_cases l1 : i < n1
    · refine wpAny_bind (D1.item i _ _ _ l1 u1 fun x1 q1 tk1 hx1 sn1 sq1 => wpAny_pure ?_)
      replace sq1 : Heap.SameBut i1 g q1 := sq1
      refine wpAny_pure ?_
      have i2n : i = n2 := by omega
      refine wpAny_bind (wpAny_bind (wpAny_holding ?_))
      show wpAny _ _ (Builtin.SmallTypes.nextOf (.ref i2) >>= _) _ _ ⟨q1, gn, dr, tk1, os⟩
      refine wpAny_bind (D2.done ⟨q1, gn, dr, tk1, os⟩ _ _ (by rw [← i2n]; exact D2.over u2 sq1 S.sep1_2) fun q e hq hs => ?_)
      replace hq : Heap.ExtBut i2 q1 q := hq
      exact hE q tk1 e (fun c o cz cT c1 c2 x => hq _ _ c2 (sq1.extBut _ _ c1 (sg.extBut _ _ cz x))) hs
    · have i1n : i = n1 := by omega
      refine wpAny_bind (D1.done ⟨g, gn, dr, tk0, os⟩ _ _ (by rw [← i1n]; exact u1) fun q e hq hs => ?_)
      replace hq : Heap.ExtBut i1 g q := hq
      exact hE q tk0 e (fun c o cz cT c1 c2 x => hq _ _ c1 (sg.extBut _ _ cz x)) hs

theorem zn_next {Q : Option Value → Shared → Prop} {a1 a2 : Value} (S : ZipSep2 z TI TO i1 i2 fp1 fp2) (D1 : Draws prog w A.in1 i1 fp1 n1 P1 St1) (D2 : Draws prog w A.in1 i2 fp2 n2 P2 St2)
    (hz : ZAny s.heap z TI TO) (hTI : IsTupOf2 s.heap TI (.ref i1) (.ref i2)) (hTO : IsTupOf2 s.heap TO a1 a2) (t1 : St1 i s.heap) (t2 : St2 i s.heap) (l1 : i < n1) (l2 : i < n2)
    (hQ : ∀ x1 x2 T g tk, P1 i x1 → P2 i x2 → ZAny g z TI TO → (∃ b1 b2, IsTupOf2 g TO b1 b2) → St1 (i + 1) g → St2 (i + 1) g → IsTupOf2 g T x1 x2 → s.heap.objs.size ≤ T →
      (∀ c o, c ≠ z → c ≠ TO → c ≠ i1 → c ≠ i2 → s.heap.get? c = some o → g.get? c = some o) → Q (some (.ref T)) { s with heap := g, toks := tk }) :
    wpAny (model prog w) A (pyNext (.ref z)) Q E s := by
  have hT : s.TypeIs (.ref z) "zip" := let ⟨_, _, zz, _⟩ := hz; ⟨_, zz, rfl⟩
  unfold pyNext
  exact wpAny_bind (wpAny_attempt (wpAny_callSpecial?_slot (name := Str.ofString "__next__") hT PySem.F.slot_zip_next
    (wpAny_call_entry PySem.F.slot_zip_next hT PySem.F.entry_zip_next
      (zn_item S D1 D2 hz hTI hTO t1 t2 l1 l2 fun x1 x2 T g tk y1 y2 b1 b2 d1 d2 b5 b6 b7 => wpAny_pure (hQ x1 x2 T g tk y1 y2 b1 b2 d1 d2 b5 b6 b7)) (PySem.F.args_zip_next_1 _))))
theorem zn_stop {Q : Option Value → Shared → Prop} {a1 a2 : Value} (S : ZipSep2 z TI TO i1 i2 fp1 fp2) (D1 : Draws prog w A.in1 i1 fp1 n1 P1 St1) (D2 : Draws prog w A.in1 i2 fp2 n2 P2 St2)
    (hz : ZAny s.heap z TI TO) (hTI : IsTupOf2 s.heap TI (.ref i1) (.ref i2)) (hTO : IsTupOf2 s.heap TO a1 a2) (t1 : St1 i s.heap) (t2 : St2 i s.heap) (e1 : i ≤ n1) (e2 : i ≤ n2) (he : i = n1 ∨ i = n2)
    (hQ : ∀ g tk, (∀ c o, c ≠ z → c ≠ TO → c ≠ i1 → c ≠ i2 → s.heap.get? c = some o → g.get? c = some o) → Q none { s with heap := g, toks := tk }) : wpAny (model prog w) A (pyNext (.ref z)) Q E s := by
  have hT : s.TypeIs (.ref z) "zip" := let ⟨_, _, zz, _⟩ := hz; ⟨_, zz, rfl⟩
  unfold pyNext
  refine wpAny_bind (wpAny_attempt (wpAny_callSpecial?_slot (name := Str.ofString "__next__") hT PySem.F.slot_zip_next
    (wpAny_call_entry PySem.F.slot_zip_next hT PySem.F.entry_zip_next (zn_end S D1 D2 hz hTI hTO t1 t2 e1 e2 he fun g tk e hk hs => ?_) (PySem.F.args_zip_next_1 _))))
  obtain ⟨o, ho, hc⟩ := hs
  refine wpAny_bind (wpAny_isInstance (T := "StopIteration") (b := true) ⟨o, ho, hc⟩ isSubtype_stop ?_)
  exact wpAny_pure (hQ _ _ hk)
end
end ZN

/-! ## Rules of our own, 2: walks over lists and tuples alike: enumerate, zip, list(zip) -/
namespace SQ
open PySem PySem.Spec PyProof.Rows L2 ZN

/-- a list (true) or a tuple (false) at a -/
def Sq (k : Bool) (K : PySem.W.Frag) (H : Hp) (a : Addr) (xs : List V) : Prop := match k with
  | true => SqL K H a xs
  | false => SqT K H a xs
def ItS (k : Bool) (h : Heap) (it a : Addr) (i : Nat) : Prop := match k with
  | true => h.IsListIter it a i
  | false => h.IsTupleIter it a i
def AtS (k : Bool) (h : Heap) (a : Addr) (its : Array Value) : Prop := match k with
  | true => h.IsList a its
  | false => h.IsTuple a its
def itO (k : Bool) (a : Addr) : Obj := match k with
  | true => { cls := .type "list_iterator", data := .fields #[.ref a, .int 0 0] }
  | false => { cls := .type "tuple_iterator", data := .fields #[.ref a, .int 0 0] }
theorem ItS.obj {k : Bool} {h : Heap} {it a : Addr} {i : Nat} (x : ItS k h it a i) : ∃ o vs, h.get? it = some o ∧ o.data = .fields vs := by
  cases k with
  | true => obtain ⟨o, e, _, d⟩ := (show h.IsListIter it a i from x); exact ⟨o, _, e, d⟩
  | false => obtain ⟨o, e, _, d⟩ := (show h.IsTupleIter it a i from x); exact ⟨o, _, e, d⟩
theorem ItS.at {k : Bool} {h h' : Heap} {it a : Addr} {i : Nat} (x : ItS k h it a i) (q : ∀ o, h.get? it = some o → h'.get? it = some o) : ItS k h' it a i := by
  cases k with
  | true => exact (show h.IsListIter it a i from x).at q
  | false => exact (show h.IsTupleIter it a i from x).at q
theorem AtS.at {k : Bool} {h h' : Heap} {a : Addr} {its : Array Value} (x : AtS k h a its) (q : ∀ o, h.get? a = some o → h'.get? a = some o) : AtS k h' a its := by
  cases k with
  | true => exact (show h.IsList a its from x).at q
  | false => exact (show h.IsTuple a its from x).at q
theorem AtS.lt {k : Bool} {h : Heap} {a : Addr} {its : Array Value} (x : AtS k h a its) : a < h.objs.size := by
  cases k with
  | true => obtain ⟨_, e, _⟩ := (show h.IsList a its from x); exact Heap.lt_size e
  | false => obtain ⟨_, e, _⟩ := (show h.IsTuple a its from x); exact Heap.lt_size e
theorem itS_new {k : Bool} {h : Heap} {it a : Addr} (e : h.get? it = some (itO k a)) : ItS k h it a 0 := by
  cases k with
  | true => exact ⟨_, e, rfl, rfl⟩
  | false => exact ⟨_, e, rfl, rfl⟩
theorem draws_s (k : Bool) {P : Program} {w : World} {A : Around} (hh : A.handled = none) (it a : Addr) (ne : a ≠ it) (its : Array Value) :
    Draws P w A it [it, a] its.size (fun i v => its[i]? = some v) (fun i h => ItS k h it a i ∧ AtS k h a its) := by
  cases k with
  | true => exact Draws.list hh it a ne its
  | false => exact Draws.tuple hh it a ne its
theorem begins_s (k : Bool) (a : Addr) (its : Array Value) : Begins (.ref a) (itO k a) fun h => AtS k h a its := by
  cases k with
  | true => exact begins_list a its
  | false => exact begins_tuple a its
section
variable {X : Cx} {pins : List (Addr × Obj)} {σ : L2.St} {H : Hp} {s : Shared} {a : Addr} {xs ys : List V} {k : Bool}
theorem inv_sq (I : Inv X pins σ H s) (h : Sq k X.K H a xs) : ∃ its : List Value, Vals xs its ∧ AtS k s.heap a its.toArray ∧ xs.length ≤ sizeLine := by
  cases k with
  | true =>
    obtain ⟨its, r, p, z⟩ := I.list h
    exact ⟨its, r, p.isList, z⟩
  | false =>
    obtain ⟨its, r, p, z⟩ := I.tuple h
    exact ⟨its, r, show s.heap.IsTuple a its.toArray from p, z⟩
theorem sq_inj (I : Inv X pins σ H s) (h : Sq k X.K H a xs) (h' : Sq k X.K H a ys) : xs = ys := by
  cases k with
  | true => exact I.list_inj h h'
  | false => exact I.tuple_inj h h'
end

/-! ### enumerate -/
def JE (K : PySem.W.Frag) (k : Bool) (a : Addr) : It :=
  ⟨fun i H => ∃ (xs : List V) (x : V), Sq k K H a xs ∧ xs[i]? = some x,
    fun i H v H' => ∃ T x, v = .ref T ∧ H T = none ∧ H' = upd H T (.tup [.int (i : Nat), x]) ∧ ∀ xs, Sq k K H a xs → xs[i]? = some x,
    fun i H => ∃ xs : List V, Sq k K H a xs ∧ xs.length = i⟩
theorem turn_E {P : Program} {w : World} {K : PySem.W.Frag} {elts : List Expr} {kk : Nat} {tpos : Pos} (k : Bool) (a e it : Addr) :
    Turn P w K (.Tuple elts kk tpos) (JE K k a) [e, it] e (fun i h => (∃ old, IsEnum h e it ((i : Nat) : Int) old) ∧ ItS k h it a i ∧ e ≠ it ∧ a ≠ it ∧ a ≠ e) where
  mem := by simp
  obj := fun i h st b hb => by
    obtain ⟨⟨old, he⟩, hi, _⟩ := st
    have e' : b = e ∨ b = it := by simpa using hb
    rcases e' with z | z
    · rw [z]; exact ⟨_, he, fun v q => nomatch q⟩
    · rw [z]
      obtain ⟨o, vs, ho, hd⟩ := hi.obj
      exact ⟨o, ho, fun v q => by rw [hd] at q; cases q⟩
  keep := fun i h h' st q => let ⟨⟨old, he⟩, hi, r⟩ := st; ⟨⟨old, q e (by simp) _ he⟩, hi.at fun o z => q it (by simp) o z, r⟩
  item := by
    intro X hP hw hK hc i pins s σ H E I hf st hg
    subst hP hw hK
    obtain ⟨⟨old, he⟩, hi, n1, n2, n3⟩ := st
    obtain ⟨xs, x, hq, hx⟩ := hg
    obtain ⟨its, rv, p, hz⟩ := inv_sq I hq
    obtain ⟨u, hu, ru⟩ := rv.get hx
    have hsz : i < its.toArray.size := by
      have := (List.getElem?_eq_some_iff.mp hu).1
      simpa using this
    have D := draws_s (P := X.prog) (w := X.w) (A := X.A.in1) k (I.ok.hd hc) it a n2 its.toArray
    have W := GoesN.enumFrom (elts := elts) (x1 := kk) (pos := tpos) 0 D e n1 (by simp [n1, Ne.symm n3]) (by simp)
    have e0 : (0 : Int) + (i : Int) = (i : Int) := Int.zero_add _
    refine wpAny_mono (W.goes i s (fun v s2 => ∃ x H', Inv X pins σ H' s2 ∧ RelV x v ∧ (JE X.K k a).yld i H x H' ∧ ((∃ old, IsEnum s2.heap e it (((i + 1 : Nat) : Nat) : Int) old) ∧ ItS k s2.heap it a (i + 1) ∧ e ≠ it ∧ a ≠ it ∧ a ≠ e) ∧ ∀ b ∈ [e, it], H' b = none) E hsz ⟨⟨old, by rw [e0]; exact he⟩, hi, p⟩ fun v h' tk hY st' hk _ => ?_) (fun _ _ z => z) fun _ _ z => z
    obtain ⟨T, t, y, rfl, hT, hy, htup⟩ := hY
    obtain ⟨⟨old2, he2⟩, hi2, _⟩ := st'
    have ey : y = u := by
      have h1 : its.toArray[i]? = some u := by simpa using hu
      rw [h1] at hy
      exact (Option.some.inj hy).symm
    subst ey
    rw [e0] at htup
    have new : ObjOk X.prog X.w (upd H T (.tup [.int (i : Nat), x])) h' T (.tup [.int (i : Nat), x]) :=
      ⟨by show 2 ≤ sizeLine; decide, [.int i t, y], .cons ⟨_, rfl⟩ (.cons ru .nil), htup⟩
    have I1 : Inv X pins σ (upd H T (.tup [.int (i : Nat), x])) { s with heap := h', toks := tk } := I.turnedNew (ch := [e, it]) (fun b ob hb q => hk b ob hb q) hf hT new
    refine ⟨.ref T, _, I1, rfl, ⟨T, x, rfl, I.hok.fresh hT, rfl, fun ys hy2 => by rw [sq_inj I hy2 hq]; exact hx⟩, ⟨⟨old2, ?_⟩, hi2, n1, n2, n3⟩, fun b hb => ?_⟩
    · have e1 : ((i + 1 : Nat) : Int) = 0 + ((i + 1 : Nat) : Int) := (Int.zero_add _).symm
      rw [e1]; exact he2
    · have hlt : b < s.heap.objs.size := by
        have e' : b = e ∨ b = it := by simpa using hb
        rcases e' with z | z
        · rw [z]; exact Heap.lt_size he
        · rw [z]
          obtain ⟨o, vs, ho, _⟩ := hi.obj
          exact Heap.lt_size ho
      rw [upd_ne (Nat.ne_of_lt (Nat.lt_of_lt_of_le hlt hT))]
      exact (hf b hb).1
  done := by
    intro X hP hw hK hc i pins s σ H E I hf st hg
    subst hP hw hK
    obtain ⟨⟨old, he⟩, hi, n1, n2, n3⟩ := st
    obtain ⟨xs, hq, hx⟩ := hg
    obtain ⟨its, rv, p, hz⟩ := inv_sq I hq
    have D := draws_s (P := X.prog) (w := X.w) (A := X.A.in1) k (I.ok.hd hc) it a n2 its.toArray
    have W := GoesN.enumFrom (elts := elts) (x1 := kk) (pos := tpos) 0 D e n1 (by simp [n1, Ne.symm n3]) (by simp)
    have hsz : its.toArray.size = i := by rw [List.size_toArray, ← rv.length, hx]
    have e0 : (0 : Int) + (i : Int) = (i : Int) := Int.zero_add _
    refine W.stops s _ E (by rw [hsz]; exact ⟨⟨old, by rw [e0]; exact he⟩, hi, p⟩) fun h' tk hk _ => I.turnedL (ch := [e, it]) (fun b o hb q => hk b o hb q) hf
  self := fun A i s Q E st h => let ⟨⟨_, he⟩, _⟩ := st; wpAny_pyIter_enum he h

set_option maxHeartbeats 1000000 in
theorem meets_enum1 {v : Value} {o : Obj} {B : Heap → Prop} (b : Begins v o B) :
    Meets (Builtin.«enumerate.__new__» ⟨[.type "enumerate", v], []⟩) (fun _ R s => B s.heap ∧
      R (.ok (.ret (.ref (s.heap.push o).objs.size))) { s with heap := (s.heap.push o).push { cls := .type "enumerate", data := .fields #[.none, .bool false, .ref s.heap.objs.size, rawInt 0, .none, .none] } }) :=
  .of_wp fun prog w A R s h => by
    obtain ⟨hp, g, d, tk, os⟩ := s; obtain ⟨h1, h⟩ := h
    have hsub := sub_enumerate
    have q1 : ∀ {A' : Around} {E : Value → Shared → Prop} {Q : Value → Shared → Prop}, Q (.ref hp.objs.size) ⟨hp.push o, g, d, tk, os⟩ → wpAny (model prog w) A' (pyIter v) Q E ⟨hp, g, d, tk, os⟩ :=
      fun q => b.iter prog w _ _ ⟨hp, g, d, tk, os⟩ _ h1 q
    wp_walk using q1
    refine wpAny_stack_any fun st => wpAny_pure ?_
    split
    · rename_i c _ _ _ _ _
      cases (c == Value.type "enumerate")
      · wp_walk using q1
        exact ⟨_, rfl, h⟩
      · wp_walk using q1
        exact ⟨_, rfl, h⟩
    · wp_walk using q1
      exact ⟨_, rfl, h⟩
theorem call_enum1 {prog : Program} {w : World} {A : Around} {E : Value → Shared → Prop} {s : Shared} {v : Value} {o : Obj} {B : Heap → Prop} {Q : Value → Shared → Prop} (b : Begins v o B) (h1 : B s.heap)
    (h : ∀ h', IsEnum h' (s.heap.objs.size + 1) s.heap.objs.size 0 .none → h'.get? s.heap.objs.size = some o → (∀ c x, s.heap.get? c = some x → h'.get? c = some x) → Q (.ref (s.heap.objs.size + 1)) { s with heap := h' }) :
    wpAny (model prog w) A (call (.type "enumerate") [v]) Q E s := by
  refine callType_new PySem.F.called_enumerate (by decide) (PySem.F.typeCall_enumerate_1 _) (PySem.F.newCall_enumerate_1 _) (fun obj => PySem.F.args_object_init_2 obj _) PySem.F.entry_enumerate_new (meets_enum1 b) ⟨h1, ?_⟩
  have hz : (s.heap.push o).objs.size = s.heap.objs.size + 1 := Heap.size_push ..
  show _ ∧ _
  rw [hz]
  have he : IsEnum ((s.heap.push o).push { cls := .type "enumerate", data := .fields #[.none, .bool false, .ref s.heap.objs.size, rawInt 0, .none, .none] }) (s.heap.objs.size + 1) s.heap.objs.size 0 .none := by
    have := Heap.get?_push_size (s.heap.push o) (o := { cls := .type "enumerate", data := .fields #[.none, .bool false, .ref s.heap.objs.size, rawInt 0, .none, .none] }) rfl
    rw [hz] at this
    exact this
  exact ⟨⟨_, he, rfl⟩, h _ he (Heap.get?_push_of_some _ (Heap.get?_push_size _ b.free)) fun c x e => Heap.get?_push_of_some _ (Heap.get?_push_of_some _ e)⟩
def iE (K : PySem.W.Frag) (ta : TA) : TI := fun σ H R => ta σ H fun vs H1 => ∃ k a xs, vs = [.ref a] ∧ Sq k K H1 a xs ∧ R (JE K k a) H1
theorem pi_E {X : Cx} {e : Expr} {ta : TA} {p pos tpos : Pos} {elts : List Expr} {kk : Nat} (hg : Gl X "enumerate") (hm : X.mg "enumerate" = none) (ha : PA X [e] ta) (hs : starEach [e] X.env = [(false, eval e X.env)] := by rfl) :
    PI X (.Tuple elts kk tpos) (.Call (.Name "enumerate" p) [e] [] pos) (iE X.K ta) := by
  refine ⟨fun pins s σ H R I h => ?_⟩
  refine Call_ (ld_blt I hg hm boot_enumerate (PyProof.Rows.callWith_type1 (thn (ha.run pos pins s σ H _ I h) fun us s1 ⟨vs, H1, I1, r1, q1⟩ => ?_) hs rfl))
  obtain ⟨k, a, xs, ex, hq, q⟩ := q1
  subst ex
  obtain rfl := r1.ref1
  obtain ⟨its, rv, p', hz⟩ := inv_sq I1 hq
  have la := p'.lt
  refine call_enum1 (begins_s k a its.toArray) p' fun h' he hi hk => wpAny_pyIter_enum he ?_
  have I2 : Inv X pins σ H1 { s1 with heap := h' } := I1.kept (t' := s1.toks) hk
  refine ⟨s1.heap.objs.size + 1, [s1.heap.objs.size + 1, s1.heap.objs.size], _, _, H1, rfl, I2, turn_E k a (s1.heap.objs.size + 1) s1.heap.objs.size, ⟨⟨.none, he⟩, itS_new hi, Nat.succ_ne_self _, Nat.ne_of_lt la, Nat.ne_of_lt (Nat.lt_succ_of_lt la)⟩, fun b hb => ?_, q⟩
  have e' : b = s1.heap.objs.size + 1 ∨ b = s1.heap.objs.size := by simpa using hb
  have hle : s1.heap.objs.size ≤ b := by
    rcases e' with z | z
    · rw [z]; exact Nat.le_add_right _ _
    · rw [z]; exact Nat.le_refl _
  exact I1.fpOk hle (I1.hok.fresh hle)
theorem walk_E {K : PySem.W.Frag} {k : Bool} {a : Addr} {xs : List V} : Walk (JE K k a) xs.length (fun H => Sq k K H a xs) (YPair (fun i => some (.int (i : Nat))) (fun i => xs[i]?)) := by
  refine ⟨fun i _ hi q => ⟨xs, xs[i], q, by simp [hi]⟩, fun _ q => ⟨xs, q, rfl⟩, fun i H v H' _ q y => ?_⟩
  obtain ⟨T, x, h1, h2, h3, h4⟩ := y
  exact ⟨T, .int (i : Nat), x, h1, h2, h3, rfl, h4 xs q⟩

/-! ### zip -/
def JZ (K : PySem.W.Frag) (k1 k2 : Bool) (a b : Addr) : It :=
  ⟨fun i H => ∃ (xs ys : List V) (x y : V), Sq k1 K H a xs ∧ Sq k2 K H b ys ∧ xs[i]? = some x ∧ ys[i]? = some y,
    fun i H v H' => ∃ T x y, v = .ref T ∧ H T = none ∧ H' = upd H T (.tup [x, y]) ∧ (∀ xs, Sq k1 K H a xs → xs[i]? = some x) ∧ ∀ ys, Sq k2 K H b ys → ys[i]? = some y,
    fun i H => ∃ xs ys : List V, Sq k1 K H a xs ∧ Sq k2 K H b ys ∧ min xs.length ys.length = i⟩
/-- the cells of a zip over what stands at a and b -/
def ZC (z TI TO i1 i2 a b : Addr) : Prop := ZipSep2 z TI TO i1 i2 [i1, a] [i2, b] ∧ a ≠ i1 ∧ b ≠ i2
def ZSt (k1 k2 : Bool) (z TI TO i1 i2 a b : Addr) (i : Nat) (h : Heap) : Prop :=
  ZAny h z TI TO ∧ IsTupOf2 h TI (.ref i1) (.ref i2) ∧ (∃ x y, IsTupOf2 h TO x y) ∧ ItS k1 h i1 a i ∧ ItS k2 h i2 b i
theorem ZSt.obj {k1 k2 : Bool} {z TI TO i1 i2 a b : Addr} {i : Nat} {h : Heap} (st : ZSt k1 k2 z TI TO i1 i2 a b i h) : ∀ c ∈ [z, TI, TO, i1, i2], ∃ o, h.get? c = some o ∧ ∀ v, o.data ≠ .cell v := fun c hc => by
  obtain ⟨⟨f0, f1, hz, _⟩, hTI, ⟨x, y, hTO⟩, h1, h2⟩ := st
  have e' : c = z ∨ c = TI ∨ c = TO ∨ c = i1 ∨ c = i2 := by simpa using hc
  rcases e' with q | q | q | q | q
  · rw [q]; exact ⟨_, hz, fun v q => nomatch q⟩
  · rw [q]; exact ⟨_, hTI, fun v q => nomatch q⟩
  · rw [q]; exact ⟨_, hTO, fun v q => nomatch q⟩
  · rw [q]
    obtain ⟨o, vs, ho, hd⟩ := h1.obj
    exact ⟨o, ho, fun v q => by rw [hd] at q; cases q⟩
  · rw [q]
    obtain ⟨o, vs, ho, hd⟩ := h2.obj
    exact ⟨o, ho, fun v q => by rw [hd] at q; cases q⟩
theorem ZSt.keep {k1 k2 : Bool} {z TI TO i1 i2 a b : Addr} {i : Nat} {h h' : Heap} (st : ZSt k1 k2 z TI TO i1 i2 a b i h) (q : ∀ c ∈ [z, TI, TO, i1, i2], ∀ o, h.get? c = some o → h'.get? c = some o) : ZSt k1 k2 z TI TO i1 i2 a b i h' := by
  obtain ⟨hz, hTI, ⟨x, y, hTO⟩, h1, h2⟩ := st
  exact ⟨hz.at fun o e => q z (by simp) o e, q TI (by simp) _ hTI, ⟨x, y, q TO (by simp) _ hTO⟩, h1.at fun o e => q i1 (by simp) o e, h2.at fun o e => q i2 (by simp) o e⟩
theorem zst_iter {k1 k2 : Bool} {z TI TO i1 i2 a b : Addr} {i : Nat} {P : Program} {w : World} {A : Around} {s : Shared} {Q : Value → Shared → Prop} {E : Value → Shared → Prop} (st : ZSt k1 k2 z TI TO i1 i2 a b i s.heap) (h : Q (.ref z) s) : wpAny (model P w) A (pyIter (.ref z)) Q E s := by
  obtain ⟨⟨f0, f1, hz, _⟩, _⟩ := st
  have hT : s.TypeIs (.ref z) "zip" := ⟨_, hz, rfl⟩
  refine wpAny_pyIter_slot hT PySem.F.slot_zip_iter (wpAny_call_entry PySem.F.slot_zip_iter hT PySem.F.entry_zip_iter ?_ (PySem.F.args_zip_iter_1 _))
  show wpAny _ _ (ret (.ref z)) _ _ s
  exact wpAny_pure ⟨_, rfl, "zip", _, hT, PySem.F.slot_zip_next.lookup, h⟩
/-- one pair more, over the abstract heap; tg a name -/
theorem z_step {X : Cx} {pins : List (Addr × Obj)} {σ : L2.St} {H : Hp} {s : Shared} {E : Value → Shared → Prop} {A : Around} {k1 k2 : Bool} {z TI TO i1 i2 a b : Addr} {i : Nat} {xs ys : List V} {x y : V} {Q : Option Value → Shared → Prop} (hA : A.handled = none)
    (Z : ZC z TI TO i1 i2 a b) (I : Inv X pins σ H s) (hf : ∀ c ∈ [z, TI, TO, i1, i2], FpOk X pins H c) (st : ZSt k1 k2 z TI TO i1 i2 a b i s.heap) (h1 : Sq k1 X.K H a xs) (h2 : Sq k2 X.K H b ys) (hx : xs[i]? = some x) (hy : ys[i]? = some y)
    (hQ : ∀ T s2, Inv X pins σ (upd H T (.tup [x, y])) s2 → H T = none → ZSt k1 k2 z TI TO i1 i2 a b (i + 1) s2.heap → (∀ c ∈ [z, TI, TO, i1, i2], upd H T (.tup [x, y]) c = none) → Q (some (.ref T)) s2) :
    wpAny (model X.prog X.w) A (pyNext (.ref z)) Q E s := by
  obtain ⟨S, na, nb⟩ := Z
  obtain ⟨hz, hTI, ⟨x0, y0, hTO⟩, t1, t2⟩ := id st
  obtain ⟨its, rv, p1, _⟩ := inv_sq I h1
  obtain ⟨its2, rv2, p2, _⟩ := inv_sq I h2
  obtain ⟨u, hu, ru⟩ := rv.get hx
  obtain ⟨u2, hu2, ru2⟩ := rv2.get hy
  have D1 := draws_s (P := X.prog) (w := X.w) (A := A.in1) k1 hA i1 a na its.toArray
  have D2 := draws_s (P := X.prog) (w := X.w) (A := A.in1) k2 hA i2 b nb its2.toArray
  have l1 : i < its.toArray.size := by
    have := (List.getElem?_eq_some_iff.mp hu).1
    simpa using this
  have l2 : i < its2.toArray.size := by
    have := (List.getElem?_eq_some_iff.mp hu2).1
    simpa using this
  refine zn_next S D1 D2 hz hTI hTO ⟨t1, p1⟩ ⟨t2, p2⟩ l1 l2 fun v1 v2 T g tk e1 e2 zg og s1 s2 hT hle hk => ?_
  have ev1 : v1 = u := by
    have q : its.toArray[i]? = some u := by simpa using hu
    rw [q] at e1
    exact (Option.some.inj e1).symm
  have ev2 : v2 = u2 := by
    have q : its2.toArray[i]? = some u2 := by simpa using hu2
    rw [q] at e2
    exact (Option.some.inj e2).symm
  subst ev1 ev2
  have new : ObjOk X.prog X.w (upd H T (.tup [x, y])) g T (.tup [x, y]) := ⟨by show 2 ≤ sizeLine; decide, [v1, v2], .cons ru (.cons ru2 .nil), ⟨_, hT, rfl, _, rfl⟩⟩
  have I1 : Inv X pins σ (upd H T (.tup [x, y])) { s with heap := g, toks := tk } :=
    I.turnedNew (ch := [z, TI, TO, i1, i2]) (fun c o hb q => hk c o (fun e => hb (by simp [e])) (fun e => hb (by simp [e])) (fun e => hb (by simp [e])) (fun e => hb (by simp [e])) q) hf hle new
  refine hQ T _ I1 (I.hok.fresh hle) ⟨zg, ?_, og, s1.1, s2.1⟩ fun c hc => ?_
  · exact hk TI _ S.TIz S.TITO S.TIi1 S.TIi2 hTI
  · have hlt : c < s.heap.objs.size := by
      obtain ⟨o, ho, _⟩ := st.obj c hc
      exact Heap.lt_size ho
    rw [upd_ne (Nat.ne_of_lt (Nat.lt_of_lt_of_le hlt hle))]
    exact (hf c hc).1
theorem z_stop {X : Cx} {pins : List (Addr × Obj)} {σ : L2.St} {H : Hp} {s : Shared} {E : Value → Shared → Prop} {A : Around} {k1 k2 : Bool} {z TI TO i1 i2 a b : Addr} {xs ys : List V} {Q : Option Value → Shared → Prop} (hA : A.handled = none)
    (Z : ZC z TI TO i1 i2 a b) (I : Inv X pins σ H s) (hf : ∀ c ∈ [z, TI, TO, i1, i2], FpOk X pins H c) (st : ZSt k1 k2 z TI TO i1 i2 a b (min xs.length ys.length) s.heap) (h1 : Sq k1 X.K H a xs) (h2 : Sq k2 X.K H b ys)
    (hQ : ∀ s2, Inv X pins σ H s2 → Q none s2) : wpAny (model X.prog X.w) A (pyNext (.ref z)) Q E s := by
  obtain ⟨S, na, nb⟩ := Z
  obtain ⟨hz, hTI, ⟨x0, y0, hTO⟩, t1, t2⟩ := id st
  obtain ⟨its, rv, p1, _⟩ := inv_sq I h1
  obtain ⟨its2, rv2, p2, _⟩ := inv_sq I h2
  have D1 := draws_s (P := X.prog) (w := X.w) (A := A.in1) k1 hA i1 a na its.toArray
  have D2 := draws_s (P := X.prog) (w := X.w) (A := A.in1) k2 hA i2 b nb its2.toArray
  have q1 : its.toArray.size = xs.length := by rw [List.size_toArray, ← rv.length]
  have q2 : its2.toArray.size = ys.length := by rw [List.size_toArray, ← rv2.length]
  refine zn_stop S D1 D2 hz hTI hTO ⟨t1, p1⟩ ⟨t2, p2⟩ (by omega) (by omega) (by omega) fun g tk hk => ?_
  exact hQ _ (I.turnedL (ch := [z, TI, TO, i1, i2]) (fun c o hb q => hk c o (fun e => hb (by simp [e])) (fun e => hb (by simp [e])) (fun e => hb (by simp [e])) (fun e => hb (by simp [e])) q) hf)
theorem turn_ZN {P : Program} {w : World} {K : PySem.W.Frag} {nm : Str} {tp : Pos} {k1 k2 : Bool} {z TI TO i1 i2 a b : Addr} (Z : ZC z TI TO i1 i2 a b) :
    Turn P w K (.Name nm tp) (JZ K k1 k2 a b) [z, TI, TO, i1, i2] z (ZSt k1 k2 z TI TO i1 i2 a b) where
  mem := by simp
  obj := fun i h st => st.obj
  keep := fun i h h' st q => st.keep q
  item := by
    intro X hP hw hK hc i pins s σ H E I hf st hg
    subst hP hw hK
    obtain ⟨xs, ys, x, y, h1, h2, hx, hy⟩ := hg
    refine z_step (I.ok.hd hc) Z I hf st h1 h2 hx hy fun T s2 I2 hT st2 hn => ⟨.ref T, rfl, wpAny_pure ⟨.ref T, _, I2, rfl, ⟨T, x, y, rfl, hT, rfl, fun l hl => ?_, fun l hl => ?_⟩, st2, hn⟩⟩
    · rw [sq_inj I hl h1]; exact hx
    · rw [sq_inj I hl h2]; exact hy
  done := by
    intro X hP hw hK hc i pins s σ H E I hf st hg
    subst hP hw hK
    obtain ⟨xs, ys, h1, h2, e⟩ := hg
    subst e
    exact z_stop (I.ok.hd hc) Z I hf st h1 h2 fun s2 I2 => ⟨rfl, I2⟩
  self := fun A i s Q E st h => zst_iter st h
/-- with a tuple as the target the pair is let go at once: here its state is kept as the library's own rule tells it -/
def ZSu (k1 k2 : Bool) (z TI TO i1 i2 a b : Addr) (i : Nat) (h : Heap) : Prop :=
  IsZip h z TI TO .none ∧ IsTupOf2 h TI (.ref i1) (.ref i2) ∧ (∃ x y, IsTupOf2 h TO x y) ∧ ItS k1 h i1 a i ∧ ItS k2 h i2 b i
theorem ZSu.any {k1 k2 : Bool} {z TI TO i1 i2 a b : Addr} {i : Nat} {h : Heap} (st : ZSu k1 k2 z TI TO i1 i2 a b i h) : ZSt k1 k2 z TI TO i1 i2 a b i h :=
  let ⟨hz, r⟩ := st
  ⟨⟨_, _, hz, .inl rfl⟩, r⟩
theorem turn_ZT {P : Program} {w : World} {K : PySem.W.Frag} {elts : List Expr} {kk : Nat} {tpos : Pos} {k1 k2 : Bool} {z TI TO i1 i2 a b : Addr} (Z : ZC z TI TO i1 i2 a b) :
    Turn P w K (.Tuple elts kk tpos) (JZ K k1 k2 a b) [z, TI, TO, i1, i2] z (ZSu k1 k2 z TI TO i1 i2 a b) where
  mem := by simp
  obj := fun i h st => st.any.obj
  keep := fun i h h' st q => by
    obtain ⟨hz, hTI, ⟨x, y, hTO⟩, h1, h2⟩ := st
    exact ⟨q z (by simp) _ hz, q TI (by simp) _ hTI, ⟨x, y, q TO (by simp) _ hTO⟩, h1.at fun o e => q i1 (by simp) o e, h2.at fun o e => q i2 (by simp) o e⟩
  item := by
    intro X hP hw hK hc i pins s σ H E I hf st hg
    subst hP hw hK
    obtain ⟨S, na, nb⟩ := id Z
    obtain ⟨hz, hTI, hTO, t1, t2⟩ := id st
    obtain ⟨xs, ys, x, y, h1, h2, hx, hy⟩ := hg
    obtain ⟨its, rv, p1, _⟩ := inv_sq I h1
    obtain ⟨its2, rv2, p2, _⟩ := inv_sq I h2
    obtain ⟨u, hu, ru⟩ := rv.get hx
    obtain ⟨u2, hu2, ru2⟩ := rv2.get hy
    have D1 := draws_s (P := X.prog) (w := X.w) (A := X.A.in1) k1 (I.ok.hd hc) i1 a na its.toArray
    have D2 := draws_s (P := X.prog) (w := X.w) (A := X.A.in1) k2 (I.ok.hd hc) i2 b nb its2.toArray
    have W := GoesN.zip2 (elts := elts) (x1 := kk) (pos := tpos) S D1 D2
    have l1 : i < its.toArray.size := by
      have := (List.getElem?_eq_some_iff.mp hu).1
      simpa using this
    have l2 : i < its2.toArray.size := by
      have := (List.getElem?_eq_some_iff.mp hu2).1
      simpa using this
    refine W.goes i s (fun v s2 => ∃ x H', Inv X pins σ H' s2 ∧ RelV x v ∧ (JZ X.K k1 k2 a b).yld i H x H' ∧ ZSu k1 k2 z TI TO i1 i2 a b (i + 1) s2.heap ∧ ∀ c ∈ [z, TI, TO, i1, i2], H' c = none) E (by omega) ⟨hz, hTI, hTO, ⟨t1, p1⟩, ⟨t2, p2⟩⟩ fun v g tk hY st' hk _ => ?_
    obtain ⟨T, v1, v2, rfl, hle, e1, e2, hT⟩ := hY
    obtain ⟨zg, tig, og, s1, s2⟩ := st'
    have ev1 : v1 = u := by
      have q : its.toArray[i]? = some u := by simpa using hu
      rw [q] at e1
      exact (Option.some.inj e1).symm
    have ev2 : v2 = u2 := by
      have q : its2.toArray[i]? = some u2 := by simpa using hu2
      rw [q] at e2
      exact (Option.some.inj e2).symm
    subst ev1 ev2
    have new : ObjOk X.prog X.w (upd H T (.tup [x, y])) g T (.tup [x, y]) := ⟨by show 2 ≤ sizeLine; decide, [v1, v2], .cons ru (.cons ru2 .nil), hT⟩
    have I1 : Inv X pins σ (upd H T (.tup [x, y])) { s with heap := g, toks := tk } :=
      I.turnedNew (ch := [z, TI, TO, i1, i2]) (fun c o hb q => hk c o (fun e => hb (by
        have e' : c = z ∨ c = TO ∨ c = i1 ∨ c = i2 := by simpa using e
        rcases e' with q | q | q | q <;> simp [q])) q) hf hle new
    refine ⟨.ref T, _, I1, rfl, ⟨T, x, y, rfl, I.hok.fresh hle, rfl, fun l hl => ?_, fun l hl => ?_⟩, ⟨zg, tig, og, s1.1, s2.1⟩, fun c hc => ?_⟩
    · rw [sq_inj I hl h1]; exact hx
    · rw [sq_inj I hl h2]; exact hy
    · have hlt : c < s.heap.objs.size := by
        obtain ⟨o, ho, _⟩ := st.any.obj c hc
        exact Heap.lt_size ho
      rw [upd_ne (Nat.ne_of_lt (Nat.lt_of_lt_of_le hlt hle))]
      exact (hf c hc).1
  done := by
    intro X hP hw hK hc i pins s σ H E I hf st hg
    subst hP hw hK
    obtain ⟨xs, ys, h1, h2, e⟩ := hg
    subst e
    exact z_stop (I.ok.hd hc) Z I hf st.any h1 h2 fun s2 I2 => ⟨rfl, I2⟩
  self := fun A i s Q E st h => zst_iter st.any h
theorem zc_new {N a b : Addr} (la : a < N) (lb : b < N) : ZC (N + 4) (N + 2) (N + 3) N (N + 1) a b :=
  ⟨zip_sep2 (fp1 := [a]) (fp2 := [b]) (fun c hc => by rw [List.mem_singleton.mp hc]; exact la) (fun c hc => by rw [List.mem_singleton.mp hc]; exact lb), Nat.ne_of_lt la, Nat.ne_of_lt (Nat.lt_succ_of_lt lb)⟩
theorem five_ok {X : Cx} {pins : List (Addr × Obj)} {σ : L2.St} {H : Hp} {s : Shared} (I : Inv X pins σ H s) : ∀ c ∈ [s.heap.objs.size + 4, s.heap.objs.size + 2, s.heap.objs.size + 3, s.heap.objs.size, s.heap.objs.size + 1], FpOk X pins H c := fun c hc => by
  have e' : c = s.heap.objs.size + 4 ∨ c = s.heap.objs.size + 2 ∨ c = s.heap.objs.size + 3 ∨ c = s.heap.objs.size ∨ c = s.heap.objs.size + 1 := by simpa using hc
  have hle : s.heap.objs.size ≤ c := by
    rcases e' with q | q | q | q | q <;> rw [q]
    · exact Nat.le_add_right _ _
    · exact Nat.le_add_right _ _
    · exact Nat.le_add_right _ _
    · exact Nat.le_refl _
    · exact Nat.le_add_right _ _
  exact I.fpOk hle (I.hok.fresh hle)
def iZ (K : PySem.W.Frag) (ta : TA) : TI := fun σ H R => ta σ H fun vs H1 => ∃ k1 k2 a b xs ys, vs = [.ref a, .ref b] ∧ Sq k1 K H1 a xs ∧ Sq k2 K H1 b ys ∧ R (JZ K k1 k2 a b) H1
/-- zip(a, b) made -/
theorem z_made {X : Cx} {pins : List (Addr × Obj)} {σ : L2.St} {H : Hp} {s : Shared} {E : Value → Shared → Prop} {k1 k2 : Bool} {a b : Addr} {xs ys : List V} {Q : Value → Shared → Prop} (I : Inv X pins σ H s) (h1 : Sq k1 X.K H a xs) (h2 : Sq k2 X.K H b ys)
    (hQ : ∀ (z TI TO i1 i2 : Addr) (s2 : Shared), ZC z TI TO i1 i2 a b → Inv X pins σ H s2 → ZSu k1 k2 z TI TO i1 i2 a b 0 s2.heap → (∀ c ∈ [z, TI, TO, i1, i2], FpOk X pins H c ∧ s.heap.objs.size ≤ c) → Q (.ref z) s2) :
    wpAny (model X.prog X.w) X.A (call (.type "zip") [.ref a, .ref b]) Q E s := by
  obtain ⟨its, rv, p1, _⟩ := inv_sq I h1
  obtain ⟨its2, rv2, p2, _⟩ := inv_sq I h2
  refine zip_begins2 (begins_s k1 a its.toArray) (begins_s k2 b its2.toArray) p1 p2 fun h' hz hTI hTO e1 e2 _ hk => ?_
  refine hQ _ _ _ _ _ _ (zc_new p1.lt p2.lt) (I.kept (t' := s.toks) hk) ⟨hz, hTI, ⟨_, _, hTO⟩, itS_new e1, itS_new e2⟩ fun c hc => ⟨five_ok I c hc, ?_⟩
  have e' : c = s.heap.objs.size + 4 ∨ c = s.heap.objs.size + 2 ∨ c = s.heap.objs.size + 3 ∨ c = s.heap.objs.size ∨ c = s.heap.objs.size + 1 := by simpa using hc
  rcases e' with q | q | q | q | q <;> rw [q]
  · exact Nat.le_add_right _ _
  · exact Nat.le_add_right _ _
  · exact Nat.le_add_right _ _
  · exact Nat.le_refl _
  · exact Nat.le_add_right _ _
theorem pi_ZT {X : Cx} {e e2 : Expr} {ta : TA} {p pos tpos : Pos} {elts : List Expr} {kk : Nat} (hg : Gl X "zip") (hm : X.mg "zip" = none) (ha : PA X [e, e2] ta)
    (hs : starEach [e, e2] X.env = (false, eval e X.env) :: starEach [e2] X.env := by rfl) (hpl : (backTo pos (starEach [e2] X.env)).any (·.1) = false := by rfl) :
    PI X (.Tuple elts kk tpos) (.Call (.Name "zip" p) [e, e2] [] pos) (iZ X.K ta) := by
  refine ⟨fun pins s σ H R I h => ?_⟩
  refine Call_ (ld_blt I hg hm PyProof.Rows.boot_zip (PyProof.Rows.callWith_type1 (thn (ha.run pos pins s σ H _ I h) fun us s1 ⟨vs, H1, I1, r1, q1⟩ => ?_) hs hpl))
  obtain ⟨k1, k2, a, b, xs, ys, ex, h1, h2, q⟩ := q1
  subst ex
  obtain ⟨u1, u2, rfl, e1, e2⟩ := vals2 r1
  cases e1
  cases e2
  exact z_made I1 h1 h2 fun z TI TO i1 i2 s2 Z I2 st hf => zst_iter st.any ⟨z, [z, TI, TO, i1, i2], _, _, H1, rfl, I2, turn_ZT Z, st, fun c hc => (hf c hc).1, q⟩
theorem pi_ZN {X : Cx} {e e2 : Expr} {ta : TA} {p pos tp : Pos} {nm : Str} (hg : Gl X "zip") (hm : X.mg "zip" = none) (ha : PA X [e, e2] ta)
    (hs : starEach [e, e2] X.env = (false, eval e X.env) :: starEach [e2] X.env := by rfl) (hpl : (backTo pos (starEach [e2] X.env)).any (·.1) = false := by rfl) :
    PI X (.Name nm tp) (.Call (.Name "zip" p) [e, e2] [] pos) (iZ X.K ta) := by
  refine ⟨fun pins s σ H R I h => ?_⟩
  refine Call_ (ld_blt I hg hm PyProof.Rows.boot_zip (PyProof.Rows.callWith_type1 (thn (ha.run pos pins s σ H _ I h) fun us s1 ⟨vs, H1, I1, r1, q1⟩ => ?_) hs hpl))
  obtain ⟨k1, k2, a, b, xs, ys, ex, h1, h2, q⟩ := q1
  subst ex
  obtain ⟨u1, u2, rfl, e1, e2⟩ := vals2 r1
  cases e1
  cases e2
  exact z_made I1 h1 h2 fun z TI TO i1 i2 s2 Z I2 st hf => zst_iter st.any ⟨z, [z, TI, TO, i1, i2], _, _, H1, rfl, I2, turn_ZN Z, st.any, fun c hc => (hf c hc).1, q⟩
theorem walk_Z {K : PySem.W.Frag} {k1 k2 : Bool} {a b : Addr} {xs ys : List V} {n : Nat} (hn : n = min xs.length ys.length) : Walk (JZ K k1 k2 a b) n (fun H => Sq k1 K H a xs ∧ Sq k2 K H b ys) (YPair (fun i => xs[i]?) (fun i => ys[i]?)) := by
  subst hn
  refine ⟨fun i _ hi q => ?_, fun _ q => ⟨xs, ys, q.1, q.2, rfl⟩, fun i H v H' _ q y => ?_⟩
  · have h1 : i < xs.length := by omega
    have h2 : i < ys.length := by omega
    exact ⟨xs, ys, xs[i], ys[i], q.1, q.2, by simp [h1], by simp [h2]⟩
  · obtain ⟨T, x, z, h1, h2, h3, h4, h5⟩ := y
    exact ⟨T, x, z, h1, h2, h3, h4 xs q.1, h5 ys q.2⟩
end SQ

/-! ## Rules of our own, 3: list(zip(a, b)) -/
namespace SQ
open PySem PySem.Spec PyProof.Rows L2 ZN
theorem zip_no_len : typeLookup (.type "zip") "__len__" = pure none := by rw [typeLookup_type, builtinLookup_eq_fast]; kernel_rfl
theorem zip_no_hint : typeLookup (.type "zip") "__length_hint__" = pure none := by rw [typeLookup_type, builtinLookup_eq_fast]; kernel_rfl
/-- the pairs Ts, each new, over H -/
structure PairsAt (H0 H : Hp) (xs ys : List V) (Ts : List Addr) : Prop where
  len : Ts.length ≤ min xs.length ys.length
  it : ∀ (i : Nat) (T : Addr), Ts[i]? = some T → H0 T = none ∧ ∃ x y, xs[i]? = some x ∧ ys[i]? = some y ∧ H T = some (.tup [x, y])
section
variable {X : Cx} {pins : List (Addr × Obj)} {σ : L2.St} {H0 : Hp} {A1 : Around} {Rs : Result → Shared → Prop} {k1 k2 : Bool} {z TI TO i1 i2 a b S : Addr} {xs ys : List V}
/-- what stands at each turn of the loop that fills the list at S -/
structure LZ (X : Cx) (pins : List (Addr × Obj)) (σ : L2.St) (H0 : Hp) (k1 k2 : Bool) (z TI TO i1 i2 a b S : Addr) (xs ys : List V) (Ts : List Addr) (H : Hp) (s : Shared) : Prop where
  inv : Inv X pins σ H s
  fp : ∀ c ∈ [z, TI, TO, i1, i2], FpOk X pins H c
  st : ZSt k1 k2 z TI TO i1 i2 a b Ts.length s.heap
  ls : H S = some (.lst (Ts.map V.ref))
  nw : H0 S = none
  sm : ∀ c o, H0 c = some o → H c = some o
  pr : PairsAt H0 H xs ys Ts
theorem fp_on {X : Cx} {pins : List (Addr × Obj)} {H H' : Hp} {l : List Addr} (h : ∀ c ∈ l, FpOk X pins H c) (n : ∀ c ∈ l, H' c = none) : ∀ c ∈ l, FpOk X pins H' c := fun c hc => ⟨n c hc, (h c hc).2⟩
theorem sq_same {K : PySem.W.Frag} {k : Bool} {H H' : Hp} {a : Addr} {xs : List V} (e : ∀ c o, H c = some o → H' c = some o) (h : Sq k K H a xs) : Sq k K H' a xs := by
  cases k with
  | true => exact Evl.ex_l e h
  | false => exact Evl.ex_t e h
theorem lz_loop (hA : A1.handled = none) (Z : ZC z TI TO i1 i2 a b) (h1 : Sq k1 X.K H0 a xs) (h2 : Sq k2 X.K H0 b ys) (hn : min xs.length ys.length < sizeLine)
    (hdone : ∀ (Ts : List Addr) H s, Inv X pins σ H s → H S = some (.lst (Ts.map V.ref)) → H0 S = none → (∀ c o, H0 c = some o → H c = some o) → PairsAt H0 H xs ys Ts → Ts.length = min xs.length ys.length → Rs (.ok (.ret .none)) s) :
    ∀ (m : Nat) (Ts : List Addr) (H : Hp) (s : Shared), min xs.length ys.length - Ts.length = m → LZ X pins σ H0 k1 k2 z TI TO i1 i2 a b S xs ys Ts H s →
      codeAny (model X.prog X.w) A1 (.builtin "list.extend.loop" ⟨[.ref S, .ref z, .none], []⟩) Rs s := by
  intro m
  induction m with
  | zero =>
    intro Ts H s hm L
    have hl := L.pr.len
    have e : Ts.length = min xs.length ys.length := by omega
    refine codeAny_builtin PySem.F.entry_extend_loop ?_
    rw [Around.under_plainId PySem.F.plain_extend_loop _]
    show wpAny _ A1.in1 (pyNext (.ref z) >>= _) _ _ s
    refine wpAny_bind (z_stop hA Z L.inv L.fp (by rw [← e]; exact L.st) (sq_same L.sm h1) (sq_same L.sm h2) fun s2 I2 => ?_)
    exact wpAny_pure (hdone Ts H s2 I2 L.ls L.nw L.sm L.pr e)
  | succ m ih =>
    intro Ts H s hm L
    have hlt : Ts.length < min xs.length ys.length := by omega
    have hx : xs[Ts.length]? = some (xs[Ts.length]'(by omega)) := by simp
    have hy : ys[Ts.length]? = some (ys[Ts.length]'(by omega)) := by simp
    refine codeAny_builtin PySem.F.entry_extend_loop ?_
    rw [Around.under_plainId PySem.F.plain_extend_loop _]
    show wpAny _ A1.in1 (pyNext (.ref z) >>= _) _ _ s
    refine wpAny_bind (z_step hA Z L.inv L.fp L.st (sq_same L.sm h1) (sq_same L.sm h2) hx hy fun T s2 I2 hT st2 hn2 => ?_)
    show wpAny _ A1.in1 (updateSeq S (·.push (Value.ref T)) >>= _) _ _ _
    have nST : S ≠ T := ne_of_none L.ls hT
    have hS2 : upd H T (.tup [xs[Ts.length]'(by omega), ys[Ts.length]'(by omega)]) S = some (.lst (Ts.map V.ref)) := by rw [upd_ne nST]; exact L.ls
    obtain ⟨q, its, c, r2, hl, e⟩ := I2.lstM hS2
    rw [List.length_map] at hl
    refine wpAny_bind (wpAny_updateSeq e rfl (wpAny_pure ⟨plainId_quiet PySem.F.plain_extend_loop _, ?_⟩) (by rw [List.size_toArray]; omega) (by show (its.toArray.push (Value.ref T)).size ≤ sizeLine + 1; rw [Array.size_push, List.size_toArray]; omega))
    have I3 := I2.lset (f := (·.push (Value.ref T))) (its' := its ++ [Value.ref T]) (ys := Ts.map V.ref ++ [V.ref T]) (t' := s2.toks) hS2 e (by simp) (r2.append (Paired.cons (show RelV (V.ref T) (Value.ref T) from rfl) .nil)) (by rw [List.length_append, List.length_singleton, List.length_map]; omega)
    refine ih (Ts ++ [T]) _ _ (by rw [List.length_append, List.length_singleton]; omega) ⟨I3, fp_on L.fp fun c hc => ?_, ?_, by rw [List.map_append]; exact upd_same, L.nw, fun c o q => ?_, ⟨by rw [List.length_append, List.length_singleton]; omega, fun i T' hi => ?_⟩⟩
    · have hcS : c ≠ S := fun q => by
        have := (L.fp c hc).1
        rw [q, L.ls] at this
        cases this
      rw [upd_ne hcS]
      exact hn2 c hc
    · rw [List.length_append, List.length_singleton]
      refine st2.keep fun c hc o q => ?_
      have hcS : c ≠ S := fun q => by
        have := (L.fp c hc).1
        rw [q, L.ls] at this
        cases this
      exact (Heap.get?_update_other _ _ (Ne.symm hcS)).trans q
    · rw [upd_ne (ne_of_none q L.nw), upd_ne (ne_of_none (L.sm c o q) hT)]
      exact L.sm c o q
    · have nT0 : H0 T = none := by
        cases q : H0 T with
        | none => rfl
        | some o =>
          have := L.sm T o q
          rw [hT] at this
          cases this
      by_cases hi2 : i < Ts.length
      · rw [List.getElem?_append_left hi2] at hi
        obtain ⟨g0, x, y, gx, gy, gT⟩ := L.pr.it i T' hi
        refine ⟨g0, x, y, gx, gy, ?_⟩
        have n1 : T' ≠ S := ne_of gT L.ls (by intro q; cases q)
        rw [upd_ne n1, upd_ne (ne_of_none gT hT)]
        exact gT
      · rw [List.getElem?_append_right (by omega)] at hi
        have ei : i = Ts.length := by
          have := (List.getElem?_eq_some_iff.mp hi).1
          rw [List.length_singleton] at this
          omega
        subst ei
        rw [Nat.sub_self] at hi
        have eT : T = T' := Option.some.inj hi
        subst eT
        exact ⟨nT0, _, _, hx, hy, by rw [upd_ne (Ne.symm nST), upd_same]⟩
/-- list(zip(a, b)) -/
def tListZip (K : PySem.W.Frag) (ta : TA) : TE := fun σ H Q => ta σ H fun vs H1 => ∃ (k1 k2 : Bool) (a b : Addr) (xs ys : List V), vs = [.ref a, .ref b] ∧ Sq k1 K H1 a xs ∧ Sq k2 K H1 b ys ∧ min xs.length ys.length < sizeLine ∧
  ∀ (p : Addr) (Ts : List Addr) (H2 : Hp), H1 p = none → (∀ c o, H1 c = some o → H2 c = some o) → H2 p = some (.lst (Ts.map V.ref)) → PairsAt H1 H2 xs ys Ts → Ts.length = min xs.length ys.length → Q (.ref p) H2
theorem pe_listZip {e e2 : Expr} {ta : TA} {p p2 zpos pos : Pos} (hc : X.calm = true) (hg : Gl X "list") (hm : X.mg "list" = none) (hg2 : Gl X "zip") (hm2 : X.mg "zip" = none) (ha : PA X [e, e2] ta)
    (hs : starEach [e, e2] X.env = (false, eval e X.env) :: starEach [e2] X.env := by rfl) (hpl : (backTo zpos (starEach [e2] X.env)).any (·.1) = false := by rfl)
    (na : starEach [.Call (.Name "zip" p2) [e, e2] [] zpos] X.env = (false, eval (.Call (.Name "zip" p2) [e, e2] [] zpos) X.env) :: starEach [] X.env := by rfl) :
    PE X (.Call (.Name "list" p) [.Call (.Name "zip" p2) [e, e2] [] zpos] [] pos) (tListZip X.K ta) := by
  refine ⟨fun pins s σ H Q I h => ?_⟩
  refine Call_ (ld_blt I hg hm PyProof.Rows.boot_list ?_)
  refine PyProof.Rows.callWith_type1 (PyProof.Rows.args_cons ?_ na) na rfl
  refine Call_ (ld_blt I hg2 hm2 PyProof.Rows.boot_zip (PyProof.Rows.callWith_type1 (thn (ha.run zpos pins s σ H _ I h) fun us s1 ⟨vs, H1, I1, r1, q1⟩ => ?_) hs hpl))
  obtain ⟨k1, k2, a, b, xs, ys, ex, h1, h2, hn, q⟩ := q1
  subst ex
  obtain ⟨u1, u2, rfl, e1, e2⟩ := vals2 r1
  cases e1
  cases e2
  refine z_made I1 h1 h2 fun z TI TO i1 i2 s2 Z I2 st hf => PyProof.Rows.args_nil ?_
  have hh := I2.ok.hd hc
  refine callType_codes (Q₁ := fun obj s₁ => obj = .ref s2.heap.objs.size ∧ s₁ = { s2 with heap := s2.heap.push { cls := .type "list", data := .seq #[] } }) PySem.F.called_list (PySem.F.typeCall_list_1 _) PySem.F.entry_list_init
    (code_list_new _ ⟨rfl, rfl⟩) fun obj s₁ g => ?_
  obtain ⟨rfl, rfl⟩ := g
  have hS : (s2.heap.push { cls := .type "list", data := .seq #[] }).get? s2.heap.objs.size = some { cls := .type "list", data := .seq #[] } := Heap.get?_push_size _ rfl
  refine ⟨⟨_, hS, rfl⟩, PySem.F.args_list_init_2 _ _, ?_⟩
  have fr : H1 s2.heap.objs.size = none := I2.hok.fresh (Nat.le_refl _)
  have lt : ∀ c ∈ [z, TI, TO, i1, i2], c < s2.heap.objs.size := fun c hc => by
    obtain ⟨o, ho, _⟩ := st.any.obj c hc
    exact Heap.lt_size ho
  have J1 : Inv X pins σ (upd H1 s2.heap.objs.size (.lst [])) { s2 with heap := s2.heap.push { cls := .type "list", data := .seq #[] } } := I2.lnew (its := []) (t' := s2.toks) .nil (Nat.zero_le _)
  show wpAny _ _ (do let old ← Builtin.List.listItems (.ref s2.heap.objs.size); Builtin.List.listUpdate (.ref s2.heap.objs.size) (fun _ => #[]); letGo old.toList.reverse; Builtin.List.listExtendWith (.ref s2.heap.objs.size) (.ref z) .none) _ _ _
  refine wpAny_bind ?_
  unfold Builtin.List.listItems
  refine wpAny_bind (wpAny_seqItems hS rfl (wpAny_pure ?_))
  show wpAny _ _ (updateSeq s2.heap.objs.size (fun _ => #[]) >>= fun _ => letGo (#[] : Array Value).toList.reverse >>= fun _ => Builtin.List.listExtendWith (.ref s2.heap.objs.size) (.ref z) .none) _ _ _
  refine wpAny_bind (wpAny_updateSeq hS rfl ?_)
  have J2 := J1.lset (f := fun _ => #[]) (its := []) (its' := []) (ys := []) (t' := s2.toks) upd_same hS rfl .nil (Nat.zero_le _)
  rw [upd_upd] at J2
  refine wpAny_bind (wpAny_letGo ?_)
  have st0 : ZSt k1 k2 z TI TO i1 i2 a b 0 (s2.heap.push { cls := .type "list", data := .seq #[] }) := st.any.keep fun c _ o e => Heap.get?_push_of_some _ e
  have st2 := st0.keep (h' := ((s2.heap.push { cls := .type "list", data := .seq #[] }).update s2.heap.objs.size (Obj.mapSeq fun _ => #[]))) fun c hc o e =>
    (Heap.get?_update_other _ _ (Nat.ne_of_gt (lt c hc))).trans e
  have okz : ∀ c ∈ [z, TI, TO, i1, i2], FpOk X pins (upd H1 s2.heap.objs.size (.lst [])) c := fp_on (fun c hc => (hf c hc).1) fun c hc => by
    rw [upd_ne (Nat.ne_of_lt (lt c hc))]
    exact (hf c hc).1.1
  obtain ⟨f0, f1, hz, _⟩ := id st2.1
  have hT : ∀ tk, ({ s2 with heap := (s2.heap.push { cls := .type "list", data := .seq #[] }).update s2.heap.objs.size (Obj.mapSeq fun _ => #[]), toks := tk } : Shared).TypeIs (.ref z) "zip" := fun _ => ⟨_, hz, rfl⟩
  unfold Builtin.List.listExtendWith
  refine wpAny_bind (wpAny_typeOf (hT s2.toks) ?_)
  have nzS : s2.heap.objs.size ≠ z := Nat.ne_of_gt (lt z (by simp))
  have g1 : Builtin.List.listSameRef (.ref s2.heap.objs.size) (.ref z) = false := by simp [Builtin.List.listSameRef, nzS]
  have g2 : (Value.type "zip" == Value.type "list") = false := by decide
  have g3 : (Value.type "zip" == Value.type "tuple") = false := by decide
  simp only [g1, g2, g3, Bool.or_false, Bool.false_eq_true, if_false]
  refine wpAny_bind (zst_iter st2 ?_)
  refine wpAny_bind (wpAny_holding ?_)
  unfold Builtin.List.listLengthHint
  refine wpAny_bind (wpAny_specialOf (hT s2.toks) zip_no_len ?_)
  refine wpAny_bind (wpAny_specialOf (hT s2.toks) zip_no_hint ?_)
  refine wpAny_pure ?_
  show wpAny _ _ (rule "list.extend.makes-room" >>= fun _ => Builtin.List.listTouch (.ref s2.heap.objs.size) >>= fun _ =>
    again (.builtin "list.extend.loop" ⟨[.ref s2.heap.objs.size, .ref z, .none], []⟩)) _ _ _
  refine wpAny_bind (wpAny_rule ?_)
  refine wpAny_bind ?_
  show wpAny _ _ (updateSeq s2.heap.objs.size (·.push .none) >>= fun _ => updateSeq s2.heap.objs.size (·.pop)) _ _ _
  obtain ⟨_, its, c0, r3, _, e3⟩ := J2.lstM upd_same
  cases r3
  refine wpAny_bind (wpAny_updateSeq e3 rfl ?_)
  have J3 := J2.lset (f := (·.push Value.none)) (its' := [Value.none]) (ys := [.non]) (t' := s2.toks) upd_same e3 (by simp) (.cons rfl .nil) (by rw [List.length_singleton, sizeLine_eq]; decide)
  obtain ⟨_, its4, c4, r4, _, e4⟩ := J3.lstM upd_same
  obtain ⟨u4, rfl, ru4⟩ := r4.one
  refine wpAny_updateSeq e4 rfl ?_ (by show 1 ≤ sizeLine; rw [sizeLine_eq]; decide) (by show 0 ≤ sizeLine + 1; exact Nat.zero_le _)
  have J4 := J3.lset (f := (·.pop)) (its := [u4]) (its' := []) (ys := []) (t' := s2.toks) upd_same e4 (by rfl) .nil (Nat.zero_le _)
  rw [upd_upd, upd_upd] at J4
  have st4 := (st2.keep (h' := _) fun c hc o e => (Heap.get?_update_other (a := s2.heap.objs.size) _ (Obj.mapSeq (·.push Value.none)) (Nat.ne_of_gt (lt c hc))).trans e).keep (h' := _) fun c hc o e => (Heap.get?_update_other (a := s2.heap.objs.size) _ (Obj.mapSeq (·.pop)) (Nat.ne_of_gt (lt c hc))).trans e
  refine wpAny_pure ⟨plainId_quiet PySem.F.plain_extend_loop _, lz_loop (H0 := H1) (A1 := X.A.in1) hh Z h1 h2 hn (fun Ts H' s' I' hl' hn' hsm hpr hlen => ⟨rfl, .ref s2.heap.objs.size, H', I', rfl, q _ Ts H' hn' hsm hl' hpr hlen⟩) _ [] _ _ rfl
    ⟨J4, okz, st4, upd_same, fr, fun c o e => ?_, ⟨Nat.zero_le _, fun i T hi => by simp at hi⟩⟩⟩
  rw [upd_ne (ne_of_none e fr)]
  exact e
end
end SQ

/-! ## Rules of our own, 4: sum of a list of lists, from a list -/
namespace SQ
open PySem PySem.Spec PyProof.Rows L2
theorem sub_list_str : isSubtype (.type "list") (.type "str") = pure false := by rw [isSubtype_type]; kernel_rfl
theorem sub_list_bytes : isSubtype (.type "list") (.type "bytes") = pure false := by rw [isSubtype_type]; kernel_rfl
theorem sub_list_bytearray : isSubtype (.type "list") (.type "bytearray") = pure false := by rw [isSubtype_type]; kernel_rfl
theorem args_sum2 (a b : Value) : argsOk "sum" ⟨[a, b], []⟩ := by unfold argsOk; kernel_rfl
section
variable {X : Cx} {pins : List (Addr × Obj)} {σ : L2.St} {H0 : Hp} {A1 : Around} {Rs : Result → Shared → Prop} {l it S : Addr} {ps : List Addr} {xss : List (List V)} {ys0 : List V}
structure LS (X : Cx) (pins : List (Addr × Obj)) (σ : L2.St) (H0 : Hp) (l it S : Addr) (ps : List Addr) (xss : List (List V)) (ys0 : List V) (st0 : Addr) (i : Nat) (t : Addr) (H : Hp) (s : Shared) : Prop where
  inv : Inv X pins σ H s
  fs : FpOk X pins H S
  fi : FpOk X pins H it
  cell : ∃ c, s.heap.get? S = some { cls := .type "list", dict := none, data := .seq #[.ref t] c, slots := #[] }
  iter : s.heap.IsListIter it l i
  tot : H t = some (.lst (ys0 ++ (xss.take i).flatten))
  nw : t = st0 ∨ H0 t = none
  sm : ∀ c o, H0 c = some o → H c = some o
theorem fl_take (xss : List (List V)) (i : Nat) : ((xss.take i).flatten).length ≤ xss.flatten.length := by
  have e : xss.flatten = (xss.take i).flatten ++ (xss.drop i).flatten := by rw [← List.flatten_append, List.take_append_drop]
  rw [e, List.length_append]
  omega
theorem sum_loop (hA : A1.handled = none) (hl : SqL X.K H0 l (ps.map V.ref)) (hlen : ps.length = xss.length) (hps : ∀ (i : Nat) (p : Addr) (xs : List V), ps[i]? = some p → xss[i]? = some xs → H0 p = some (.lst xs)) (hsz : ys0.length + xss.flatten.length ≤ sizeLine) (neS : S ≠ it) {st0 : Addr}
    (hdone : ∀ t H s, Inv X pins σ H s → H t = some (.lst (ys0 ++ xss.flatten)) → (t = st0 ∨ H0 t = none) → (∀ c o, H0 c = some o → H c = some o) → Rs (.ok (.ret (.ref t))) s) :
    ∀ (m i : Nat) (t : Addr) (H : Hp) (s : Shared), ps.length - i = m → i ≤ ps.length → LS X pins σ H0 l it S ps xss ys0 st0 i t H s →
      codeAny (model X.prog X.w) A1 (.builtin "sum.loop" ⟨[.ref it, .ref S, rawInt 2, rawInt 0], []⟩) Rs s := by
  intro m
  induction m with
  | zero =>
    intro i t H s hm hi L
    have e : i = ps.length := by omega
    obtain ⟨c, hS⟩ := L.cell
    refine codeAny_builtin PySem.F.entry_sum_loop ?_
    rw [Around.under_plainId PySem.F.plain_sum_loop _]
    show wpAny _ A1.in1 (seqItems? (.ref S) >>= _) _ _ s
    refine wpAny_bind (wpAny_seqItems hS rfl ?_)
    show wpAny _ A1.in1 (tryCatch (pyNext (.ref it)) _ >>= _) _ _ s
    obtain ⟨its, rv, pl, _⟩ := L.inv.list (Evl.ex_l L.sm hl)
    have hn : its.toArray[i]? = none := by
      have := rv.length
      rw [List.length_map] at this
      simp
      omega
    refine wpAny_bind (wpAny_tryCatch (wpAny_pyNext_list_end hA L.iter pl.isList hn fun g hg => ?_))
    have I2 : Inv X pins σ H { s with heap := g } := by
      obtain ⟨f0, f1, f2, f3, f4, f5⟩ := L.fi
      exact L.inv.turned (t' := s.toks) (fun b o hb q => hg b o hb q) f0 f1 f3 f4 f5
    have ef : (xss.take i).flatten = xss.flatten := by rw [List.take_of_length_le (by omega)]
    exact wpAny_pure (hdone t H _ I2 (by rw [← ef]; exact L.tot) L.nw L.sm)
  | succ m ih =>
    intro i t H s hm hi L
    obtain ⟨c, hS⟩ := L.cell
    refine codeAny_builtin PySem.F.entry_sum_loop ?_
    rw [Around.under_plainId PySem.F.plain_sum_loop _]
    show wpAny _ A1.in1 (seqItems? (.ref S) >>= _) _ _ s
    refine wpAny_bind (wpAny_seqItems hS rfl ?_)
    show wpAny _ A1.in1 (tryCatch (pyNext (.ref it)) _ >>= _) _ _ s
    obtain ⟨its, rv, pl, _⟩ := L.inv.list (Evl.ex_l L.sm hl)
    have hp : ps[i]? = some (ps[i]'(by omega)) := by simp
    have hx : xss[i]? = some (xss[i]'(by omega)) := by simp
    obtain ⟨u, hu, ru⟩ := rv.get (i := i) (x := V.ref (ps[i]'(by omega))) (by simp [hp])
    obtain rfl : u = Value.ref (ps[i]'(by omega)) := ru
    have hP := L.sm _ _ (hps i _ _ hp hx)
    refine wpAny_bind (wpAny_tryCatch (wpAny_pyNext_list_item L.iter pl.isList (x := Value.ref (ps[i]'(by omega))) (by simpa using hu) fun g it2 sg => ?_))
    obtain ⟨f0, f1, f2, f3, f4, f5⟩ := L.fi
    have I2 : Inv X pins σ H { s with heap := g } := L.inv.turned (t' := s.toks) (fun b o hb q => (sg.2 b hb).trans q) f0 f1 f3 f4 f5
    have hS2 : g.get? S = some { cls := .type "list", dict := none, data := .seq #[.ref t] c, slots := #[] } := (sg.2 S neS).trans hS
    obtain ⟨_, ia, na, ra, la, ea⟩ := I2.lstM L.tot
    obtain ⟨_, ib, nb, rb, lb, eb⟩ := I2.lstM hP
    show wpAny _ A1.in1 ((holding [Value.ref (ps[i]'(by omega))] (binaryOp .Add (.ref t) (.ref (ps[i]'(by omega))))).attempt >>= _) _ _ _
    have etk : (xss.take (i + 1)).flatten = (xss.take i).flatten ++ xss[i]'(by omega) := by
      rw [List.take_succ, hx, List.flatten_append]
      simp
    have hzz : (ys0 ++ (xss.take i).flatten).length + (xss[i]'(by omega)).length ≤ sizeLine := by
      have := fl_take xss (i + 1)
      rw [etk, List.length_append] at this
      rw [List.length_append]
      omega
    refine wpAny_bind (wpAny_attempt (wpAny_holding (PySem.P.add_list ea eb ?_ (by rw [List.size_toArray, List.size_toArray]; omega))))
    have ej : ia.toArray ++ ib.toArray = (ia ++ ib).toArray := by simp
    rw [ej]
    have I3 := I2.lnew (t' := s.toks) (ra.append rb) (by rw [List.length_append]; exact hzz)
    have fr : H g.objs.size = none := I2.fresh
    have ltS : S < g.objs.size := Heap.lt_size hS2
    have lti : it < g.objs.size := by
      obtain ⟨_, q, _⟩ := it2
      exact Heap.lt_size q
    have hS3 : (g.push { cls := .type "list", data := .seq (ia ++ ib).toArray }).get? S = some { cls := .type "list", dict := none, data := .seq #[.ref t] c, slots := #[] } := Heap.get?_push_of_some _ hS2
    show wpAny _ A1.in1 (updateSeq S (fun _ => #[.ref g.objs.size]) >>= _) _ _ _
    refine wpAny_bind (wpAny_updateSeq hS3 rfl ?_)
    have hS4 := Heap.get?_update_self (Obj.mapSeq fun _ => #[Value.ref g.objs.size]) hS3 rfl
    refine wpAny_bind (wpAny_letGo ?_)
    refine wpAny_bind (wpAny_updateSeq hS4 rfl (wpAny_pure ⟨plainId_quiet PySem.F.plain_sum_loop _, ?_⟩))
    have uS : upd H g.objs.size (.lst (ys0 ++ (xss.take i).flatten ++ xss[i]'(by omega))) S = none := by rw [upd_ne (Nat.ne_of_lt ltS)]; exact L.fs.1
    have ui : upd H g.objs.size (.lst (ys0 ++ (xss.take i).flatten ++ xss[i]'(by omega))) it = none := by rw [upd_ne (Nat.ne_of_lt lti)]; exact L.fi.1
    obtain ⟨_, s1, s2, s3, s4, s5⟩ := L.fs
    have I4 := I3.turned (it := S) (t' := s.toks) (fun b o hb q => (Heap.get?_update_other _ (Obj.mapSeq fun _ => #[Value.ref g.objs.size]) (Ne.symm hb)).trans ((Heap.get?_update_other _ (Obj.mapSeq fun _ => #[Value.ref g.objs.size]) (Ne.symm hb)).trans q)) uS s1 s3 s4 s5
    refine ih (i + 1) g.objs.size _ _ (by omega) (by omega) ⟨I4, ⟨uS, L.fs.2⟩, ⟨ui, L.fi.2⟩, ⟨_, Heap.get?_update_self _ hS4 rfl⟩, ?_, ?_, .inr ?_, fun d o q => ?_⟩
    · refine it2.at fun o q => ?_
      exact (Heap.get?_update_other _ _ neS).trans ((Heap.get?_update_other _ _ neS).trans (Heap.get?_push_of_some _ q))
    · rw [etk, ← List.append_assoc]
      exact upd_same
    · cases q : H0 g.objs.size with
      | none => rfl
      | some o =>
        have := L.sm _ _ q
        rw [fr] at this
        cases this
    · rw [upd_ne (ne_of_none (L.sm d o q) fr)]
      exact L.sm d o q
/-- sum(xs, start): xs a list of lists, start a list -/
def rSumL (K : PySem.W.Frag) : List V → Hp → VK → Prop := fun vs H Q => ∃ (l st : Addr) (ps : List Addr) (xss : List (List V)) (ys : List V), vs = [.ref l, .ref st] ∧ SqL K H l (ps.map V.ref) ∧ ps.length = xss.length ∧
  (∀ (i : Nat) (p : Addr) (xs : List V), ps[i]? = some p → xss[i]? = some xs → H p = some (.lst xs)) ∧ H st = some (.lst ys) ∧ ys.length + xss.flatten.length ≤ sizeLine ∧
  ∀ t H2, (∀ c o, H c = some o → H2 c = some o) → H2 t = some (.lst (ys ++ xss.flatten)) → (t = st ∨ H t = none) → Q (.ref t) H2
theorem cr_sumL (hc : X.calm = true) : CallR X (.builtin "sum") (rSumL X.K) := by
  intro pins s σ H vs us Q I r h
  obtain ⟨l, st, ps, xss, ys, rfl, hl, hlen, hps, hst, hsz, q⟩ := h
  obtain ⟨u1, u2, rfl, e1, e2⟩ := vals2 r
  cases e1
  cases e2
  obtain ⟨its, rv, pl, _⟩ := I.list hl
  obtain ⟨_, iy, ny, ry, ly, ey⟩ := I.lstM hst
  refine call_function_tree PySem.F.kind_sum PySem.F.plain_sum PySem.F.entry_sum (args_sum2 _ _) ?_
  unfold Builtin.«sum»
  simp only [List.length_cons, List.length_nil]
  rw [if_neg (by decide)]
  refine wpAny_bind (wpAny_of_eq (show Builtin.Builtins.bindParams "sum" ["start"] 0 ⟨[.ref st], []⟩ = pure [some (.ref st)] from rfl) ?_)
  refine wpAny_bind (wpAny_pyIter_list pl.isList ?_)
  have I1 : Inv X pins σ H { s with heap := s.heap.push { cls := .type "list_iterator", data := .fields #[.ref l, .int 0 0] } } := I.kept (t' := s.toks) fun b o e => Heap.get?_push_of_some _ e
  refine wpAny_bind (wpAny_pure ?_)
  have hT : ({ s with heap := s.heap.push { cls := .type "list_iterator", data := .fields #[.ref l, .int 0 0] } } : Shared).TypeIs (.ref st) "list" := ⟨_, Heap.get?_push_of_some _ ey, rfl⟩
  simp only [List.forIn_cons, List.forIn_nil]
  refine wpAny_bind (wpAny_bind (wpAny_bind (wpAny_isInstance (T := "list") (b := false) hT sub_list_str ?_)))
  simp only [Bool.false_eq_true, if_false]
  refine wpAny_pure (wpAny_bind (wpAny_bind (wpAny_isInstance (T := "list") (b := false) hT sub_list_bytes ?_)))
  simp only [Bool.false_eq_true, if_false]
  refine wpAny_pure (wpAny_bind (wpAny_bind (wpAny_isInstance (T := "list") (b := false) hT sub_list_bytearray ?_)))
  simp only [Bool.false_eq_true, if_false]
  refine wpAny_pure (wpAny_pure ?_)
  refine wpAny_bind (wpAny_newObj_type ?_)
  have z1 : (s.heap.push { cls := .type "list_iterator", data := .fields #[.ref l, .int 0 0] }).objs.size = s.heap.objs.size + 1 := Heap.size_push ..
  have I2 : Inv X pins σ H { s with heap := (s.heap.push { cls := .type "list_iterator", data := .fields #[.ref l, .int 0 0] }).push { cls := .type "list", data := .seq [Value.ref st].toArray } } := I1.kept (t' := s.toks) fun b o e => Heap.get?_push_of_some _ e
  have neS : (s.heap.push { cls := .type "list_iterator", data := .fields #[.ref l, .int 0 0] }).objs.size ≠ s.heap.objs.size := by rw [z1]; exact Nat.succ_ne_self _
  refine wpAny_pure ⟨plainId_quiet PySem.F.plain_sum_loop _, sum_loop (H0 := H) (st0 := st) (A1 := X.A) (I.ok.hd hc) hl hlen hps hsz neS (fun t H' s' I' ht hn hs => ?_) _ 0 st H _ rfl (Nat.zero_le _) ⟨I2, ?_, ?_, ⟨0, Heap.get?_push_size _ rfl⟩, ?_, ?_, .inl rfl, fun c o e => e⟩⟩
  · exact ⟨.ref t, H', I', rfl, q t H' hs ht hn⟩
  · exact I1.fpOk (Nat.le_refl _) (I1.hok.fresh (Nat.le_refl _))
  · exact I.fpOk (Nat.le_refl _) (I.hok.fresh (Nat.le_refl _))
  · exact ⟨_, Heap.get?_push_of_some _ (Heap.get?_push_size _ rfl), rfl, rfl⟩
  · rw [List.take_zero, List.flatten_nil, List.append_nil]
    exact hst
end
end SQ

/-! ## Rules of our own, 5: sorted(xs, key=len); dict(pairs) by tuples; sorted of a tuple of ints; len(set(..)); extend by a tuple; slices -/
namespace SQ
open PySem PySem.Spec PyProof.Rows L2
section
variable {X : Cx}
/-! ### sorted(xs, key=len), xs a list of tuples -/
def tSortLen (K : PySem.W.Frag) (ta : TA) : TE := fun σ H Q => ta σ H fun vs H1 => ∃ (a : Addr) (xs : List V), vs = [.ref a] ∧ SqL K H1 a xs ∧ (∀ x ∈ xs, ∃ t ys, x = V.ref t ∧ SqT K H1 t ys) ∧
  ∀ ys p, ys.Perm xs → H1 p = none → Q (.ref p) (upd H1 p (.lst ys))
def LenR (h : Heap) (v : Value) (x : V × Nat) : Prop := RelV x.1 v ∧ ∃ t its, v = .ref t ∧ IsTup h t its ∧ its.size = x.2 ∧ its.size < 2 ^ 63
theorem lens_of {pins : List (Addr × Obj)} {σ : L2.St} {H : Hp} {s : Shared} (I : Inv X pins σ H s) : ∀ {xs : List V} {vs : List Value}, Vals xs vs → (∀ x ∈ xs, ∃ t ys, x = V.ref t ∧ SqT X.K H t ys) →
    ∃ bs : List (V × Nat), bs.map (·.1) = xs ∧ PySem.W.EachIs (LenR s.heap) vs bs
  | _, _, .nil, _ => ⟨[], rfl, .nil⟩
  | _, _, .cons (a := x) (b := v) r rr, h => by
    obtain ⟨bs, e1, e2⟩ := lens_of I rr fun y hy => h y (List.mem_cons_of_mem _ hy)
    obtain ⟨t, ys, rfl, ht⟩ := h x (List.mem_cons_self ..)
    obtain ⟨its, r', pl, hz⟩ := I.tuple ht
    obtain rfl : v = Value.ref t := r
    have hs := sizeLine_eq
    have hl := r'.length
    exact ⟨(V.ref t, its.toArray.size) :: bs, by rw [List.map_cons, e1], .cons ⟨rfl, t, _, rfl, pl, rfl, by rw [List.size_toArray]; omega⟩ e2⟩
theorem vals_each {h : Heap} : ∀ {out : List Value} {bs : List (V × Nat)}, PySem.W.EachIs (LenR h) out bs → Vals (bs.map (·.1)) out
  | _, _, .nil => .nil
  | _, _, .cons r t => .cons r.1 (vals_each t)
theorem pe_sortLen {e : Expr} {t : TA} {p p2 kp pos : Pos} (hg : Gl X "sorted") (hm : X.mg "sorted" = none) (hg2 : Gl X "len") (hm2 : X.mg "len" = none) (ha : PA X [e] t) (hu : X.A.units + 2 < cLine)
    (he : backTo pos (starEach [e] X.env) = (false, eval e X.env) :: backTo pos (starEach [] X.env) := by rfl) (hpl : (backTo pos (starEach [e] X.env)).any (·.1) = false := by rfl) :
    PE X (.Call (.Name "sorted" p) [e] [⟨some "key", .Name "len" p2, kp⟩] pos) (tSortLen X.K t) := by
  refine ⟨fun pins s σ H Q I h => ?_⟩
  refine wpAny_Call_Name_kw (ld_blt I hg hm (by decide +kernel : bootBuiltins "sorted" = some (.builtin "sorted")) ?_)
  refine PyProof.Rows.callWith_kw (thn (ha.run pos pins s σ H _ I h) fun us s1 ⟨vs, H1, I1, r1, q1⟩ => ?_) he hpl (by rfl) (by rfl)
  show wpAny _ _ (evalAll [(do let v ← eval (.Name "len" p2) X.env; standAt pos; pure v)]) _ _ s1
  refine wpAny_evalAll_cons (wpAny_bind (ld_blt I1 hg2 hm2 PySem.boot_len (wpAny_bind (wpAny_standAt (wpAny_pure (wpAny_evalAll_nil ?_))))))
  show wpAny _ _ (call (.builtin "sorted") us [(Str.ofString "key", .builtin "len")]) _ _ s1
  obtain ⟨a, xs, rfl, hl, hx, q⟩ := q1
  obtain rfl := r1.ref1
  obtain ⟨its, rv, pl, hz⟩ := I1.list hl
  obtain ⟨bs, eb, each⟩ := lens_of I1 rv hx
  have hlb : bs.length = xs.length := by rw [← eb, List.length_map]
  refine PySem.W.sorted_key_data (b := false) (f := .builtin "len") (R := LenR s1.heap) (bs := bs) (fun x : V × Nat => PyData.int x.2) pl.isList each (PySem.W.AllAlike.of fun _ _ => by simp [PySem.W.alike]) (PySem.W.Sortable.others fun _ => ⟨by simp, fun _ => by simp⟩) (by rw [hlb]; exact hz)
    (fun x _ => by simpa [PyData.depth] using hu) (PyProof.Rows.ksk_s1 _ _) (fun _ => PyProof.Rows.ksk_l1 _ _) (fun _ => PyProof.Rows.ksk_t4 _ _) (fun v x hR hm h tk kp => ?_) fun out c h' tk kp hn hD hlen eo => ?_
  · obtain ⟨_, t, ts, rfl, ht, e1, e2⟩ := hR
    refine len_tuple (ht.keeps kp) (by omega) ⟨h, _, rfl, fun b o z => z, ?_⟩
    rw [e1]
    exact .int _ _
  · have hp : (bs.mergeSort (PySem.W.dataLe false fun x : V × Nat => PyData.int x.2)).Perm bs := List.mergeSort_perm _ _
    have hv := vals_each eo
    have fr : H1 (s1.heap.objs.size + 1) = none := I1.hok.fresh (Nat.le_succ _)
    have hlen2 : ((bs.mergeSort (PySem.W.dataLe false fun x : V × Nat => PyData.int x.2)).map (·.1)).length ≤ sizeLine := by rw [List.length_map, hp.length_eq, hlb]; exact hz
    refine ⟨.ref _, upd H1 (s1.heap.objs.size + 1) (.lst ((bs.mergeSort (PySem.W.dataLe false fun x : V × Nat => PyData.int x.2)).map (·.1))), I1.laid (t' := tk) kp (Nat.le_succ _) ⟨hlen2, out, c, hv, hD⟩, rfl, q _ _ ?_ fr⟩
    have := hp.map (fun x : V × Nat => x.1)
    rw [eb] at this
    exact this
end
end SQ

/-! ## Rules of our own, 6: dict(pairs), the keys tuples -/
namespace SQ
open PySem PySem.Spec PyProof.Rows L2
section
variable {K : Type} [DecidableEq K]
theorem storedAll_nodup : ∀ (ps xs : List (K × Addr × Value)), ((xs ++ ps).map (·.1)).Nodup → storedAllH xs ps = xs ++ ps
  | [], xs, _ => by rw [List.append_nil]; rfl
  | p :: ps, xs, h => by
    have hn : atKey xs p.1 = none := by
      unfold atKey
      cases e : xs.find? fun x => decide (x.1 = p.1) with
      | none => rfl
      | some y =>
        exfalso
        have hy := List.mem_of_find?_eq_some e
        have hk : y.1 = p.1 := by simpa using List.find?_some e
        rw [List.map_append, List.nodup_append] at h
        exact h.2.2 y.1 (List.mem_map.mpr ⟨y, hy, rfl⟩) p.1 (by simp) hk
    show storedAllH (storedH xs p.1 p.2.1 p.2.2) ps = xs ++ p :: ps
    rw [storedH_new hn, storedAll_nodup ps _ (by simpa using h)]
    simp
end
section
variable {X : Cx}
theorem kt_of {pins : List (Addr × Obj)} {σ : L2.St} {H : Hp} {s : Shared} (I : Inv X pins σ H s) : ∀ {ps : List Addr} {kvs : List (List Key × V)}, Paired (fun p kv => ∃ b, SqT X.K H p [.ref b, kv.2] ∧ H b = some (.tup (kv.1.map kV))) ps kvs →
    ∃ prs : List (List Key × Addr × Value), KT H kvs prs ∧ prs.length = ps.length ∧ ∀ (j : Nat) (q : List Key × Addr × Value), prs[j]? = some q → ∃ p, ps[j]? = some p ∧ IsTup s.heap p #[.ref q.2.1, q.2.2] ∧ H q.2.1 = some (.tup (q.1.map kV))
  | _, _, .nil => ⟨[], .nil, rfl, fun j q e => by simp at e⟩
  | _, _, .cons (a := p) (b := kv) h t => by
    obtain ⟨prs, r, hl, hp⟩ := kt_of I t
    obtain ⟨b, hp0, hb⟩ := h
    obtain ⟨its, rv, ht, _⟩ := I.tuple hp0
    obtain ⟨u, y, ei, ru, ry⟩ := vals2 rv
    subst ei
    obtain rfl : u = Value.ref b := ru
    refine ⟨(kv.1, b, y) :: prs, .cons ⟨rfl, hb, ry⟩ r, by rw [List.length_cons, List.length_cons, hl], fun j q e => ?_⟩
    cases j with
    | zero =>
      have e' : (kv.1, b, y) = q := Option.some.inj e
      subst e'
      exact ⟨p, rfl, ht, hb⟩
    | succ j =>
      obtain ⟨p', e1, e2, e3⟩ := hp j q (by simpa using e)
      exact ⟨p', by simpa using e1, e2, e3⟩
theorem kt_keys {H : Hp} : ∀ {kvs : List (List Key × V)} {prs : List (List Key × Addr × Value)}, KT H kvs prs → kvs.map (·.1) = prs.map (·.1)
  | _, _, .nil => rfl
  | _, _, .cons r t => by rw [List.map_cons, List.map_cons, r.1, kt_keys t]
def rDictT (K : PySem.W.Frag) : List V → Hp → VK → Prop := fun xs H Q => ∃ (a : Addr) (ps : List Addr) (kvs : List (List Key × V)), xs = [.ref a] ∧ SqL K H a (ps.map V.ref) ∧ Paired (fun p kv => ∃ b, SqT K H p [.ref b, kv.2] ∧ H b = some (.tup (kv.1.map kV))) ps kvs ∧
  (kvs.map (·.1)).Nodup ∧ ∀ p, H p = none → Q (.ref p) (upd H p (.dT kvs))
theorem call_dictT (hcalm : X.calm = true) (hu : X.A.units + 2 < cLine) : CallR X (.type "dict") (rDictT X.K) := by
  intro pins s σ H xs us Q I r h
  obtain ⟨a, ps, kvs, rfl, hq, hp, hnd, q⟩ := h
  obtain rfl := r.ref1
  obtain ⟨its, rv, pl, hz⟩ := I.list hq
  have ei := refs_at rv
  subst ei
  rw [List.length_map] at hz
  obtain ⟨prs, kt, hl, hpr⟩ := kt_of I hp
  obtain ⟨o, n, ho, hc, hd, hdat⟩ := pl
  have hkn : (prs.map (·.1)).Nodup := by rw [← kt_keys kt]; exact hnd
  have PA := PairArg.list (prog := X.prog) (w := X.w) a (ps.map Value.ref).toArray (fun j => ps.getD j 0) (prs.map fun x => (Value.ref x.2.1, x.2.2))
  refine call_dict_pairsH (knd := tupleKind (mixKind X.prog X.w)) (ps := prs) PA (I.ok.hd hcalm) ?_ ⟨⟨o, n, ho, hc, hd, hdat⟩, by simp [hl], fun j k v e => ?_⟩ ⟨by simp, fun i key v e => ?_⟩ (fun h' hk x hx => ?_) (by simp [hl]; exact hz) fun h' tk hd' hk => ?_
  · show X.A.in1.in1.units < cLine
    show X.A.units + 1 + 1 < cLine
    omega
  · rw [List.getElem?_map] at e
    cases e2 : prs[j]? with
    | none => rw [e2] at e; cases e
    | some x =>
      rw [e2] at e
      have e3 : (Value.ref x.2.1, x.2.2) = (k, v) := Option.some.inj e
      obtain ⟨rfl, rfl⟩ := Prod.mk.inj e3
      obtain ⟨p, e4, e5, _⟩ := hpr j x e2
      have e6 : ps.getD j 0 = p := by rw [List.getD_eq_getElem?_getD, e4]; rfl
      refine ⟨?_, ?_⟩
      · show _ = some (Value.ref (ps.getD j 0))
        rw [e6]
        simp [e4]
      show PairAt s.heap (ps.getD j 0) _ _
      rw [e6]
      exact .inl e5
  · have e0 : (prs.map fun x => (Value.ref x.2.1, x.2.2))[i]? = some (key, v) := e
    rw [List.getElem?_map] at e0
    cases e2 : prs[i]? with
    | none => rw [e2] at e0; cases e0
    | some x =>
      rw [e2] at e0
      have e3 : (Value.ref x.2.1, x.2.2) = (key, v) := Option.some.inj e0
      obtain ⟨rfl, rfl⟩ := Prod.mk.inj e3
      exact ⟨x.1, x.2.1, rfl, rfl⟩
  · obtain ⟨j, hj⟩ := List.mem_iff_getElem?.mp hx
    obtain ⟨p, _, _, e7⟩ := hpr j x hj
    have k1 := key_of I.hok e7
    obtain ⟨ob, t2, n2, g1, g2, g3, g4⟩ := k1
    exact ⟨ob, t2, n2, hk _ _ (Nat.ne_of_lt (Heap.lt_size g1)) (by simp) g1, g2, g3, g4⟩
  · have hs : storedAllH ([] : List (List Key × Addr × Value)) prs = prs := by
      rw [storedAll_nodup prs [] (by simpa using hkn)]
      rfl
    rw [hs] at hd'
    obtain ⟨ob, es, ep, g1, g2, g3, g4, _, g6⟩ := hd'
    have hm : (s.heap.objs.size == sysModules) = false := beq_eq_false_iff_ne.mpr (Nat.ne_of_gt I.big)
    have fr : H s.heap.objs.size = none := I.hok.fresh (Nat.le_refl _)
    have hlen : kvs.length ≤ sizeLine := by
      have e8 : kvs.length = prs.length := Paired.length kt
      rw [e8, hl]
      exact hz
    refine ⟨.ref s.heap.objs.size, upd H s.heap.objs.size (.dT kvs), I.laid (t' := tk) (fun b o e => hk b o (by simp) e) (Nat.le_refl _) ⟨hlen, hm, prs, kt.keeps fun b ys e => ?_, ob, es, ep, g1, g2, g3, g4, g6⟩, rfl, q _ fr⟩
    rw [upd_ne (ne_of_none e fr)]
    exact e
end
end SQ

/-! ## Rules of our own, 7: sorted(tuple of ints), len(set(ints)), extend by a tuple, tuple[::-1], in a tuple of data -/
namespace SQ
open PySem PySem.Spec PyProof.Rows L2
/-! ### counting: a list without twice the same is as long as its set -/
theorem nodup_sub_len {α : Type} : ∀ {xs ys : List α}, xs.Nodup → (∀ x ∈ xs, x ∈ ys) → xs.length ≤ ys.length
  | [], _, _, _ => Nat.zero_le _
  | x :: xs, ys, h, hs => by
    obtain ⟨as, bs, e⟩ := List.append_of_mem (hs x (List.mem_cons_self ..))
    subst e
    obtain ⟨h1, h2⟩ := List.nodup_cons.mp h
    have := nodup_sub_len (ys := as ++ bs) h2 fun y hy => by
      have := hs y (List.mem_cons_of_mem _ hy)
      rw [List.mem_append, List.mem_cons] at this
      rw [List.mem_append]
      rcases this with z | z | z
      · exact .inl z
      · subst z; exact absurd hy h1
      · exact .inr z
    rw [List.length_append] at this
    rw [List.length_append, List.length_cons, List.length_cons]
    omega
theorem nodup_of_len {α : Type} [DecidableEq α] : ∀ {xs ys : List α}, ys.Nodup → (∀ y ∈ ys, y ∈ xs) → (∀ x ∈ xs, x ∈ ys) → xs.length ≤ ys.length → xs.Nodup
  | [], _, _, _, _, _ => .nil
  | x :: xs, ys, hn, h1, h2, hl => by
    have hx : x ∉ xs := fun hx => by
      have := nodup_sub_len hn fun y hy => show y ∈ xs by
        rcases List.mem_cons.mp (h1 y hy) with z | z
        · subst z; exact hx
        · exact z
      rw [List.length_cons] at hl
      omega
    refine List.nodup_cons.mpr ⟨hx, ?_⟩
    obtain ⟨as, bs, e⟩ := List.append_of_mem (h2 x (List.mem_cons_self ..))
    subst e
    have hn' : (as ++ bs).Nodup := by
      rw [List.nodup_append] at hn ⊢
      exact ⟨hn.1, (List.nodup_cons.mp hn.2.1).2, fun a ha b hb => hn.2.2 a ha b (List.mem_cons_of_mem _ hb)⟩
    have hxn : x ∉ as ++ bs := fun hx2 => by
      rw [List.nodup_append] at hn
      rcases List.mem_append.mp hx2 with z | z
      · exact hn.2.2 x z x (List.mem_cons_self ..) rfl
      · exact (List.nodup_cons.mp hn.2.1).1 z
    refine nodup_of_len hn' (fun y hy => ?_) (fun y hy => ?_) ?_
    · have : y ∈ as ++ x :: bs := by
        rw [List.mem_append] at hy ⊢
        rcases hy with z | z
        · exact .inl z
        · exact .inr (List.mem_cons_of_mem _ z)
      rcases List.mem_cons.mp (h1 y this) with z | z
      · subst z; exact absurd hy hxn
      · exact z
    · have := h2 y (List.mem_cons_of_mem _ hy)
      rw [List.mem_append, List.mem_cons] at this
      rw [List.mem_append]
      rcases this with z | z | z
      · exact .inl z
      · subst z; exact absurd hy hx
      · exact .inr z
    · rw [List.length_append, List.length_cons, List.length_cons] at hl
      rw [List.length_append]
      omega
theorem met_mem (ns : List Int) (k : Int) : k ∈ firstMet (fun i => ns.getD i 0) ns.length ↔ k ∈ ns := by
  have h := firstMet_any (fun i => ns.getD i 0) ns.length k
  have e : (List.range ns.length).map (fun i => ns.getD i 0) = ns := by
    refine List.ext_getElem (by simp) fun i h1 h2 => ?_
    rw [List.getElem_map, List.getElem_range, List.getD_eq_getElem?_getD, List.getElem?_eq_getElem h2]
    rfl
  rw [e] at h
  have m : ∀ l : List Int, l.any (· == k) = true ↔ k ∈ l := fun l => by simp [List.any_eq_true]
  rw [← m, ← m, h]
theorem met_nodup (val : Nat → Int) : ∀ i, (firstMet val i).Nodup
  | 0 => by rw [firstMet_zero]; exact .nil
  | i + 1 => by
    rw [firstMet_succ]
    unfold step_dedup
    by_cases h : (firstMet val i).any (· == val i) = true
    · rw [if_pos h]; exact met_nodup val i
    · rw [if_neg h, List.nodup_append]
      refine ⟨met_nodup val i, by simp, fun a ha b hb => ?_⟩
      have eb : b = val i := by simpa using hb
      subst eb
      intro e
      subst e
      exact h (List.any_eq_true.mpr ⟨_, ha, by simp⟩)
theorem met_len (ns : List Int) : (firstMet (fun i => ns.getD i 0) ns.length).length ≤ ns.length ∧ ((firstMet (fun i => ns.getD i 0) ns.length).length = ns.length ↔ ns.Nodup) := by
  refine ⟨firstMet_length_le _ _, fun h => ?_, fun h => ?_⟩
  · exact nodup_of_len (met_nodup _ _) (fun y hy => (met_mem ns y).mp hy) (fun x hx => (met_mem ns x).mpr hx) (by omega)
  · have h1 := nodup_sub_len h fun x hx => (met_mem ns x).mpr hx
    have h2 := firstMet_length_le (fun i => ns.getD i 0) ns.length
    omega
section
variable {X : Cx}
/-! ### len(set(xs)), ints, of a list or a tuple -/
def tLenSet (K : PySem.W.Frag) (ta : TE) : TE := fun σ H Q => ta σ H fun x H1 => ∃ (l : Addr) (ns : List Int), x = .ref l ∧ (SqL K H1 l (ns.map V.int) ∨ SqT K H1 l (ns.map V.int)) ∧ ns.length ≤ 4000 ∧
  ∀ c : Nat, c ≤ ns.length → (c = ns.length ↔ ns.Nodup) → Q (.int c) H1
theorem ints_are : ∀ {ns : List Int} {us : List Value}, Vals (ns.map V.int) us → IntsAre us ns
  | [], _, .nil => .nil
  | _ :: _, _, .cons ⟨k, e⟩ t => by subst e; exact .cons _ k (ints_are t)
theorem pe_lenSet {a : Expr} {ta : TE} {p p2 q pos : Pos} (hg : Gl X "len") (hm : X.mg "len" = none) (hg2 : Gl X "set") (hm2 : X.mg "set" = none) (ha : PE X a ta) (hc : X.calm = true := by rfl)
    (na : starEach [a] X.env = (false, eval a X.env) :: starEach [] X.env := by rfl) : PE X (.Call (.Name "len" p) [.Call (.Name "set" p2) [a] [] q] [] pos) (tLenSet X.K ta) := by
  refine ⟨fun pins s σ H Q I h => ?_⟩
  refine Call_ (ld_blt I hg hm boot_len (callWith_builtin1 (args_cons ?_ rfl) rfl rfl))
  refine Call_ (ld_blt I hg2 hm2 boot_set (callWith_type1 (args_cons (thn (ha.run pins s σ H _ I h) fun v s1 ⟨x, H1, I1, r1, q1⟩ => args_nil ?_) na) na rfl))
  obtain ⟨l, ns, rfl, hq, hl, q1⟩ := q1
  cases r1
  have fin : ∀ (h' : Heap) (tk c : Nat) (o : Obj) es ep t, h'.get? s1.heap.objs.size = some o → o.ExactSet → o.data = .set es ep t → t.fits es.size = true → es.size = c → (∀ b o, s1.heap.get? b = some o → h'.get? b = some o) → c ≤ ns.length → (c = ns.length ↔ ns.Nodup) →
      wpAny (model X.prog X.w) X.A (call (.builtin "len") [.ref s1.heap.objs.size]) (EP X pins σ Q) X.xe { s1 with heap := h', toks := tk } := fun h' tk c o es ep t ho hex hd hf hn hk hcl hcn => by
    have I2 : Inv X pins σ H1 { s1 with heap := h', toks := tk } := I1.kept hk
    exact call_len_set ho hex hd hf (by rw [hn]; omega) ⟨.int c, H1, I2.tok _, ⟨_, by rw [hn]⟩, q1 c hcl hcn⟩
  rcases hq with hq | hq
  · obtain ⟨its, r, pl, hz⟩ := I1.list hq
    have hlen : its.toArray.size = ns.length := by rw [List.size_toArray, ← r.length, List.length_map]
    refine call_set_list (I1.ok.hd hc) pl.isList (by simpa using ints_are r) (by rw [hlen]; unfold scanBound; omega) fun h' tk hS hk => args_nil ?_
    rw [hlen] at hS
    obtain ⟨o, es, ep, t, ho, hex, hd, _, _, _, hf, hn⟩ := hS
    exact fin h' tk _ o es ep t ho hex hd hf hn (fun b o e => hk b o (Heap.lt_size e) e) (met_len ns).1 (met_len ns).2
  · obtain ⟨its, r, pl, hz⟩ := I1.tuple hq
    refine call_set_tupI ns (I1.ok.hd hc) (show s1.heap.IsTuple l its.toArray from pl) (by simpa using ints_are r) (by unfold scanBound; omega) fun h' tk c R1 hcn hk => args_nil ?_
    obtain ⟨o, es, ep, t, ho, hex, hd, g, nd, hm2, hb, hf, hn, hr, hl2⟩ := R1
    have hsz : es.size = (es.toList.map keyOf).length := by rw [List.length_map, Array.length_toList]
    have m1 : ∀ x ∈ ns, x ∈ es.toList.map keyOf := fun x hx => (hm2 x).mp (by simpa using hx)
    have m2 : ∀ x ∈ es.toList.map keyOf, x ∈ ns := fun x hx => by simpa using (hm2 x).mpr hx
    refine fin h' tk c o es ep t ho hex hd hf hn hk hcn ⟨fun e => ?_, fun e => ?_⟩
    · exact nodup_of_len nd m2 m1 (by omega)
    · have := nodup_sub_len e m1
      omega
/-- a tuple's items gathered, the heap told -/
theorem gather_tup {prog : Program} {w : World} {A : Around} {E : Value → Shared → Prop} {s : Shared} {t : Addr} {ot : Obj} {its : List Value} {nt : Nat} {Q : List Value → Shared → Prop} (e1 : s.heap.get? t = some ot) (e2 : ot.cls = .type "tuple") (e3 : ot.data = .seq its.toArray nt) (hz : its.length ≤ sizeLine)
    (k : ∀ hp : Heap, s.heap.objs.size ≤ hp.objs.size → (∀ b u, s.heap.get? b = some u → hp.get? b = some u) → Q its { s with heap := hp }) : wpAny (model prog w) A (collect (.ref t)) Q E s := by
  unfold collect
  refine wpAny_bind (wpAny_runValue (codeAny_builtin PyProof.Rows.entry_proto_collect' ?_))
  show wpAny _ _ (newList [] >>= fun l => again (.builtin "list.__iadd__" ⟨[l, .ref t], []⟩)) _ _ s
  refine wpAny_bind (wpAny_newList (wpAny_pure ⟨Code.quiet_builtin _ (by decide +kernel), codeAny_builtin PyProof.Rows.entry_list_iadd' ?_⟩))
  generalize hh : s.heap.push (seqObj "list" #[] 0) = h0
  have g0 : h0.get? s.heap.objs.size = some (seqObj "list" #[] 0) := by rw [← hh]; exact Heap.get?_push_size _ rfl
  have gt : h0.get? t = some ot := by rw [← hh]; exact Heap.get?_push_of_some _ e1
  have kk : ∀ b u, s.heap.get? b = some u → h0.get? b = some u := fun b u q => by rw [← hh]; exact Heap.get?_push_of_some _ q
  have hs0 : s.heap.objs.size < h0.objs.size := Heap.lt_size g0
  show wpAny _ _ (Builtin.List.listExtendWith (.ref s.heap.objs.size) (.ref t) (.ref s.heap.objs.size)) _ _ { s with heap := h0 }
  unfold Builtin.List.listExtendWith
  refine wpAny_bind (wpAny_typeOf (T := "tuple") ⟨ot, gt, e2⟩ ?_)
  rw [if_pos (by simp)]
  refine wpAny_bind (listItems_at gt e3 ?_)
  refine wpAny_bind (listItems_at (xs := #[]) (n := 0) g0 rfl ?_)
  rw [if_neg (by simp)]
  refine wpAny_bind (listUpdate_at (xs := #[]) (n := 0) g0 rfl ?_ (Nat.zero_le _) (by show (#[] ++ its.toArray).size ≤ sizeLine + 1; simp only [Array.size_append, List.size_toArray, List.length_nil]; omega))
  refine wpAny_pure ?_
  show wpAny _ _ (load s.heap.objs.size >>= fun o => match o.data with | .seq xs _ => pure xs.toList | _ => unsupported "internal:collect") Q E { s with heap := h0.update s.heap.objs.size (Obj.mapSeq (· ++ its.toArray)) }
  refine wpAny_bind (wpAny_load (get?_update_seq g0 _) ?_)
  show wpAny _ _ (pure ((#[] : Array Value) ++ its.toArray).toList) Q E _
  rw [show ((#[] : Array Value) ++ its.toArray).toList = its by simp]
  refine wpAny_pure (k _ (by rw [Heap.size_update]; omega) fun b u q => ?_)
  rw [Heap.get?_update_ne _ _ _ _ (Nat.ne_of_lt (Heap.lt_size q))]
  exact kk b u q
/-- sorted(t), t a tuple of ints -/
def rSortedU (K : PySem.W.Frag) : List V → Hp → VK → Prop := fun vs H Q => ∃ (a : Addr) (ns : List Int), vs = [V.ref a] ∧ SqT K H a (ns.map V.int) ∧
  ∀ (ns' : List Int) (p : Addr), ns'.Perm ns → ns'.Pairwise (· ≤ ·) → H p = none → Q (.ref p) (upd H p (.lst (ns'.map V.int)))
theorem cr_sortedU : CallR X (.builtin "sorted") (rSortedU X.K) := by
  intro pins s σ H vs us Q I r h
  obtain ⟨a, ns, rfl, hs, q⟩ := h
  obtain ⟨its, rv, hl, hz⟩ := I.tuple hs
  rw [Vals.ref1 r]
  have hi := rv.ints
  obtain ⟨o, ho, hc, n, hd⟩ := id hl
  have hzi : its.length ≤ sizeLine := by rw [← rv.length]; exact hz
  refine Calls.call_function_entry kind_sorted plain_sorted entry_sorted (args_sorted1 _) ?_
  unfold Builtin.«sorted»
  refine wpAny_bind (m := checkCount "sorted" 1 1 _) (wpAny_pure ?_)
  refine wpAny_bind (gather_tup ho hc hd hzi fun h' hle hk => ?_)
  show wpAny _ _ _ _ _ { s with heap := h' }
  refine wpAny_bind (wpAny_newList ?_ (show its.length ≤ sizeLine from hzi))
  have hoL : (h'.push (seqObj "list" its.toArray 0)).get? h'.objs.size = some (seqObj "list" its.toArray 0) := Heap.get?_push_size _ rfl
  refine wpAny_bind (wpAny_holding (wpAny_call_entry slot_list_sort ⟨_, hoL, rfl⟩ entry_list_sort (SrtO.list_sort_ord SrtO.swo_int hoL hzi (fun h2 => SrtO.ints_sortable hi h2) fun out h1 h2 => ⟨_, rfl, wpAny_pure ⟨_, rfl, ?_⟩⟩) (args_list_sort _)))
  obtain ⟨k1, k2, k3⟩ := SrtO.ints_out hi h1 h2
  obtain ⟨ep, he'⟩ := PyProof.Rows.sortedHeap_at (vs := its) (out := out.toArray) hoL
  have hlen : ((out.map SrtO.iv).map V.int).length ≤ sizeLine := by
    rw [List.length_map, k2.length_eq]
    rw [List.length_map] at hz
    exact hz
  refine ⟨.ref _, upd H h'.objs.size (.lst ((out.map SrtO.iv).map V.int)), I.laid (t' := s.toks) (fun b u hb => ?_) hle ⟨hlen, out, ep, vals_of_ints k1, he'⟩, rfl, q _ _ k2 k3 (I.hok.fresh hle)⟩
  have h3 := hk b u hb
  rw [PyProof.Rows.sortedHeap_old (Nat.ne_of_lt (Heap.lt_size h3)) (Nat.lt_of_lt_of_le (Heap.lt_size h3) (by show _ ≤ (h'.push _).objs.size; rw [size_push']; exact Nat.le_succ _))]
  exact Heap.get?_push_of_some _ h3
/-! ### xs.extend(t), t a tuple -/
def rExtendT (K : PySem.W.Frag) : V → List V → Hp → VK → Prop := fun x vs H Q => ∃ l b xs zs, x = .ref l ∧ vs = [.ref b] ∧ H l = some (.lst xs) ∧ SqT K H b zs ∧ xs.length + zs.length ≤ sizeLine ∧ Q .non (upd H l (.lst (xs ++ zs)))
theorem mt_extendT : MtM X "list.extend" (rExtendT X.K) := by
  intro pins s σ H x vs v us Q I rx rv h
  obtain ⟨l, b, xs, zs, rfl, rfl, hH, hB, hz, q⟩ := h
  cases rx
  obtain ⟨u, rfl, ru⟩ := rv.one
  cases ru
  obtain ⟨z, its, n, r, hl, e⟩ := I.lstM hH
  obtain ⟨its2, r2, p2, z2⟩ := I.tuple hB
  obtain ⟨o2, ho2, hc2, n2, hd2⟩ := id p2
  have hl2 := r2.length
  have hsz : its.toArray.size + its2.toArray.size ≤ sizeLine := by rw [List.size_toArray, List.size_toArray]; omega
  refine wpAny_call_entry F.slot_list_extend ⟨_, e, rfl⟩ F.entry_list_extend ?_ (F.args_list_extend_2 _ _)
  show wpAny _ _ (Builtin.List.listExtendWith (.ref l) (.ref b) .none) _ _ s
  unfold Builtin.List.listExtendWith
  refine wpAny_bind (wpAny_typeOf ⟨o2, ho2, hc2⟩ ?_)
  have h1 : (Builtin.List.listSameRef (.ref l) (.ref b) || Value.type "tuple" == Value.type "list" || Value.type "tuple" == Value.type "tuple") = true := by simp
  simp only [h1, if_true]
  refine wpAny_bind ?_
  unfold Builtin.List.listItems
  refine wpAny_bind (wpAny_seqItems ho2 hd2 (wpAny_pure ?_))
  refine wpAny_bind ?_
  refine wpAny_bind (wpAny_seqItems e rfl (wpAny_pure ?_))
  have hlong : ¬ (!its.toArray.isEmpty && Builtin.List.listTooLong (its.toArray.size + its2.toArray.size)) = true := by
    rw [notLongL hsz, Bool.and_false]
    exact Bool.false_ne_true
  rw [if_neg hlong]
  show wpAny _ _ (updateSeq l (· ++ its2.toArray) >>= fun _ => ret .none) _ _ s
  refine wpAny_bind (wpAny_updateSeq e rfl (wpAny_pure ?_))
  refine ⟨_, rfl, .non, _, I.lset (its' := its ++ its2) hH e (by simp) (r.append r2) ?_, rfl, q⟩
  rw [List.length_append]
  omega
/-! ### x in t, t a tuple of data -/
def rInU (K : PySem.W.Frag) : R2 := fun x y H Q => ∃ d ds, Dp K H x d ∧ Dp K H y (.tuple ds) ∧ SeqAt.shaped d = true ∧ SeqAt.shaped (.tuple ds) = true ∧ Q (.bl (ds.any fun z => PyData.eqv z d)) H
theorem op_inU (hu : X.A.units + 65 < cLine) : OpR X (compareOp .In) (rInU X.K) := by
  intro pins s σ H x y v u Q I rx ry h
  obtain ⟨d, ds, hd, he, sd, se, q⟩ := h
  obtain ⟨as, r1⟩ := Dp.reads I d x v hd rx
  obtain ⟨bs, r2⟩ := Dp.reads I (.tuple ds) y u he ry
  exact SeqAt.in_tuple_reads r2 r1 (SeqAt.canLay_of_shaped se) (SeqAt.canLay_of_shaped sd) (room_in_shaped sd hu) ⟨.bl _, H, I, rfl, q⟩
end
end SQ

/-! ## Rules of our own, 8: x[::-1] of a list or a tuple -/
namespace SQ
open PySem PySem.Spec PyProof.Rows L2 HT
def sqO (k : Bool) (xs : List V) : HO := match k with
  | true => .lst xs
  | false => .tup xs
section
variable {prog : Program} {w : World} {A : Around} {E : Value → Shared → Prop} {s : Shared}
theorem places_back (n : Nat) : Builtin.Slice.slicePlaces ((n : Int) - 1) (-1) (-1) = n := by
  unfold Builtin.Slice.slicePlaces
  rw [if_neg (by decide)]
  by_cases h : (n : Int) - 1 > -1
  · rw [if_pos h, show (-(-1) : Int) = 1 by decide, Int.ediv_one]; omega
  · rw [if_neg h]; omega
theorem fm_congr {α β : Type} {f g : α → Option β} : ∀ {l : List α}, (∀ x ∈ l, f x = g x) → l.filterMap f = l.filterMap g
  | [], _ => rfl
  | x :: l, h => by
    rw [List.filterMap_cons, List.filterMap_cons, h x (List.mem_cons_self ..), fm_congr fun y hy => h y (List.mem_cons_of_mem _ hy)]
theorem back_all (xs : Array Value) : ((List.range xs.size).filterMap fun (m : Nat) => xs[((((xs.size : Int) - 1) + (m : Int) * (-1))).toNat]?).toArray = xs.toList.reverse.toArray := by
  refine congrArg List.toArray ?_
  have e : (List.range xs.size).filterMap (fun (m : Nat) => xs[((((xs.size : Int) - 1) + (m : Int) * (-1))).toNat]?) = ((List.range xs.size).map fun m => xs.size - 1 - m).filterMap (xs[·]?) := by
    rw [List.filterMap_map]
    refine fm_congr fun m hm => ?_
    have := List.mem_range.mp hm
    have e2 : ((((xs.size : Int) - 1) + (m : Int) * (-1))).toNat = xs.size - 1 - m := by omega
    show xs[((((xs.size : Int) - 1) + (m : Int) * (-1))).toNat]? = xs[xs.size - 1 - m]?
    rw [e2]
  rw [e, PySem.W.krv_range, List.filterMap_reverse, PySem.W.krv_all]
theorem getItem_tuple_back {t sl : Addr} {items : Array Value} {vs : Value} {Q : Value → Shared → Prop} (ht : IsTup s.heap t items) (hs : s.heap.IsSliceOf sl .none .none vs) (ps : IsPart vs (some (-1)))
    (h : items.size ≠ 0 ∨ items.size = 0 → Q (.ref s.heap.objs.size) { s with heap := s.heap.push { cls := .type "tuple", data := .seq items.toList.reverse.toArray } })
    (hsz : items.size ≤ sizeLine) : wpAny (model prog w) A (getItem (.ref t) (.ref sl)) Q E s := by
  have hfit : sizeOk (.seq items.toList.reverse.toArray) := by
    show items.toList.reverse.toArray.size ≤ sizeLine
    rw [List.size_toArray, List.length_reverse, Array.length_toList]
    exact hsz
  obtain ⟨os, hos, hcs, hds⟩ := id hs
  have tsl : s.TypeIs (.ref sl) "slice" := ⟨os, hos, hcs⟩
  unfold getItem
  try with_reducible refine wpAny_holding ?_
  first | refine wpAny_bind (wpAny_pure ?_) | skip
  refine wpAny_bind (wpAny_sequenceKey ht.typeIs (by decide) (wpAny_bind (wpAny_callSpecial?_slot (name := Str.ofString "__getitem__") ht.typeIs PyProof.Rows.slot_tuple_getitem (wpAny_call_entry PyProof.Rows.slot_tuple_getitem ht.typeIs entry_tuple_getitem ?_ (args_tuple_getitem _ _)))))
  show wpAny _ _ (Builtin.Tuple.tupleItemsOf (.ref t) >>= _) _ _ s
  refine wpAny_bind (tupleItemsOf_ ht (wpAny_bind (wpAny_typeOf tsl ?_)))
  rw [if_pos (by decide)]
  have sa : ∀ {R : Int × Int × Nat → Shared → Prop} {E' : Value → Shared → Prop} {A' : Around}, R ((items.size : Int) - 1, -1, items.size) s → wpAny (model prog w) A' (Builtin.Slice.sliceApplied (.ref sl) (pure (items.size : Int))) R E' s := fun {R E' A'} hR => by
    unfold Builtin.Slice.sliceApplied Builtin.Slice.sliceFields
    refine wpAny_bind (wpAny_bind (wpAny_field hos hds (x := Value.none) rfl (wpAny_bind (wpAny_field hos hds (x := Value.none) rfl (wpAny_bind (wpAny_field hos hds (x := vs) rfl (wpAny_pure ?_)))))))
    refine wpAny_bind (slicePart_ ps ?_)
    show wpAny _ _ (if ((-1 : Int) == 0) = true then _ else _) _ _ s
    rw [if_neg (by decide)]
    refine wpAny_bind (slicePart_none (wpAny_bind (slicePart_none (wpAny_bind (wpAny_pure ?_)))))
    show wpAny _ _ (pure ((items.size : Int) - 1, (-1 : Int), Builtin.Slice.slicePlaces ((items.size : Int) - 1) (-1) (-1))) _ _ s
    rw [places_back]
    exact wpAny_pure hR
  refine wpAny_bind (sa ?_)
  show wpAny _ _ (if (((items.size : Int) - 1) == 0 && (-1 : Int) == 1 && items.size == items.size) = true then _ else _) _ _ s
  rw [if_neg (by simp), back_all]
  have hh := h (by omega)
  first
    | exact wpAny_bind (m := Builtin.Tuple.tupleExact _) (wpAny_newObj_type (wpAny_pure ⟨_, rfl, wpAny_pure hh⟩) hfit)
    | exact wpAny_bind (m := Builtin.Tuple.tupleExact _) (wpAny_newObj_type (wpAny_bind (wpAny_pure (wpAny_pure ⟨_, rfl, wpAny_pure hh⟩))) hfit)
    | exact wpAny_bind (wpAny_bind (m := Builtin.Tuple.tupleExact _) (wpAny_newObj_type (wpAny_pure (wpAny_pure ⟨_, rfl, wpAny_pure hh⟩)) hfit))
    | exact wpAny_bind (wpAny_bind (m := Builtin.Tuple.tupleExact _) (wpAny_newObj_type (wpAny_pure ⟨_, rfl, wpAny_pure hh⟩) hfit))
end
section
variable {X : Cx}
def tRev (K : PySem.W.Frag) (te : TE) : TE := fun σ H Q => te σ H fun x H1 => ∃ k a xs, x = .ref a ∧ Sq k K H1 a xs ∧ ∀ p, H1 p = none → Q (.ref p) (upd H1 p (sqO k xs.reverse))
theorem pe_rev {e : Expr} {te : TE} {k : Nat} {p1 p2 p3 pos : Pos} (he : PE X e te) : PE X (.Subscript e (.Slice none none (some (.UnaryOp .USub (.Constant (.int 1) k p1) p2)) p3) pos) (tRev X.K te) := by
  refine ⟨fun pins s σ H Q I h => ?_⟩
  refine Subscript_ (thn (he.run pins s σ H _ I h) fun v s1 ⟨x, H1, I1, r1, q1⟩ => ?_)
  obtain ⟨kd, a, xs, rfl, hx, q⟩ := q1
  cases r1
  have hst : PO X (some (.UnaryOp .USub (.Constant (.int 1) k p1) p2)) (tPart (tUn (rU fun i => .int (-i)) (tC (.int 1)))) := po_some (pe_un un_neg pe_int)
  refine wpAny_Slice (thn (po_none.run pins s1 σ H1 (fun o H2 => o = none ∧ H2 = H1) I1 ⟨rfl, rfl⟩) fun vl s2 ⟨l, H2, I2, pl, el, e2⟩ => ?_)
  subst el e2
  refine thn (po_none.run pins s2 σ H2 (fun o H3 => o = none ∧ H3 = H2) I2 ⟨rfl, rfl⟩) fun vu s3 ⟨u, H3, I3, pu, eu, e3⟩ => ?_
  subst eu e3
  refine thn (hst.run pins s3 σ H3 (fun o H4 => o = some (-1) ∧ H4 = H3) I3 ⟨1, rfl, -1, rfl, rfl, rfl⟩) fun vs s4 ⟨o, H4, I4, ps, eo, e4⟩ => ?_
  subst eo e4
  cases pl
  cases pu
  have I5 : Inv X pins σ H4 { s4 with heap := s4.heap.push { cls := .type "slice", data := .fields #[.none, .none, vs] } } := I4.kept (t' := s4.toks) fun b ob q => Heap.get?_push_of_some _ q
  have isl := Heap.IsSliceOf.new s4.heap Value.none Value.none vs
  show wpAny (model X.prog X.w) X.A (subscriptTail e (.Slice none none (some (.UnaryOp .USub (.Constant (.int 1) k p1) p2)) p3) (.ref a) (.ref s4.heap.objs.size)) (EP X pins σ Q) X.xe _
  cases kd with
  | true =>
    obtain ⟨its, r, ht, hz⟩ := I5.list hx
    have hlen := r.length
    refine tail_any (ops := [.ref a, .ref s4.heap.objs.size]) ht.isList.typeIs (PySem.slot_list_getitem.lookup) ?_ (by with_unfolding_all rfl)
    refine wpAny_getItem_list_slice ht.isList isl .none .none ps (by decide) ?_ (by rw [List.size_toArray]; omega)
    rw [PySem.W.krv_pick]
    exact ⟨.ref _, _, I5.laid (t' := s4.toks) (o := .lst xs.reverse) (fun b ob q => Heap.get?_push_of_some _ q) (Nat.le_refl _) ⟨by rw [List.length_reverse]; exact hz, _, 0, r.reverse, Heap.get?_push_size _ rfl⟩, rfl, q _ (I5.hok.fresh (Nat.le_refl _))⟩
  | false =>
    obtain ⟨its, r, ht, hz⟩ := I5.tuple hx
    have hlen := r.length
    refine tail_any (ops := [.ref a, .ref s4.heap.objs.size]) ht.typeIs (PyProof.Rows.slot_tuple_getitem.lookup) ?_ (by with_unfolding_all rfl)
    refine getItem_tuple_back ht isl ps (fun _ => ?_) (by rw [List.size_toArray]; omega)
    exact ⟨.ref _, _, I5.laid (t' := s4.toks) (o := .tup xs.reverse) (fun b ob q => Heap.get?_push_of_some _ q) (Nat.le_refl _) ⟨by rw [List.length_reverse]; exact hz, _, r.reverse, IsTup.new _ _⟩, rfl, q _ (I5.hok.fresh (Nat.le_refl _))⟩
end
end SQ

/-! ## The data: trees, how they stand in a heap, and how heaps grow -/
namespace GD
open PySem L2 Evl
inductive T where
  | non
  | bl (b : Bool)
  | int (i : Int)
  | str (s : Str)
  | tup (ts : List T)
  | lst (ts : List T)
  | dic
mutual
def Rp (F : Hp) : T → V → Prop
  | .non, v => v = .non
  | .bl b, v => v = .bl b
  | .int i, v => v = .int i
  | .str s, v => v = .str s
  | .tup ts, v => ∃ a vs, v = .ref a ∧ F a = some (.tup vs) ∧ vs.length ≤ 60 ∧ Rps F ts vs
  | .lst ts, v => ∃ a vs, v = .ref a ∧ F a = some (.lst vs) ∧ vs.length ≤ 60 ∧ Rps F ts vs
  | .dic, v => ∃ a kvs, v = .ref a ∧ F a = some (.dK kvs)
def Rps (F : Hp) : List T → List V → Prop
  | [], vs => vs = []
  | t :: ts, vs => ∃ v vs', vs = v :: vs' ∧ Rp F t v ∧ Rps F ts vs'
end
section
variable {F F' H H' : Hp} {t : T} {ts us : List T} {v : V} {vs ws : List V}
mutual
theorem Rp.mono (e : Ex F F') : ∀ (t : T) (v : V), Rp F t v → Rp F' t v
  | .non, _, h => h
  | .bl _, _, h => h
  | .int _, _, h => h
  | .str _, _, h => h
  | .tup ts, _, ⟨a, vs, e1, e2, e3, e4⟩ => ⟨a, vs, e1, e a _ e2, e3, Rps.mono e ts vs e4⟩
  | .lst ts, _, ⟨a, vs, e1, e2, e3, e4⟩ => ⟨a, vs, e1, e a _ e2, e3, Rps.mono e ts vs e4⟩
  | .dic, _, ⟨a, kvs, e1, e2⟩ => ⟨a, kvs, e1, e a _ e2⟩
theorem Rps.mono (e : Ex F F') : ∀ (ts : List T) (vs : List V), Rps F ts vs → Rps F' ts vs
  | [], _, h => h
  | t :: ts, _, ⟨v, vs', e1, e2, e3⟩ => ⟨v, vs', e1, Rp.mono e t v e2, Rps.mono e ts vs' e3⟩
end
theorem Rps.len : ∀ {ts : List T} {vs : List V}, Rps F ts vs → ts.length = vs.length
  | [], _, h => by cases h; rfl
  | _ :: _, _, ⟨_, _, e, _, h⟩ => by rw [e, List.length_cons, List.length_cons, Rps.len h]
theorem Rps.at : ∀ {ts : List T} {vs : List V}, Rps F ts vs → ∀ {i : Nat} {v : V}, vs[i]? = some v → ∃ t, ts[i]? = some t ∧ Rp F t v
  | [], _, h, i, v, e => by cases h; simp at e
  | t :: ts, _, ⟨w, ws, e1, h1, h2⟩, 0, v, e => by subst e1; simp at e; subst e; exact ⟨t, rfl, h1⟩
  | t :: ts, _, ⟨w, ws, e1, h1, h2⟩, i + 1, v, e => by subst e1; simpa using Rps.at h2 (by simpa using e)
theorem Rps.to : ∀ {ts : List T} {vs : List V}, Rps F ts vs → ∀ {i : Nat} {t : T}, ts[i]? = some t → ∃ v, vs[i]? = some v ∧ Rp F t v
  | [], _, h, i, v, e => by simp at e
  | t :: ts, _, ⟨w, ws, e1, h1, h2⟩, 0, v, e => by subst e1; simp at e; subst e; exact ⟨w, rfl, h1⟩
  | t :: ts, _, ⟨w, ws, e1, h1, h2⟩, i + 1, v, e => by subst e1; simpa using Rps.to h2 (by simpa using e)
theorem Rps.app : ∀ {ts : List T} {vs : List V}, Rps F ts vs → Rps F us ws → Rps F (ts ++ us) (vs ++ ws)
  | [], _, h, k => by cases h; exact k
  | _ :: _, _, ⟨v, vs', e, h1, h2⟩, k => ⟨v, vs' ++ ws, by rw [e]; rfl, h1, Rps.app h2 k⟩
theorem Rps.one (h : Rp F t v) : Rps F [t] [v] := ⟨v, [], rfl, h, rfl⟩
theorem Rps.rev : ∀ {ts : List T} {vs : List V}, Rps F ts vs → Rps F ts.reverse vs.reverse
  | [], _, h => by cases h; rfl
  | t :: ts, _, ⟨v, vs', e, h1, h2⟩ => by
    subst e
    rw [List.reverse_cons, List.reverse_cons]
    exact (Rps.rev h2).app (.one h1)
theorem Rps.take : ∀ {ts : List T} {vs : List V}, Rps F ts vs → ∀ n, Rps F (ts.take n) (vs.take n)
  | [], _, h, n => by cases h; rw [List.take_nil, List.take_nil]; rfl
  | t :: ts, _, ⟨v, vs', e, h1, h2⟩, 0 => rfl
  | t :: ts, _, ⟨v, vs', e, h1, h2⟩, n + 1 => by subst e; exact ⟨v, _, rfl, h1, Rps.take h2 n⟩
theorem Rps.drop : ∀ {ts : List T} {vs : List V}, Rps F ts vs → ∀ n, Rps F (ts.drop n) (vs.drop n)
  | [], _, h, n => by cases h; rw [List.drop_nil, List.drop_nil]; rfl
  | t :: ts, _, ⟨v, vs', e, h1, h2⟩, 0 => ⟨v, vs', e, h1, h2⟩
  | t :: ts, _, ⟨v, vs', e, h1, h2⟩, n + 1 => by subst e; exact Rps.drop h2 n
theorem Rps.set : ∀ {ts : List T} {vs : List V}, Rps F ts vs → Rp F t v → ∀ i, Rps F (ts.set i t) (vs.set i v)
  | [], _, h, k, i => by cases h; rfl
  | _ :: _, _, ⟨w, vs', e, h1, h2⟩, k, 0 => by subst e; exact ⟨v, vs', rfl, k, h2⟩
  | _ :: _, _, ⟨w, vs', e, h1, h2⟩, k, i + 1 => by subst e; exact ⟨w, _, rfl, h1, Rps.set h2 k i⟩
theorem Rps.ints : ∀ {ns : List Int} {vs : List V}, Rps F (ns.map T.int) vs ↔ vs = ns.map V.int
  | [], vs => Iff.rfl
  | n :: ns, vs => ⟨fun ⟨v, vs', e, h1, h2⟩ => by rw [e, Rps.ints.mp h2, show v = V.int n from h1]; rfl, fun h => ⟨.int n, ns.map V.int, h, rfl, Rps.ints.mpr rfl⟩⟩
theorem Rp.tup_i {a : Addr} {vs : List V} (h : F a = some (.tup vs)) (hz : vs.length ≤ 60) (r : Rps F ts vs) : Rp F (.tup ts) (.ref a) := ⟨a, vs, rfl, h, hz, r⟩
theorem Rp.lst_i {a : Addr} {vs : List V} (h : F a = some (.lst vs)) (hz : vs.length ≤ 60) (r : Rps F ts vs) : Rp F (.lst ts) (.ref a) := ⟨a, vs, rfl, h, hz, r⟩
/-- a tree's class -/
def tyT : T → String
  | .non => "NoneType"
  | .bl _ => "bool"
  | .int _ => "int"
  | .str _ => "str"
  | .tup _ => "tuple"
  | .lst _ => "list"
  | .dic => "dict"
theorem Rp.ty {K : PySem.W.Frag} (e : Ex F H) : ∀ {t : T} {v : V}, Rp F t v → TyX K H v (.type (tyT t))
  | .non, _, h => by cases h; exact .base .non
  | .bl _, _, h => by cases h; exact .base (.bl _)
  | .int _, _, h => by cases h; exact .base (.int _)
  | .str _, _, h => by cases h; exact .base (.str _)
  | .tup _, _, ⟨a, vs, e1, e2, _⟩ => by subst e1; exact .base (.tup (e a _ e2))
  | .lst _, _, ⟨a, vs, e1, e2, _⟩ => by subst e1; exact .base (.lst (e a _ e2))
  | .dic, _, ⟨a, kvs, e1, e2⟩ => by subst e1; exact .base (.dK (e a _ e2))
def isI : T → Bool
  | .bl _ => true
  | .int _ => true
  | _ => false
def isB : T → Bool
  | .bl _ => true
  | _ => false
def isS : T → Bool
  | .str _ => true
  | _ => false
def isU : T → Bool
  | .tup _ => true
  | _ => false
def isL : T → Bool
  | .lst _ => true
  | _ => false
theorem kit_i {K : PySem.W.Frag} (t : T) : PySem.W.kitOne K (.type (tyT t)) (.type "int") = some (isI t) := by cases t <;> exact kit_ty (by simp only [tyT, isI]; decide +kernel)
theorem kit_b {K : PySem.W.Frag} (t : T) : PySem.W.kitOne K (.type (tyT t)) (.type "bool") = some (isB t) := by cases t <;> exact kit_ty (by simp only [tyT, isB]; decide +kernel)
theorem kit_s {K : PySem.W.Frag} (t : T) : PySem.W.kitOne K (.type (tyT t)) (.type "str") = some (isS t) := by cases t <;> exact kit_ty (by simp only [tyT, isS]; decide +kernel)
theorem kit_u {K : PySem.W.Frag} (t : T) : PySem.W.kitOne K (.type (tyT t)) (.type "tuple") = some (isU t) := by cases t <;> exact kit_ty (by simp only [tyT, isU]; decide +kernel)
theorem kit_lu {K : PySem.W.Frag} (t : T) : PySem.W.kitAny K (.type (tyT t)) [.type "list", .type "tuple"] = some (isL t || isU t) := by
  cases t
  case lst ts => exact kitAny_cons (b := true) (kit_ty (by simp only [tyT]; decide +kernel)) (by intro z; cases z) (fun _ => rfl)
  case tup ts => exact kitAny_cons (b := false) (kit_ty (by simp only [tyT]; decide +kernel)) (fun _ => kitAny_cons (b := true) (kit_ty (by simp only [tyT]; decide +kernel)) (by intro z; cases z) (fun _ => rfl)) (by intro z; cases z)
  all_goals exact kitAny_cons (b := false) (kit_ty (by simp only [tyT]; decide +kernel)) (fun _ => kitAny_cons (b := false) (kit_ty (by simp only [tyT]; decide +kernel)) (fun _ => kitAny_nil) (by intro z; cases z)) (by intro z; cases z)
end
/-! ### how heaps grow: F what stands for good, H all that stands -/
structure Gw (M : Addr → Prop) (F H F' H' : Hp) : Prop where
  up : ∀ a o, ¬ M a → H a = some o → H' a = some o
  dom : ∀ a, H a ≠ none → H' a ≠ none
  fle : Ex F F'
  le : Ex F' H'
  new : ∀ a, H a ≠ none → F a = none → F' a = none
def Mn : Addr → Prop := fun _ => False
section
variable {M M' : Addr → Prop} {F H F1 H1 F2 H2 : Hp} {p : Addr} {o : HO}
theorem some_ne {x : Option HO} {o : HO} (h : x = some o) : x ≠ none := by rw [h]; intro z; cases z
theorem Gw.refl (e : Ex F H) : Gw M F H F H := ⟨fun _ _ _ h => h, fun _ h => h, Ex.refl F, e, fun _ _ h => h⟩
theorem Gw.trans (g : Gw M F H F1 H1) (k : Gw M F1 H1 F2 H2) : Gw M F H F2 H2 :=
  ⟨fun a o m h => k.up a o m (g.up a o m h), fun a h => k.dom a (g.dom a h), g.fle.trans k.fle, k.le, fun a h e => k.new a (g.dom a h) (g.new a h e)⟩
theorem Gw.wide (g : Gw M F H F1 H1) (w : ∀ a, M a → M' a) : Gw M' F H F1 H1 := ⟨fun a o m h => g.up a o (fun z => m (w a z)) h, g.dom, g.fle, g.le, g.new⟩
theorem Gw.widen (g : Gw Mn F H F1 H1) : Gw M F H F1 H1 := g.wide fun _ z => z.elim
theorem Gw.ex (g : Gw Mn F H F1 H1) : Ex H H1 := fun a o h => g.up a o (fun z => z) h
theorem Gw.ext (g : Gw M F H F1 H1) (e : Ex H1 H2) : Gw M F H F1 H2 :=
  ⟨fun a o m h => e a o (g.up a o m h), fun a h => by
    have := g.dom a h
    cases h1 : H1 a with
    | none => exact absurd h1 this
    | some u => exact some_ne (e a u h1), g.fle, g.le.trans e, g.new⟩
theorem Gw.fresh (g : Gw M F H F1 H1) (h : H1 p = none) : H p = none := by
  cases e : H p with
  | none => rfl
  | some o => exact absurd h (g.dom p (some_ne e))
theorem Gw.ffree (g : Gw M F H F1 H1) (h : H1 p = none) : F1 p = none := fresh_back g.le h
theorem Gw.alloc (g : Gw M F H F1 H1) (h : H1 p = none) : Gw M F H (upd F1 p o) (upd H1 p o) := by
  have f1 := g.ffree h
  have h0 := g.fresh h
  refine ⟨fun a u m e => ?_, fun a e => ?_, g.fle.trans (Ex.new f1), fun a u e => ?_, fun a e1 e2 => ?_⟩
  · rw [upd_ne (ne_of_none e h0)]; exact g.up a u m e
  · by_cases z : a = p
    · subst z; rw [upd_same]; intro q; cases q
    · rw [upd_ne z]; exact g.dom a e
  · by_cases z : a = p
    · subst z; rw [upd_same] at e ⊢; exact e
    · rw [upd_ne z] at e ⊢; exact g.le a u e
  · rw [upd_ne (fun z => e1 (by rw [z]; exact h0))]; exact g.new a e1 e2
theorem Gw.put (g : Gw M F H F1 H1) (h : H1 p = none) : Gw M F H F1 (upd H1 p o) := g.ext (Ex.new h)
theorem Gw.mut (g : Gw M F H F1 H1) (f : F1 p = none) (h : H p = none ∨ M p) : Gw M F H F1 (upd H1 p o) := by
  refine ⟨fun a u m e => ?_, fun a e => ?_, g.fle, fun a u e => ?_, g.new⟩
  · have : a ≠ p := by
      rintro rfl
      rcases h with h | h
      · rw [h] at e; cases e
      · exact m h
    rw [upd_ne this]; exact g.up a u m e
  · by_cases z : a = p
    · subst z; rw [upd_same]; intro q; cases q
    · rw [upd_ne z]; exact g.dom a e
  · rw [upd_ne (ne_of_none e f)]; exact g.le a u e
theorem Gw.freeze (g : Gw M F H F1 H1) (h0 : H p = none) (h : H1 p = some o) (f : F1 p = none) : Gw M F H (upd F1 p o) H1 := by
  refine ⟨g.up, g.dom, g.fle.trans (Ex.new f), fun a u e => ?_, fun a e1 e2 => ?_⟩
  · by_cases z : a = p
    · subst z; rw [upd_same] at e; rw [h]; exact e
    · rw [upd_ne z] at e; exact g.le a u e
  · rw [upd_ne (fun z => e1 (by rw [z]; exact h0))]; exact g.new a e1 e2
end
end GD

/-! ## Walks over lists and tuples alike; comprehensions by what is known -/
namespace SQ
open PySem PySem.Spec PyProof.Rows L2
def Isq (k : Bool) (K : PySem.W.Frag) (a : Addr) : It := match k with
  | true => Itl K a
  | false => Itt K a
def iSq (K : PySem.W.Frag) (tl : TE) : TI := fun σ H R => tl σ H fun x H1 => ∃ k a xs, x = .ref a ∧ Sq k K H1 a xs ∧ R (Isq k K a) H1
theorem pi_sq {X : Cx} {tg l : Expr} {tl : TE} (hl : PE X l tl) : PI X tg l (iSq X.K tl) := by
  refine ⟨fun pins s σ H R I h => ?_⟩
  refine thn (hl.run pins s σ H _ I h) fun v s1 ⟨x, H1, I1, r1, k, a, xs, e, hq, q⟩ => ?_
  subst e
  cases r1
  cases k with
  | true =>
    obtain ⟨its, rv, p, hz⟩ := I1.list hq
    refine wpAny_pyIter_list p.isList ⟨s1.heap.objs.size, [s1.heap.objs.size], _, _, H1, rfl, I1.kept (t' := s1.toks) fun b o e => Heap.get?_push_of_some _ e, turn_list a _, ⟨_, Heap.get?_push_size _ rfl, rfl, rfl⟩, fun b hb => ?_, q⟩
    have e : b = s1.heap.objs.size := by simpa using hb
    subst e
    exact I1.fpOk (Nat.le_refl _) (I1.hok.fresh (Nat.le_refl _))
  | false =>
    obtain ⟨its, rv, p, hz⟩ := I1.tuple hq
    refine wpAny_pyIter_tuple (show s1.heap.IsTuple a its.toArray from p) ⟨s1.heap.objs.size, [s1.heap.objs.size], _, _, H1, rfl, I1.kept (t' := s1.toks) fun b o e => Heap.get?_push_of_some _ e, turn_tuple a _, ⟨_, Heap.get?_push_size _ rfl, rfl, rfl⟩, fun b hb => ?_, q⟩
    have e : b = s1.heap.objs.size := by simpa using hb
    subst e
    exact I1.fpOk (Nat.le_refl _) (I1.hok.fresh (Nat.le_refl _))
theorem walk_sq {K : PySem.W.Frag} {k : Bool} {a : Addr} {xs : List V} : Walk (Isq k K a) xs.length (fun H => Sq k K H a xs) (YAt xs) := by
  cases k with
  | true => exact walk_list
  | false => exact walk_tup
end SQ
namespace GD
open PySem L2 Evl SQ
def EvI (wi : TI) (σ : L2.St) (F : Hp) (J : It) : Prop := ∀ H1, Ex F H1 → ∀ R : It → Hp → Prop, (∀ H2, Ex H1 H2 → R J H2) → wi σ H1 R
section
variable {K : PySem.W.Frag} {σ : L2.St} {F H : Hp} {ta tb te tl : TE} {tt : TT} {v : V} {J : It} {n : Nat} {G : Hp → Prop} {Y : Nat → Hp → V → Hp → Prop} {vs : List Nat} {wi : TI}
def fm (n : Nat) (f : Nat → Option V) : List V := (List.range n).filterMap f
theorem fm_some {n : Nat} {f : Nat → Option V} {v : V} (h : f n = some v) : fm (n + 1) f = fm n f ++ [v] := by
  unfold fm
  rw [List.range_succ, List.filterMap_append, List.filterMap_cons, h]
  rfl
theorem fm_none {n : Nat} {f : Nat → Option V} (h : f n = none) : fm (n + 1) f = fm n f := by
  unfold fm
  rw [List.range_succ, List.filterMap_append, List.filterMap_cons, h]
  simp
theorem fm_len (n : Nat) (f : Nat → Option V) : (fm n f).length ≤ n := by
  unfold fm
  have h := List.length_filterMap_le f (List.range n)
  rw [List.length_range] at h
  exact h
/-- what stands by the turn: H what is known, the new list at Dl -/
def Cf (F H1 : Hp) (f : Nat → Option V) (Dl : Addr) (i : Nat) (H' : Hp) : Prop := H1 Dl = none ∧ Ex H1 H' ∧ H' Dl = some (.lst (fm i f))
theorem cf_turn {H1 H' H2 : Hp} {f : Nat → Option V} {Dl : Addr} {i : Nat} {σ2 : L2.St} (p : Cf F H1 f Dl i H') (e2 : Ex H' H2) (hi : i < 100000) (ht : EvT tt σ2 H2 (f i).isSome) (he : ∀ v, f i = some v → Ev te σ2 H2 v) :
    tt σ2 H2 fun b H3 => if b = true then te σ2 H3 fun y H4 => ∃ acc, H4 Dl = some (.lst acc) ∧ acc.length < sizeLine ∧ Cf F H1 f Dl (i + 1) (upd H4 Dl (.lst (acc ++ [y]))) else Cf F H1 f Dl (i + 1) H3 := by
  obtain ⟨p1, p2, p3⟩ := p
  refine ht H2 (Ex.refl H2) _ fun H3 e3 => ?_
  cases hf : f i with
  | some v =>
    show te σ2 H3 fun y H4 => ∃ acc, H4 Dl = some (.lst acc) ∧ acc.length < sizeLine ∧ Cf F H1 f Dl (i + 1) (upd H4 Dl (.lst (acc ++ [y])))
    refine he v hf H3 e3 _ fun H4 e4 => ⟨fm i f, e4 Dl _ (e3 Dl _ (e2 Dl _ p3)), sz_lt (by have := fm_len i f; omega), p1, Ex.mut (((p2.trans e2).trans e3).trans e4) p1, ?_⟩
    rw [fm_some hf]
    exact upd_same
  | none =>
    show Cf F H1 f Dl (i + 1) H3
    refine ⟨p1, (p2.trans e2).trans e3, ?_⟩
    rw [fm_none hf]
    exact e3 Dl _ (e2 Dl _ p3)
/-- [e for x in ..]: nothing of what is known changes -/
theorem el_lcN {j : Nat} (W : Walk J n G Y) (hw : EvI wi σ F J) (hG : ∀ H, Ex F H → G H) (hY : ∀ i H x H', i < n → Y i H x H' → Ex H H') (hwp : ∀ x, wipe ((wipe σ vs).set j (some x)) vs = wipe σ vs) (hn : n ≤ 100000) (f : Nat → Option V)
    (hs : ∀ i x H H', i < n → Ex F H → Y i H x H' → EvT tt ((wipe σ vs).set j (some x)) H' (f i).isSome ∧ ∀ v, f i = some v → Ev te ((wipe σ vs).set j (some x)) H' v) : EvL (tLc wi (gName j) tt te vs) σ F (fm n f) := fun H0 e Q q =>
  hw H0 e _ fun H1 e1 Dl hD => lc_it W (Cf F H1 f Dl) ⟨hD, Ex.new hD, upd_same⟩ (fun i H' _ p => hG H' ((e.trans e1).trans p.2.1))
    (fun i x H H' hi p y => ⟨hwp x, cf_turn p (hY i H x H' hi y) (by omega) (hs i x H H' hi ((e.trans e1).trans p.2.1) y).1 (hs i x H H' hi ((e.trans e1).trans p.2.1) y).2⟩)
    (fun H' p => q Dl H' (fresh_back e1 p.1) (e1.trans p.2.1) p.2.2)
/-- [e for x, y in ..] -/
theorem el_lcP {j1 j2 : Nat} (W : Walk J n G Y) (hw : EvI wi σ F J) (hG : ∀ H, Ex F H → G H) (hY : ∀ i H x H', i < n → Y i H x H' → Ex H H') (hwp : ∀ x y, wipe (((wipe σ vs).set j1 (some x)).set j2 (some y)) vs = wipe σ vs) (hn : n ≤ 100000) (f : Nat → Option V)
    (hs : ∀ i x H H', i < n → Ex F H → Y i H x H' → ∃ a u v, x = .ref a ∧ SqT K H' a [u, v] ∧ EvT tt (((wipe σ vs).set j1 (some u)).set j2 (some v)) H' (f i).isSome ∧ ∀ z, f i = some z → Ev te (((wipe σ vs).set j1 (some u)).set j2 (some v)) H' z) :
    EvL (tLc wi (gTup K 2 (gCons (gName j1) (gCons (gName j2) gNil))) tt te vs) σ F (fm n f) := fun H0 e Q q =>
  hw H0 e _ fun H1 e1 Dl hD => lc_it W (Cf F H1 f Dl) ⟨hD, Ex.new hD, upd_same⟩ (fun i H' _ p => hG H' ((e.trans e1).trans p.2.1))
    (fun i x H H' hi p y => by
      obtain ⟨a, u, v, rfl, ht, h1, h2⟩ := hs i x H H' hi ((e.trans e1).trans p.2.1) y
      exact ⟨a, [u, v], rfl, ht, rfl, u, [v], rfl, v, [], rfl, rfl, hwp u v, cf_turn p (hY i H _ H' hi y) (by omega) h1 h2⟩)
    (fun H' p => q Dl H' (fresh_back e1 p.1) (e1.trans p.2.1) p.2.2)
theorem et_yes : EvT tYes σ F true := fun H1 _ _ q => q H1 (Ex.refl H1)
theorem evi_sq {k : Bool} {a : Addr} {xs : List V} (h : Ev tl σ F (.ref a)) (hx : Sq k K F a xs) : EvI (iSq K tl) σ F (Isq k K a) := fun H1 e _ q => h H1 e _ fun H2 e2 => ⟨k, a, xs, rfl, by
  cases k with
  | true => exact ex_l (e.trans e2) hx
  | false => exact ex_t (e.trans e2) hx, q H2 e2⟩
theorem ex_sq {k : Bool} {F H : Hp} {a : Addr} {xs : List V} (e : Ex F H) (hx : Sq k K F a xs) : Sq k K H a xs := by
  cases k with
  | true => exact ex_l e hx
  | false => exact ex_t e hx
theorem ev_all {bs : List Bool} (h : EvL tl σ F (bs.map V.bl)) : Ev (tCB (rAll K) (tCons tl tNil)) σ F (.bl (bs.all id)) := fun H1 e _ q => h H1 e _ fun p H2 _ e2 hp => ⟨p, bs, rfl, sq_of hp, q H2 e2⟩
theorem ev_any {bs : List Bool} (h : EvL tl σ F (bs.map V.bl)) : Ev (tCB (rAny K) (tCons tl tNil)) σ F (.bl (bs.any id)) := fun H1 e _ q => h H1 e _ fun p H2 _ e2 hp => ⟨p, bs, rfl, sq_of hp, q H2 e2⟩
theorem fm_bools {n : Nat} (b : Nat → Bool) : fm n (fun i => some (.bl (b i))) = ((List.range n).map b).map V.bl := by
  unfold fm
  rw [List.map_map, List.filterMap_eq_map']
  rfl
theorem all_range {α : Type} (p : α → Bool) (ts : List α) (b : Nat → Bool) (h : ∀ i t, ts[i]? = some t → b i = p t) : ((List.range ts.length).map b).all id = ts.all p := by
  rw [Bool.eq_iff_iff, List.all_eq_true, List.all_eq_true]
  constructor
  · intro k t ht
    obtain ⟨i, hi⟩ := List.mem_iff_getElem?.mp ht
    have := k (b i) (List.mem_map.mpr ⟨i, List.mem_range.mpr (List.getElem?_eq_some_iff.mp hi).1, rfl⟩)
    rw [← h i t hi]
    exact this
  · intro k c hc
    obtain ⟨i, hi, rfl⟩ := List.mem_map.mp hc
    have hl := List.mem_range.mp hi
    show b i = true
    rw [h i ts[i] (List.getElem?_eq_getElem hl)]
    exact k _ (List.getElem_mem hl)
/-- all([p(x) for x in thing]), the thing a list or a tuple of trees -/
theorem ev_allSq {j : Nat} {k : Bool} {a : Addr} {xs : List V} {ts : List T} (p : T → Bool) (h : Ev tl σ F (.ref a)) (hx : Sq k K F a xs) (ht : Rps F ts xs) (hz : xs.length ≤ 60) (hwp : ∀ x, wipe ((wipe σ vs).set j (some x)) vs = wipe σ vs)
    (he : ∀ t x H, Ex F H → t ∈ ts → Rp H t x → Ev te ((wipe σ vs).set j (some x)) H (.bl (p t))) : Ev (tCB (rAll K) (tCons (tLc (iSq K tl) (gName j) tYes te vs) tNil)) σ F (.bl (ts.all p)) := by
  have b : Nat → Bool := fun i => match ts[i]? with
    | some t => p t
    | none => true
  have := el_lcN (tt := tYes) (te := te) (j := j) (vs := vs) walk_sq (evi_sq h hx) (fun H e => ex_sq e hx) (fun i H x H' _ y => by rw [y.1]; exact Ex.refl H) hwp (by omega) (fun i => (ts[i]?).map fun t => V.bl (p t)) (fun i x H H' hi e y => ?_)
  · have e1 : fm xs.length (fun i => (ts[i]?).map fun t => V.bl (p t)) = (((List.range ts.length).map fun i => match ts[i]? with
        | some t => p t
        | none => true).map V.bl) := by
      rw [← fm_bools, ht.len]
      unfold fm
      refine fm_congr fun i hi => ?_
      have hl := List.mem_range.mp hi
      rw [← ht.len] at hl
      rw [List.getElem?_eq_getElem hl]
      rfl
    rw [e1] at this
    exact ev_is (ev_all this) (congrArg V.bl (all_range p ts _ fun i t h => by rw [h]))
  · obtain ⟨rfl, hy⟩ := y
    obtain ⟨t, h1, h2⟩ := ht.at hy
    have hs : ((ts[i]?).map fun t => V.bl (p t)) = some (V.bl (p t)) := by rw [h1]; rfl
    rw [hs]
    refine ⟨et_yes, fun v hv => ?_⟩
    obtain rfl : V.bl (p t) = v := Option.some.inj hv
    exact he t x H' e (List.mem_of_getElem? h1) (h2.mono e _ _)
end
end GD

/-! ## Rules with the written part told (for the parts of comprehensions) -/
namespace SQ
open PySem PySem.Spec PyProof.Rows L2
section
variable {X : Cx} {K : PySem.W.Frag}
theorem len_K (h : X.K = K := by rfl) : CallR X (.builtin "len") (Evl.rLenS K) := by subst h; exact call_len_seq
theorem list_K (h : X.K = K := by rfl) : CallR X (.type "list") (Evl.rListS K) := by subst h; exact call_list_of
theorem ixL_K (h : X.K = K := by rfl) : IxR X (rIxL K) := by subst h; exact ix_list
theorem ixT_K (h : X.K = K := by rfl) : IxR X (rIxT K) := by subst h; exact ix_tup
theorem inU_K (hu : X.A.units + 65 < cLine) (h : X.K = K := by rfl) : OpR X (compareOp .In) (rInU K) := by subst h; exact op_inU hu
theorem in_K (h : X.K = K := by rfl) : OpR X (compareOp .In) (rIn K false) := by subst h; exact op_in_seq
theorem notIn_K (h : X.K = K := by rfl) : OpR X (compareOp .NotIn) (rIn K true) := by subst h; exact op_notIn_seq
theorem catA_K (h : X.K = K := by rfl) : OpR X (binaryOp .Add) (rCatA K) := by subst h; exact op_catA
theorem slL_K (h : X.K = K := by rfl) : SlR X (rSlL K) := by subst h; exact sl_list
theorem slA_K (h : X.K = K := by rfl) : SlR X (rSlA K) := by subst h; exact sl_tupA
theorem pi_K {tg l : Expr} {tl : TE} (hl : PE X l tl) (h : X.K = K := by rfl) : PI X tg l (iSq K tl) := by subst h; exact pi_sq hl
theorem lenSet_K {a : Expr} {ta : TE} {p p2 q pos : Pos} (hg : Gl X "len") (hm : X.mg "len" = none) (hg2 : Gl X "set") (hm2 : X.mg "set" = none) (ha : PE X a ta) (h : X.K = K := by rfl) (hc : X.calm = true := by rfl)
    (na : starEach [a] X.env = (false, eval a X.env) :: starEach [] X.env := by rfl) : PE X (.Call (.Name "len" p) [.Call (.Name "set" p2) [a] [] q] [] pos) (SQ.tLenSet K ta) := by subst h; exact SQ.pe_lenSet hg hm hg2 hm2 ha hc na
theorem fld_K {e : Expr} {ta : TE} {f : Str} {pos : Pos} (he : PE X e ta) (hb : attributeBase e f X.env (eval e X.env) = eval e X.env) (h : X.K = K := by rfl) : PE X (.Attribute e f pos) (tFld K ta f) := by subst h; exact pe_fld he hb
end
end SQ

/-! ## Tuples of ints as data: ==, in -/
namespace GD
open PySem L2 Evl SQ
def iT (ns : List Int) : T := .tup (ns.map T.int)
def iD (ns : List Int) : PyData := .tuple (ns.map PyData.int)
theorem eqvAll_int : ∀ a b : List Int, PyData.eqvAll (a.map PyData.int) (b.map PyData.int) = decide (a = b)
  | [], [] => rfl
  | [], y :: ys => by
    rw [List.map_nil, List.map_cons, PyData.eqvAll]
    simp
  | x :: xs, [] => by
    rw [List.map_nil, List.map_cons, PyData.eqvAll]
    simp
  | x :: xs, y :: ys => by
    rw [List.map_cons, List.map_cons, PyData.eqvAll, PyData.eqv, eqvAll_int xs ys]
    by_cases h : x = y
    · by_cases h2 : xs = ys <;> simp [h, h2]
    · simp [h]
theorem eqv_iD (a b : List Int) : PyData.eqv (iD a) (iD b) = decide (a = b) := by
  unfold iD
  rw [PyData.eqv, eqvAll_int]
theorem lay_ints : ∀ a : List Int, PyData.canLayAll0 (a.map PyData.int) = true ∧ PyData.depthAll (a.map PyData.int) = 0
  | [] => ⟨by rw [List.map_nil, PyData.canLayAll0], by rw [List.map_nil, PyData.depthAll]⟩
  | x :: xs => by
    obtain ⟨h1, h2⟩ := lay_ints xs
    rw [List.map_cons, PyData.canLayAll0, PyData.depthAll, h1, h2, PyData.canLay0, PyData.depth]
    exact ⟨rfl, rfl⟩
theorem lay_iD (a : List Int) : (iD a).canLay0 = true ∧ (iD a).depth = 1 := by
  obtain ⟨h1, h2⟩ := lay_ints a
  unfold iD
  rw [PyData.canLay0, PyData.depth, h1, h2]
  exact ⟨rfl, rfl⟩
theorem sh_iD (a : List Int) : SeqAt.shaped (iD a) = true := by
  obtain ⟨h1, h2⟩ := lay_iD a
  unfold SeqAt.shaped
  rw [h1, h2]
  rfl
theorem lay_iDs : ∀ rows : List (List Int), PyData.canLayAll0 (rows.map iD) = true ∧ PyData.depthAll (rows.map iD) ≤ 1
  | [] => ⟨by rw [List.map_nil, PyData.canLayAll0], by rw [List.map_nil, PyData.depthAll]; exact Nat.zero_le _⟩
  | x :: xs => by
    obtain ⟨h1, h2⟩ := lay_iDs xs
    obtain ⟨h3, h4⟩ := lay_iD x
    rw [List.map_cons, PyData.canLayAll0, PyData.depthAll, h1, h3, h4]
    exact ⟨rfl, by omega⟩
theorem sh_tup (rows : List (List Int)) : SeqAt.shaped (.tuple (rows.map iD)) = true := by
  obtain ⟨h1, h2⟩ := lay_iDs rows
  unfold SeqAt.shaped
  rw [PyData.canLay0, PyData.depth, h1, Bool.true_and]
  exact decide_eq_true (by omega)
theorem sh_lst (rows : List (List Int)) : SeqAt.shaped (.list (rows.map iD)) = true := by
  obtain ⟨h1, h2⟩ := lay_iDs rows
  unfold SeqAt.shaped
  rw [PyData.canLay0, PyData.depth, h1, Bool.true_and]
  exact decide_eq_true (by omega)
theorem any_iD (rows : List (List Int)) (a : List Int) : (rows.map iD).any (fun z => PyData.eqv z (iD a)) = decide (a ∈ rows) := by
  rw [List.any_map, Bool.eq_iff_iff, List.any_eq_true, decide_eq_true_eq]
  constructor
  · rintro ⟨r, hr, h⟩
    have : decide (r = a) = true := by rw [← eqv_iD]; exact h
    rw [← of_decide_eq_true this]
    exact hr
  · intro h
    exact ⟨a, h, by show PyData.eqv (iD a) (iD a) = true; rw [eqv_iD]; simp⟩
section
variable {K : PySem.W.Frag} {σ : L2.St} {F F' H : Hp} {ta tb tc te : TE} {v : V}
theorem dpAll_ints : ∀ ns : List Int, DpAll K H (ns.map V.int) (ns.map PyData.int)
  | [] => .nil
  | n :: ns => .cons (.int n) (dpAll_ints ns)
theorem dp_iD {a : Addr} {ns : List Int} (h : SqT K H a (ns.map V.int)) : Dp K H (.ref a) (iD ns) := .tup h (dpAll_ints ns)
theorem dpAll_rows : ∀ {rows : List (List Int)} {xs : List V}, Rps H (rows.map iT) xs → DpAll K H xs (rows.map iD)
  | [], _, h => by cases h; exact .nil
  | r :: rows, _, ⟨v, vs, e, h1, h2⟩ => by
    subst e
    obtain ⟨a, us, rfl, h3, _, h4⟩ := h1
    rw [Rps.ints] at h4
    subst h4
    exact .cons (dp_iD (st_of h3)) (dpAll_rows h2)
/-- (..) in rows, the rows a tuple | a list -/
theorem rv_inU {a b : Addr} {ns : List Int} {rows : List (List Int)} {xs : List V} (h : SqT K F a (ns.map V.int)) (hb : SqT K F b xs) (hr : Rps F (rows.map iT) xs) : RV (rInU K) (.ref a) (.ref b) F (.bl (decide (ns ∈ rows))) := fun H1 e _ q =>
  ⟨iD ns, rows.map iD, dp_iD (ex_t e h), .tup (ex_t e hb) (dpAll_rows (hr.mono e _ _)), sh_iD _, sh_tup _, by rw [any_iD]; exact q H1 (Ex.refl H1)⟩
theorem rv_notInL {a b : Addr} {ns : List Int} {rows : List (List Int)} {xs : List V} (h : SqT K F a (ns.map V.int)) (hb : SqL K F b xs) (hr : Rps F (rows.map iT) xs) : RV (rNotInD K) (.ref a) (.ref b) F (.bl (!decide (ns ∈ rows))) := fun H1 e _ q =>
  ⟨iD ns, rows.map iD, dp_iD (ex_t e h), .lst (ex_l e hb) (dpAll_rows (hr.mono e _ _)), sh_iD _, sh_lst _, by rw [any_iD]; exact q H1 (Ex.refl H1)⟩
theorem rv_neT {a b : Addr} {ns ms : List Int} (h : SqT K F a (ns.map V.int)) (hb : SqT K F b (ms.map V.int)) : RV (rNeD K) (.ref a) (.ref b) F (.bl (!decide (ns = ms))) := fun H1 e _ q =>
  ⟨iD ns, iD ms, dp_iD (ex_t e h), dp_iD (ex_t e hb), sh_iD _, sh_iD _, by rw [eqv_iD]; exact q H1 (Ex.refl H1)⟩
theorem rv_eqT {a b : Addr} {ns ms : List Int} (h : SqT K F a (ns.map V.int)) (hb : SqT K F b (ms.map V.int)) : RV (rEqD K) (.ref a) (.ref b) F (.bl (decide (ns = ms))) := fun H1 e _ q =>
  ⟨iD ns, iD ms, dp_iD (ex_t e h), dp_iD (ex_t e hb), sh_iD _, sh_iD _, by rw [eqv_iD]; exact q H1 (Ex.refl H1)⟩
end
end GD
namespace SQ
open PySem L2
theorem units65 {k : Nat} {A : Around} (hr : Room k A) : A.units + 65 < cLine := by have := hr.un; omega
theorem units2 {k : Nat} {A : Around} (hr : Room k A) : A.units + 2 < cLine := by have := hr.un; omega
theorem units1 {k : Nat} {A : Around} (hr : Room k A) : A.units + 1 < cLine := by have := hr.un; omega
end SQ

/-! ## The small defs: what kind of thing it is -/
namespace GD
open PySem L2 Evl G SQ
/-! ### readings by what is known -/
theorem at0 {α : Type} {x : α} {xs : List α} : atI (x :: xs) 0 = some x := atI_nat (j := 0) rfl
theorem at1 {α : Type} {x y : α} {xs : List α} : atI (x :: y :: xs) 1 = some y := atI_nat (j := 1) rfl
theorem at2 {α : Type} {x y z : α} {xs : List α} : atI (x :: y :: z :: xs) 2 = some z := atI_nat (j := 2) rfl
theorem at3 {α : Type} {x y z u : α} {xs : List α} : atI (x :: y :: z :: u :: xs) 3 = some u := atI_nat (j := 3) rfl
theorem at4 {α : Type} {x y z u v : α} {xs : List α} : atI (x :: y :: z :: u :: v :: xs) 4 = some v := atI_nat (j := 4) rfl
section
variable {K : PySem.W.Frag} {σ : L2.St} {F F' H : Hp} {ta tb tc te : TE} {t u : T} {v : V} {x y z : V} {b : Bool} {n : String}
theorem ev_isi (ha : Ev ta σ F v) (h : Rp F t v) (hk : PySem.W.kitOne K (.type (tyT t)) (.type n) = some b) : Ev (tCB (rIsi K) (tCons ta (tCons (tC (.ty n)) tNil))) σ F (.bl b) := fun H1 e _ q =>
  ha H1 e _ fun H2 e2 => ⟨v, .ty n, _, _, b, rfl, .ty n, h.ty (e.trans e2), hk, q H2 e2⟩
theorem ev_isiLU (ha : Ev ta σ F v) (h : Rp F t v) : Ev (tCB (rIsiT K) (tCons ta (tCons (tTup (tCons (tC (.ty "list")) (tCons (tC (.ty "tuple")) tNil))) tNil))) σ F (.bl (isL t || isU t)) := fun H1 e _ q =>
  ha H1 e _ fun H2 e2 => ⟨by show 2 ≤ sizeLine; decide, fun p hp => ⟨v, p, _, _, _, _, rfl, upd_same, .cons (.ty _) (.cons (.ty _) .nil), h.ty ((e.trans e2).trans (Ex.new hp)), kit_lu t, q _ (e2.trans (Ex.new hp))⟩⟩
/-- a <= b <= c, ints -/
theorem ev_chain {i j k : Int} (ha : Ev ta σ F (.int i)) (hb : Ev tb σ F (.int j)) (hc : Ev tc σ F (.int k)) : Ev (tChain (rI0 fun i j => .bl (decide (i ≤ j))) (rI0 fun i j => .bl (decide (i ≤ j))) ta tb tc) σ F (.bl (decide (i ≤ j) && decide (j ≤ k))) := fun H1 e Q q =>
  ha H1 e _ fun H2 e2 => hb H2 (e.trans e2) _ fun H3 e3 => ⟨i, j, rfl, rfl, decide (i ≤ j), rfl, by
    by_cases hij : i ≤ j
    · rw [if_pos (by simpa using hij)]
      exact hc H3 ((e.trans e2).trans e3) _ fun H4 e4 => ⟨j, k, rfl, rfl, by simpa [hij] using q H4 ((e2.trans e3).trans e4)⟩
    · rw [if_neg (by simpa using hij)]
      have := q H3 (e2.trans e3)
      simpa [hij] using this⟩
theorem ev_cmpI {i j : Int} {r : Int → Int → Bool} (ha : Ev ta σ F (.int i)) (hb : Ev tb σ F (.int j)) : Ev (tOp (rI0 fun i j => .bl (r i j)) ta tb) σ F (.bl (r i j)) := ev_op ha hb rv_I0
/-- len of a tree -/
def items : T → List T
  | .tup ts => ts
  | .lst ts => ts
  | _ => []
theorem sq_items {t : T} {v : V} (h : Rp F t v) (hu : (isL t || isU t) = true) : ∃ a vs, v = .ref a ∧ Sq (isL t) K F a vs ∧ vs.length ≤ 60 ∧ Rps F (items t) vs := by
  cases t <;> simp [isL, isU] at hu
  case tup ts =>
    obtain ⟨a, vs, rfl, h1, h2, h3⟩ := h
    exact ⟨a, vs, rfl, st_of h1, h2, h3⟩
  case lst ts =>
    obtain ⟨a, vs, rfl, h1, h2, h3⟩ := h
    exact ⟨a, vs, rfl, sq_of h1, h2, h3⟩
theorem sq_or {k : Bool} {a : Addr} {xs : List V} (h : Sq k K F a xs) : SqL K F a xs ∨ SqT K F a xs := by
  cases k with
  | true => exact .inl h
  | false => exact .inr h
theorem ev_lenSq {k : Bool} {a : Addr} {xs : List V} (ha : Ev ta σ F (.ref a)) (h : Sq k K F a xs) : Ev (tCB (rLenS K) (tCons ta tNil)) σ F (.int (xs.length : Nat)) := fun H1 e _ q =>
  ha H1 e _ fun H2 e2 => ⟨a, xs, rfl, sq_or (ex_sq (e.trans e2) h), q H2 e2⟩
theorem ev_lenT (ha : Ev ta σ F v) (h : Rp F t v) (hu : (isL t || isU t) = true) : Ev (tCB (rLenS K) (tCons ta tNil)) σ F (.int ((items t).length : Nat)) := by
  obtain ⟨a, vs, rfl, h1, h2, h3⟩ := sq_items (K := K) h hu
  rw [h3.len]
  exact ev_lenSq ha h1
/-- the ints within -/
def nums : List T → List Int
  | [] => []
  | .int i :: ts => i :: nums ts
  | _ :: ts => nums ts
end
def isInt : T → Bool
  | .int _ => true
  | _ => false
def within (lo hi : Int) : T → Bool
  | .int i => decide (lo ≤ i) && decide (i ≤ hi)
  | _ => false
theorem isInt_eq (t : T) : (isI t && !isB t) = isInt t := by cases t <;> rfl
def sp1 (f : T → Bool) : Sp := fun vs H Q _ => ∃ F t v, vs = [v] ∧ Ex F H ∧ Rp F t v ∧ ∀ H', Ex H H' → Q (.bl (f t)) H'
def spWithin : Sp := fun vs H Q _ => ∃ F t v lo hi, vs = [v, .int lo, .int hi] ∧ Ex F H ∧ Rp F t v ∧ ∀ H', Ex H H' → Q (.bl (within lo hi t)) H'
theorem sv1 {f : T → Bool} {F : Hp} {t : T} {v : V} (h : Rp F t v) : SpV (sp1 f) [v] F (.bl (f t)) := fun H1 e _ q _ => ⟨F, t, v, rfl, e, h, q⟩
theorem svWithin {F : Hp} {t : T} {v : V} {lo hi : Int} (h : Rp F t v) : SpV spWithin [v, .int lo, .int hi] F (.bl (within lo hi t)) := fun H1 e _ q _ => ⟨F, t, v, lo, hi, rfl, e, h, q⟩
section
variable {P : Program} {w : World} {K : PySem.W.Frag} {mg : Str → Option Value} {base : Heap}
theorem ok_is_integer (T : TX K mg) : FnOk P w K mg base CX0 1 (a_is_integer K) (fdOf K (a_is_integer K)) ["thing"] (sp1 isInt) := by
  refine T.f_is_integer.ok sc_is_integer (fun vs H Q E ⟨F, t, v, e, _⟩ => by rw [e]; rfl) (fun cdv A outer s H vs Q E hr ⟨F, t, v, e, hF, h, q⟩ => ?_)
  subst e
  refine ⟨_, PSs.nox (pss_one (ps_ret (pe_and (pe_callB call_isi (by rfl) T.z_isinstance (by decide +kernel) (pa_cons (pv 0) (pa_cons (pe_bltn (v := .ty "int") (by rfl) T.z_int (by decide +kernel) rfl) pa_nil))) (pe_one (pe_not (pe_callB call_isi (by rfl) T.z_isinstance (by decide +kernel) (pa_cons (pv 0) (pa_cons (pe_bltn (v := .ty "bool") (by rfl) T.z_bool (by decide +kernel) rfl) pa_nil)))))))), ?_⟩
  refine (ev_is (ev_andV (ev_isi (ev_var rfl) h (kit_i t)) fun _ => ev_notV (ev_isi (ev_var rfl) h (kit_b t))) ?_) H hF _ q
  rw [isInt_eq]
theorem ok_is_within (T : TX K mg) : FnOk P w K mg base CX0 2 (a_is_within K) (fdOf K (a_is_within K)) ["thing", "least", "most"] spWithin := by
  have G_is_integer := ok_is_integer (P := P) (w := w) (base := base) T
  refine T.f_is_within.ok sc_is_within (fun vs H Q E ⟨F, t, v, lo, hi, e, _⟩ => by rw [e]; rfl) (fun cdv A outer s H vs Q E hr ⟨F, t, v, lo, hi, e, hF, h, q⟩ => ?_)
  subst e
  refine ⟨_, PSs.nox (pss_one (ps_ret (pe_and (pe_call G_is_integer (hr.mono (by decide)) rfl T.g_is_integer T.f_is_integer.kp T.b_is_integer .nil pass0 (pa_cons (pv 0) pa_nil)) (pe_one (pe_chain op_le op_le (pv 1) (pv 0) (pv 2)))))), ?_⟩
  refine (ev_is (v := .bl (isInt t && within lo hi t)) (ev_andV (ev_call (ea_cons (ev_var rfl) ea_nil) (sv1 h)) fun hi => ?_) ?_) H hF _ q
  · cases t <;> try (cases hi; done)
    have e : v = .int _ := h
    subst e
    exact ev_chain (ev_var rfl) (ev_var rfl) (ev_var rfl)
  · cases t <;> rfl
theorem ok_L_whole (T : TX K mg) : FnOk P w K mg base CX0 1 (a_L_whole K) (fdOf K (a_L_whole K)) ["_law_thing", "_law_least", "_law_most"] spWithin := by
  refine T.f_L_whole.ok sc_L_whole (fun vs H Q E ⟨F, t, v, lo, hi, e, _⟩ => by rw [e]; rfl) (fun cdv A outer s H vs Q E hr ⟨F, t, v, lo, hi, e, hF, h, q⟩ => ?_)
  subst e
  refine ⟨_, PSs.nox (pss_one (ps_ret (pe_and (pe_callB call_isi (by rfl) T.z_isinstance (by decide +kernel) (pa_cons (pv 0) (pa_cons (pe_bltn (v := .ty "int") (by rfl) T.z_int (by decide +kernel) rfl) pa_nil))) (pe_and (pe_not (pe_callB call_isi (by rfl) T.z_isinstance (by decide +kernel) (pa_cons (pv 0) (pa_cons (pe_bltn (v := .ty "bool") (by rfl) T.z_bool (by decide +kernel) rfl) pa_nil)))) (pe_one (pe_chain op_le op_le (pv 1) (pv 0) (pv 2))))))), ?_⟩
  refine (ev_is (v := .bl (isI t && (!isB t && within lo hi t))) (ev_andV (ev_isi (ev_var rfl) h (kit_i t)) fun h1 => ev_andV (ev_notV (ev_isi (ev_var rfl) h (kit_b t))) fun h2 => ?_) ?_) H hF _ q
  · cases t <;> simp [isI, isB] at h1 h2
    have e : v = .int _ := h
    subst e
    exact ev_chain (ev_var rfl) (ev_var rfl) (ev_var rfl)
  · cases t <;> rfl
theorem ok_is_listed (T : TX K mg) : FnOk P w K mg base CX0 1 (a_is_listed K) (fdOf K (a_is_listed K)) ["thing"] (sp1 fun t => isL t || isU t) := by
  refine T.f_is_listed.ok sc_is_listed (fun vs H Q E ⟨F, t, v, e, _⟩ => by rw [e]; rfl) (fun cdv A outer s H vs Q E hr ⟨F, t, v, e, hF, h, q⟩ => ?_)
  subst e
  refine ⟨_, PSs.nox (pss_one (ps_ret (pe_callB call_isiT (by rfl) T.z_isinstance (by decide +kernel) (pa_cons (pv 0) (pa_cons (pe_tup (pa_cons (pe_bltn (v := .ty "list") (by rfl) T.z_list (by decide +kernel) rfl) (pa_cons (pe_bltn (v := .ty "tuple") (by rfl) T.z_tuple (by decide +kernel) rfl) pa_nil))) pa_nil))))), ?_⟩
  exact ev_isiLU (ev_var rfl) h H hF _ q
def isPair (t : T) : Bool := isU t && decide ((items t).length = 2)
theorem ok_is_pair (T : TX K mg) : FnOk P w K mg base CX0 1 (a_is_pair K) (fdOf K (a_is_pair K)) ["thing"] (sp1 isPair) := by
  refine T.f_is_pair.ok sc_is_pair (fun vs H Q E ⟨F, t, v, e, _⟩ => by rw [e]; rfl) (fun cdv A outer s H vs Q E hr ⟨F, t, v, e, hF, h, q⟩ => ?_)
  subst e
  refine ⟨_, PSs.nox (pss_one (ps_ret (pe_and (pe_callB call_isi (by rfl) T.z_isinstance (by decide +kernel) (pa_cons (pv 0) (pa_cons (pe_bltn (v := .ty "tuple") (by rfl) T.z_tuple (by decide +kernel) rfl) pa_nil))) (pe_one (pe_cmpR op_eq (pe_callB call_len_seq (by rfl) T.z_len PySem.boot_len (pa_cons (pv 0) pa_nil)) pe_int (nomark _)))))), ?_⟩
  refine (ev_andV (ev_isi (ev_var rfl) h (kit_u t)) fun hu => ev_is (ev_op (ev_lenT (ev_var rfl) h (by rw [hu, Bool.or_true])) ev_c (rv_eq rfl)) ?_) H hF _ q
  have : decide (V.int ((items t).length : Nat) = V.int 2) = decide ((items t).length = 2) := decide_eq_decide.mpr ⟨fun z => by have := V.int.inj z; omega, fun z => by rw [z]; rfl⟩
  exact congrArg V.bl this
def isRow (n : Nat) (t : T) : Bool := isU t && (decide ((items t).length = n) && (match items t with
  | x :: _ => isS x
  | [] => false))
def spRow : Sp := fun vs H Q _ => ∃ F t v n, vs = [v, .int (n : Nat)] ∧ Ex F H ∧ Rp F t v ∧ 0 < n ∧ ∀ H', Ex H H' → Q (.bl (isRow n t)) H'
theorem svRow {F : Hp} {t : T} {v : V} {n : Nat} (h : Rp F t v) (hn : 0 < n) : SpV spRow [v, .int (n : Nat)] F (.bl (isRow n t)) := fun H1 e _ q _ => ⟨F, t, v, n, rfl, e, h, hn, q⟩
theorem ok_is_row (T : TX K mg) : FnOk P w K mg base CX0 1 (a_is_row K) (fdOf K (a_is_row K)) ["thing", "size"] spRow := by
  refine T.f_is_row.ok sc_is_row (fun vs H Q E ⟨F, t, v, n, e, _⟩ => by rw [e]; rfl) (fun cdv A outer s H vs Q E hr ⟨F, t, v, n, e, hF, h, hn, q⟩ => ?_)
  subst e
  refine ⟨_, PSs.nox (pss_one (ps_ret (pe_and (pe_callB call_isi (by rfl) T.z_isinstance (by decide +kernel) (pa_cons (pv 0) (pa_cons (pe_bltn (v := .ty "tuple") (by rfl) T.z_tuple (by decide +kernel) rfl) pa_nil))) (pe_and (pe_cmpR op_eq (pe_callB call_len_seq (by rfl) T.z_len PySem.boot_len (pa_cons (pv 0) pa_nil)) (pv 1) (nomark _)) (pe_one (pe_callB call_isi (by rfl) T.z_isinstance (by decide +kernel) (pa_cons (pe_ix ix_tup (pv 0) pe_int (fun _ _ => rfl)) (pa_cons (pe_bltn (v := .ty "str") (by rfl) T.z_str (by decide +kernel) rfl) pa_nil)))))))), ?_⟩
  refine (ev_andV (ev_isi (ev_var rfl) h (kit_u t)) fun hu => ev_andV (ev_is (ev_op (ev_lenT (ev_var rfl) h (by rw [hu, Bool.or_true])) (ev_var rfl) (rv_eq rfl)) ?_) fun h2 => ?_) H hF _ q
  · have : decide (V.int ((items t).length : Nat) = V.int (n : Nat)) = decide ((items t).length = n) := decide_eq_decide.mpr ⟨fun z => by have := V.int.inj z; omega, fun z => by rw [z]⟩
    exact congrArg V.bl this
  · cases t <;> simp [isU] at hu
    rename_i ts
    obtain ⟨a, vs, rfl, h3, h4, h5⟩ := h
    cases ts with
    | nil =>
      have h2' : 0 = n := of_decide_eq_true h2
      omega
    | cons x ts =>
      obtain ⟨u, us, rfl, h6, h7⟩ := h5
      exact ev_isi (ev_op (ev_var rfl) ev_c (rv_ixT (st_of h3) at0)) h6 (kit_s x)
end
end GD

/-! ## The small defs, further -/
namespace GD
open PySem L2 Evl G SQ
section
variable {K : PySem.W.Frag} {σ : L2.St} {F F' H : Hp} {ta tb tc te : TE} {t u : T} {v : V} {x y z : V}
theorem ev_lenSetEq {k1 k2 : Bool} {a b : Addr} {ns : List Int} {ys : List V} (ha : Ev ta σ F (.ref a)) (h1 : Sq k1 K F a (ns.map V.int)) (hb : Ev tb σ F (.ref b)) (h2 : Sq k2 K F b ys) (hl : ys.length = ns.length) (hz : ns.length ≤ 4000) :
    Ev (tOp rEq (SQ.tLenSet K ta) (tCB (rLenS K) (tCons tb tNil))) σ F (.bl (decide ns.Nodup)) := fun H1 e Q q =>
  ha H1 e _ fun H2 e2 => ⟨a, ns, rfl, sq_or (ex_sq (e.trans e2) h1), hz, fun c _ hc => hb H2 (e.trans e2) _ fun H3 e3 => ⟨b, ys, rfl, sq_or (ex_sq ((e.trans e2).trans e3) h2), rfl, by
    have e4 : decide (V.int (c : Nat) = V.int (ys.length : Nat)) = decide ns.Nodup := decide_eq_decide.mpr ⟨fun z => hc.mp (by have := V.int.inj z; omega), fun z => by rw [hc.mpr z, hl]⟩
    have q2 := q H3 (e2.trans e3)
    rw [← e4] at q2
    exact q2⟩⟩
theorem all_nums {lo hi : Int} : ∀ {ts : List T}, ts.all (within lo hi) = true → ts = (nums ts).map T.int ∧ ∀ i ∈ nums ts, lo ≤ i ∧ i ≤ hi
  | [], _ => ⟨rfl, fun i h => by cases h⟩
  | t :: ts, h => by
    rw [List.all_cons, Bool.and_eq_true] at h
    obtain ⟨h1, h2⟩ := all_nums h.2
    cases t <;> simp [within] at h
    rename_i i
    refine ⟨congrArg _ h1, fun j hj => ?_⟩
    rcases List.mem_cons.mp hj with z | z
    · subst z; exact h.1
    · exact h2 j z
theorem isU_or {t : T} (h : isU t = true) : (isL t || isU t) = true := by rw [h, Bool.or_true]
theorem isU_notL {t : T} (h : isU t = true) : isL t = false := by cases t <;> simp_all [isU, isL]
end
def areUnlike (m : Int) (t : T) : Bool := isU t && ((items t).all (within 0 (m - 1)) && decide (nums (items t)).Nodup)
def spT1 (f : Int → T → Bool) : Sp := fun vs H Q _ => ∃ F t v m, vs = [v, .int m] ∧ Ex F H ∧ Rp F t v ∧ ∀ H', Ex H H' → Q (.bl (f m t)) H'
theorem svT1 {f : Int → T → Bool} {F : Hp} {t : T} {v : V} {m : Int} (h : Rp F t v) : SpV (spT1 f) [v, .int m] F (.bl (f m t)) := fun H1 e _ q _ => ⟨F, t, v, m, rfl, e, h, q⟩
def spT2 (f : Int → T → Bool) : Sp := fun vs H Q _ => ∃ F t v m, vs = [.int m, v] ∧ Ex F H ∧ Rp F t v ∧ ∀ H', Ex H H' → Q (.bl (f m t)) H'
theorem svT2 {f : Int → T → Bool} {F : Hp} {t : T} {v : V} {m : Int} (h : Rp F t v) : SpV (spT2 f) [.int m, v] F (.bl (f m t)) := fun H1 e _ q _ => ⟨F, t, v, m, rfl, e, h, q⟩
def isWP (m : Int) (t : T) : Bool := isPair t && ((items t).all (within 0 (m - 1)) && match nums (items t) with
  | [a, b] => !decide (a = b)
  | _ => false)
section
variable {P : Program} {w : World} {K : PySem.W.Frag} {mg : Str → Option Value} {base : Heap}
theorem ok_are_unlike (T : TX K mg) : FnOk P w K mg base CX0 3 (a_are_unlike K) (fdOf K (a_are_unlike K)) ["thing", "size"] (spT1 areUnlike) := by
  have G_is_within := ok_is_within (P := P) (w := w) (base := base) T
  refine T.f_are_unlike.ok sc_are_unlike (fun vs H Q E ⟨F, t, v, m, e, _⟩ => by rw [e]; rfl) (fun cdv A outer s H vs Q E hr ⟨F, t, v, m, e, hF, h, q⟩ => ?_)
  subst e
  refine ⟨_, PSs.nox (pss_cons (ps_if (PW.pt (pw_or (pt_not (pt_val (pe_callB call_isi (by rfl) T.z_isinstance (by decide +kernel) (pa_cons (pv 0) (pa_cons (pe_bltn (v := .ty "tuple") (by rfl) T.z_tuple (by decide +kernel) rfl) pa_nil))))) (pw_or1 (pt_not (pt_val (pe_callB (cr_all rfl) (by rfl) T.z_all (by decide +kernel) (pa_cons (pe_lc (own := [("number", 2)]) (g := (gName 2)) (tt := tYes) rfl sc_are_unlike.nd (pi_sq (pv 0)) (blkOk_by (own := [("number", 2)]) (N := N_are_unlike) (sc := defScope s_are_unlike) (by decide +kernel)) (fun _ _ _ _ _ => (pg_name (i := 2) sc_are_unlike.nd rfl (.inl rfl))) (fun _ _ _ _ _ => pts_nil) (fun _ _ _ _ _ => (pe_call G_is_within (hr.mono (by decide)) rfl T.g_is_within T.f_is_within.kp T.b_is_within .nil pass0 (pa_cons (pv 2) (pa_cons pe_int (pa_cons (pe_op op_sub (pv 1) pe_int) pa_nil)))))) pa_nil))))))) (pss_one (ps_ret pe_bl)) pss_nil) (
    pss_one (ps_ret (pe_cmpR op_eq (SQ.pe_lenSet (by rfl) T.z_len (by rfl) T.z_set (pv 0)) (pe_callB call_len_seq (by rfl) T.z_len PySem.boot_len (pa_cons (pv 0) pa_nil)) (nomark _))))), ?_⟩
  refine q_when (b := !(isU t) || !((items t).all (within 0 (m - 1)))) (EvT.mono hF (et_or (et_not (et_test (ev_isi (ev_var rfl) h (kit_u t)))) fun hu => et_not (et_test ?_))) (fun hb H1 e1 => ?_) (fun hb H1 e1 => ?_)
  · have hu' : isU t = true := by simpa using hu
    obtain ⟨a, xs, rfl, h1, h2, h3⟩ := sq_items (K := K) h (isU_or hu')
    refine ev_allSq (within 0 (m - 1)) (ev_var rfl) h1 h3 h2 (fun _ => rfl) fun t x H e _ hx => ?_
    exact ev_call (ea_cons (ev_var rfl) (ea_cons ev_c (ea_cons (ev_op (ev_var rfl) ev_c rv_I0) ea_nil))) (svWithin hx)
  · have e2 : areUnlike m t = false := by
      unfold areUnlike
      rw [Bool.or_eq_true] at hb
      rcases hb with z | z
      · rw [Bool.not_eq_true'] at z; rw [z]; rfl
      · rw [Bool.not_eq_true'] at z; rw [z, Bool.false_and, Bool.and_false]
    have := q H1 e1
    rw [e2] at this
    exact this
  · rw [Bool.or_eq_false_iff, Bool.not_eq_false', Bool.not_eq_false'] at hb
    obtain ⟨hu, ha⟩ := hb
    obtain ⟨a, xs, rfl, h1, h2, h3⟩ := sq_items (K := K) h (isU_or hu)
    obtain ⟨h4, _⟩ := all_nums ha
    rw [h4, Rps.ints] at h3
    subst h3
    refine (ev_is (ev_lenSetEq (ev_var rfl) h1 (ev_var rfl) h1 (by simp) (by simp at h2; omega)) ?_) H1 (hF.trans e1) _ fun H2 e2 => q H2 (e1.trans e2)
    unfold areUnlike
    rw [hu, ha, Bool.true_and, Bool.true_and]
theorem ok_is_wire_pair (T : TX K mg) : FnOk P w K mg base CX0 3 (a_is_wire_pair K) (fdOf K (a_is_wire_pair K)) ["many", "thing"] (spT2 isWP) := by
  have G_is_within := ok_is_within (P := P) (w := w) (base := base) T
  have G_is_pair := ok_is_pair (P := P) (w := w) (base := base) T
  refine T.f_is_wire_pair.ok sc_is_wire_pair (fun vs H Q E ⟨F, t, v, m, e, _⟩ => by rw [e]; rfl) (fun cdv A outer s H vs Q E hr ⟨F, t, v, m, e, hF, h, q⟩ => ?_)
  subst e
  refine ⟨_, PSs.nox (pss_cons (ps_if (PW.pt (pw_or (pt_not (pt_val (pe_call G_is_pair (hr.mono (by decide)) rfl T.g_is_pair T.f_is_pair.kp T.b_is_pair .nil pass0 (pa_cons (pv 1) pa_nil)))) (pw_or1 (pt_not (pt_val (pe_callB (cr_all rfl) (by rfl) T.z_all (by decide +kernel) (pa_cons (pe_lc (own := [("machine", 2)]) (g := (gName 2)) (tt := tYes) rfl sc_is_wire_pair.nd (pi_sq (pv 1)) (blkOk_by (own := [("machine", 2)]) (N := N_is_wire_pair) (sc := defScope s_is_wire_pair) (by decide +kernel)) (fun _ _ _ _ _ => (pg_name (i := 2) sc_is_wire_pair.nd rfl (.inl rfl))) (fun _ _ _ _ _ => pts_nil) (fun _ _ _ _ _ => (pe_call G_is_within (hr.mono (by decide)) rfl T.g_is_within T.f_is_within.kp T.b_is_within .nil pass0 (pa_cons (pv 2) (pa_cons pe_int (pa_cons (pe_op op_sub (pv 0) pe_int) pa_nil)))))) pa_nil))))))) (pss_one (ps_ret pe_bl)) pss_nil) (
    pss_one (ps_ret (pe_cmpR op_ne (pe_ix ix_tup (pv 1) pe_int (fun _ _ => rfl)) (pe_ix ix_tup (pv 1) pe_int (fun _ _ => rfl)) (nomark _))))), ?_⟩
  refine q_when (b := !(isPair t) || !((items t).all (within 0 (m - 1)))) (EvT.mono hF (et_or (et_not (et_test (ev_call (ea_cons (ev_var rfl) ea_nil) (sv1 h)))) fun hu => et_not (et_test ?_))) (fun hb H1 e1 => ?_) (fun hb H1 e1 => ?_)
  · have hu' : isPair t = true := by simpa using hu
    unfold isPair at hu'
    rw [Bool.and_eq_true] at hu'
    obtain ⟨a, xs, rfl, h1, h2, h3⟩ := sq_items (K := K) h (isU_or hu'.1)
    refine ev_allSq (within 0 (m - 1)) (ev_var rfl) h1 h3 h2 (fun _ => rfl) fun t x H e _ hx => ?_
    exact ev_call (ea_cons (ev_var rfl) (ea_cons ev_c (ea_cons (ev_op (ev_var rfl) ev_c rv_I0) ea_nil))) (svWithin hx)
  · have e2 : isWP m t = false := by
      unfold isWP
      rw [Bool.or_eq_true] at hb
      rcases hb with z | z
      · rw [Bool.not_eq_true'] at z; rw [z]; rfl
      · rw [Bool.not_eq_true'] at z; rw [z, Bool.false_and, Bool.and_false]
    have := q H1 e1
    rw [e2] at this
    exact this
  · rw [Bool.or_eq_false_iff, Bool.not_eq_false', Bool.not_eq_false'] at hb
    obtain ⟨hp, ha⟩ := hb
    have hp' := hp
    unfold isPair at hp'
    rw [Bool.and_eq_true] at hp'
    have hn := isU_notL hp'.1
    obtain ⟨a, xs, rfl, h1, h2, h3⟩ := sq_items (K := K) h (isU_or hp'.1)
    rw [hn] at h1
    obtain ⟨h4, _⟩ := all_nums ha
    have hl : (items t).length = 2 := of_decide_eq_true hp'.2
    have hl2 : (nums (items t)).length = 2 := by rw [h4, List.length_map] at hl; exact hl
    rw [h4, Rps.ints] at h3
    subst h3
    match hx : nums (items t), hl2 with
    | [i, j], _ =>
      rw [hx] at h1
      refine s_ret (Ev.mono (hF.trans e1) (ev_is (ev_op (x := .int i) (y := .int j) (ev_op (ev_var rfl) ev_c (rv_ixT h1 at0)) (ev_op (ev_var rfl) ev_c (rv_ixT h1 at1)) (rv_ne rfl)) ?_)) fun H2 e2 => q H2 (e1.trans e2)
      unfold isWP
      rw [hp, ha, hx, Bool.true_and, Bool.true_and]
      have : decide (V.int i = V.int j) = decide (i = j) := decide_eq_decide.mpr ⟨fun z => V.int.inj z, fun z => by rw [z]⟩
      show V.bl (!decide (V.int i = V.int j)) = _
      rw [this]
end
end GD

/-! ## Webs, pairs of sights -/
namespace GD
open PySem L2 Evl G SQ
def pT (p : Int × Int) : T := .tup [.int p.1, .int p.2]
/-! ### webs -/
theorem w_mw : ¬ (("machines" : Str) = "wires") := by decide +kernel
def webF (m : Int) (wa : Addr) : List (Str × V) := putF "wires" (.ref wa) (putF "machines" (.int m) [])
theorem webF_m (m : Int) (wa : Addr) : (webF m wa).lookup ("machines" : Str) = some (.int m) := by
  unfold webF
  rw [lookup_putF, if_neg w_mw, lookup_putF, if_pos rfl]
theorem webF_w (m : Int) (wa : Addr) : (webF m wa).lookup ("wires" : Str) = some (.ref wa) := by
  unfold webF
  rw [lookup_putF, if_pos rfl]
/-- a web of m machines and the wires ws stands at v -/
def Wb (K : PySem.W.Frag) (F : Hp) (v : V) (m : Int) (ws : List (Int × Int)) : Prop :=
  ∃ p dx wa xs, v = .ref p ∧ F p = some (.ins (He.ga K "Web") dx (webF m wa)) ∧ F wa = some (.tup xs) ∧ xs.length ≤ 60 ∧ Rps F (ws.map pT) xs
section
variable {K : PySem.W.Frag} {mg : Str → Option Value} {σ : L2.St} {F F' H : Hp} {ta tb tc te : TE} {t u : T} {v : V} {x y z : V} {m : Int} {ws : List (Int × Int)}
theorem Wb.mono (e : Ex F F') (h : Wb K F v m ws) : Wb K F' v m ws := by
  obtain ⟨p, dx, wa, xs, h1, h2, h3, h4, h5⟩ := h
  exact ⟨p, dx, wa, xs, h1, e _ _ h2, e _ _ h3, h4, h5.mono e _ _⟩
theorem ev_fld {C p dx : Addr} {f : Str} {fs : List (Str × V)} (ha : Ev ta σ F (.ref p)) (h : F p = some (.ins C dx fs)) (c : Cls K C) (n : NoAttr K C f) (hl : fs.lookup f = some v) : Ev (tFld K ta f) σ F v := fun H1 e _ q =>
  ha H1 e _ fun H2 e2 => ⟨p, C, dx, fs, v, rfl, (e.trans e2) _ _ h, c, n, hl, q H2 e2⟩
theorem ev_webm (T : TX K mg) (ha : Ev ta σ F v) (h : Wb K F v m ws) : Ev (tFld K ta "machines") σ F (.int m) := by
  obtain ⟨p, dx, wa, xs, rfl, h2, _⟩ := h
  exact ev_fld ha h2 T.cl_Web T.n_Web_machines (webF_m _ _)
theorem ev_webw (T : TX K mg) (ha : Ev ta σ F v) (h : Wb K F v m ws) : ∃ wa xs, F wa = some (.tup xs) ∧ xs.length ≤ 60 ∧ Rps F (ws.map pT) xs ∧ Ev (tFld K ta "wires") σ F (.ref wa) := by
  obtain ⟨p, dx, wa, xs, rfl, h2, h3, h4, h5⟩ := h
  exact ⟨wa, xs, h3, h4, h5, ev_fld ha h2 T.cl_Web T.n_Web_wires (webF_w _ _)⟩
/-- a pair read -/
theorem pT_at {p : Int × Int} {x : V} (h : Rp F (pT p) x) : ∃ a, x = .ref a ∧ F a = some (.tup [.int p.1, .int p.2]) := by
  obtain ⟨a, vs, rfl, h1, _, h2⟩ := h
  have h3 : vs = [V.int p.1, V.int p.2] := (Rps.ints (ns := [p.1, p.2])).mp h2
  subst h3
  exact ⟨a, rfl, h1⟩
theorem rps_pT {ps : List (Int × Int)} {xs : List V} (h : Rps F (ps.map pT) xs) {i : Nat} {x : V} (hx : xs[i]? = some x) : ∃ p a, ps[i]? = some p ∧ x = .ref a ∧ F a = some (.tup [.int p.1, .int p.2]) := by
  obtain ⟨t, h1, h2⟩ := h.at hx
  rw [List.getElem?_map] at h1
  cases e : ps[i]? with
  | none => rw [e] at h1; cases h1
  | some p =>
    rw [e] at h1
    obtain rfl : pT p = t := Option.some.inj h1
    obtain ⟨a, h3, h4⟩ := pT_at h2
    exact ⟨p, a, rfl, h3, h4⟩
theorem fm_list {α : Type} {ts : List α} {g : α → Option V} : fm ts.length (fun i => (ts[i]?).bind g) = ts.filterMap g := by
  unfold fm
  have e : (List.range ts.length).filterMap (ts[·]?) = ts := by
    have := PySem.W.krv_all ts.toArray
    simpa using this
  conv => rhs; rw [← e]
  rw [List.filterMap_filterMap]
end
def outsOf (ws : List (Int × Int)) (a : Int) : List Int := (ws.filter fun p => decide (p.1 = a)).map (·.2)
def spOuts (K : PySem.W.Frag) : Sp := fun vs H Q _ => ∃ F web m ws a, vs = [web, .int a] ∧ Ex F H ∧ Wb K F web m ws ∧ ∀ p H', H p = none → Ex H H' → H' p = some (.lst ((outsOf ws a).map V.int)) → Q (.ref p) H'
theorem svOuts {K : PySem.W.Frag} {F : Hp} {web : V} {m a : Int} {ws : List (Int × Int)} (h : Wb K F web m ws) : SpL (spOuts K) [web, .int a] F ((outsOf ws a).map V.int) := fun H1 e _ q _ => ⟨F, web, m, ws, a, rfl, e, h, q⟩
section
variable {P : Program} {w : World} {K : PySem.W.Frag} {mg : Str → Option Value} {base : Heap}
theorem ok_outs (T : TX K mg) : FnOk P w K mg base CX0 1 (a_outs K) (fdOf K (a_outs K)) ["web", "machine"] (spOuts K) := by
  refine T.f_outs.ok sc_outs (fun vs H Q E ⟨F, web, m, ws, a, e, _⟩ => by rw [e]; rfl) (fun cdv A outer s H vs Q E hr ⟨F, web, m, ws, a, e, hF, h, q⟩ => ?_)
  subst e
  refine ⟨_, PSs.nox (pss_one (ps_ret (pe_lc (own := [("y", 2), ("x", 3)]) (g := (gTup _ 2 (gCons (gName 2) (gCons (gName 3) gNil))))  rfl sc_outs.nd (pi_sq (pe_fld (pv 0) rfl)) (blkOk_by (own := [("y", 2), ("x", 3)]) (N := N_outs) (sc := defScope s_outs) (by decide +kernel)) (fun _ _ _ _ _ => (pg_tup rfl (pgs_cons (pg_name (i := 2) sc_outs.nd rfl (.inl rfl)) (pgs_cons (pg_name (i := 3) sc_outs.nd rfl (.inl rfl)) pgs_nil)))) (fun _ _ _ _ _ => (pts_one (pt_cmpR op_eq (pv 2) (pv 1) (nomark _)))) (fun _ _ _ _ _ => (pv 3))))), ?_⟩
  have h' := h.mono hF
  obtain ⟨wa, xs, h3, h4, h5, h6⟩ := ev_webw (σ := start N_outs [web, .int a]) (ta := tVar 0) T (ev_var rfl) h'
  have e1 : (outsOf ws a).map V.int = fm xs.length (fun i => (ws[i]?).bind fun p => if p.1 = a then some (V.int p.2) else none) := by
    have hl : xs.length = ws.length := by rw [← h5.len, List.length_map]
    rw [hl, fm_list]
    unfold outsOf
    clear h h' q h3 h4 h5 h6 hl
    induction ws with
    | nil => rfl
    | cons p ws ih =>
      rw [List.filterMap_cons, List.filter_cons]
      by_cases hp : p.1 = a
      · simp [hp]; simpa using ih
      · simp [hp]; simpa using ih
  refine s_retL (xs := (outsOf ws a).map V.int) ?_ q
  rw [e1]
  refine el_lcP walk_sq (evi_sq (k := false) h6 (st_of h3)) (fun H e => ex_sq e (st_of h3)) (fun i H x H' _ y => by rw [y.1]; exact Ex.refl H) (fun _ _ => rfl) (by omega) _ fun i x H1 H' hi e y => ?_
  obtain ⟨rfl, hy⟩ := y
  obtain ⟨p, b, h7, rfl, h8⟩ := rps_pT h5 hy
  refine ⟨b, _, _, rfl, st_of (e _ _ h8), ?_, fun z hz => ?_⟩
  · rw [h7]
    refine et_is (et_test (ev_op (x := .int p.1) (y := .int a) (ev_var rfl) (ev_var rfl) (rv_eq rfl))) ?_
    have : decide (V.int p.1 = V.int a) = decide (p.1 = a) := decide_eq_decide.mpr ⟨fun z => V.int.inj z, fun z => by rw [z]⟩
    rw [this]
    show _ = (if p.1 = a then some (V.int p.2) else none).isSome
    by_cases hp : p.1 = a <;> simp [hp]
  · rw [h7] at hz
    have hz' : (if p.1 = a then some (V.int p.2) else none) = some z := hz
    by_cases hp : p.1 = a
    · rw [if_pos hp] at hz'
      obtain rfl := Option.some.inj hz'
      exact ev_var rfl
    · rw [if_neg hp] at hz'; cases hz'
end
end GD

/-! ## The sights asked about -/
namespace GD
open PySem L2 Evl G SQ
def kT (k : Bool) (ts : List T) : T := match k with
  | true => .lst ts
  | false => .tup ts
theorem kT_or (k : Bool) (ts : List T) : (isL (kT k ts) || isU (kT k ts)) = true := by cases k <;> rfl
theorem kT_items (k : Bool) (ts : List T) : items (kT k ts) = ts := by cases k <;> rfl
/-- a list or a tuple of these pairs stands at v -/
def Prs (F : Hp) (v : V) (ps : List (Int × Int)) : Prop := ∃ k, Rp F (kT k (ps.map pT)) v
structure Ps (m : Int) (ps : List (Int × Int)) : Prop where
  lo : 1 ≤ ps.length
  hi : ps.length ≤ 4
  within : ∀ p ∈ ps, 0 ≤ p.1 ∧ p.1 < m ∧ 0 ≤ p.2 ∧ p.2 < m
  n1 : (ps.map (·.1)).Nodup
  n2 : (ps.map (·.2)).Nodup
theorem Prs.mono {F F' : Hp} {v : V} {ps : List (Int × Int)} (e : Ex F F') (h : Prs F v ps) : Prs F' v ps := let ⟨k, h⟩ := h; ⟨k, h.mono e _ _⟩
theorem Prs.sq {K : PySem.W.Frag} {F : Hp} {v : V} {ps : List (Int × Int)} (h : Prs F v ps) : ∃ k a xs, v = .ref a ∧ Sq k K F a xs ∧ xs.length ≤ 60 ∧ Rps F (ps.map pT) xs ∧ xs.length = ps.length := by
  obtain ⟨k, h⟩ := h
  obtain ⟨a, xs, h1, h2, h3, h4⟩ := sq_items (K := K) h (kT_or _ _)
  rw [kT_items] at h4
  exact ⟨_, a, xs, h1, h2, h3, h4, by rw [← h4.len, List.length_map]⟩
def spSights (K : PySem.W.Frag) (z : V) : Sp := fun vs H Q _ => ∃ F web v m ws ps, vs = [web, v] ∧ Ex F H ∧ Wb K F web m ws ∧ Prs F v ps ∧ Ps m ps ∧ ∀ H', Ex H H' → Q z H'
theorem svSights {K : PySem.W.Frag} {F : Hp} {web v z : V} {m : Int} {ws ps : List (Int × Int)} (h : Wb K F web m ws) (hp : Prs F v ps) (hv : Ps m ps) : SpV (spSights K z) [web, v] F z := fun H1 e _ q _ => ⟨F, web, v, m, ws, ps, rfl, e, h, hp, hv, q⟩
section
variable {K : PySem.W.Frag} {σ : L2.St} {F F' H : Hp} {ta tb tc te : TE} {v : V} {vs : List Nat} {J : It} {n : Nat} {G : Hp → Prop} {Y : Nat → Hp → V → Hp → Prop} {wi : TI}
theorem ev_lenSetEqL {k2 : Bool} {b : Addr} {ns : List Int} {ys : List V} (ha : EvL ta σ F (ns.map V.int)) (hb : Ev tb σ F (.ref b)) (h2 : Sq k2 K F b ys) (hl : ys.length = ns.length) (hz : ns.length ≤ 4000) :
    Ev (tOp rEq (SQ.tLenSet K ta) (tCB (rLenS K) (tCons tb tNil))) σ F (.bl (decide ns.Nodup)) := fun H1 e Q q =>
  ha H1 e _ fun p H2 _ e2 hp => ⟨p, ns, rfl, .inl (sq_of hp), hz, fun c _ hc => hb H2 (e.trans e2) _ fun H3 e3 => ⟨b, ys, rfl, sq_or (ex_sq ((e.trans e2).trans e3) h2), rfl, by
    have e4 : decide (V.int (c : Nat) = V.int (ys.length : Nat)) = decide ns.Nodup := decide_eq_decide.mpr ⟨fun z => hc.mp (by have := V.int.inj z; omega), fun z => by rw [hc.mpr z, hl]⟩
    have q2 := q H3 (e2.trans e3)
    rw [← e4] at q2
    exact q2⟩⟩
theorem evi_r1 {ta : TA} {n : Int} (h : EvA ta σ F [.int n]) (h0 : 0 ≤ n) (h1 : n < 1000) : EvI (iRng1 ta) σ F (Itr 0 n.toNat) := fun H1 e _ q => h H1 e _ fun H2 e2 => ⟨n, rfl, by omega, by omega, q H2 e2⟩
/-- all([b(i) for i in range(n)]) -/
theorem ev_allR {ta : TA} {j : Nat} {n : Int} (b : Nat → Bool) (h : EvA ta σ F [.int n]) (h0 : 0 ≤ n) (h1 : n < 1000) (hwp : ∀ x, wipe ((wipe σ vs).set j (some x)) vs = wipe σ vs)
    (he : ∀ (i : Nat) H, Ex F H → (i : Int) < n → Ev te ((wipe σ vs).set j (some (.int (i : Nat)))) H (.bl (b i))) : Ev (tCB (rAll K) (tCons (tLc (iRng1 ta) (gName j) tYes te vs) tNil)) σ F (.bl (((List.range n.toNat).map b).all id)) := by
  refine ev_all ?_
  rw [← fm_bools]
  refine el_lcN walk_range (evi_r1 h h0 h1) (fun _ _ => trivial) (fun i H x H' _ y => by rw [y.1]; exact Ex.refl H) hwp (by omega) _ fun i x H H' hi e y => ?_
  obtain ⟨rfl, rfl⟩ := y
  refine ⟨et_yes, fun v hv => ?_⟩
  obtain rfl := Option.some.inj hv
  have e0 : (0 : Int) + (i : Int) = (i : Int) := Int.zero_add _
  show Ev te ((wipe σ vs).set j (some (.int ((0 : Int) + (i : Int))))) H' (.bl (b i))
  rw [e0]
  exact he i H' e (by omega)
/-- [e for x in thing]: the items by their place -/
theorem el_mapSq {j : Nat} {k : Bool} {a : Addr} {xs : List V} {tl : TE} (ys : List V) (h : Ev tl σ F (.ref a)) (hx : Sq k K F a xs) (hl : ys.length = xs.length) (hz : xs.length ≤ 60) (hwp : ∀ x, wipe ((wipe σ vs).set j (some x)) vs = wipe σ vs)
    (he : ∀ (i : Nat) (x y : V) (H : Hp), Ex F H → xs[i]? = some x → ys[i]? = some y → Ev te ((wipe σ vs).set j (some x)) H y) : EvL (tLc (iSq K tl) (gName j) tYes te vs) σ F ys := by
  have e1 : ys = fm xs.length (fun i => (ys[i]?).bind some) := by rw [← hl, fm_list, List.filterMap_some]
  rw [e1]
  refine el_lcN walk_sq (evi_sq h hx) (fun H e => ex_sq e hx) (fun i H x H' _ y => by rw [y.1]; exact Ex.refl H) hwp (by omega) _ fun i x H H' hi e y => ?_
  obtain ⟨rfl, hy⟩ := y
  have hi2 : i < ys.length := by omega
  have e2 : (ys[i]?).bind some = some ys[i] := by rw [List.getElem?_eq_getElem hi2]; rfl
  rw [e2]
  refine ⟨et_yes, fun v hv => ?_⟩
  obtain rfl := Option.some.inj hv
  exact he i x _ H' e hy (List.getElem?_eq_getElem hi2)
/-- all([p(x, y) for x, y in pairs]) -/
theorem ev_allP {j1 j2 : Nat} {k : Bool} {a : Addr} {xs : List V} {tl : TE} {ps : List (Int × Int)} (p : Int × Int → Bool) (h : Ev tl σ F (.ref a)) (hx : Sq k K F a xs) (hr : Rps F (ps.map pT) xs) (hz : xs.length ≤ 60) (hwp : ∀ x y, wipe (((wipe σ vs).set j1 (some x)).set j2 (some y)) vs = wipe σ vs)
    (he : ∀ q H, Ex F H → q ∈ ps → Ev te (((wipe σ vs).set j1 (some (.int q.1))).set j2 (some (.int q.2))) H (.bl (p q))) : Ev (tCB (rAll K) (tCons (tLc (iSq K tl) (gTup K 2 (gCons (gName j1) (gCons (gName j2) gNil))) tYes te vs) tNil)) σ F (.bl (ps.all p)) := by
  have hl : xs.length = ps.length := by rw [← hr.len, List.length_map]
  have e1 : ps.map p = (List.range ps.length).map (fun i => match ps[i]? with
    | some q => p q
    | none => true) := by
    refine List.ext_getElem (by simp) fun i h1 h2 => ?_
    have h3 : i < ps.length := by simpa using h1
    simp [h3]
  have e2 : ps.all p = (ps.map p).all id := by rw [List.all_map]; rfl
  rw [e2, e1]
  refine ev_all ?_
  rw [← fm_bools, ← hl]
  refine el_lcP walk_sq (evi_sq h hx) (fun H e => ex_sq e hx) (fun i H x H' _ y => by rw [y.1]; exact Ex.refl H) hwp (by omega) _ fun i x H1 H' hi e y => ?_
  obtain ⟨rfl, hy⟩ := y
  obtain ⟨q, b, h7, rfl, h8⟩ := rps_pT hr hy
  refine ⟨b, _, _, rfl, st_of (e _ _ h8), et_yes, fun z hz => ?_⟩
  rw [h7] at hz
  obtain rfl := Option.some.inj hz
  exact he q H' e (List.mem_of_getElem? h7)
end
section
variable {P : Program} {w : World} {K : PySem.W.Frag} {mg : Str → Option Value} {base : Heap}
theorem ok_are_sights (T : TX K mg) : FnOk P w K mg base CX0 3 (a_are_sights K) (fdOf K (a_are_sights K)) ["web", "thing"] (spSights K (.bl true)) := by
  have G_is_within := ok_is_within (P := P) (w := w) (base := base) T
  have G_is_pair := ok_is_pair (P := P) (w := w) (base := base) T
  have G_is_listed := ok_is_listed (P := P) (w := w) (base := base) T
  obtain ⟨t4, h_MOST_SIGHTS⟩ := T.i_MOST_SIGHTS
  refine T.f_are_sights.ok sc_are_sights (fun vs H Q E ⟨F, web, v, m, ws, ps, e, _⟩ => by rw [e]; rfl) (fun cdv A outer s H vs Q E hr ⟨F, web, v, m, ws, ps, e, hF, hW, hP, hv, q⟩ => ?_)
  subst e
  refine ⟨_, PSs.nox (pss_cons (ps_if (PW.pt (pw_or (pt_not (pt_val (pe_call G_is_listed (hr.mono (by decide)) rfl T.g_is_listed T.f_is_listed.kp T.b_is_listed .nil pass0 (pa_cons (pv 1) pa_nil)))) (pw_or (pt_not (pt_chain op_le op_le pe_int (pe_callB call_len_seq (by rfl) T.z_len PySem.boot_len (pa_cons (pv 1) pa_nil)) (pe_glob (v := .int 4) rfl h_MOST_SIGHTS ⟨_, rfl⟩))) (pw_or1 (pt_not (pt_val (pe_callB (cr_all rfl) (by rfl) T.z_all (by decide +kernel) (pa_cons (pe_lc (own := [("pair", 3)]) (g := (gName 3)) (tt := tYes) rfl sc_are_sights.nd (pi_sq (pv 1)) (blkOk_by (own := [("pair", 3)]) (N := N_are_sights) (sc := defScope s_are_sights) (by decide +kernel)) (fun _ _ _ _ _ => (pg_name (i := 3) sc_are_sights.nd rfl (.inl rfl))) (fun _ _ _ _ _ => pts_nil) (fun _ _ _ _ _ => (pe_call G_is_pair (hr.mono (by decide)) rfl T.g_is_pair T.f_is_pair.kp T.b_is_pair .nil pass0 (pa_cons (pv 3) pa_nil)))) pa_nil)))))))) (pss_one (ps_ret pe_bl)) pss_nil) (
    pss_cons (ps_asg (pe_op op_sub (pe_fld (pv 0) rfl) pe_int) (pg_name (i := 2) sc_are_sights.nd rfl (.inr rfl))) (
    pss_cons (ps_if (pt_not (pt_val (pe_callB (cr_all rfl) (by rfl) T.z_all (by decide +kernel) (pa_cons (pe_lc (own := [("writer", 4), ("seer", 5)]) (g := (gTup _ 2 (gCons (gName 4) (gCons (gName 5) gNil)))) (tt := tYes) rfl sc_are_sights.nd (pi_sq (pv 1)) (blkOk_by (own := [("writer", 4), ("seer", 5)]) (N := N_are_sights) (sc := defScope s_are_sights) (by decide +kernel)) (fun _ _ _ _ _ => (pg_tup rfl (pgs_cons (pg_name (i := 4) sc_are_sights.nd rfl (.inl rfl)) (pgs_cons (pg_name (i := 5) sc_are_sights.nd rfl (.inl rfl)) pgs_nil)))) (fun _ _ _ _ _ => pts_nil) (fun _ _ _ _ _ => (pe_and (pe_call G_is_within (hr.mono (by decide)) rfl T.g_is_within T.f_is_within.kp T.b_is_within .nil pass0 (pa_cons (pv 4) (pa_cons pe_int (pa_cons (pv 2) pa_nil)))) (pe_one (pe_call G_is_within (hr.mono (by decide)) rfl T.g_is_within T.f_is_within.kp T.b_is_within .nil pass0 (pa_cons (pv 5) (pa_cons pe_int (pa_cons (pv 2) pa_nil)))))))) pa_nil)))) (pss_one (ps_ret pe_bl)) pss_nil) (
    pss_one (ps_ret (pe_callB (cr_all rfl) (by rfl) T.z_all (by decide +kernel) (pa_cons (pe_lc (own := [("at", 6)]) (g := (gName 6)) (tt := tYes) rfl sc_are_sights.nd (pi_range1 rfl T.z_range (pa_cons pe_int pa_nil)) (blkOk_by (own := [("at", 6)]) (N := N_are_sights) (sc := defScope s_are_sights) (by decide +kernel)) (fun _ _ _ _ _ => (pg_name (i := 6) sc_are_sights.nd rfl (.inr rfl))) (fun _ _ _ _ _ => pts_nil) (fun _ _ _ _ _ => (pe_cmpR op_eq (SQ.lenSet_K (K := K) (by rfl) T.z_len (by rfl) T.z_set (pe_lc (own := [("pair", 3)]) (g := (gName 3)) (tt := tYes) rfl sc_are_sights.nd (pi_K (K := K) (pv 1)) (blkOk_by (own := [("pair", 3)]) (N := N_are_sights) (sc := { kind := .function, names := [(Str.ofString ".0", .local), (Str.ofString "at", .cell), (Str.ofString "len", .globalImplicit), (Str.ofString "set", .globalImplicit), (Str.ofString "thing", .cell)], isGenerator := false, isCoroutine := false }) (by decide +kernel)) (fun _ _ _ _ _ => (pg_name (i := 3) sc_are_sights.nd rfl (.inl rfl))) (fun _ _ _ _ _ => pts_nil) (fun _ _ _ _ _ => (pe_ix (ixT_K (K := K)) (pv 3) (pv 6) (fun _ _ => rfl))))) (pe_callB (len_K (K := K)) (by rfl) T.z_len PySem.boot_len (pa_cons (pv 1) pa_nil)) (nomark _)))) pa_nil))))))), ?_⟩
  obtain ⟨k0, hk0⟩ := id hP
  obtain ⟨k, a, xs, rfl, h1, h2, h3, hl⟩ := hP.sq (K := K)
  have hlen := hv.lo
  have hhi := hv.hi
  refine q_when (b := false) (EvT.mono hF (et_is (et_or (et_not (et_test (ev_call (ea_cons (ev_var rfl) ea_nil) (sv1 hk0)))) fun _ => et_or (et_not (et_test (ev_chain ev_c (ev_lenSq (ev_var rfl) h1) ev_c))) fun _ => et_not (et_test (ev_allSq isPair (ev_var rfl) h1 h3 h2 (fun _ => rfl) fun t x H e _ hx => ev_call (ea_cons (ev_var rfl) ea_nil) (sv1 hx)))) ?_)) (fun hb => by cases hb) fun _ H1 e1 => ?_
  · have e1 : (ps.map pT).all isPair = true := by
      rw [List.all_eq_true]
      intro t ht
      obtain ⟨p, _, rfl⟩ := List.mem_map.mp ht
      rfl
    rw [kT_or, e1, hl]
    have e2 : decide ((1 : Int) ≤ (ps.length : Nat)) = true := decide_eq_true (by omega)
    have e3 : decide (((ps.length : Nat) : Int) ≤ 4) = true := decide_eq_true (by omega)
    rw [e2, e3]
    rfl
  refine q_asg (Ev.mono (hF.trans e1) (ev_op (ev_webm T (ev_var rfl) hW) ev_c rv_I0)) fun H2 e2 => ?_
  refine q_when (b := false) (EvT.mono ((hF.trans e1).trans e2) (et_is (et_not (et_test (ev_allP (fun p => within 0 (m - 1) (.int p.1) && within 0 (m - 1) (.int p.2)) (ev_var rfl) h1 h3 h2 (fun _ _ => rfl) fun p H e _ =>
    ev_andV (ev_call (ea_cons (ev_var rfl) (ea_cons ev_c (ea_cons (ev_var rfl) ea_nil))) (svWithin (t := .int p.1) rfl)) fun _ => ev_call (ea_cons (ev_var rfl) (ea_cons ev_c (ea_cons (ev_var rfl) ea_nil))) (svWithin (t := .int p.2) rfl)))) ?_)) (fun hb => by cases hb) fun _ H3 e3 => ?_
  · rw [Bool.not_eq_false', List.all_eq_true]
    intro p hp
    obtain ⟨a1, a2, a3, a4⟩ := hv.within p hp
    unfold within
    simp only [Bool.and_eq_true, decide_eq_true_eq]
    omega
  have hG := ((hF.trans e1).trans e2).trans e3
  refine s_ret (Ev.mono hG (ev_is (ev_allR (fun i => decide (if i = 0 then ps.map (·.1) else ps.map (·.2)).Nodup) (ea_cons ev_c ea_nil) (by decide) (by decide) (fun _ => rfl) fun i H e hi => ?_) ?_)) fun H4 e4 => q H4 (((e1.trans e2).trans e3).trans e4)
  · refine ev_lenSetEqL (el_mapSq _ (ev_var rfl) (ex_sq e h1) ?_ h2 (fun _ => rfl) fun j x y H e' hx hy => ?_) (ev_var rfl) (ex_sq e h1) ?_ ?_
    · split <;> simp [hl]
    · obtain ⟨p, b, h7, rfl, h8⟩ := rps_pT h3 hx
      have h9 := st_of (K := K) ((e.trans e') _ _ h8)
      have hi2 : i = 0 ∨ i = 1 := by omega
      rcases hi2 with rfl | rfl
      · have : y = .int p.1 := by
          rw [if_pos rfl, List.map_map, List.getElem?_map, h7] at hy
          exact (Option.some.inj hy).symm
        subst this
        exact ev_op (ev_var rfl) (ev_var rfl) (rv_ixT h9 at0)
      · have : y = .int p.2 := by
          rw [if_neg (by decide), List.map_map, List.getElem?_map, h7] at hy
          exact (Option.some.inj hy).symm
        subst this
        exact ev_op (ev_var rfl) (ev_var rfl) (rv_ixT h9 at1)
    · split <;> simp [hl]
    · split <;> simp <;> omega
  · show V.bl (((List.range 2).map _).all id) = _
    have r2 : List.range 2 = [0, 1] := rfl
    rw [r2]
    simp [hv.n1, hv.n2]
theorem ok_check_sights (T : TX K mg) : FnOk P w K mg base CX0 4 (a_check_sights K) (fdOf K (a_check_sights K)) ["web", "thing"] (spSights K .non) := by
  have G_are_sights := ok_are_sights (P := P) (w := w) (base := base) T
  refine T.f_check_sights.ok sc_check_sights (fun vs H Q E ⟨F, web, v, m, ws, ps, e, _⟩ => by rw [e]; rfl) (fun cdv A outer s H vs Q E hr ⟨F, web, v, m, ws, ps, e, hF, hW, hP, hv, q⟩ => ?_)
  subst e
  refine ⟨_, PSs.nox (pss_one (ps_if (pt_not (pt_val (pe_call G_are_sights (hr.mono (by decide)) rfl T.g_are_sights T.f_are_sights.kp T.b_are_sights .nil pass0 (pa_cons (pv 0) (pa_cons (pv 1) pa_nil))))) (pss_one ps_never) pss_nil)), ?_⟩
  exact s_when (b := false) (EvT.mono hF (et_is (et_not (et_test (ev_call (ea_cons (ev_var rfl) (ea_cons (ev_var rfl) ea_nil)) (svSights hW hP hv)))) rfl)) (fun hb => by cases hb) fun _ H1 e1 => q H1 e1
end
end GD

/-! ## Ways judged, by the program -/
namespace GD
open PySem L2 Evl G SQ
def chainIn (ws : List (Int × Int)) : List Int → Bool
  | a :: b :: r => decide ((a, b) ∈ ws) && chainIn ws (b :: r)
  | _ => true
theorem chain_ix (ws : List (Int × Int)) : ∀ p : List Int, ((List.range (p.length - 1)).map fun i => decide ((p.getD i 0, p.getD (i + 1) 0) ∈ ws)).all id = chainIn ws p
  | [] => rfl
  | [a] => rfl
  | a :: b :: r => by
    have ih := chain_ix ws (b :: r)
    have e : (a :: b :: r).length - 1 = ((b :: r).length - 1) + 1 := by simp
    rw [e, List.range_succ_eq_map, List.map_cons, List.all_cons, List.map_map]
    show (decide ((a, b) ∈ ws) && _) = (decide ((a, b) ∈ ws) && chainIn ws (b :: r))
    rw [← ih]
    rfl
def endsAt (pr : Int × Int) (p : List Int) : Bool := decide (p.head? = some pr.1 ∧ p.getLast? = some pr.2)
def isWay (m : Int) (ws : List (Int × Int)) (pr : Int × Int) (t : T) : Bool :=
  areUnlike m t && (!decide ((items t).length = 0) && (endsAt pr (nums (items t)) && chainIn ws (nums (items t))))
section
variable {K : PySem.W.Frag} {mg : Str → Option Value} {σ : L2.St} {F F' H : Hp} {ta tb tc te : TE} {v x y z : V} {r : R2}
theorem ev_opU1 {xs : List V} (ha : EvU ta σ F xs) (hb : ∀ H1, Ex F H1 → Ev tb σ H1 y) (hr : ∀ p H1, H1 p = some (.tup xs) → Ex F H1 → RV r (.ref p) y H1 z) : Ev (tOp r ta tb) σ F z := fun H1 e Q q =>
  ha H1 e _ fun p H2 _ e2 hp => hb H2 (e.trans e2) H2 (Ex.refl H2) _ fun H3 e3 => hr p H3 (e3 p _ hp) ((e.trans e2).trans e3) H3 (Ex.refl H3) Q fun H4 e4 => q H4 ((e2.trans e3).trans e4)
theorem at_last {α : Type} {xs : List α} {v : α} (h : xs.getLast? = some v) : atI xs (-1) = some v := by
  obtain ⟨ys, rfl⟩ := List.getLast?_eq_some_iff.mp h
  exact atI_last ys v
/-- tuple(t), t a tuple -/
theorem ev_tupSame {a : Addr} {xs : List V} (ha : Ev ta σ F (.ref a)) (h : SqT K F a xs) : Ev (tCB (fun xs H Q => ∃ p ys, xs = [.ref p] ∧ ((SqL K H p ys ∧ ∀ l, H l = none → Q (.ref l) (upd H l (.tup ys))) ∨ (SqT K H p ys ∧ Q (.ref p) H))) (tCons ta tNil)) σ F (.ref a) := fun H1 e _ q =>
  ha H1 e _ fun H2 e2 => ⟨a, xs, rfl, .inr ⟨ex_t (e.trans e2) h, q H2 e2⟩⟩
/-- (t[0], t[-1]) != tuple(pair) -/
theorem ev_ends {i j : Nat} {a b : Addr} {ns : List Int} {pr : Int × Int} (hi : σ[i]? = some (some (.ref a))) (h : SqT K F a (ns.map V.int)) (hn : ns ≠ []) (hj : σ[j]? = some (some (.ref b))) (hb : SqT K F b [.int pr.1, .int pr.2]) :
    Ev (tOp (rNeD K) (tTup (tCons (tOp (rIxT K) (tVar i) (tC (.int 0))) (tCons (tOp (rIxT K) (tVar i) (tUn (rU fun i => .int (-i)) (tC (.int 1)))) tNil))) (tCB (fun xs H Q => ∃ p ys, xs = [.ref p] ∧ ((SqL K H p ys ∧ ∀ l, H l = none → Q (.ref l) (upd H l (.tup ys))) ∨ (SqT K H p ys ∧ Q (.ref p) H))) (tCons (tVar j) tNil))) σ F (.bl (!endsAt pr ns)) := by
  obtain ⟨x, hx⟩ : ∃ x, ns.head? = some x := by cases ns with
    | nil => exact absurd rfl hn
    | cons x _ => exact ⟨x, rfl⟩
  obtain ⟨y, hy⟩ : ∃ y, ns.getLast? = some y := ⟨_, List.getLast?_eq_some_getLast hn⟩
  have hx' : atI (ns.map V.int) 0 = some (.int x) := by
    cases ns with
    | nil => cases hx
    | cons u us => cases hx; exact at0
  have hy' : atI (ns.map V.int) (-1) = some (.int y) := at_last (by rw [List.getLast?_map, hy]; rfl)
  refine ev_is (ev_opU1 (xs := [.int x, .int y]) (eu_tup (ea_cons (ev_op (ev_var hi) ev_c (rv_ixT h hx')) (ea_cons (ev_op (ev_var hi) (ev_un ev_c ru_neg) (rv_ixT h hy')) ea_nil)) (by show 2 ≤ 100000; decide)) (fun H1 e1 => (ev_tupSame (ev_var hj) hb).mono e1) fun p H1 hp e1 => rv_neT (ns := [x, y]) (ms := [pr.1, pr.2]) (st_of hp) (ex_t e1 hb)) ?_
  unfold endsAt
  rw [hx, hy]
  simp
/-- (t[i], t[i + 1]) in wires -/
theorem rps_pairs {ws : List (Int × Int)} {xs : List V} (h : Rps F (ws.map pT) xs) : Rps F ((ws.map fun p => [p.1, p.2]).map iT) xs := by
  rw [List.map_map]
  exact h
theorem mem_pairs {ws : List (Int × Int)} {a b : Int} : decide ([a, b] ∈ ws.map fun p => [p.1, p.2]) = decide ((a, b) ∈ ws) := by
  refine decide_eq_decide.mpr ⟨fun h => ?_, fun h => List.mem_map.mpr ⟨(a, b), h, rfl⟩⟩
  obtain ⟨p, hp, e⟩ := List.mem_map.mp h
  have h1 : p.1 = a := by injection e
  have h2 : p.2 = b := by
    injection e with _ e
    injection e
  rw [← h1, ← h2]
  exact hp
end
def spIsWay (K : PySem.W.Frag) : Sp := fun vs H Q _ => ∃ F web v t b m ws pr, vs = [web, .ref b, v] ∧ Ex F H ∧ Wb K F web m ws ∧ SqT K F b [.int pr.1, .int pr.2] ∧ Rp F t v ∧ ∀ H', Ex H H' → Q (.bl (isWay m ws pr t)) H'
theorem svIsWay {K : PySem.W.Frag} {F : Hp} {web v : V} {t : T} {b : Addr} {m : Int} {ws : List (Int × Int)} {pr : Int × Int} (h : Wb K F web m ws) (hb : SqT K F b [.int pr.1, .int pr.2]) (ht : Rp F t v) : SpV (spIsWay K) [web, .ref b, v] F (.bl (isWay m ws pr t)) :=
  fun H1 e _ q _ => ⟨F, web, v, t, b, m, ws, pr, rfl, e, h, hb, ht, q⟩
section
variable {P : Program} {w : World} {K : PySem.W.Frag} {mg : Str → Option Value} {base : Heap}
theorem ok_is_way (T : TX K mg) : FnOk P w K mg base CX0 4 (a_is_way K) (fdOf K (a_is_way K)) ["web", "pair", "thing"] (spIsWay K) := by
  have G_are_unlike := ok_are_unlike (P := P) (w := w) (base := base) T
  refine T.f_is_way.ok sc_is_way (fun vs H Q E ⟨F, web, v, t, b, m, ws, pr, e, _⟩ => by rw [e]; rfl) (fun cdv A outer s H vs Q E hr ⟨F, web, v, t, b, m, ws, pr, e, hF, hW, hb, h, q⟩ => ?_)
  subst e
  refine ⟨_, PSs.nox (pss_cons (ps_if (PW.pt (pw_or (pt_not (pt_val (pe_call G_are_unlike (hr.mono (by decide)) rfl T.g_are_unlike T.f_are_unlike.kp T.b_are_unlike .nil pass0 (pa_cons (pv 2) (pa_cons (pe_fld (pv 0) rfl) pa_nil))))) (pw_or1 (pt_cmpR op_eq (pe_callB call_len_seq (by rfl) T.z_len PySem.boot_len (pa_cons (pv 2) pa_nil)) pe_int (nomark _))))) (pss_one (ps_ret pe_bl)) pss_nil) (
    pss_cons (ps_if (pt_cmpR (op_neD hr.units) (pe_tup (pa_cons (pe_ix ix_tup (pv 2) pe_int (fun _ _ => rfl)) (pa_cons (pe_ix ix_tup (pv 2) (pe_un un_neg pe_int) (fun _ _ => rfl)) pa_nil))) (pe_callTy call_tuple_of (by rfl) T.z_tuple (by decide +kernel) (pa_cons (pv 1) pa_nil)) (nomark _)) (pss_one (ps_ret pe_bl)) pss_nil) (
    pss_one (ps_ret (pe_callB (cr_all rfl) (by rfl) T.z_all (by decide +kernel) (pa_cons (pe_lc (own := [("at", 3)]) (g := (gName 3)) (tt := tYes) rfl sc_is_way.nd (pi_range1 rfl T.z_range (pa_cons (pe_op op_sub (pe_callB call_len_seq (by rfl) T.z_len PySem.boot_len (pa_cons (pv 2) pa_nil)) pe_int) pa_nil)) (blkOk_by (own := [("at", 3)]) (N := N_is_way) (sc := defScope s_is_way) (by decide +kernel)) (fun _ _ _ _ _ => (pg_name (i := 3) sc_is_way.nd rfl (.inl rfl))) (fun _ _ _ _ _ => pts_nil) (fun _ _ _ _ _ => (pe_cmpR (inU_K (K := K) (units65 hr)) (pe_tup (pa_cons (pe_ix (ixT_K (K := K)) (pv 2) (pv 3) (fun _ _ => rfl)) (pa_cons (pe_ix (ixT_K (K := K)) (pv 2) (pe_op op_add (pv 3) pe_int) (fun _ _ => rfl)) pa_nil))) (fld_K (K := K) (pv 0) rfl) (by rfl)))) pa_nil)))))), ?_⟩
  refine q_when (b := !(areUnlike m t) || decide ((items t).length = 0)) (EvT.mono hF (et_or (et_not (et_test (ev_call (ea_cons (ev_var rfl) (ea_cons (ev_webm T (ev_var rfl) hW) ea_nil)) (svT1 h)))) fun hu => et_test ?_)) (fun hc H1 e1 => ?_) (fun hc H1 e1 => ?_)
  · have hu' : areUnlike m t = true := by simpa using hu
    unfold areUnlike at hu'
    rw [Bool.and_eq_true] at hu'
    refine ev_is (ev_op (ev_lenT (ev_var rfl) h (isU_or hu'.1)) ev_c (rv_eq rfl)) ?_
    have : decide (V.int ((items t).length : Nat) = V.int 0) = decide ((items t).length = 0) := decide_eq_decide.mpr ⟨fun z => by have := V.int.inj z; omega, fun z => by rw [z]; rfl⟩
    exact congrArg V.bl this
  · have e2 : isWay m ws pr t = false := by
      unfold isWay
      rw [Bool.or_eq_true] at hc
      rcases hc with z | z
      · rw [Bool.not_eq_true'] at z; rw [z]; rfl
      · rw [z]; simp
    have := q H1 e1
    rw [e2] at this
    exact this
  · rw [Bool.or_eq_false_iff, Bool.not_eq_false'] at hc
    obtain ⟨hu, hz⟩ := hc
    have hu' := hu
    unfold areUnlike at hu'
    rw [Bool.and_eq_true, Bool.and_eq_true] at hu'
    obtain ⟨a, xs, rfl, h1, h2, h3⟩ := sq_items (K := K) h (isU_or hu'.1)
    rw [isU_notL hu'.1] at h1
    obtain ⟨h4, h5⟩ := all_nums hu'.2.1
    have hlen : (items t).length = (nums (items t)).length := by
      have := congrArg List.length h4
      rwa [List.length_map] at this
    rw [h4, Rps.ints] at h3
    subst h3
    have hne : nums (items t) ≠ [] := fun z => by
      rw [hlen, z] at hz
      exact absurd hz (by decide)
    refine q_when (b := !endsAt pr (nums (items t))) (et_test (Ev.mono (hF.trans e1) (ev_ends rfl h1 hne rfl hb))) (fun hc H2 e2 => ?_) (fun hc H2 e2 => ?_)
    · have e3 : isWay m ws pr t = false := by
        unfold isWay
        rw [Bool.not_eq_true'] at hc
        rw [hc]
        simp
      have := q H2 (e1.trans e2)
      rw [e3] at this
      exact this
    · rw [Bool.not_eq_false'] at hc
      have hx : ((nums (items t)).map V.int).length = (nums (items t)).length := List.length_map ..
      have e4 : isWay m ws pr t = chainIn ws (nums (items t)) := by
        unfold isWay
        rw [hu, hz, hc]
        simp
      refine s_ret (Ev.mono ((hF.trans e1).trans e2) (ev_is (ev_allR (n := ((nums (items t)).length : Int) - 1) (fun i => decide (((nums (items t)).getD i 0, (nums (items t)).getD (i + 1) 0) ∈ ws)) (ea_cons (ev_op (ev_is (ev_lenSq (k := false) (ev_var rfl) h1) (by rw [hx])) ev_c rv_I0) ea_nil) (by
          have := List.length_pos_iff.mpr hne
          omega) (by rw [hx] at h2; omega) (fun _ => rfl) fun i H e hi => ?_) ?_)) fun H4 e4 => q H4 ((e1.trans e2).trans e4)
      · obtain ⟨wa, ys, g1, g2, g3, g4⟩ := ev_webw (σ := (wipe (start N_is_way [web, .ref b, .ref a]) [3]).set 3 (some (.int (i : Nat)))) (ta := tVar 0) T (ev_var rfl) (hW.mono e)
        have hi1 : i < (nums (items t)).length := by omega
        have hi2 : i + 1 < (nums (items t)).length := by omega
        have a1 : atI ((nums (items t)).map V.int) (i : Nat) = some (.int ((nums (items t)).getD i 0)) := atI_nat (by simp [hi1])
        have a2 : atI ((nums (items t)).map V.int) ((i + 1 : Nat) : Int) = some (.int ((nums (items t)).getD (i + 1) 0)) := atI_nat (by simp [hi2])
        refine ev_is (ev_opU1 (eu_tup (ea_cons (ev_op (ev_var rfl) (ev_var rfl) (rv_ixT (ex_t e h1) a1)) (ea_cons (ev_op (ev_var rfl) (ev_op (ev_var rfl) ev_c rv_I0) (rv_ixT (ex_t e h1) a2)) ea_nil)) (by show 2 ≤ 100000; decide)) (fun H1 e1 => g4.mono e1) fun p H1 hp e1 => rv_inU (ns := [_, _]) (st_of hp) (ex_t e1 (st_of g1)) (rps_pairs (g3.mono e1 _ _))) ?_
        rw [mem_pairs]
      · have e5 : (((nums (items t)).length : Int) - 1).toNat = (nums (items t)).length - 1 := by omega
        rw [e5, chain_ix, e4]
end
end GD

/-! ## Ways judged: is_ways_apart, and the law's own -/
namespace GD
open PySem L2 Evl G SQ
def flatW (ts : List T) : List Int := ts.flatMap fun t => nums (items t)
def lawWay (m : Int) (ws : List (Int × Int)) (pr : Int × Int) (t : T) : Bool :=
  isU t && ((items t).all (within 0 (m - 1)) && (!decide ((items t).length = 0) && (endsAt pr (nums (items t)) && chainIn ws (nums (items t)))))
def isWaysApart (m : Int) (ws ps : List (Int × Int)) (t : T) : Bool := isU t && (decide ((items t).length = ps.length) && ((ps.zip (items t)).all (fun q => isWay m ws q.1 q.2) && decide (flatW (items t)).Nodup))
def waysRight (m : Int) (ws ps : List (Int × Int)) (t : T) : Bool := isU t && (decide ((items t).length = ps.length) && ((ps.zip (items t)).all (fun q => lawWay m ws q.1 q.2) && decide (flatW (items t)).Nodup))
theorem flat_part {ts : List T} (h : (flatW ts).Nodup) {t : T} (ht : t ∈ ts) : (nums (items t)).Nodup := by
  obtain ⟨as, bs, rfl⟩ := List.append_of_mem ht
  unfold flatW at h
  rw [List.flatMap_append, List.flatMap_cons, List.nodup_append] at h
  have h2 := h.2.1
  rw [List.nodup_append] at h2
  exact h2.1
theorem isWay_law {m : Int} {ws : List (Int × Int)} {pr : Int × Int} {t : T} : isWay m ws pr t = (lawWay m ws pr t && decide (nums (items t)).Nodup) := by
  unfold isWay lawWay areUnlike
  cases isU t <;> cases (items t).all (within 0 (m - 1)) <;> cases decide ((items t).length = 0) <;> cases decide (nums (items t)).Nodup <;> simp
/-- (M3) the two judges of ways agree -/
theorem ways_judges (m : Int) (ws ps : List (Int × Int)) (t : T) : isWaysApart m ws ps t = waysRight m ws ps t := by
  unfold isWaysApart waysRight
  rw [Bool.eq_iff_iff]
  simp only [Bool.and_eq_true, decide_eq_true_eq, List.all_eq_true]
  constructor
  · rintro ⟨h1, h2, h3, h4⟩
    refine ⟨h1, h2, fun q hq => ?_, h4⟩
    have := h3 q hq
    rw [isWay_law, Bool.and_eq_true] at this
    exact this.1
  · rintro ⟨h1, h2, h3, h4⟩
    refine ⟨h1, h2, fun q hq => ?_, h4⟩
    rw [isWay_law, Bool.and_eq_true]
    exact ⟨h3 q hq, decide_eq_true (flat_part h4 (List.of_mem_zip hq).2)⟩
section
variable {K : PySem.W.Frag} {mg : Str → Option Value} {σ : L2.St} {F F' H : Hp} {ta tb tc te tl : TE} {v x y z : V} {D : Ends} {tu tz : TS} {g : TG} {J : It} {n : Nat} {Gd : Hp → Prop} {Y : Nat → Hp → V → Hp → Prop} {wi : TI}
theorem q_forW (W : Walk J n Gd Y) (hw : EvI wi σ H J) (Pv : Nat → L2.St → Hp → Prop) (h0 : ∀ H1, Ex H H1 → Pv 0 σ H1) (hG : ∀ i σ' H', i ≤ n → Pv i σ' H' → Gd H')
    (hs : ∀ i x σ1 H1 H2, i < n → Pv i σ1 H1 → Y i H1 x H2 → g x σ1 H2 fun σ2 H3 => tu { D with nx := Pv (i + 1), ct := Pv (i + 1), bk := tz D } σ2 H3) (hd : ∀ σ' H', Pv n σ' H' → tz D σ' H') : tSeq (tFor wi g tu) tz D σ H :=
  hw H (Ex.refl H) _ fun H1 e => for_it (D := { D with nx := tz D }) W Pv (h0 H1 e) hG hs hd
theorem s_forW (W : Walk J n Gd Y) (hw : EvI wi σ H J) (Pv : Nat → L2.St → Hp → Prop) (h0 : ∀ H1, Ex H H1 → Pv 0 σ H1) (hG : ∀ i σ' H', i ≤ n → Pv i σ' H' → Gd H')
    (hs : ∀ i x σ1 H1 H2, i < n → Pv i σ1 H1 → Y i H1 x H2 → g x σ1 H2 fun σ2 H3 => tu { D with nx := Pv (i + 1), ct := Pv (i + 1), bk := D.nx } σ2 H3) (hd : ∀ σ' H', Pv n σ' H' → D.nx σ' H') : tFor wi g tu D σ H :=
  hw H (Ex.refl H) _ fun H1 e => for_it W Pv (h0 H1 e) hG hs hd
theorem evi_mono {F F' : Hp} (e : Ex F F') (h : EvI wi σ F J) : EvI wi σ F' J := fun H1 e1 R q => h H1 (e.trans e1) R q
theorem evi_Z {k1 k2 : Bool} {a b : Addr} {xs ys : List V} {ta : TA} (h : EvA ta σ F [.ref a, .ref b]) (h1 : Sq k1 K F a xs) (h2 : Sq k2 K F b ys) : EvI (iZ K ta) σ F (JZ K k1 k2 a b) := fun H1 e _ q =>
  h H1 e _ fun H2 e2 => ⟨k1, k2, a, b, xs, ys, rfl, ex_sq (e.trans e2) h1, ex_sq (e.trans e2) h2, q H2 e2⟩
theorem evi_E {k1 : Bool} {a : Addr} {xs : List V} {ta : TA} (h : EvA ta σ F [.ref a]) (h1 : Sq k1 K F a xs) : EvI (iE K ta) σ F (JE K k1 a) := fun H1 e _ q =>
  h H1 e _ fun H2 e2 => ⟨k1, a, xs, rfl, ex_sq (e.trans e2) h1, q H2 e2⟩
theorem ypair_ex {xs ys : Nat → Option V} {i : Nat} {H x H'} (h : YPair xs ys i H x H') : Ex H H' := by
  obtain ⟨T, a, b, _, h1, h2, _⟩ := h
  rw [h2]
  exact Ex.new h1
/-- a tuple of these, new or old -/
def EvV (K : PySem.W.Frag) (te : TE) (σ : L2.St) (F : Hp) (xs : List V) : Prop := ∀ H1, Ex F H1 → ∀ Q : VK, (∀ p H2, Ex H1 H2 → SqT K H2 p xs → Q (.ref p) H2) → te σ H1 Q
theorem ev_slA {tl th : TO} {a : Addr} {xs : List V} {lo hi : Option Int} (h : Ev te σ F (.ref a)) (h1 : EvO tl σ F lo) (h2 : EvO th σ F hi) (hs : SqT K F a xs) : EvV K (tSl (rSlA K) te tl th) σ F (cutV xs lo hi) := fun H1 e Q q =>
  h H1 e _ fun H2 e2 => h1 H2 (e.trans e2) _ fun H3 e3 => h2 H3 ((e.trans e2).trans e3) _ fun H4 e4 =>
    ⟨a, xs, rfl, ex_t (((e.trans e2).trans e3).trans e4) hs, fun hw => q a H4 ((e2.trans e3).trans e4) (by
      have : cutV xs lo hi = xs := by unfold cutV; rw [hw.1, hw.2]; simp
      rw [this]
      exact ex_t (((e.trans e2).trans e3).trans e4) hs), fun _ p hp => q p _ (((e2.trans e3).trans e4).trans (Ex.new hp)) (st_of upd_same)⟩
theorem cut_from (xs : List V) (k : Nat) : cutV xs (some (k : Int)) none = xs.drop k := by
  unfold cutV
  rw [HT.sIx_nat, HT.sIx_none]
  by_cases h : k ≤ xs.length
  · rw [Nat.min_eq_left h, List.take_of_length_le (by rw [List.length_drop]; omega)]
  · rw [Nat.min_eq_right (by omega), Nat.sub_self, List.take_zero, List.drop_eq_nil_of_le (by omega)]
theorem cut_to (xs : List V) (k : Nat) : cutV xs none (some (k : Int)) = xs.take k := by
  unfold cutV
  rw [HT.sIx_nat, HT.sIx_none, List.drop_zero, Nat.sub_zero]
  by_cases h : k ≤ xs.length
  · rw [Nat.min_eq_left h]
  · rw [Nat.min_eq_right (by omega), List.take_of_length_le (by omega), List.take_of_length_le (by omega)]
theorem zip_chain (ws : List (Int × Int)) : ∀ p : List Int, (p.zip (p.drop 1)).all (fun q => decide (q ∈ ws)) = chainIn ws p
  | [] => rfl
  | [a] => rfl
  | a :: b :: r => by
    have ih := zip_chain ws (b :: r)
    show (decide ((a, b) ∈ ws) && _) = (decide ((a, b) ∈ ws) && chainIn ws (b :: r))
    rw [← ih]
    rfl
end
def spWays (K : PySem.W.Frag) : Sp := fun vs H Q _ => ∃ F web v u t m ws ps, vs = [web, v, u] ∧ Ex F H ∧ Wb K F web m ws ∧ Prs F v ps ∧ Ps m ps ∧ Rp F t u ∧ ∀ H', Ex H H' → Q (.bl (isWaysApart m ws ps t)) H'
theorem flat_len {F : Hp} : ∀ {ts : List T} {xs : List V}, Rps F ts xs → (flatW ts).length ≤ 60 * ts.length
  | [], _, _ => Nat.zero_le _
  | t :: ts, _, ⟨v, vs, e, h1, h2⟩ => by
    have ih := flat_len h2
    have h3 : (nums (items t)).length ≤ 60 := by
      have nl : ∀ us : List T, (nums us).length ≤ us.length := fun us => by
        induction us with
        | nil => exact Nat.le_refl _
        | cons u us ih2 =>
          cases u <;> simp only [nums, List.length_cons] <;> omega
      have := nl (items t)
      cases t with
      | tup us =>
        obtain ⟨a, ys, _, _, hz, hr⟩ := h1
        have := hr.len
        simp only [items] at *
        omega
      | lst us =>
        obtain ⟨a, ys, _, _, hz, hr⟩ := h1
        have := hr.len
        simp only [items] at *
        omega
      | _ => exact Nat.zero_le _
    unfold flatW at *
    rw [List.flatMap_cons, List.length_append, List.length_cons]
    omega
theorem flat_take {ts : List T} {i : Nat} {t : T} (h : ts[i]? = some t) : flatW (ts.take (i + 1)) = flatW (ts.take i) ++ nums (items t) := by
  have hl := (List.getElem?_eq_some_iff.mp h)
  obtain ⟨hl, e⟩ := hl
  rw [List.take_add_one, h]
  unfold flatW
  rw [List.flatMap_append]
  simp
section
variable {P : Program} {w : World} {K : PySem.W.Frag} {mg : Str → Option Value} {base : Heap}
theorem ok_is_ways_apart (T : TX K mg) : FnOk P w K mg base CX0 5 (a_is_ways_apart K) (fdOf K (a_is_ways_apart K)) ["web", "sights", "thing"] (spWays K) := by
  have G_check_sights := ok_check_sights (P := P) (w := w) (base := base) T
  have G_is_way := ok_is_way (P := P) (w := w) (base := base) T
  refine T.f_is_ways_apart.ok sc_is_ways_apart (fun vs H Q E ⟨F, web, v, u, t, m, ws, ps, e, _⟩ => by rw [e]; rfl) (fun cdv A outer s H vs Q E hr ⟨F, web, v, u, t, m, ws, ps, e, hF, hW, hP, hv, h, q⟩ => ?_)
  subst e
  refine ⟨_, PSs.nox (pss_cons (ps_expr (pe_call G_check_sights (hr.mono (by decide)) rfl T.g_check_sights T.f_check_sights.kp T.b_check_sights .nil pass0 (pa_cons (pv 0) (pa_cons (pv 1) pa_nil)))) (
    pss_cons (ps_if (PW.pt (pw_or (pt_not (pt_val (pe_callB call_isi (by rfl) T.z_isinstance (by decide +kernel) (pa_cons (pv 2) (pa_cons (pe_bltn (v := .ty "tuple") (by rfl) T.z_tuple (by decide +kernel) rfl) pa_nil))))) (pw_or1 (pt_cmpR op_ne (pe_callB call_len_seq (by rfl) T.z_len PySem.boot_len (pa_cons (pv 2) pa_nil)) (pe_callB call_len_seq (by rfl) T.z_len PySem.boot_len (pa_cons (pv 1) pa_nil)) (nomark _))))) (pss_one (ps_ret pe_bl)) pss_nil) (
    pss_cons (ps_if (pt_not (pt_val (pe_callB (cr_all rfl) (by rfl) T.z_all (by decide +kernel) (pa_cons (pe_lc (own := [("pair", 5), ("way", 4)]) (g := (gTup _ 2 (gCons (gName 5) (gCons (gName 4) gNil)))) (tt := tYes) rfl sc_is_ways_apart.nd (pi_ZT rfl T.z_zip (pa_cons (pv 1) (pa_cons (pv 2) pa_nil))) (blkOk_by (own := [("pair", 5), ("way", 4)]) (N := N_is_ways_apart) (sc := defScope s_is_ways_apart) (by decide +kernel)) (fun _ _ _ _ _ => (pg_tup rfl (pgs_cons (pg_name (i := 5) sc_is_ways_apart.nd rfl (.inl rfl)) (pgs_cons (pg_name (i := 4) sc_is_ways_apart.nd rfl (.inl rfl)) pgs_nil)))) (fun _ _ _ _ _ => pts_nil) (fun _ _ _ _ _ => (pe_call G_is_way (hr.mono (by decide)) rfl T.g_is_way T.f_is_way.kp T.b_is_way .nil pass0 (pa_cons (pv 0) (pa_cons (pv 5) (pa_cons (pv 4) pa_nil)))))) pa_nil)))) (pss_one (ps_ret pe_bl)) pss_nil) (
    pss_cons (ps_asg (pe_lst pa_nil) (pg_name (i := 3) sc_is_ways_apart.nd rfl (.inl rfl))) (
    pss_cons (ps_for PassesOwn.never rfl (pi_sq (pv 2)) (pg_name (i := 4) sc_is_ways_apart.nd rfl (.inl rfl)) (pss_one (ps_expr (pe_bm PySem.F.plainAttrs_list PySem.F.slot_list_extend PySem.F.type_list_extend mt_extend (pv 3) (pa_cons (pe_callTy call_list_of (by rfl) T.z_list (by decide +kernel) (pa_cons (pv 4) pa_nil)) pa_nil))))) (
    pss_one (ps_ret (pe_cmpR op_eq (SQ.pe_lenSet (by rfl) T.z_len (by rfl) T.z_set (pv 3)) (pe_callB call_len_seq (by rfl) T.z_len PySem.boot_len (pa_cons (pv 3) pa_nil)) (nomark _))))))))), ?_⟩
  refine q_drop (Ev.mono hF (ev_call (ea_cons (ev_var rfl) (ea_cons (ev_var rfl) ea_nil)) (svSights hW hP hv))) fun H1 e1 => ?_
  obtain ⟨kp, pa, pxs, rfl, p1, p2, p3, pl⟩ := hP.sq (K := K)
  have hF1 := hF.trans e1
  refine q_when (b := !(isU t) || !decide ((items t).length = ps.length)) (EvT.mono hF1 (et_or (et_not (et_test (ev_isi (ev_var rfl) h (kit_u t)))) fun hu => et_is (et_test (ev_op (ev_lenT (ev_var rfl) h ?_) (ev_lenSq (ev_var rfl) p1) (rv_ne rfl))) ?_)) (fun hc H2 e2 => ?_) (fun hc H2 e2 => ?_)
  · exact isU_or (by simpa using hu)
  · rw [pl]
    exact congrArg _ (decide_eq_decide.mpr ⟨fun z => by have := V.int.inj z; omega, fun z => by rw [z]⟩)
  · have e3 : isWaysApart m ws ps t = false := by
      unfold isWaysApart
      rw [Bool.or_eq_true, Bool.not_eq_true', Bool.not_eq_true'] at hc
      rcases hc with z | z <;> rw [z] <;> simp
    have := q H2 (e1.trans e2)
    rw [e3] at this
    exact this
  rw [Bool.or_eq_false_iff, Bool.not_eq_false', Bool.not_eq_false'] at hc
  obtain ⟨hu, hl⟩ := hc
  have hl' : (items t).length = ps.length := of_decide_eq_true hl
  have hF2 := hF1.trans e2
  obtain ⟨a, xs, rfl, h1, h2, h3⟩ := sq_items (K := K) h (isU_or hu)
  rw [isU_notL hu] at h1
  have hxl : xs.length = ps.length := by rw [← h3.len, hl']
  have hall := ev_all (K := K) (bs := (List.range ps.length).map fun i => isWay m ws (ps.getD i (0, 0)) ((items t).getD i .non)) (σ := start N_is_ways_apart [web, .ref pa, .ref a]) (F := F)
      (tl := tLc (iZ K (tCons (tVar 1) (tCons (tVar 2) tNil))) (gTup K 2 (gCons (gName 5) (gCons (gName 4) gNil))) tYes (tCall (spIsWay K) [] (fun _ _ _ => False) (tCons (tVar 0) (tCons (tVar 5) (tCons (tVar 4) tNil)))) [5, 4]) (by
    rw [← fm_bools]
    refine el_lcP (walk_Z (k1 := kp) (k2 := false) (a := pa) (b := a) (xs := pxs) (ys := xs) (by rw [pl, hxl, Nat.min_self])) (evi_Z (ea_cons (ev_var rfl) (ea_cons (ev_var rfl) ea_nil)) p1 h1) (fun H e => ⟨ex_sq e p1, ex_sq e h1⟩) (fun i H x H' _ y => ypair_ex y) (fun _ _ => rfl) (by have := hv.hi; omega) _ fun i x H1 H' hi e y => ?_
    obtain ⟨T, x1, y1, rfl, y2, y3, y4, y5⟩ := id y
    obtain ⟨p, b, g1, rfl, g2⟩ := rps_pT p3 y4
    obtain ⟨tt, g3, g4⟩ := h3.at y5
    refine ⟨T, _, _, rfl, st_of (by rw [y3]; exact upd_same), et_yes, fun z hz => ?_⟩
    have e5 : isWay m ws (ps.getD i (0, 0)) ((items t).getD i .non) = isWay m ws p tt := by
      rw [List.getD_eq_getElem?_getD, List.getD_eq_getElem?_getD, g1, g3]
      rfl
    rw [e5] at hz
    obtain rfl := Option.some.inj hz
    have e6 := e.trans (ypair_ex y)
    exact ev_call (ea_cons (ev_var rfl) (ea_cons (ev_var rfl) (ea_cons (ev_var rfl) ea_nil))) (svIsWay (hW.mono e6) (st_of (e6 _ _ g2)) (g4.mono e6 _ _)))
  have ez : ((List.range ps.length).map fun i => isWay m ws (ps.getD i (0, 0)) ((items t).getD i .non)).all id = (ps.zip (items t)).all (fun q => isWay m ws q.1 q.2) := by
    have hzl : (ps.zip (items t)).length = ps.length := by rw [List.length_zip, hl', Nat.min_self]
    rw [← hzl]
    refine all_range _ _ _ fun i q hq => ?_
    obtain ⟨g1, g2⟩ := List.getElem?_zip_eq_some.mp hq
    rw [List.getD_eq_getElem?_getD, List.getD_eq_getElem?_getD, g1, g2]
    rfl
  rw [ez] at hall
  refine q_when (b := !((ps.zip (items t)).all (fun q => isWay m ws q.1 q.2))) (EvT.mono hF2 (et_not (et_test hall))) (fun hc H3 e3 => ?_) (fun hc H3 e3 => ?_)
  · have e4 : isWaysApart m ws ps t = false := by
      unfold isWaysApart
      rw [Bool.not_eq_true'] at hc
      rw [hc]
      simp
    have := q H3 ((e1.trans e2).trans e3)
    rw [e4] at this
    exact this
  rw [Bool.not_eq_false'] at hc
  refine q_asgL (el_lst ea_nil (by decide)) fun U H4 hU e4 hH4 => ?_
  have hF4 := (hF2.trans e3).trans e4
  have hU' : F U = none := fresh_back (hF2.trans e3) hU
  have hH3 : Ex H H3 := (e1.trans e2).trans e3
  refine q_forW (Gd := fun H => Sq false K H a xs) (Y := YAt xs) walk_sq (evi_mono hF4 (evi_sq (ev_var rfl) h1))
    (fun i σ' H' => ∃ o, σ' = [some web, some (.ref pa), some (.ref a), some (.ref U), o, none] ∧ Ex H3 H' ∧ H' U = some (.lst ((flatW ((items t).take i)).map V.int)))
    (fun H5 e5 => ⟨_, rfl, e4.trans e5, e5 _ _ hH4⟩) (fun i σ' H' _ ⟨_, _, e5, _⟩ => ex_sq (hF2.trans (e3.trans e5)) h1) (fun i x σ1 H5 H6 hi hp y => ?_) (fun σ' H' hp => ?_)
  · obtain ⟨rfl, hy⟩ := y
    obtain ⟨o, rfl, e5, hHU⟩ := hp
    obtain ⟨tt, g3, g4⟩ := h3.at hy
    have hw : isWay m ws (ps.getD i (0, 0)) tt = true := by
      have hip : i < ps.length := by omega
      refine List.all_eq_true.mp hc (ps.getD i (0, 0), tt) (List.mem_of_getElem? (i := i) (List.getElem?_zip_eq_some.mpr ⟨?_, g3⟩))
      rw [List.getD_eq_getElem?_getD, List.getElem?_eq_getElem hip]
      rfl
    unfold isWay areUnlike at hw
    simp only [Bool.and_eq_true] at hw
    obtain ⟨b, ys, rfl, k1, k2, k3⟩ := sq_items (K := K) g4 (isU_or hw.1.1)
    rw [isU_notL hw.1.1] at k1
    obtain ⟨k4, _⟩ := all_nums hw.1.2.1
    rw [k4, Rps.ints] at k3
    subst k3
    have hF6 : Ex F H6 := hF2.trans (e3.trans e5)
    refine ⟨_, rfl, .inl ⟨rfl, _, sq_of hHU⟩, _, rfl, b, _, rfl, .inr (ex_t hF6 k1), fun l hl => ?_⟩
    have nUl : U ≠ l := ne_of_none hHU hl
    have hfl := flat_len (h3.take i)
    refine ⟨U, l, _, _, rfl, rfl, by rw [upd_ne nUl]; exact hHU, upd_same, ?_, some (.ref b), rfl, Ex.mut (e5.trans (Ex.new hl)) hU, ?_⟩
    · refine sz_of ?_
      rw [List.length_map, List.length_map]
      rw [List.length_map] at k2
      rw [List.length_take] at hfl
      have := hv.hi
      omega
    · rw [upd_same, flat_take g3, List.map_append]
  · obtain ⟨o, rfl, e5, hHU⟩ := hp
    have hlt : (items t).take xs.length = items t := by rw [← h3.len, List.take_length]
    rw [hlt] at hHU
    have hfl := flat_len h3
    have := hv.hi
    refine s_ret (ev_is (ev_lenSetEq (k1 := true) (k2 := true) (ev_var rfl) (sq_of hHU) (ev_var rfl) (sq_of hHU) (by simp) (by omega)) ?_) fun H6 e6 => q H6 (hH3.trans (e5.trans e6))
    unfold isWaysApart
    rw [hu, hl, hc]
    simp
end
end GD

/-! ## Ways judged, by the law -/
namespace GD
open PySem L2 Evl G SQ
def spRight : Sp := fun vs H Q _ => ∃ F wv v u t m ws ps, vs = [.int m, wv, v, u] ∧ Ex F H ∧ Rp F (.tup (ws.map pT)) wv ∧ Prs F v ps ∧ ps.length ≤ 4 ∧ Rp F t u ∧ ∀ H', Ex H H' → Q (.bl (waysRight m ws ps t)) H'
theorem fold_no {m : Int} {ws ps : List (Int × Int)} {t : T} {i : Nat} {tt : T} {p : Int × Int} (h1 : ps[i]? = some p) (h2 : (items t)[i]? = some tt) (h : lawWay m ws p tt = false) : waysRight m ws ps t = false := by
  unfold waysRight
  have : ((ps.zip (items t)).all fun q => lawWay m ws q.1 q.2) = false := by
    rw [List.all_eq_false]
    exact ⟨(p, tt), List.mem_of_getElem? (i := i) (List.getElem?_zip_eq_some.mpr ⟨h1, h2⟩), by simpa using h⟩
  rw [this]
  simp
section
variable {K : PySem.W.Frag} {σ : L2.St} {F : Hp} {te : TE} {tt : TT} {n : Nat} {vs : List Nat} {wi : TI}
/-- a comprehension over what is made on the way -/
theorem el_lcX {j : Nat} (Pr : Nat → V → Hp → Prop) (hw : ∀ H1, Ex F H1 → ∀ R : It → Hp → Prop, (∀ J H2 (G : Hp → Prop) (Y : Nat → Hp → V → Hp → Prop), Ex H1 H2 → Walk J n G Y → (∀ H, Ex H2 H → G H) → (∀ i H x H', i < n → Ex H2 H → Y i H x H' → Ex H H' ∧ Pr i x H') → R J H2) → wi σ H1 R)
    (hwp : ∀ x, wipe ((wipe σ vs).set j (some x)) vs = wipe σ vs) (hn : n ≤ 100000) (f : Nat → Option V)
    (hs : ∀ i x H', i < n → Ex F H' → Pr i x H' → EvT tt ((wipe σ vs).set j (some x)) H' (f i).isSome ∧ ∀ v, f i = some v → Ev te ((wipe σ vs).set j (some x)) H' v) : EvL (tLc wi (gName j) tt te vs) σ F (fm n f) := fun H0 e Q q =>
  hw H0 e _ fun J H1 G Y e1 W hG hY Dl hD => lc_it W (Cf F H1 f Dl) ⟨hD, Ex.new hD, upd_same⟩ (fun i H' _ p => hG H' p.2.1)
    (fun i x H H' hi p y => by
      obtain ⟨y1, y2⟩ := hY i H x H' hi p.2.1 y
      have h2 := hs i x H' hi (((e.trans e1).trans p.2.1).trans y1) y2
      exact ⟨hwp x, cf_turn p y1 (by omega) h2.1 h2.2⟩)
    (fun H' p => q Dl H' (fresh_back e1 p.1) (e1.trans p.2.1) p.2.2)
end
section
variable {P : Program} {w : World} {K : PySem.W.Frag} {mg : Str → Option Value} {base : Heap}
theorem ok_L_ways_right (T : TX K mg) : FnOk P w K mg base CX0 2 (a_L_ways_right K) (fdOf K (a_L_ways_right K)) ["_law_machines", "_law_wires_here", "_law_pairs", "_law_thing"] spRight := by
  have G_L_whole := ok_L_whole (P := P) (w := w) (base := base) T
  refine T.f_L_ways_right.ok sc_L_ways_right (fun vs H Q E ⟨F, wv, v, u, t, m, ws, ps, e, _⟩ => by rw [e]; rfl) (fun cdv A outer s H vs Q E hr ⟨F, wv, v, u, t, m, ws, ps, e, hF, hW, hP, hv, h, q⟩ => ?_)
  subst e
  refine ⟨_, PSs.nox (pss_cons (ps_if (PW.pt (pw_or (pt_not (pt_val (pe_callB call_isi (by rfl) T.z_isinstance (by decide +kernel) (pa_cons (pv 3) (pa_cons (pe_bltn (v := .ty "tuple") (by rfl) T.z_tuple (by decide +kernel) rfl) pa_nil))))) (pw_or1 (pt_cmpR op_ne (pe_callB call_len_seq (by rfl) T.z_len PySem.boot_len (pa_cons (pv 3) pa_nil)) (pe_callB call_len_seq (by rfl) T.z_len PySem.boot_len (pa_cons (pv 2) pa_nil)) (nomark _))))) (pss_one (ps_ret pe_bl)) pss_nil) (
    pss_cons (ps_asg (pe_lst pa_nil) (pg_name (i := 4) sc_L_ways_right.nd rfl (.inl rfl))) (
    pss_cons (ps_for PassesOwn.never rfl (pi_ZT rfl T.z_zip (pa_cons (pv 3) (pa_cons (pv 2) pa_nil))) (pg_tup rfl (pgs_cons (pg_name (i := 5) sc_L_ways_right.nd rfl (.inl rfl)) (pgs_cons (pg_name (i := 6) sc_L_ways_right.nd rfl (.inl rfl)) pgs_nil))) (pss_cons (ps_if (PW.pt (pw_or (pt_not (pt_val (pe_callB call_isi (by rfl) T.z_isinstance (by decide +kernel) (pa_cons (pv 5) (pa_cons (pe_bltn (v := .ty "tuple") (by rfl) T.z_tuple (by decide +kernel) rfl) pa_nil))))) (pw_or (pt_not (pt_val (pe_callB (cr_all rfl) (by rfl) T.z_all (by decide +kernel) (pa_cons (pe_lc (own := [("_law_x", 7)]) (g := (gName 7)) (tt := tYes) rfl sc_L_ways_right.nd (pi_sq (pv 5)) (blkOk_by (own := [("_law_x", 7)]) (N := N_L_ways_right) (sc := defScope s_L_ways_right) (by decide +kernel)) (fun _ _ _ _ _ => (pg_name (i := 7) sc_L_ways_right.nd rfl (.inl rfl))) (fun _ _ _ _ _ => pts_nil) (fun _ _ _ _ _ => (pe_call G_L_whole (hr.mono (by decide)) rfl T.g_L_whole T.f_L_whole.kp T.b_L_whole .nil pass0 (pa_cons (pv 7) (pa_cons pe_int (pa_cons (pe_op op_sub (pv 0) pe_int) pa_nil)))))) pa_nil)))) (pw_or1 (pt_cmpR op_eq (pe_callB call_len_seq (by rfl) T.z_len PySem.boot_len (pa_cons (pv 5) pa_nil)) pe_int (nomark _)))))) (pss_one (ps_ret pe_bl)) pss_nil) (pss_cons (ps_if (PW.pt (pw_or (pt_cmpR (op_neD hr.units) (pe_tup (pa_cons (pe_ix ix_tup (pv 5) pe_int (fun _ _ => rfl)) (pa_cons (pe_ix ix_tup (pv 5) (pe_un un_neg pe_int) (fun _ _ => rfl)) pa_nil))) (pe_callTy call_tuple_of (by rfl) T.z_tuple (by decide +kernel) (pa_cons (pv 6) pa_nil)) (nomark _)) (pw_or1 (pt_not (pt_val (pe_callB (cr_all rfl) (by rfl) T.z_all (by decide +kernel) (pa_cons (pe_lc (own := [("_law_step_here", 8)]) (g := (gName 8)) (tt := tYes) rfl sc_L_ways_right.nd (pi_ZN rfl T.z_zip (pa_cons (pv 5) (pa_cons (pe_slice sl_tupA (pv 5) (po_some pe_int) po_none) pa_nil))) (blkOk_by (own := [("_law_step_here", 8)]) (N := N_L_ways_right) (sc := defScope s_L_ways_right) (by decide +kernel)) (fun _ _ _ _ _ => (pg_name (i := 8) sc_L_ways_right.nd rfl (.inl rfl))) (fun _ _ _ _ _ => pts_nil) (fun _ _ _ _ _ => (pe_cmpR (inU_K (K := K) (units65 hr)) (pv 8) (pv 1) (by rfl)))) pa_nil))))))) (pss_one (ps_ret pe_bl)) pss_nil) (pss_one (ps_expr (pe_bm PySem.F.plainAttrs_list PySem.F.slot_list_extend PySem.F.type_list_extend mt_extendT (pv 4) (pa_cons (pv 5) pa_nil))))))) (
    pss_one (ps_ret (pe_cmpR op_eq (SQ.pe_lenSet (by rfl) T.z_len (by rfl) T.z_set (pv 4)) (pe_callB call_len_seq (by rfl) T.z_len PySem.boot_len (pa_cons (pv 4) pa_nil)) (nomark _))))))), ?_⟩
  obtain ⟨kp, pa, pxs, rfl, p1, p2, p3, pl⟩ := hP.sq (K := K)
  obtain ⟨wa, wxs, rfl, w1, w2, w3⟩ := hW
  refine q_when (b := !(isU t) || !decide ((items t).length = ps.length)) (EvT.mono hF (et_or (et_not (et_test (ev_isi (ev_var rfl) h (kit_u t)))) fun hu => et_is (et_test (ev_op (ev_lenT (ev_var rfl) h ?_) (ev_lenSq (ev_var rfl) p1) (rv_ne rfl))) ?_)) (fun hc H2 e2 => ?_) (fun hc H2 e2 => ?_)
  · exact isU_or (by simpa using hu)
  · rw [pl]
    exact congrArg _ (decide_eq_decide.mpr ⟨fun z => by have := V.int.inj z; omega, fun z => by rw [z]⟩)
  · have e3 : waysRight m ws ps t = false := by
      unfold waysRight
      rw [Bool.or_eq_true, Bool.not_eq_true', Bool.not_eq_true'] at hc
      rcases hc with z | z <;> rw [z] <;> simp
    have := q H2 e2
    rw [e3] at this
    exact this
  rw [Bool.or_eq_false_iff, Bool.not_eq_false', Bool.not_eq_false'] at hc
  obtain ⟨hu, hl⟩ := hc
  have hl' : (items t).length = ps.length := of_decide_eq_true hl
  have hF2 := hF.trans e2
  obtain ⟨a, xs, rfl, h1, h2, h3⟩ := sq_items (K := K) h (isU_or hu)
  rw [isU_notL hu] at h1
  have hxl : xs.length = ps.length := by rw [← h3.len, hl']
  refine q_asgL (el_lst ea_nil (by decide)) fun U H4 hU e4 hH4 => ?_
  have hF4 := hF2.trans e4
  have hU' : F U = none := fresh_back hF2 hU
  refine q_forW (Gd := fun H => Sq false K H a xs ∧ Sq kp K H pa pxs) (n := ps.length) (walk_Z (by rw [pl, hxl, Nat.min_self])) (evi_mono hF4 (evi_Z (ea_cons (ev_var rfl) (ea_cons (ev_var rfl) ea_nil)) h1 p1))
    (fun i σ' H' => (∃ o1 o2, σ' = [some (.int m), some (.ref wa), some (.ref pa), some (.ref a), some (.ref U), o1, o2, none, none]) ∧ Ex H2 H' ∧ H' U = some (.lst ((flatW ((items t).take i)).map V.int)) ∧ ∀ j, j < i → ∀ p tt, ps[j]? = some p → (items t)[j]? = some tt → lawWay m ws p tt = true)
    (fun H5 e5 => ⟨⟨_, _, rfl⟩, e4.trans e5, e5 _ _ hH4, fun j hj => absurd hj (Nat.not_lt_zero _)⟩) (fun i σ' H' _ ⟨_, e5, _⟩ => ⟨ex_sq (hF2.trans e5) h1, ex_sq (hF2.trans e5) p1⟩) (fun i x σ1 H5 H6 hi hp y => ?_) (fun σ' H' hp => ?_)
  · obtain ⟨⟨o1, o2, rfl⟩, e5, hHU, hall⟩ := hp
    have e6 := ypair_ex y
    obtain ⟨T0, x1, y1, rfl, y2, y3, y4, y5⟩ := y
    obtain ⟨tt, g3, g4⟩ := h3.at y4
    obtain ⟨p, b, g1, rfl, g2⟩ := rps_pT p3 y5
    have hF6 : Ex F H6 := (hF2.trans e5).trans e6
    refine ⟨T0, _, rfl, st_of (by rw [y3]; exact upd_same), rfl, x1, _, rfl, .ref b, _, rfl, rfl, ?_⟩
    show tSeq _ _ _ [some (.int m), some (.ref wa), some (.ref pa), some (.ref a), some (.ref U), some x1, some (.ref b), none, none] H6
    have hHU6 : H6 U = some (.lst ((flatW ((items t).take i)).map V.int)) := e6 _ _ hHU
    refine q_when (b := !(isU tt) || (!((items tt).all (within 0 (m - 1))) || decide ((items tt).length = 0))) (EvT.mono hF6 (et_or (et_not (et_test (ev_isi (ev_var rfl) g4 (kit_u tt)))) fun hut => et_or (et_not (et_test ?_)) fun _ => et_test (ev_is (ev_op (ev_lenT (ev_var rfl) g4 ?_) ev_c (rv_eq rfl)) ?_))) (fun hc H7 e7 => ?_) (fun hc H7 e7 => ?_)
    · have hut' : isU tt = true := by simpa using hut
      obtain ⟨c, ys, rfl, k1, k2, k3⟩ := sq_items (K := K) g4 (isU_or hut')
      refine ev_allSq (within 0 (m - 1)) (ev_var rfl) k1 k3 k2 (fun _ => rfl) fun t x H e _ hx => ?_
      exact ev_call (ea_cons (ev_var rfl) (ea_cons ev_c (ea_cons (ev_op (ev_var rfl) ev_c rv_I0) ea_nil))) (svWithin hx)
    · exact isU_or (by simpa using hut)
    · exact congrArg V.bl (decide_eq_decide.mpr ⟨fun z => by have := V.int.inj z; omega, fun z => by rw [z]; rfl⟩)
    · have e3 : waysRight m ws ps t = false := by
        refine fold_no g1 g3 ?_
        unfold lawWay
        rw [Bool.or_eq_true, Bool.or_eq_true, Bool.not_eq_true', Bool.not_eq_true'] at hc
        rcases hc with z | z | z <;> rw [z] <;> simp
      have := q H7 (((e2.trans e5).trans e6).trans e7)
      rw [e3] at this
      exact this
    rw [Bool.or_eq_false_iff, Bool.or_eq_false_iff, Bool.not_eq_false', Bool.not_eq_false'] at hc
    obtain ⟨hut, hat, hzt⟩ := hc
    obtain ⟨c, ys, rfl, k1, k2, k3⟩ := sq_items (K := K) g4 (isU_or hut)
    rw [isU_notL hut] at k1
    obtain ⟨k4, _⟩ := all_nums hat
    have hlen : (items tt).length = (nums (items tt)).length := by
      have := congrArg List.length k4
      rwa [List.length_map] at this
    have hne : nums (items tt) ≠ [] := fun z => by
      rw [hlen, z] at hzt
      exact absurd hzt (by decide)
    rw [k4, Rps.ints] at k3
    subst k3
    have hF7 : Ex F H7 := hF6.trans e7
    refine q_when (b := !endsAt p (nums (items tt)) || !chainIn ws (nums (items tt))) (EvT.mono hF7 (et_or (et_test (ev_ends rfl k1 hne rfl (st_of g2))) fun _ => et_not (et_test ?_))) (fun hc H8 e8 => ?_) (fun hc H8 e8 => ?_)
    · refine ev_is (ev_all (bs := (List.range (((nums (items tt)).zip ((nums (items tt)).drop 1)).length)).map fun i => match ((nums (items tt)).zip ((nums (items tt)).drop 1))[i]? with
          | some q => decide (q ∈ ws)
          | none => true) ?_) (congrArg V.bl ((all_range (fun q => decide (q ∈ ws)) _ _ fun i q hq => by rw [hq]).trans (zip_chain ws _)))
      rw [← fm_bools]
      have hzl : ((nums (items tt)).zip ((nums (items tt)).drop 1)).length = min (nums (items tt)).length ((nums (items tt)).drop 1).length := List.length_zip
      have hsl := List.length_drop (i := 1) (l := nums (items tt))
      rw [List.length_map] at k2
      refine el_lcX (fun i x H' => ∃ T0 x0 y0, x = .ref T0 ∧ SqT K H' T0 [.int x0, .int y0] ∧ ((nums (items tt)).zip ((nums (items tt)).drop 1))[i]? = some (x0, y0)) (fun H1 e1 R hR => ?_) (fun _ => rfl) (by omega) _ (fun i x H' hi e y => ?_)
      · refine ⟨_, rfl, ?_⟩
        show tSl (rSlA K) (tVar 5) (tPart (tC (.int 1))) tNoPart [some (.int m), some (.ref wa), some (.ref pa), some (.ref a), some (.ref U), some (.ref c), some (.ref b), none, none] H1 _
        refine (ev_slA (K := K) (ev_var (σ := [some (.int m), some (.ref wa), some (.ref pa), some (.ref a), some (.ref U), some (.ref c), some (.ref b), none, none]) (i := 5) rfl) (eo_some (i := 1) ev_c) eo_none k1) H1 e1 _ fun q0 H3 e3 hq0 => ?_
        rw [show cutV ((nums (items tt)).map V.int) (some 1) none = ((nums (items tt)).map V.int).drop 1 from cut_from _ 1] at hq0
        refine ⟨false, false, c, q0, _, _, rfl, ex_sq (k := false) (e1.trans e3) k1, hq0, hR _ H3 (fun H => Sq false K H c ((nums (items tt)).map V.int) ∧ Sq false K H q0 (((nums (items tt)).map V.int).drop 1)) _ e3 (walk_Z (by rw [hzl, List.length_map, List.length_drop, List.length_drop, List.length_map])) (fun H e4 => ⟨ex_sq (k := false) ((e1.trans e3).trans e4) k1, ex_sq (k := false) e4 hq0⟩) fun i H x H' hi e4 y => ⟨ypair_ex y, ?_⟩⟩
        obtain ⟨T0, x1, y1, rfl, z1, z2, z3, z4⟩ := y
        change ((nums (items tt)).map V.int)[i]? = some x1 at z3
        change (((nums (items tt)).map V.int).drop 1)[i]? = some y1 at z4
        rw [List.getElem?_map] at z3
        rw [← List.map_drop, List.getElem?_map] at z4
        cases hz3 : (nums (items tt))[i]? with
        | none => rw [hz3] at z3; cases z3
        | some u =>
          cases hz4 : ((nums (items tt)).drop 1)[i]? with
          | none => rw [hz4] at z4; cases z4
          | some u' =>
            rw [hz3] at z3
            rw [hz4] at z4
            cases z3
            cases z4
            exact ⟨T0, u, u', rfl, st_of (by rw [z2]; exact upd_same), List.getElem?_zip_eq_some.mpr ⟨hz3, hz4⟩⟩
      · obtain ⟨T0, x0, y0, rfl, z1, z2⟩ := y
        refine ⟨et_yes, fun v hv => ?_⟩
        rw [z2] at hv
        obtain rfl := Option.some.inj hv
        refine ev_is (ev_op (ev_var rfl) (ev_var rfl) (rv_inU (ns := [x0, y0]) z1 (ex_t e (st_of w1)) (rps_pairs (w3.mono e _ _)))) ?_
        rw [mem_pairs]
    · have e3 : waysRight m ws ps t = false := by
        refine fold_no g1 g3 ?_
        unfold lawWay
        rw [Bool.or_eq_true, Bool.not_eq_true', Bool.not_eq_true'] at hc
        rcases hc with z | z <;> rw [z] <;> simp
      have := q H8 ((((e2.trans e5).trans e6).trans e7).trans e8)
      rw [e3] at this
      exact this
    rw [Bool.or_eq_false_iff, Bool.not_eq_false', Bool.not_eq_false'] at hc
    have hw : lawWay m ws p tt = true := by
      unfold lawWay
      rw [hut, hat, hzt, hc.1, hc.2]
      rfl
    have hHU8 : H8 U = some (.lst ((flatW ((items t).take i)).map V.int)) := e8 _ _ (e7 _ _ hHU6)
    have hfl := flat_len (h3.take i)
    refine ⟨_, rfl, .inl ⟨rfl, _, sq_of hHU8⟩, _, rfl, U, c, _, _, rfl, rfl, hHU8, ex_t (hF7.trans e8) k1, ?_, ⟨_, _, rfl⟩, Ex.mut (((e5.trans e6).trans e7).trans e8) hU, ?_, fun j hj p' tt' z1 z2 => ?_⟩
    · refine sz_of ?_
      rw [List.length_map, List.length_map]
      rw [List.length_map] at k2
      rw [List.length_take] at hfl
      omega
    · rw [upd_same, flat_take g3, List.map_append]
    · by_cases hji : j < i
      · exact hall j hji p' tt' z1 z2
      · have : j = i := by omega
        subst this
        rw [g1] at z1
        rw [g3] at z2
        cases z1
        cases z2
        exact hw
  · obtain ⟨⟨o1, o2, rfl⟩, e5, hHU, hall⟩ := hp
    have hlt : (items t).take ps.length = items t := by rw [← hl', List.take_length]
    rw [hlt] at hHU
    have hfl := flat_len h3
    refine s_ret (ev_is (ev_lenSetEq (k1 := true) (k2 := true) (ev_var rfl) (sq_of hHU) (ev_var rfl) (sq_of hHU) (by simp) (by omega)) ?_) fun H6 e6 => q H6 (e2.trans (e5.trans e6))
    have hz : ((ps.zip (items t)).all fun q => lawWay m ws q.1 q.2) = true := by
      rw [List.all_eq_true]
      rintro ⟨p, tt⟩ hq
      obtain ⟨j, hj⟩ := List.mem_iff_getElem?.mp hq
      obtain ⟨z1, z2⟩ := List.getElem?_zip_eq_some.mp hj
      exact hall j (List.getElem?_eq_some_iff.mp z1).1 p tt z1 z2
    unfold waysRight
    rw [hu, hl, hz]
    simp
end
end GD

/-! ## The hand and its draws -/
namespace GD
open PySem L2 Evl G SQ
/-- the hand stands at h: its cells are not negative, nor its place, nor what is left -/
def HdAt (F H : Hp) (h : Addr) : Prop := F h = none ∧ ∃ (c : Addr) (cells : List Int) (i n r z : Int), H h = some (.lst [.ref c, .int i, .int n, .int r, .int z]) ∧ F c = some (.lst (cells.map V.int)) ∧ (∀ x ∈ cells, 0 ≤ x) ∧ 0 ≤ i ∧ 0 ≤ n
def At (h : Addr) : Addr → Prop := fun a => a = h
def spDraw : Sp := fun vs H Q _ => ∃ F h m, vs = [.ref h, .int m] ∧ Ex F H ∧ HdAt F H h ∧ 0 < m ∧ m < 1000 ∧ ∀ d H', 0 ≤ d → d < m → Gw (At h) F H F H' → HdAt F H' h → Q (.int d) H'
section
variable {K : PySem.W.Frag} {σ : L2.St} {F F' H H' : Hp} {ta tb tc te tl : TE} {v x y z : V}
theorem ev_int1 {i : Int} (h : Ev te σ F (.int i)) : Ev (tCB (fun xs H Q => (∃ i, xs = [.int i] ∧ Q (.int i) H) ∨ ∃ k, xs = [.bl k] ∧ Q (.int (if k then 1 else 0)) H) (tCons te tNil)) σ F (.int i) := fun H1 e _ q =>
  h H1 e _ fun H2 e2 => .inl ⟨i, rfl, q H2 e2⟩
theorem ev_ixLN {a : Addr} {xs : List V} {i : Int} (h : Ev ta σ F (.ref a)) (hx : F a = some (.lst xs)) (hi : atI xs i = some v) : Ev (tOp (rIxL K) ta (tC (.int i))) σ F v := ev_op h ev_c (rv_ixL (sq_of hx) hi)
theorem HdAt.ext (g : HdAt F H x1) (e : Ex H H') : HdAt F H' x1 := by
  obtain ⟨h0, c, cells, i, n, r, z, h1, h2⟩ := g
  exact ⟨h0, c, cells, i, n, r, z, e _ _ h1, h2⟩
end
section
variable {P : Program} {w : World} {K : PySem.W.Frag} {mg : Str → Option Value} {base : Heap}
theorem ok_L_draw (T : TX K mg) : FnOk P w K mg base CX0 1 (a_L_draw K) (fdOf K (a_L_draw K)) ["_law_hand_here", "_law_many"] spDraw := by
  refine T.f_L_draw.ok sc_L_draw (fun vs H Q E ⟨F, h, m, e, _⟩ => by rw [e]; rfl) (fun cdv A outer s H vs Q E hr ⟨F, h, m, e, hF, hh, m0, m1, q⟩ => ?_)
  subst e
  refine ⟨_, PSs.nox (pss_cut (ps_if (PW.pt (pw_and (pt_cmpR op_eq (pe_ix ix_list (pv 0) pe_int (fun _ _ => rfl)) pe_int (nomark _)) (pw_and1 (pt_cmpR op_lt (pe_ix ix_list (pv 0) pe_int (fun _ _ => rfl)) (pe_callB call_len_seq (by rfl) T.z_len PySem.boot_len (pa_cons (pe_ix ix_list (pv 0) pe_int (fun _ _ => rfl)) pa_nil)) (nomark _))))) (pss_cons (ps_asg (pe_ix ix_list (pe_ix ix_list (pv 0) pe_int (fun _ _ => rfl)) (pe_ix ix_list (pv 0) pe_int (fun _ _ => rfl)) (fun _ _ => rfl)) (pg_name (i := 2) sc_L_draw.nd rfl (.inl rfl))) (pss_cons (ps_asg (pe_op op_add (pe_ix ix_list (pv 0) pe_int (fun _ _ => rfl)) pe_int) (pg_sub (pv 0) pe_int set_list)) (pss_cons (ps_asg (pe_op op_mod (pe_callTy call_int1 (by rfl) T.z_int (by decide +kernel) (pa_cons (pe_op op_add (pe_op op_add (pe_op op_mul (pe_ix ix_list (pv 0) pe_int (fun _ _ => rfl)) pe_int) (pv 2)) pe_int) pa_nil)) pe_int) (pg_sub (pv 0) pe_int set_list)) (pss_one (ps_if (pt_cmpR op_ge (pv 2) (pe_op op_pow pe_int pe_int) (nomark _)) (pss_one (ps_asg (pv 2) (pg_sub (pv 0) pe_int set_list))) pss_nil))))) pss_nil) (
    pss_cons (ps_if (pt_cmpR op_gt (pe_ix ix_list (pv 0) pe_int (fun _ _ => rfl)) pe_int (nomark _)) (pss_cons (ps_asg (pe_op op_mod (pe_callTy call_int1 (by rfl) T.z_int (by decide +kernel) (pa_cons (pe_ix ix_list (pv 0) pe_int (fun _ _ => rfl)) pa_nil)) (pv 1)) (pg_name (i := 3) sc_L_draw.nd rfl (.inl rfl))) (pss_cons (ps_asg (pe_op op_fdiv (pe_ix ix_list (pv 0) pe_int (fun _ _ => rfl)) (pv 1)) (pg_sub (pv 0) pe_int set_list)) (pss_one (ps_ret (pv 3))))) pss_nil) (
    pss_cons (ps_asg (pe_op op_add (pe_ix ix_list (pv 0) pe_int (fun _ _ => rfl)) pe_int) (pg_sub (pv 0) pe_int set_list)) (
    pss_cons (ps_asg (pe_op op_mod (pe_callTy call_int1 (by rfl) T.z_int (by decide +kernel) (pa_cons (pe_op op_mul (pe_callTy call_int1 (by rfl) T.z_int (by decide +kernel) (pa_cons (pe_op op_add (pe_ix ix_list (pv 0) pe_int (fun _ _ => rfl)) (pe_op op_mul pe_int (pe_ix ix_list (pv 0) pe_int (fun _ _ => rfl)))) pa_nil)) pe_int) pa_nil)) pe_int) (pg_name (i := 4) sc_L_draw.nd rfl (.inl rfl))) (
    pss_cons (ps_asg (pe_op op_mod (pe_callTy call_int1 (by rfl) T.z_int (by decide +kernel) (pa_cons (pe_op op_mul (pv 4) (pe_op op_add (pe_op op_fdiv (pv 4) pe_int) pe_int)) pa_nil)) pe_int) (pg_name (i := 4) sc_L_draw.nd rfl (.inl rfl))) (
    pss_cons (ps_asg (pe_op op_mod (pe_callTy call_int1 (by rfl) T.z_int (by decide +kernel) (pa_cons (pe_op op_mul (pv 4) (pe_op op_add (pe_op op_fdiv (pv 4) pe_int) pe_int)) pa_nil)) pe_int) (pg_name (i := 4) sc_L_draw.nd rfl (.inl rfl))) (
    pss_one (ps_ret (pe_op op_mod (pe_callTy call_int1 (by rfl) T.z_int (by decide +kernel) (pa_cons (pe_op op_fdiv (pv 4) pe_int) pa_nil)) (pv 1)))))))))), ?_⟩
  refine q_cut (M := fun σ' H' => ∃ o, σ' = [some (.ref h), some (.int m), o, none, none] ∧ Gw (At h) F H F H' ∧ HdAt F H' h) ?_ ?_
  · obtain ⟨h0, c, cells, i, n, r, z, h1, h2, h3, h4, h5⟩ := id hh
    have hl : H c = some (.lst (cells.map V.int)) := hF _ _ h2
    refine s_when (b := decide (n = 0) && decide (i < ((cells.map V.int).length : Nat))) (et_and (et_test (ev_is (ev_op (ev_ixLN (ev_var rfl) h1 at2) ev_c (rv_eq rfl)) ?_)) fun _ => et_test (ev_op (ev_ixLN (ev_var rfl) h1 at1) (ev_lenSq (k := true) (ev_ixLN (ev_var rfl) h1 at0) (sq_of hl)) rv_I0)) (fun hb H1 e1 => ?_) (fun _ H1 e1 => ⟨none, rfl, (Gw.refl hF).ext e1, hh.ext e1⟩)
    · exact congrArg V.bl (decide_eq_decide.mpr ⟨fun z => V.int.inj z, fun z => by rw [z]⟩)
    rw [Bool.and_eq_true, decide_eq_true_eq, decide_eq_true_eq] at hb
    obtain ⟨_, hb⟩ := hb
    rw [List.length_map] at hb
    obtain ⟨k, rfl⟩ := Int.eq_ofNat_of_zero_le h4
    have hk : k < cells.length := by omega
    have hc : atI (cells.map V.int) ((k : Nat) : Int) = some (.int cells[k]) := atI_nat (by simp [hk])
    have c0 : 0 ≤ cells[k] := h3 _ (List.getElem_mem hk)
    have g1 : Gw (At h) F H F H1 := (Gw.refl hF).ext e1
    refine q_asg (v := .int cells[k]) (Ev.mono e1 (ev_op (ev_ixLN (ev_var rfl) h1 at0) (ev_ixLN (ev_var rfl) h1 at1) (rv_ixL (sq_of hl) hc))) fun H2 e2 => ?_
    have hh2 : H2 h = some (.lst [.ref c, .int k, .int n, .int r, .int z]) := e2 _ _ (e1 _ _ h1)
    refine q_setL (j := 1) hh2 (ev_op (ev_ixLN (ev_var rfl) hh2 at1) ev_c rv_I0) (ev_var rfl) ev_c (by show _ < 5; decide) fun H3 e3 => ?_
    have g3 := ((g1.ext e2).ext e3).mut (o := .lst [.ref c, .int (k + 1), .int n, .int r, .int z]) h0 (.inr rfl)
    refine q_setL (j := 3) upd_same (ev_op (ev_int1 (ev_op (ev_op (ev_op (ev_ixLN (ev_var rfl) upd_same at3) ev_c (rv_I (.inr ⟨by decide, by decide⟩))) (ev_var rfl) rv_I0) ev_c rv_I0)) ev_c (rv_I (by decide))) (ev_var rfl) ev_c (by show _ < 5; decide) fun H4 e4 => ?_
    have g4 := (g3.ext e4).mut (o := .lst [.ref c, .int (k + 1), .int n, .int ((r * 69621 + cells[k] + 11) % 2147483629), .int z]) h0 (.inr rfl)
    refine s_when (b := decide (cells[k] ≥ 10 ^ 18)) (et_test (ev_op (ev_var rfl) (ev_op ev_c ev_c (rv_I ⟨by decide, by decide, by decide⟩)) rv_I0)) (fun hb H5 e5 => ?_) (fun _ H5 e5 => ⟨_, rfl, g4.ext e5, ⟨h0, c, cells, _, _, _, _, e5 _ _ upd_same, h2, h3, by omega, h5⟩⟩)
    refine s_setL (j := 2) (e5 _ _ upd_same) (ev_var rfl) (ev_var rfl) ev_c (by show _ < 5; decide) fun H6 e6 => ?_
    exact ⟨_, rfl, ((g4.ext e5).ext e6).mut h0 (.inr rfl), ⟨h0, c, cells, _, _, _, _, upd_same, h2, h3, by omega, c0⟩⟩
  · rintro σ' H1 ⟨o, rfl, g1, hh1⟩
    obtain ⟨h0, c, cells, i, n, r, z, h1, h2, h3, h4, h5⟩ := id hh1
    refine q_when (b := decide (n > 0)) (et_test (ev_op (ev_ixLN (ev_var rfl) h1 at2) ev_c rv_I0)) (fun hb H2 e2 => ?_) (fun _ H2 e2 => ?_)
    · have hh2 := e2 _ _ h1
      refine q_asg (v := .int (n % m)) (ev_op (ev_int1 (ev_ixLN (ev_var rfl) hh2 at2)) (ev_var rfl) (rv_I m0)) fun H3 e3 => ?_
      have hh3 := e3 _ _ hh2
      refine q_setL (j := 2) hh3 (ev_op (ev_ixLN (ev_var rfl) hh3 at2) (ev_var rfl) (rv_I ⟨m0, by omega⟩)) (ev_var rfl) ev_c (by show _ < 5; decide) fun H4 e4 => ?_
      have g4 := (((g1.ext e2).ext e3).ext e4).mut (o := .lst [.ref c, .int i, .int (n / m), .int r, .int z]) h0 (.inr rfl)
      refine s_ret (ev_var rfl) fun H5 e5 => q _ _ (Int.emod_nonneg _ (by omega)) (Int.emod_lt_of_pos _ m0) (g4.ext e5) ⟨h0, c, cells, _, _, _, _, e5 _ _ upd_same, h2, h3, h4, Int.ediv_nonneg h5 (by omega)⟩
    · have hh2 := e2 _ _ h1
      refine q_setL (j := 4) hh2 (ev_op (ev_ixLN (ev_var rfl) hh2 at4) ev_c rv_I0) (ev_var rfl) ev_c (by show _ < 5; decide) fun H3 e3 => ?_
      have g3 := ((g1.ext e2).ext e3).mut (o := .lst [.ref c, .int i, .int n, .int r, .int (z + 1)]) h0 (.inr rfl)
      generalize hH3 : upd H3 h (.lst [.ref c, .int i, .int n, .int r, .int (z + 1)]) = H3' at g3
      have hh3 : H3' h = some (.lst [.ref c, .int i, .int n, .int r, .int (z + 1)]) := by rw [← hH3]; exact upd_same
      have hd3 : HdAt F H3' h := ⟨h0, c, cells, _, _, _, _, hh3, h2, h3, h4, h5⟩
      show tSeq _ _ _ _ (upd H3 h (.lst [.ref c, .int i, .int n, .int r, .int (z + 1)]))
      rw [hH3]
      refine q_asg (v := .int (((r + 7919 * (z + 1)) * 48271) % 2147483647)) (ev_op (ev_int1 (ev_op (ev_int1 (ev_op (ev_ixLN (ev_var rfl) hh3 at3) (ev_op ev_c (ev_ixLN (ev_var rfl) hh3 at4) (rv_I (.inl ⟨by decide, by decide⟩))) rv_I0)) ev_c (rv_I (.inr ⟨by decide, by decide⟩)))) ev_c (rv_I (by decide))) fun H4 e4 => ?_
      generalize hn1 : ((r + 7919 * (z + 1)) * 48271) % 2147483647 = n1
      have b1 : 0 ≤ n1 ∧ n1 < 2147483647 := by omega
      refine q_asg (v := .int ((n1 * (n1 / 1009 + 69621)) % 2147483647)) (ev_op (ev_int1 (ev_op (ev_var rfl) (ev_op (ev_op (ev_var rfl) ev_c (rv_I ⟨by decide, by decide⟩)) ev_c rv_I0) (rv_I (.inl ⟨by omega, by omega⟩)))) ev_c (rv_I (by decide))) fun H5 e5 => ?_
      generalize hn2 : (n1 * (n1 / 1009 + 69621)) % 2147483647 = n2
      have b2 : 0 ≤ n2 ∧ n2 < 2147483647 := by omega
      refine q_asg (v := .int ((n2 * (n2 / 2003 + 40692)) % 2147483399)) (ev_op (ev_int1 (ev_op (ev_var rfl) (ev_op (ev_op (ev_var rfl) ev_c (rv_I ⟨by decide, by decide⟩)) ev_c rv_I0) (rv_I (.inl ⟨by omega, by omega⟩)))) ev_c (rv_I (by decide))) fun H6 e6 => ?_
      refine s_ret (v := .int (((n2 * (n2 / 2003 + 40692)) % 2147483399) / 16 % m)) (ev_op (ev_int1 (ev_op (ev_var rfl) ev_c (rv_I ⟨by decide, by decide⟩))) (ev_var rfl) (rv_I m0)) fun H7 e7 => ?_
      have e37 := ((e4.trans e5).trans e6).trans e7
      exact q _ _ (Int.emod_nonneg _ (by omega)) (Int.emod_lt_of_pos _ m0) (g3.ext e37) (hd3.ext e37)
end
end GD

/-! ## The hand made; deep things -/
namespace GD
open PySem L2 Evl G SQ
inductive Deep : T → Prop where
  | non : Deep .non
  | str (s : Str) : Deep (.str s)
  | int (i : Int) : Deep (.int i)
  | dic : Deep .dic
  | tup {x : T} (h : Deep x) : Deep (.tup [x])
  | lst {x : T} (h : Deep x) : Deep (.lst [x])
section
variable {K : PySem.W.Frag} {σ : L2.St} {F F' H H' H1 : Hp} {ta tb tc te tl : TE} {v x y z : V} {M : Addr → Prop} {h p : Addr} {o : HO}
theorem HdAt.gw (g : HdAt F H h) (k : Gw Mn F H F' H') : HdAt F' H' h := by
  obtain ⟨h0, c, cells, i, n, r, z, h1, h2, h3⟩ := g
  exact ⟨k.new h (some_ne h1) h0, c, cells, i, n, r, z, k.ex _ _ h1, k.fle _ _ h2, h3⟩
theorem HdAt.some (g : HdAt F H h) : H h ≠ none := by
  obtain ⟨h0, c, cells, i, n, r, z, h1, h2, h3⟩ := g
  exact some_ne h1
theorem HdAt.ne (g : HdAt F H h) (hp : H p = none) : ¬ At h p := fun e => g.some (by rw [← (show p = h from e)]; exact hp)
theorem HdAt.new (g : HdAt F H h) (hp : H p = none) : HdAt F (upd H p o) h := g.ext (Ex.new hp)
/-- more than what is known: all that stands for good and one thing more -/
theorem HdAt.frz (g : HdAt F H h) (hn : h ≠ p) (f : F p = none) : HdAt (upd F p o) H h := by
  obtain ⟨h0, c, cells, i, n, r, z, h1, h2, h3⟩ := g
  exact ⟨by rw [upd_ne hn]; exact h0, c, cells, i, n, r, z, h1, by rw [upd_ne (ne_of_none h2 f)]; exact h2, h3⟩
end
def spHand (K : PySem.W.Frag) : Sp := fun vs H Q _ => ∃ F a ns, vs = [.ref a] ∧ Ex F H ∧ SqL K F a (List.map V.int ns) ∧ ∀ F' H' h, Gw Mn F H F' H' → HdAt F' H' h → Q (.ref h) H'
def spDeep : Sp := fun vs H Q _ => ∃ F h, vs = [.ref h] ∧ Ex F H ∧ HdAt F H h ∧ ∀ F' H' v t, Gw (At h) F H F' H' → HdAt F' H' h → Rp F' t v → Deep t → Q v H'
section
variable {K : PySem.W.Frag} {σ : L2.St} {F : Hp} {tl te : TE} {tt : TT} {n : Nat} {vs : List Nat} {wi : TI}
/-- a comprehension over a new list -/
theorem el_lcO {j : Nat} {xs : List V} (h : EvL tl σ F xs) (hwp : ∀ x, wipe ((wipe σ vs).set j (some x)) vs = wipe σ vs) (hn : xs.length ≤ 100000) (f : Nat → Option V)
    (hs : ∀ (i : Nat) (x : V) (H' : Hp), Ex F H' → xs[i]? = some x → EvT tt ((wipe σ vs).set j (some x)) H' (f i).isSome ∧ ∀ v, f i = some v → Ev te ((wipe σ vs).set j (some x)) H' v) : EvL (tLc (iSq K tl) (gName j) tt te vs) σ F (fm xs.length f) :=
  el_lcX (fun i x _ => xs[i]? = some x) (fun H1 e1 R hR => h H1 e1 _ fun p H2 _ e2 hp => ⟨true, p, xs, rfl, sq_of hp, hR _ H2 (fun H => Sq true K H p xs) (YAt xs) e2 walk_sq (fun H e => ex_sq (k := true) e (sq_of hp)) fun i H x H' _ _ y => ⟨by rw [y.1]; exact Ex.refl H, y.2⟩⟩) hwp hn f
    fun i x H' _ e y => hs i x H' e y
end
section
variable {P : Program} {w : World} {K : PySem.W.Frag} {mg : Str → Option Value} {base : Heap}
theorem ok_L_hand (T : TX K mg) : FnOk P w K mg base CX0 1 (a_L_hand K) (fdOf K (a_L_hand K)) ["_law_script"] (spHand K) := by
  refine T.f_L_hand.ok sc_L_hand (fun vs H Q E ⟨F, a, ns, e, _⟩ => by rw [e]; rfl) (fun cdv A outer s H vs Q E hr ⟨F, a, ns, e, hF, hs, q⟩ => ?_)
  subst e
  refine ⟨_, PSs.nox (pss_cons (ps_setLc (i := 1) (own := [("_law_cell", 2)]) (g := (gName 2)) (tt := tYes) rfl sc_L_hand.nd rfl rfl (sw_true rfl rfl rfl (by decide +kernel)) (pi_sq (pe_slice sl_list (pv 0) po_none (po_some pe_int))) (blkOk_by (own := [("_law_cell", 2)]) (N := N_L_hand) (sc := defScope s_L_hand) (by decide +kernel)) (fun _ _ _ _ _ => (pg_name (i := 2) sc_L_hand.nd rfl (.inl rfl))) (fun _ _ _ _ _ => pts_nil) (fun _ _ _ _ _ => (pe_callB call_abs (by rfl) T.z_abs (by decide +kernel) (pa_cons (pe_callTy call_int1 (by rfl) T.z_int (by decide +kernel) (pa_cons (pv 2) pa_nil)) pa_nil)))) (
    pss_one (ps_ret (pe_lst (pa_cons (pv 1) (pa_cons pe_int (pa_cons pe_int (pa_cons (pe_op op_add pe_int (pe_callB call_len_seq (by rfl) T.z_len PySem.boot_len (pa_cons (pv 1) pa_nil))) (pa_cons pe_int pa_nil))))))))), ?_⟩
  have hcut : cutV (ns.map V.int) none (some 63) = (ns.take 63).map V.int := by
    rw [List.map_take]
    exact cut_to _ 63
  have hl := el_sl (K := K) (ev_var (σ := start N_L_hand [.ref a]) (i := 0) (H := F) rfl) eo_none (eo_some (i := 63) ev_c) hs
  rw [hcut] at hl
  have hlen : (ns.take 63).length ≤ 63 := by rw [List.length_take]; omega
  have hxs : fm ((ns.take 63).map V.int).length (fun i => ((ns.take 63)[i]?).bind fun k => some (V.int (if k < 0 then -k else k))) = ((ns.take 63).map fun k => if k < 0 then -k else k).map V.int := by
    rw [List.length_map, fm_list, List.map_map, List.filterMap_eq_map']
    rfl
  have hc := el_lcO (K := K) (j := 2) (vs := [2]) (tt := tYes) (te := tCB (fun xs H Q => ∃ i, xs = [.int i] ∧ Q (.int (if i < 0 then -i else i)) H) (tCons (tCB (fun xs H Q => (∃ i, xs = [.int i] ∧ Q (.int i) H) ∨ ∃ k, xs = [.bl k] ∧ Q (.int (if k then 1 else 0)) H) (tCons (tVar 2) tNil)) tNil)) hl (fun _ => rfl) (by rw [List.length_map]; omega)
    (fun i => ((ns.take 63)[i]?).bind fun k => some (V.int (if k < 0 then -k else k))) (fun i x H' e hx => by
      rw [List.getElem?_map] at hx
      cases hk : (ns.take 63)[i]? with
      | none => rw [hk] at hx; cases hx
      | some k =>
        rw [hk] at hx
        cases hx
        refine ⟨et_yes, fun v hv => ?_⟩
        cases hv
        exact ev_cb (ea_cons (ev_int1 (ev_var rfl)) ea_nil) fun H1 _ Q q => ⟨k, rfl, q H1 (Ex.refl H1)⟩)
  rw [hxs] at hc
  refine q_asgL (hc.mono hF) fun C H1 hC e1 hH1 => ?_
  refine s_retL (el_lst (vs := [.ref C, .int 0, .int 0, .int (1 + ((((ns.take 63).map fun k => if k < 0 then -k else k).map V.int).length : Nat)), .int 0]) (ea_cons (ev_var rfl) (ea_cons ev_c (ea_cons ev_c (ea_cons (ev_op ev_c (ev_lenSq (k := true) (ev_var rfl) (sq_of hH1)) rv_I0) (ea_cons ev_c ea_nil))))) (by show 5 ≤ 100000; decide)) fun p H2 hp e2 hH2 => ?_
  have f0 : F C = none := fresh_back hF hC
  have g := (((Gw.refl (M := Mn) hF).ext e1).freeze hC hH1 f0).ext e2
  have np : p ≠ C := fun z => by rw [z, hH1] at hp; cases hp
  refine q _ _ p g ⟨?_, C, _, 0, 0, _, 0, hH2, upd_same, fun x hx => ?_, Int.le_refl _, Int.le_refl _⟩
  · rw [upd_ne np]
    exact fresh_back (hF.trans e1) hp
  · obtain ⟨k, _, rfl⟩ := List.mem_map.mp hx
    split <;> omega
theorem ok_L_deep (T : TX K mg) : FnOk P w K mg base CX0 2 (a_L_deep K) (fdOf K (a_L_deep K)) ["_law_hand_here"] spDeep := by
  have G_L_draw := ok_L_draw (P := P) (w := w) (base := base) T
  refine T.f_L_deep.ok sc_L_deep (fun vs H Q E ⟨F, h, e, _⟩ => by rw [e]; rfl) (fun cdv A outer s H vs Q E hr ⟨F, h, e, hF, hh, q⟩ => ?_)
  subst e
  refine ⟨_, PSs.nox (pss_cons (ps_asg (pe_ix ix_list (pe_lst (pa_cons pe_non (pa_cons pe_str (pa_cons (pe_un un_neg pe_int) (pa_cons pe_dnewK pa_nil))))) (pe_call G_L_draw (hr.mono (by decide)) rfl T.g_L_draw T.f_L_draw.kp T.b_L_draw .nil pass0 (pa_cons (pv 0) (pa_cons pe_int pa_nil))) (fun _ _ => rfl)) (pg_name (i := 1) sc_L_deep.nd rfl (.inl rfl))) (
    pss_cons (ps_for PassesOwn.never rfl (pi_range1 rfl T.z_range (pa_cons (pe_op op_add pe_int (pe_call G_L_draw (hr.mono (by decide)) rfl T.g_L_draw T.f_L_draw.kp T.b_L_draw .nil pass0 (pa_cons (pv 0) (pa_cons pe_int pa_nil)))) pa_nil)) (pg_name (i := 2) sc_L_deep.nd rfl (.inl rfl)) (pss_one (ps_asg (pe_ix ix_list (pe_lst (pa_cons (pe_tup (pa_cons (pv 1) pa_nil)) (pa_cons (pe_lst (pa_cons (pv 1) pa_nil)) (pa_cons (pe_slice sl_tupA (pe_tup (pa_cons (pv 1) (pa_cons (pv 1) pa_nil))) po_none (po_some pe_int)) (pa_cons (pe_disp (pps_cons pe_int (pv 1) pps_nil) (by rfl) (by rfl) (fun z => by cases z) (by decide)) pa_nil))))) (pe_call G_L_draw (hr.mono (by decide)) rfl T.g_L_draw T.f_L_draw.kp T.b_L_draw .nil pass0 (pa_cons (pv 0) (pa_cons pe_int pa_nil))) (fun _ _ => rfl)) (pg_name (i := 1) sc_L_deep.nd rfl (.inl rfl))))) (
    pss_one (ps_ret (pv 1))))), ?_⟩
  refine ⟨1, rfl, fun d hd => ⟨by show 4 ≤ sizeLine; decide, fun l hl => ⟨_, rfl, F, h, 4, rfl, (hF.trans (Ex.new hd)).trans (Ex.new hl), (hh.new hd).new hl, by decide, by decide, fun k H1 k0 k1 g1 hh1 => ?_⟩⟩⟩
  have nd : h ≠ d := fun e => hh.some (by rw [e]; exact hd)
  have hl0 : H l = none := fresh_back (Ex.new hd) hl
  have nl : ¬ At h l := hh.ne hl0
  have gA : Gw (At h) F H F H1 := (((Gw.refl hF).put hd).put hl).trans g1
  have hl1 : H1 l = some (.lst [.non, .str "a", .int (-1), .ref d]) := g1.up l _ nl upd_same
  have hd1 : H1 d = some (.dK []) := g1.up d _ (fun z => nd z.symm) (by rw [upd_ne (fun z => by rw [z, upd_same] at hl; cases hl), upd_same])
  have key : ∃ v t F1, atI [V.non, V.str "a", V.int (-1), V.ref d] k = some v ∧ Gw (At h) F H F1 H1 ∧ HdAt F1 H1 h ∧ Rp F1 t v ∧ Deep t := by
    have hk : k = 0 ∨ k = 1 ∨ k = 2 ∨ k = 3 := by omega
    rcases hk with rfl | rfl | rfl | rfl
    · exact ⟨_, .non, F, at0, gA, hh1, rfl, .non⟩
    · exact ⟨_, .str "a", F, at1, gA, hh1, rfl, .str _⟩
    · exact ⟨_, .int (-1), F, at2, gA, hh1, rfl, .int _⟩
    · exact ⟨_, .dic, upd F d (.dK []), at3, gA.freeze hd hd1 (fresh_back hF hd), hh1.frz nd (fresh_back hF hd), ⟨d, [], rfl, upd_same⟩, .dic⟩
  obtain ⟨v, t, F1, hv, gB, hh2, ht, hdt⟩ := key
  refine ⟨l, _, k, v, rfl, rfl, sq_of hl1, hv, ?_⟩
  refine ⟨_, rfl, F1, h, 30, rfl, gB.le, hh2, by decide, by decide, fun k2 H2 k20 k21 g2 hh3 => ⟨1, k2, rfl, rfl, 1 + k2, rfl, by omega, by omega, ?_⟩⟩
  refine for_it walk_range (fun i σ' H' => ∃ F' v t o, σ' = [some (.ref h), some v, o] ∧ Gw (At h) F H F' H' ∧ HdAt F' H' h ∧ Rp F' t v ∧ Deep t) ⟨F1, v, t, _, rfl, gB.trans g2, hh3, ht, hdt⟩ (fun _ _ _ _ _ => trivial) (fun i x σ1 H3 H4 _ hp y => ?_) fun σ' H' ⟨F', v, t, o, e, g, hh', ht', hdt'⟩ => ?_
  · obtain ⟨rfl, rfl⟩ := y
    obtain ⟨F', v, t, o, rfl, g, hh', ht', hdt'⟩ := hp
    clear hl1 hd1 hv
    refine ⟨_, rfl, by show 1 ≤ sizeLine; decide, fun p1 hp1 => ⟨_, rfl, by show 1 ≤ sizeLine; decide, fun p2 hp2 => ⟨_, rfl, _, rfl, by show 2 ≤ sizeLine; decide, fun p3 hp3 => ⟨1, rfl, p3, _, rfl, st_of upd_same, fun hw => ?_, fun _ p4 hp4 p5 hp5 => ⟨_, rfl, upd_same, [(Sum.inl 0, v)], rfl, by show 1 ≤ 15; decide, by show 4 ≤ sizeLine; decide, fun p6 hp6 => ?_⟩⟩⟩⟩⟩
    · exact absurd hw.2 (by show ¬ HT.sIx 2 2 (some ((1 : Nat) : Int)) = 2; rw [HT.sIx_nat]; decide)
    have e1 : Ex H4 (upd H4 p1 (.tup [v])) := Ex.new hp1
    have e2 := e1.trans (Ex.new (o := .lst [v]) hp2)
    have e3 := e2.trans (Ex.new (o := .tup [v, v]) hp3)
    have e4 := e3.trans (Ex.new (o := .tup (cutV [v, v] none (some 1))) hp4)
    have f2 := fresh_back e1 hp2
    have f4 := fresh_back e3 hp4
    have f5 := fresh_back e4 hp5
    have g5 := (((((((Gw.refl (M := Mn) g.le).put (o := .tup [v]) hp1).put (o := .lst [v]) hp2).put (o := .tup [v, v]) hp3).put (o := .tup (cutV [v, v] none (some 1))) hp4).put (o := .dK []) hp5).mut (o := .dK (mergeK [] [(Sum.inl 0, v)])) (fresh_back g.le f5) (.inl f5))
    have f6 := g5.fresh hp6
    have gg := g5.put (o := .lst [.ref p1, .ref p2, .ref p4, .ref p5]) hp6
    generalize hH5 : upd (upd (upd (upd (upd (upd (upd H4 p1 (.tup [v])) p2 (.lst [v])) p3 (.tup [v, v])) p4 (.tup (cutV [v, v] none (some 1)))) p5 (.dK [])) p5 (.dK (mergeK [] [(Sum.inl 0, v)]))) p6 (.lst [.ref p1, .ref p2, .ref p4, .ref p5]) = H5 at gg
    have a6 : H5 p6 = some (.lst [.ref p1, .ref p2, .ref p4, .ref p5]) := by rw [← hH5]; exact upd_same
    have m5 : ∀ a o, H4 a = none → upd (upd (upd (upd H4 p1 (.tup [v])) p2 (.lst [v])) p3 (.tup [v, v])) p4 (.tup (cutV [v, v] none (some 1))) a = some o → H5 a = some o := fun a o ha hao => by
      have n5 : a ≠ p5 := ne_of_none hao hp5
      have n6 : a ≠ p6 := by
        rintro rfl
        rw [upd_ne n5, upd_ne n5, hao] at hp6
        cases hp6
      rw [← hH5, upd_ne n6, upd_ne n5, upd_ne n5]
      exact hao
    have a1 : H5 p1 = some (.tup [v]) := m5 _ _ hp1 ((Ex.new hp4) _ _ ((Ex.new hp3) _ _ ((Ex.new hp2) _ _ upd_same)))
    have a2 : H5 p2 = some (.lst [v]) := m5 _ _ f2 ((Ex.new hp4) _ _ ((Ex.new hp3) _ _ upd_same))
    have a4 : H5 p4 = some (.tup [v]) := m5 _ _ f4 upd_same
    have a5 : H5 p5 = some (.dK (mergeK [] [(Sum.inl 0, v)])) := by
      have n6 : p5 ≠ p6 := by
        rintro rfl
        rw [upd_same] at hp6
        cases hp6
      rw [← hH5, upd_ne n6, upd_same]
    refine ⟨_, rfl, F', h, 4, rfl, gg.le, hh'.gw gg, by decide, by decide, fun k H6 k0 k1 g6 hh6 => ?_⟩
    have b6 := g6.up p6 _ (hh'.ne f6) a6
    have b1 := g6.up p1 _ (hh'.ne hp1) a1
    have b2 := g6.up p2 _ (hh'.ne f2) a2
    have b4 := g6.up p4 _ (hh'.ne f4) a4
    have b5 := g6.up p5 _ (hh'.ne f5) a5
    have gC := gg.widen.trans g6
    have fin : ∀ p o, H4 p = none → H6 p = some o → Gw (At h) F H (upd F' p o) H6 ∧ HdAt (upd F' p o) H6 h := fun p o z1 z2 =>
      ⟨g.trans (gC.freeze z1 z2 (fresh_back g.le z1)), hh6.frz (fun z => hh'.ne z1 z.symm) (fresh_back g.le z1)⟩
    have key : ∃ v' t' F'', atI [V.ref p1, V.ref p2, V.ref p4, V.ref p5] k = some v' ∧ Gw (At h) F H F'' H6 ∧ HdAt F'' H6 h ∧ Rp F'' t' v' ∧ Deep t' := by
      have hk : k = 0 ∨ k = 1 ∨ k = 2 ∨ k = 3 := by omega
      have mo : ∀ p o, H4 p = none → Rps (upd F' p o) [t] [v] := fun p o z1 => .one (ht'.mono (Ex.new (fresh_back g.le z1)) _ _)
      rcases hk with rfl | rfl | rfl | rfl
      · exact ⟨_, .tup [t], _, at0, (fin p1 _ hp1 b1).1, (fin p1 _ hp1 b1).2, .tup_i upd_same (by show 1 ≤ 60; decide) (mo _ _ hp1), .tup hdt'⟩
      · exact ⟨_, .lst [t], _, at1, (fin p2 _ f2 b2).1, (fin p2 _ f2 b2).2, .lst_i upd_same (by show 1 ≤ 60; decide) (mo _ _ f2), .lst hdt'⟩
      · exact ⟨_, .tup [t], _, at2, (fin p4 _ f4 b4).1, (fin p4 _ f4 b4).2, .tup_i upd_same (by show 1 ≤ 60; decide) (mo _ _ f4), .tup hdt'⟩
      · exact ⟨_, .dic, _, at3, (fin p5 _ f5 b5).1, (fin p5 _ f5 b5).2, ⟨p5, _, rfl, upd_same⟩, .dic⟩
    obtain ⟨v', t', F'', hv, gD, hh7, ht7, hd7⟩ := key
    exact ⟨p6, _, k, v', rfl, rfl, sq_of b6, hv, F'', v', t', _, rfl, gD, hh7, ht7, hd7⟩
  · subst e
    exact ⟨_, rfl, q F' H' v t g hh' ht' hdt'⟩
end
end GD

/-! ## Readings that make new data -/
namespace GD
open PySem L2 Evl G SQ
/-- a value, behind it a heap that has grown -/
def EvG (te : TE) (σ : L2.St) (F : Hp) (P : Hp → V → Prop) : Prop := ∀ F1 H1, Ex F F1 → Ex F1 H1 → ∀ Q : VK, (∀ v F2 H2, Gw Mn F1 H1 F2 H2 → P F2 v → Q v H2) → te σ H1 Q
/-- a new list that may still change, its items trees -/
def EvN (te : TE) (σ : L2.St) (F : Hp) (ts : List T) : Prop := ∀ F1 H1, Ex F F1 → Ex F1 H1 → ∀ Q : VK, (∀ D vs F2 H2, Gw Mn F1 H1 F2 H2 → F2 D = none → H1 D = none → H2 D = some (.lst vs) → Rps F2 ts vs → Q (.ref D) H2) → te σ H1 Q
section
variable {K : PySem.W.Frag} {σ : L2.St} {F F' H : Hp} {ta : TA} {te : TE} {v : V} {J : It} {n : Nat} {G : Hp → Prop} {Y : Nat → Hp → V → Hp → Prop} {vs : List Nat} {wi : TI}
theorem EvG.mono {P : Hp → V → Prop} (e : Ex F F') (h : EvG te σ F P) : EvG te σ F' P := fun F1 H1 e1 e2 Q q => h F1 H1 (e.trans e1) e2 Q q
theorem EvN.mono {ts : List T} (e : Ex F F') (h : EvN te σ F ts) : EvN te σ F' ts := fun F1 H1 e1 e2 Q q => h F1 H1 (e.trans e1) e2 Q q
theorem eg_val {t : T} (h : Ev te σ F v) (ht : Rp F t v) : EvG te σ F fun F2 v => Rp F2 t v := fun F1 H1 e1 e2 Q q => h H1 (e1.trans e2) Q fun H2 e3 => q v F1 H2 ((Gw.refl e2).ext e3) (ht.mono e1 _ _)
theorem eg_tup {ts : List T} {us : List V} (h : EvA ta σ F us) (ht : Rps F ts us) (hz : us.length ≤ 60) : EvG (tTup ta) σ F fun F2 v => Rp F2 (.tup ts) v := fun F1 H1 e1 e2 Q q =>
  h H1 (e1.trans e2) _ fun H2 e3 => ⟨sz_of (by omega), fun p hp => q _ _ _ (((Gw.refl e2).ext e3).alloc hp) (.tup_i upd_same hz ((ht.mono e1 _ _).mono (Ex.new (fresh_back (e2.trans e3) hp)) _ _))⟩
theorem en_lst {ts : List T} {us : List V} (h : EvA ta σ F us) (ht : Rps F ts us) (hz : us.length ≤ 60) : EvN (tLst ta) σ F ts := fun F1 H1 e1 e2 Q q =>
  h H1 (e1.trans e2) _ fun H2 e3 => ⟨sz_of (by omega), fun p hp => q p us F1 _ (((Gw.refl e2).ext e3).put hp) (fresh_back (e2.trans e3) hp) (fresh_back e3 hp) upd_same (ht.mono e1 _ _)⟩
theorem en_el {ts : List T} {us : List V} (h : EvL te σ F us) (ht : Rps F ts us) : EvN te σ F ts := fun F1 H1 e1 e2 Q q =>
  h H1 (e1.trans e2) Q fun p H2 hp e3 h2 => q p us F1 H2 ((Gw.refl e2).ext e3) (fresh_back e2 hp) hp h2 (ht.mono e1 _ _)
def Cg (F1 H1 : Hp) (t : Nat → T) (D : Addr) (i : Nat) (H' : Hp) : Prop := H1 D = none ∧ ∃ F' us, Gw Mn F1 H1 F' H' ∧ F' D = none ∧ H' D = some (.lst us) ∧ Rps F' ((List.range i).map t) us
theorem cg_turn {F1 H1 Ha Hb : Hp} {t : Nat → T} {D : Addr} {i : Nat} {σ2 : L2.St} (p : Cg F1 H1 t D i Ha) (eF : Ex F F1) (e2 : Ex Ha Hb) (hi : i < 100000) (he : EvG te σ2 F fun F2 v => Rp F2 (t i) v) :
    tYes σ2 Hb fun b H3 => if b = true then te σ2 H3 fun y H4 => ∃ acc, H4 D = some (.lst acc) ∧ acc.length < sizeLine ∧ Cg F1 H1 t D (i + 1) (upd H4 D (.lst (acc ++ [y]))) else Cg F1 H1 t D (i + 1) H3 := by
  obtain ⟨p1, F', us, g, f, hD, hr⟩ := p
  show te σ2 Hb fun y H4 => ∃ acc, H4 D = some (.lst acc) ∧ acc.length < sizeLine ∧ Cg F1 H1 t D (i + 1) (upd H4 D (.lst (acc ++ [y])))
  refine he F' Hb (eF.trans g.fle) (g.le.trans e2) _ fun v F2 H2 g2 hv => ?_
  have hb : Hb D = some (.lst us) := e2 _ _ hD
  have hl := hr.len
  rw [List.length_map, List.length_range] at hl
  refine ⟨us, g2.ex _ _ hb, sz_lt (by omega), p1, F2, us ++ [v], (((g.ext e2).trans g2).mut (g2.new D (some_ne hb) f) (.inl p1)), g2.new D (some_ne hb) f, upd_same, ?_⟩
  rw [List.range_succ, List.map_append]
  exact (hr.mono g2.fle _ _).app (.one hv)
theorem en_lcN {j : Nat} (W : Walk J n G Y) (hw : EvI wi σ F J) (hG : ∀ H, Ex F H → G H) (hY : ∀ i H x H', i < n → Y i H x H' → Ex H H') (hwp : ∀ x, wipe ((wipe σ vs).set j (some x)) vs = wipe σ vs) (hn : n ≤ 100000) (t : Nat → T)
    (hs : ∀ i x H H', i < n → Ex F H → Y i H x H' → EvG te ((wipe σ vs).set j (some x)) F fun F2 v => Rp F2 (t i) v) : EvN (tLc wi (gName j) tYes te vs) σ F ((List.range n).map t) := fun F1 H0 e1 e2 Q q =>
  hw H0 (e1.trans e2) _ fun H1 e3 D hD => lc_it W (Cg F1 H1 t D) ⟨hD, F1, [], (Gw.refl (e2.trans e3)).put hD, fresh_back (e2.trans e3) hD, upd_same, rfl⟩ (fun i H' _ ⟨_, F', us, g, _⟩ => hG H' (e1.trans (e2.trans (e3.trans g.ex))))
    (fun i x Ha Hb hi p y => ⟨hwp x, cg_turn p e1 (hY i Ha x Hb hi y) (by omega) (hs i x Ha Hb hi (by obtain ⟨_, F', us, g, _⟩ := p; exact e1.trans (e2.trans (e3.trans g.ex))) y)⟩)
    (fun H' ⟨p1, F', us, g, f, hd, hr⟩ => q D us F' H' (((Gw.refl e2).ext e3).trans (g)) f (fresh_back e3 p1) hd hr)
theorem en_lcP {j1 j2 : Nat} (W : Walk J n G Y) (hw : EvI wi σ F J) (hG : ∀ H, Ex F H → G H) (hY : ∀ i H x H', i < n → Y i H x H' → Ex H H') (hwp : ∀ x y, wipe (((wipe σ vs).set j1 (some x)).set j2 (some y)) vs = wipe σ vs) (hn : n ≤ 100000) (t : Nat → T)
    (hs : ∀ i x H H', i < n → Ex F H → Y i H x H' → ∃ a u v, x = .ref a ∧ SqT K H' a [u, v] ∧ EvG te (((wipe σ vs).set j1 (some u)).set j2 (some v)) F fun F2 v => Rp F2 (t i) v) : EvN (tLc wi (gTup K 2 (gCons (gName j1) (gCons (gName j2) gNil))) tYes te vs) σ F ((List.range n).map t) := fun F1 H0 e1 e2 Q q =>
  hw H0 (e1.trans e2) _ fun H1 e3 D hD => lc_it W (Cg F1 H1 t D) ⟨hD, F1, [], (Gw.refl (e2.trans e3)).put hD, fresh_back (e2.trans e3) hD, upd_same, rfl⟩ (fun i H' _ ⟨_, F', us, g, _⟩ => hG H' (e1.trans (e2.trans (e3.trans g.ex))))
    (fun i x Ha Hb hi p y => by
      obtain ⟨a, u, v, rfl, ht, he⟩ := hs i x Ha Hb hi (by obtain ⟨_, F', us, g, _⟩ := p; exact e1.trans (e2.trans (e3.trans g.ex))) y
      exact ⟨a, [u, v], rfl, ht, rfl, u, [v], rfl, v, [], rfl, rfl, hwp u v, cg_turn p e1 (hY i Ha _ Hb hi y) (by omega) he⟩)
    (fun H' ⟨p1, F', us, g, f, hd, hr⟩ => q D us F' H' (((Gw.refl e2).ext e3).trans g) f (fresh_back e3 p1) hd hr)
theorem evi_r2 {ta : TA} {m n : Int} (h : EvA ta σ F [.int m, .int n]) (h0 : -1000 ≤ m) (h1 : m < 1000) (h2 : -1000 ≤ n) (h3 : n < 1000) : EvI (iRng2 ta) σ F (Itr m (n - m).toNat) := fun H1 e _ q => h H1 e _ fun H2 e2 => ⟨m, n, rfl, ⟨by omega, by omega, by omega, by omega⟩, q H2 e2⟩
/-- tuple(l), l a new list whose items are trees -/
theorem eg_tupOf {ts : List T} (h : EvN te σ F ts) (hz : ts.length ≤ 60) : EvG (tCB (fun xs H Q => ∃ p ys, xs = [.ref p] ∧ ((SqL K H p ys ∧ ∀ l, H l = none → Q (.ref l) (upd H l (.tup ys))) ∨ (SqT K H p ys ∧ Q (.ref p) H))) (tCons te tNil)) σ F fun F2 v => Rp F2 (.tup ts) v := fun F1 H1 e1 e2 Q q =>
  h F1 H1 e1 e2 _ fun D us F2 H2 g f d hD hr => ⟨D, us, rfl, .inl ⟨sq_of hD, fun p hp => q _ _ _ (g.alloc hp) (.tup_i upd_same (by rw [← hr.len]; exact hz) (hr.mono (Ex.new (g.ffree hp)) _ _))⟩⟩
end
end GD

/-! ## Wires both ways, sorted -/
namespace GD
open PySem L2 Evl G SQ
def plt (p q : Int × Int) : Prop := p.1 < q.1 ∨ (p.1 = q.1 ∧ p.2 < q.2)
def spBoth : Sp := fun vs H Q _ => ∃ F v ps, vs = [v] ∧ Ex F H ∧ Rp F (.lst (List.map pT ps)) v ∧ ps.length ≤ 20 ∧ (∀ p ∈ ps, 0 ≤ p.1 ∧ p.1 < 64 ∧ 0 ≤ p.2 ∧ p.2 < 64) ∧
  ∀ F' H' D us qs, Gw Mn F H F' H' → F' D = none → H D = none → H' D = some (.lst us) → Rps F' (List.map pT qs) us → qs.Pairwise plt → (∀ q ∈ qs, q ∈ ps ∨ (q.2, q.1) ∈ ps) → Q (.ref D) H'
theorem rows_ks {F : Hp} : ∀ {rows : List (List Int)} {xs : List V}, Rps F (rows.map iT) xs → ∃ ks : List (Addr × List Int), (ks.map fun p => V.ref p.1) = xs ∧ ks.map (·.2) = rows ∧ ∀ p ∈ ks, F p.1 = some (.tup (p.2.map V.int))
  | [], _, h => by cases h; exact ⟨[], rfl, rfl, fun p hp => by cases hp⟩
  | r :: rows, _, ⟨v, vs, e, h1, h2⟩ => by
    subst e
    obtain ⟨a, us, rfl, h3, _, h4⟩ := h1
    rw [Rps.ints] at h4
    subst h4
    obtain ⟨ks, k1, k2, k3⟩ := rows_ks h2
    refine ⟨(a, r) :: ks, by rw [List.map_cons, k1], by rw [List.map_cons, k2], fun p hp => ?_⟩
    rcases List.mem_cons.mp hp with z | z
    · subst z; exact h3
    · exact k3 p z
theorem ks_rows {F : Hp} : ∀ {L : List (Addr × List Int)} {qs : List (Int × Int)}, (L.map (·.2)) = qs.map (fun p => [p.1, p.2]) → (∀ p ∈ L, F p.1 = some (.tup (p.2.map V.int))) → Rps F (qs.map pT) (L.map fun p => V.ref p.1)
  | [], [], _, _ => rfl
  | [], _ :: _, e, _ => by cases e
  | _ :: _, [], e, _ => by cases e
  | p :: L, q :: qs, e, h => by
    rw [List.map_cons, List.map_cons] at e
    injection e with e1 e2
    refine ⟨_, _, rfl, ⟨p.1, [.int q.1, .int q.2], rfl, ?_, by show 2 ≤ 60; decide, ⟨_, _, rfl, rfl, _, _, rfl, rfl, rfl⟩⟩, ks_rows e2 fun r hr => h r (List.mem_cons_of_mem _ hr)⟩
    rw [h p (List.mem_cons_self ..), e1]
    rfl
section
variable {P : Program} {w : World} {K : PySem.W.Frag} {mg : Str → Option Value} {base : Heap}
theorem ok_L_both (T : TX K mg) : FnOk P w K mg base CX0 1 (a_L_both K) (fdOf K (a_L_both K)) ["_law_pairs"] spBoth := by
  refine T.f_L_both.ok sc_L_both (fun vs H Q E ⟨F, v, ps, e, _⟩ => by rw [e]; rfl) (fun cdv A outer s H vs Q E hr ⟨F, v, ps, e, hF, hp, hz, hb, q⟩ => ?_)
  subst e
  refine ⟨_, PSs.nox (pss_one (ps_ret (pe_callB (cr_sortedT rfl) (by rfl) T.z_sorted (by decide +kernel) (pa_cons (pe_callTy (cr_setOfT rfl hr.units) (by rfl) T.z_set (by decide +kernel) (pa_cons (pe_op op_cat (pe_callTy call_list_of (by rfl) T.z_list (by decide +kernel) (pa_cons (pv 0) pa_nil)) (pe_lc (own := [("_law_y", 1), ("_law_x", 2)]) (g := (gTup _ 2 (gCons (gName 1) (gCons (gName 2) gNil)))) (tt := tYes) rfl sc_L_both.nd (pi_sq (pv 0)) (blkOk_by (own := [("_law_y", 1), ("_law_x", 2)]) (N := N_L_both) (sc := defScope s_L_both) (by decide +kernel)) (fun _ _ _ _ _ => (pg_tup rfl (pgs_cons (pg_name (i := 1) sc_L_both.nd rfl (.inl rfl)) (pgs_cons (pg_name (i := 2) sc_L_both.nd rfl (.inl rfl)) pgs_nil)))) (fun _ _ _ _ _ => pts_nil) (fun _ _ _ _ _ => (pe_tup (pa_cons (pv 2) (pa_cons (pv 1) pa_nil)))))) pa_nil)) pa_nil)))), ?_⟩
  obtain ⟨a, xs, rfl, h1, h2, h3⟩ := hp
  have hlx : xs.length = ps.length := by rw [← h3.len, List.length_map]
  refine ⟨_, rfl, a, xs, rfl, .inl (ex_l hF (sq_of h1)), fun l hl => ?_⟩
  have hcomp := en_lcP (K := K) (F := F) (σ := start N_L_both [.ref a]) (vs := [1, 2]) (j1 := 1) (j2 := 2) (te := tTup (tCons (tVar 2) (tCons (tVar 1) tNil))) (walk_sq (K := K) (k := true) (a := a) (xs := xs)) (evi_sq (K := K) (tl := tVar 0) (ev_var rfl) (sq_of h1)) (fun H e => ex_sq (k := true) e (sq_of h1)) (fun i H x H' _ y => by rw [y.1]; exact Ex.refl H) (fun _ _ => rfl) (by omega) (fun i => pT ((ps.getD i (0, 0)).2, (ps.getD i (0, 0)).1)) (fun i x H1 H' hi e y => by
    obtain ⟨rfl, hy⟩ := y
    obtain ⟨p, b, g1, rfl, g2⟩ := rps_pT h3 hy
    refine ⟨b, _, _, rfl, st_of (e _ _ g2), ?_⟩
    have : ps.getD i (0, 0) = p := by rw [List.getD_eq_getElem?_getD, g1]; rfl
    rw [this]
    exact eg_tup (ea_cons (ev_var rfl) (ea_cons (ev_var rfl) ea_nil)) ⟨_, _, rfl, rfl, _, _, rfl, rfl, rfl⟩ (by show 2 ≤ 60; decide))
  have et : ((List.range xs.length).map fun i => pT ((ps.getD i (0, 0)).2, (ps.getD i (0, 0)).1)) = (ps.map fun p => (p.2, p.1)).map pT := by
    refine List.ext_getElem (by simp [hlx]) fun i z1 z2 => ?_
    have z3 : i < ps.length := by simpa using z2
    simp [z3]
  rw [et] at hcomp
  refine hcomp F _ (Ex.refl F) (hF.trans (Ex.new hl)) _ fun D us F2 H2 g f d hD hr => ?_
  have hl2 := g.ex _ _ (upd_same (H := H) (a := l) (o := .lst xs))
  have hul := hr.len
  rw [List.length_map, List.length_map] at hul
  refine ⟨l, D, xs, us, rfl, rfl, hl2, hD, sz_of (by omega), fun p hp => ?_⟩
  have hrows : Rps F2 (((ps ++ ps.map fun p => (p.2, p.1)).map fun p => [p.1, p.2]).map iT) (xs ++ us) := by
    rw [List.map_append, List.map_append]
    exact (rps_pairs (h3.mono g.fle _ _)).app (rps_pairs hr)
  obtain ⟨ks, k1, k2, k3⟩ := rows_ks hrows
  have kl : ks.length = 2 * ps.length := by
    have := congrArg List.length k2
    simp at this
    omega
  have e2 : Ex F2 (upd H2 p (.lst (xs ++ us))) := g.le.trans (Ex.new hp)
  refine ⟨p, ks, rfl, sq_of (by rw [k1]; exact upd_same), fun r hr => st_of (e2 _ _ (k3 r hr)), by omega, fun s L hs hsub hall => ?_⟩
  have e3 := e2.trans (Ex.new (o := SetTO P w s L) hs)
  have two : ∀ r ∈ ks, ∃ q : Int × Int, r.2 = [q.1, q.2] ∧ (q ∈ ps ∨ (q.2, q.1) ∈ ps) := fun r hr => by
    have : r.2 ∈ ks.map (·.2) := List.mem_map.mpr ⟨r, hr, rfl⟩
    rw [k2] at this
    obtain ⟨q, hq, e⟩ := List.mem_map.mp this
    refine ⟨q, e.symm, ?_⟩
    rcases List.mem_append.mp hq with z | z
    · exact .inl z
    · obtain ⟨q', hq', rfl⟩ := List.mem_map.mp z
      exact .inr hq'
  have bnd : ∀ q : Int × Int, (q ∈ ps ∨ (q.2, q.1) ∈ ps) → (0 ≤ q.1 ∧ q.1 < 64) ∧ (0 ≤ q.2 ∧ q.2 < 64) := fun q hq => by
    rcases hq with z | z
    · have := hb _ z; omega
    · have := hb _ z; simp only at this; omega
  refine ⟨s, L, 2, 64, rfl, upd_same, fun r hr => st_of (e3 _ _ (k3 r (hsub r hr))), by decide, fun r hr => ?_, fun L' p' pm nd lt pw hp' => ?_⟩
  · obtain ⟨q, e, hq⟩ := two r (hsub r hr)
    obtain ⟨b1, b2⟩ := bnd q hq
    rw [e]
    refine ⟨rfl, fun z hz => ?_⟩
    rcases List.mem_cons.mp hz with y | y
    · rw [y]; exact b1
    · rw [List.mem_singleton.mp y]; exact b2
  · have inks : ∀ r ∈ L', r ∈ ks := fun r hr => hsub r (pm.mem_iff.mp hr)
    have qs2 : L'.map (·.2) = (L'.map fun r => (r.2.getD 0 0, r.2.getD 1 0)).map fun p => [p.1, p.2] := by
      rw [List.map_map]
      refine List.map_congr_left fun r hr => ?_
      obtain ⟨q, e, _⟩ := two r (inks r hr)
      show r.2 = [r.2.getD 0 0, r.2.getD 1 0]
      rw [e]
      rfl
    have g3 := ((g.put (o := .lst (xs ++ us)) hp).put (o := SetTO P w s L) hs).put (o := .lst (L'.map fun q => V.ref q.1)) hp'
    have gA : Gw Mn F H F2 _ := ((Gw.refl hF).put (o := .lst xs) hl).trans g3
    refine q F2 _ p' _ (L'.map fun r => (r.2.getD 0 0, r.2.getD 1 0)) gA ((g.put (o := .lst (xs ++ us)) hp).put (o := SetTO P w s L) hs |>.ffree hp') ?_ upd_same (ks_rows qs2 fun r hr => k3 r (inks r hr)) ?_ fun q hq => ?_
    · exact (((Gw.refl hF).put (o := .lst xs) hl).trans ((g.put (o := .lst (xs ++ us)) hp).put (o := SetTO P w s L) hs)).fresh hp'
    · rw [List.pairwise_map]
      have nd' : L'.Pairwise fun a b => a.2 ≠ b.2 := by
        have := List.nodup_iff_pairwise_ne.mp nd
        rwa [List.pairwise_map] at this
      refine (List.Pairwise.and_mem.mp (pw.and nd')).imp ?_
      rintro a b ⟨ha, hb', hc, hne⟩
      obtain ⟨qa, ea, hqa⟩ := two a (inks a ha)
      obtain ⟨qb, eb, hqb⟩ := two b (inks b hb')
      rw [ea, eb] at hc hne
      have := pair_lt hc hne (bnd qa hqa).1 (bnd qa hqa).2 (bnd qb hqb).1 (bnd qb hqb).2
      rw [ea, eb]
      exact this
    · obtain ⟨r, hr, rfl⟩ := List.mem_map.mp hq
      obtain ⟨q, e, hq⟩ := two r (inks r hr)
      rw [e]
      exact hq
end
end GD

/-! ## Wires drawn, webs drawn -/
namespace GD
open PySem L2 Evl G SQ
def Wok (m : Int) (q : Int × Int) : Prop := 0 ≤ q.1 ∧ q.1 < m ∧ 0 ≤ q.2 ∧ q.2 < m ∧ q.1 ≠ q.2
def spWires : Sp := fun vs H Q _ => ∃ F h m sh, vs = [.ref h, .int m, .int sh] ∧ Ex F H ∧ HdAt F H h ∧ 1 ≤ m ∧ m ≤ 7 ∧
  ∀ F' H' D us qs, Gw (At h) F H F' H' → HdAt F' H' h → F' D = none → H D = none → H' D = some (.lst us) → Rps F' (List.map pT qs) us → qs.Pairwise plt → (∀ q ∈ qs, Wok m q) → qs.length ≤ 49 → Q (.ref D) H'
theorem HdAt.set {F H : Hp} {h p : Addr} {o : HO} (g : HdAt F H h) (hn : h ≠ p) : HdAt F (upd H p o) h := by
  obtain ⟨h0, c, cells, i, n, r, z, h1, h2⟩ := g
  exact ⟨h0, c, cells, i, n, r, z, by rw [upd_ne hn]; exact h1, h2⟩
theorem rp_pT {F : Hp} {p : Addr} {q : Int × Int} (h : F p = some (.tup [.int q.1, .int q.2])) : Rp F (pT q) (.ref p) := ⟨p, _, rfl, h, by show 2 ≤ 60; decide, _, _, rfl, rfl, _, _, rfl, rfl, rfl⟩
section
variable {P : Program} {w : World} {K : PySem.W.Frag} {mg : Str → Option Value} {base : Heap}
theorem ok_L_wires (T : TX K mg) : FnOk P w K mg base CX0 2 (a_L_wires K) (fdOf K (a_L_wires K)) ["_law_hand_here", "_law_machines", "_law_share"] spWires := by
  have G_L_draw := ok_L_draw (P := P) (w := w) (base := base) T
  refine T.f_L_wires.ok sc_L_wires (fun vs H Q E ⟨F, h, m, sh, e, _⟩ => by rw [e]; rfl) (fun cdv A outer s H vs Q E hr ⟨F, h, m, sh, e, hF, hh, m1, m7, q⟩ => ?_)
  subst e
  refine ⟨_, PSs.nox (pss_cons (ps_asg (pe_lst pa_nil) (pg_name (i := 3) sc_L_wires.nd rfl (.inl rfl))) (
    pss_cons (ps_for PassesOwn.never rfl (pi_range1 rfl T.z_range (pa_cons (pv 1) pa_nil)) (pg_name (i := 4) sc_L_wires.nd rfl (.inr rfl)) (pss_one (ps_expr (pe_bm PySem.F.plainAttrs_list PySem.F.slot_list_extend PySem.F.type_list_extend mt_extend (pv 3) (pa_cons (pe_lc (own := [("_law_x", 5)]) (g := (gName 5))  rfl sc_L_wires.nd (pi_range1 rfl T.z_range (pa_cons (pv 1) pa_nil)) (blkOk_by (own := [("_law_x", 5)]) (N := N_L_wires) (sc := defScope s_L_wires) (by decide +kernel)) (fun _ _ _ _ _ => (pg_name (i := 5) sc_L_wires.nd rfl (.inl rfl))) (fun _ _ _ _ _ => (pts_one (PW.pt (pw_and (pt_cmpR op_ne (pv 5) (pv 4) (nomark _)) (pw_and1 (pt_cmpR op_lt (pe_call G_L_draw (hr.mono (by decide)) rfl T.g_L_draw T.f_L_draw.kp T.b_L_draw .nil pass0 (pa_cons (pv 0) (pa_cons pe_int pa_nil))) (pv 2) (nomark _))))))) (fun _ _ _ _ _ => (pe_tup (pa_cons (pv 4) (pa_cons (pv 5) pa_nil))))) pa_nil))))) (
    pss_one (ps_ret (pv 3))))), ?_⟩
  refine q_asgL (el_lst ea_nil (by decide)) fun U H1 hU e1 hH1 => ?_
  refine q_forW (n := m.toNat) walk_range (evi_r1 (ea_cons (ev_var rfl) ea_nil) (by omega) (by omega)) (fun i σ' H' => ∃ F' us qs o, σ' = [some (.ref h), some (.int m), some (.int sh), some (.ref U), o, none] ∧ Gw (At h) F H F' H' ∧ HdAt F' H' h ∧ F' U = none ∧ H' U = some (.lst us) ∧ Rps F' (List.map pT qs) us ∧ qs.Pairwise plt ∧ (∀ q ∈ qs, Wok m q ∧ q.1 < (i : Nat)) ∧ qs.length ≤ i * 7)
    (fun H2 e2 => ⟨F, [], [], _, rfl, ((Gw.refl hF).ext e1).ext e2, (hh.ext e1).ext e2, fresh_back hF hU, e2 _ _ hH1, rfl, .nil, fun q hq => (by cases hq), Nat.zero_le _⟩) (fun _ _ _ _ _ => trivial) (fun y x σ1 Ha Hb hy hp yy => ?_) (fun σ' H' ⟨F', us, qs, o, e, g, hh', f, hu, hr, hpw, hq, hl⟩ => ?_)
  · obtain ⟨rfl, rfl⟩ := yy
    obtain ⟨F', us, qs, o, rfl, g, hh', f, hu, hr, hpw, hq, hl⟩ := hp
    have ey : (0 : Int) + (y : Int) = (y : Int) := Int.zero_add _
    show tDrop _ _ [some (.ref h), some (.int m), some (.int sh), some (.ref U), some (.int (0 + (y : Int))), none] Hb
    rw [ey]
    refine ⟨_, rfl, .inl ⟨rfl, _, sq_of hu⟩, _, rfl, m, rfl, by omega, by omega, fun D hD => ?_⟩
    have fD : F' D = none := fresh_back g.le hD
    refine lc_it walk_range (fun i H' => ∃ F2 vs xq, Gw (At h) F' Hb F2 H' ∧ HdAt F2 H' h ∧ F2 D = none ∧ H' D = some (.lst vs) ∧ Rps F2 (List.map (fun x => pT ((y : Int), x)) xq) vs ∧ xq.Pairwise (· < ·) ∧ (∀ x ∈ xq, 0 ≤ x ∧ x < (i : Nat) ∧ x ≠ (y : Int)) ∧ xq.length ≤ i)
      ⟨F', [], [], (Gw.refl g.le).put hD, hh'.new hD, fD, upd_same, rfl, .nil, fun q hq => (by cases hq), Nat.zero_le _⟩ (fun _ _ _ _ => trivial) (fun i x Hc Hd hi hp yy => ?_) fun H' ⟨F2, vs, xq, g2, hh2, f2, hD2, hr2, hpw2, hx2, hl2⟩ => ?_
    · have hx : x = .int (i : Int) := yy.2.trans (congrArg V.int (Int.zero_add _))
      obtain ⟨rfl, _⟩ := yy
      subst hx
      obtain ⟨F2, vs, xq, g2, hh2, f2, hD2, hr2, hpw2, hx2, hl2⟩ := hp
      refine ⟨rfl, ?_⟩
      show tAnd _ _ [some (.ref h), some (.int m), some (.int sh), some (.ref U), some (.int (y : Int)), some (.int (i : Int))] Hd _
      have nDh : ¬ At h D := hh'.ne hD
      have skip : ∀ H3 F3, Gw (At h) F2 Hd F3 H3 → HdAt F3 H3 h → ∃ F2 vs xq, Gw (At h) F' Hb F2 H3 ∧ HdAt F2 H3 h ∧ F2 D = none ∧ H3 D = some (.lst vs) ∧ Rps F2 (List.map (fun x => pT ((y : Int), x)) xq) vs ∧ xq.Pairwise (· < ·) ∧ (∀ x ∈ xq, 0 ≤ x ∧ x < ((i + 1 : Nat) : Int) ∧ x ≠ (y : Int)) ∧ xq.length ≤ i + 1 := fun H3 F3 g3 hh3 =>
        ⟨F3, vs, xq, g2.trans g3, hh3, g3.new D (some_ne hD2) f2, g3.up D _ nDh hD2, hr2.mono g3.fle _ _, hpw2, fun x hx => by have := hx2 x hx; omega, by omega⟩
      refine (et_test (ev_op (x := .int (i : Int)) (y := .int (y : Int)) (ev_var rfl) (ev_var rfl) (rv_ne rfl))) Hd (Ex.refl Hd) _ fun H3 e3 => ?_
      by_cases hiy : (i : Int) = (y : Int)
      · rw [if_neg (by rw [hiy]; simp)]
        exact skip H3 F2 ((Gw.refl g2.le).ext e3) (hh2.ext e3)
      · rw [if_pos (by simp; exact fun z => hiy z)]
        refine ⟨_, rfl, F2, h, 6, rfl, g2.le.trans e3, hh2.ext e3, by decide, by decide, fun d H4 d0 d1 g4 hh4 => ⟨_, rfl, d, sh, rfl, rfl, _, rfl, ?_⟩⟩
        have g34 := ((Gw.refl (M := At h) g2.le).ext e3).trans g4
        show if decide (d < sh) = true then _ else _
        by_cases hd : d < sh
        · rw [if_pos (by simpa using hd)]
          refine ⟨_, rfl, _, rfl, by show 2 ≤ sizeLine; decide, fun p hp => ⟨vs, ?_, sz_lt ?_, upd F2 p (.tup [.int (y : Int), .int (i : Int)]), vs ++ [.ref p], xq ++ [(i : Int)], ?_, ?_, ?_, upd_same, ?_, ?_, fun x hx => ?_, ?_⟩⟩
          · rw [upd_ne (ne_of_none (g34.up D _ nDh hD2) hp)]
            exact g34.up D _ nDh hD2
          · have := hr2.len
            rw [List.length_map] at this
            omega
          · refine (g2.trans (g34.alloc hp)).mut ?_ (.inl hD)
            rw [upd_ne (ne_of_none (g34.up D _ nDh hD2) hp)]
            exact f2
          · exact ((hh4.new hp).frz (fun z => hh4.ne hp z.symm) (g34.ffree hp)).set (fun z => nDh z.symm)
          · rw [upd_ne (ne_of_none (g34.up D _ nDh hD2) hp)]
            exact f2
          · rw [List.map_append]
            exact (hr2.mono (Ex.new (g34.ffree hp)) _ _).app (.one (rp_pT upd_same))
          · rw [List.pairwise_append]
            refine ⟨hpw2, by simp, fun a ha b hb => ?_⟩
            rw [List.mem_singleton.mp hb]
            exact (hx2 a ha).2.1
          · rcases List.mem_append.mp hx with z | z
            · have := hx2 x z
              omega
            · rw [List.mem_singleton.mp z]
              exact ⟨by omega, by omega, hiy⟩
          · rw [List.length_append, List.length_singleton]
            omega
        · rw [if_neg (by simpa using hd)]
          exact skip H4 F2 g34 hh4
    · have nU : ¬ At h U := hh.ne hU
      have hul := hr.len
      have hvl := hr2.len
      rw [List.length_map] at hul hvl
      refine ⟨U, D, us, vs, rfl, rfl, g2.up U _ nU hu, hD2, sz_of ?_, F2, us ++ vs, qs ++ xq.map (fun x => ((y : Int), x)), some (.int (y : Int)), rfl, ?_, hh2.set (fun z => nU z.symm), g2.new U (some_ne hu) f, upd_same, ?_, ?_, fun q' hq' => ?_, ?_⟩
      · have : m.toNat ≤ 7 := by omega
        omega
      · exact (g.trans g2).mut (g2.new U (some_ne hu) f) (.inl hU)
      · rw [List.map_append, List.map_map]
        exact (hr.mono g2.fle _ _).app hr2
      · rw [List.pairwise_append, List.pairwise_map]
        refine ⟨hpw, hpw2.imp fun z => .inr ⟨rfl, z⟩, fun a ha b hb => .inl ?_⟩
        obtain ⟨x, _, rfl⟩ := List.mem_map.mp hb
        exact (hq a ha).2
      · rcases List.mem_append.mp hq' with z | z
        · have := hq q' z
          exact ⟨this.1, by have := this.2; omega⟩
        · obtain ⟨x, hx, rfl⟩ := List.mem_map.mp z
          have := hx2 x hx
          exact ⟨⟨by show (0 : Int) ≤ (y : Int); omega, by show (y : Int) < m; omega, this.1, by show x < m; omega, fun e => this.2.2 e.symm⟩, by show (y : Int) < _; omega⟩
      · rw [List.length_append, List.length_map]
        have : m.toNat ≤ 7 := by omega
        omega
  · subst e
    exact ⟨_, rfl, q F' H' U us qs g hh' f hU hu hr hpw (fun q hq' => (hq q hq').1) (by omega)⟩
end
end GD

/-! ## Webs drawn, shapes -/
namespace GD
open PySem L2 Evl G SQ
structure WebOk (m : Int) (ws : List (Int × Int)) : Prop where
  lo : 1 ≤ m
  hi : m ≤ 7
  srt : ws.Pairwise plt
  wok : ∀ q ∈ ws, Wok m q
  len : ws.length ≤ 60
def WebT (F : Hp) (v : V) (m : Int) (ws : List (Int × Int)) : Prop := ∃ a wa, v = .ref a ∧ F a = some (.tup [.int m, .ref wa]) ∧ Rp F (.tup (ws.map pT)) (.ref wa)
def spWeb : Sp := fun vs H Q _ => ∃ F h mo, vs = [.ref h, .int mo] ∧ Ex F H ∧ HdAt F H h ∧ 1 ≤ mo ∧ mo ≤ 6 ∧ ∀ F' H' r m ws, Gw (At h) F H F' H' → HdAt F' H' h → WebT F' r m ws → WebOk m ws → Q r H'
def spShape : Sp := fun vs H Q _ => ∃ F h, vs = [.ref h] ∧ Ex F H ∧ HdAt F H h ∧ ∀ F' H' r m ws, Gw (At h) F H F' H' → HdAt F' H' h → WebT F' r m ws → WebOk m ws → Q r H'
section
variable {σ : L2.St} {H : Hp} {ta tb : TE} {t tr : TA} {Q : VK} {QA : List V → Hp → Prop} {r : R2} {rc : List V → Hp → VK → Prop} {sp : Sp} {dvs : List V} {E : XK}
theorem nCons (h : ta σ H fun x H1 => tr σ H1 fun vs H2 => QA (x :: vs) H2) : tCons ta tr σ H QA := h
theorem nCB (h : t σ H fun vs H1 => rc vs H1 Q) : tCB rc t σ H Q := h
theorem nCall (h : t σ H fun vs H1 => sp (vs ++ dvs) H1 Q E) : tCall sp dvs E t σ H Q := h
theorem nOp (h : ta σ H fun x H1 => tb σ H1 fun y H2 => r x y H2 Q) : tOp r ta tb σ H Q := h
theorem nRet {D : Ends} (h : ta σ H D.rt) : tRet ta D σ H := h
theorem nVar {i : Nat} {v : V} (h : σ[i]? = some (some v)) (q : Q v H) : tVar i σ H Q := ⟨v, h, q⟩
end
theorem gN {i : Nat} {v : V} {σ : L2.St} {H : Hp} {Q : L2.St → Hp → Prop} (h : Q (σ.set i (some v)) H) : gName i v σ H Q := h
theorem q_asgN {σ : L2.St} {F F1 H : Hp} {te : TE} {ts : List T} {i : Nat} {tz : TS} {Dn : Ends} (h : EvN te σ F ts) (e : Ex F F1) (eH : Ex F1 H) (k : ∀ D vs F2 H2, Gw Mn F1 H F2 H2 → F2 D = none → H D = none → H2 D = some (.lst vs) → Rps F2 ts vs → tz Dn (σ.set i (some (.ref D))) H2) : tSeq (tAsg te (gName i)) tz Dn σ H := h F1 H e eH _ k
theorem HdAt.alloc {F H : Hp} {h p : Addr} {o : HO} (g : HdAt F H h) (hp : H p = none) (fp : F p = none) : HdAt (upd F p o) (upd H p o) h := (g.new hp).frz (fun z => g.ne hp z.symm) fp
theorem web_fin {M : Addr → Prop} {F H F' H' : Hp} {h p r : Addr} {us : List V} {qs : List (Int × Int)} {m : Int} {Q : VK} (g : Gw M F H F' H') (hh' : HdAt F' H' h) (hr : Rps F' (qs.map pT) us) (hz : us.length ≤ 60) (hp : H' p = none) (hr' : upd H' p (.tup us) r = none)
    (q : ∀ F2 H2 r, Gw M F H F2 H2 → HdAt F2 H2 h → WebT F2 r m qs → Q r H2) : Q (.ref r) (upd (upd H' p (.tup us)) r (.tup [.int m, .ref p])) := by
  have g1 := g.alloc (o := .tup us) hp
  have gA := g1.alloc (o := .tup [.int m, .ref p]) hr'
  have fp := g.ffree hp
  have fr := g1.ffree hr'
  have npr : p ≠ r := fun z => by
    rw [← z, upd_same] at hr'
    cases hr'
  refine q _ _ _ gA ((hh'.alloc hp fp).alloc hr' fr) ⟨r, p, rfl, upd_same, ?_⟩
  exact .tup_i (by rw [upd_ne npr]; exact upd_same) hz ((hr.mono (Ex.new fp) _ _).mono (Ex.new fr) _ _)
section
variable {P : Program} {w : World} {K : PySem.W.Frag} {mg : Str → Option Value} {base : Heap}
theorem ok_L_web (T : TX K mg) : FnOk P w K mg base CX0 3 (a_L_web K) (fdOf K (a_L_web K)) ["_law_hand_here", "_law_most"] spWeb := by
  have G_L_draw := ok_L_draw (P := P) (w := w) (base := base) T
  have G_L_wires := ok_L_wires (P := P) (w := w) (base := base) T
  refine T.f_L_web.ok sc_L_web (fun vs H Q E ⟨F, h, mo, e, _⟩ => by rw [e]; rfl) (fun cdv A outer s H vs Q E hr ⟨F, h, mo, e, hF, hh, m1, m7, q⟩ => ?_)
  subst e
  refine ⟨_, PSs.nox (pss_cons (ps_asg (pe_op op_add pe_int (pe_call G_L_draw (hr.mono (by decide)) rfl T.g_L_draw T.f_L_draw.kp T.b_L_draw .nil pass0 (pa_cons (pv 0) (pa_cons (pv 1) pa_nil)))) (pg_name (i := 2) sc_L_web.nd rfl (.inl rfl))) (
    pss_one (ps_ret (pe_tup (pa_cons (pv 2) (pa_cons (pe_callTy call_tuple_of (by rfl) T.z_tuple (by decide +kernel) (pa_cons (pe_call G_L_wires (hr.mono (by decide)) rfl T.g_L_wires T.f_L_wires.kp T.b_L_wires .nil pass0 (pa_cons (pv 0) (pa_cons (pv 2) (pa_cons (pe_op op_add pe_int (pe_call G_L_draw (hr.mono (by decide)) rfl T.g_L_draw T.f_L_draw.kp T.b_L_draw .nil pass0 (pa_cons (pv 0) (pa_cons pe_int pa_nil)))) pa_nil)))) pa_nil)) pa_nil)))))), ?_⟩
  refine ⟨_, rfl, _, rfl, F, h, mo, rfl, hF, hh, by omega, by omega, fun d H1 d0 d1 g1 hh1 => ⟨1, d, rfl, rfl, ?_⟩⟩
  refine ⟨_, rfl, _, rfl, _, rfl, _, rfl, F, h, 5, rfl, g1.le, hh1, by decide, by decide, fun d2 H2 d20 d21 g2 hh2 => ⟨1, d2, rfl, rfl, F, h, 1 + d, 1 + d2, rfl, g2.le, hh2, by omega, by omega, fun F' H' D us qs g hh' f hD0 hD hr hpw hq hl => ?_⟩⟩
  have hul := hr.len
  rw [List.length_map] at hul
  exact ⟨D, us, rfl, .inl ⟨sq_of hD, fun p hp => ⟨by show 2 ≤ sizeLine; decide, fun r hr' => web_fin ((g1.trans g2).trans g) hh' hr (by omega) hp hr' fun F2 H2 r g4 hh4 hw => q F2 H2 r (1 + d) qs g4 hh4 hw ⟨by omega, by omega, hpw, hq, by omega⟩⟩⟩⟩
theorem wok_sym {m : Int} {ps qs : List (Int × Int)} (h : ∀ p ∈ ps, Wok m p) (hq : ∀ q ∈ qs, q ∈ ps ∨ (q.2, q.1) ∈ ps) : ∀ q ∈ qs, Wok m q := fun q hm => by
  rcases hq q hm with z | z
  · exact h q z
  · have := h _ z
    exact ⟨this.2.2.1, this.2.2.2.1, this.1, this.2.1, fun e => this.2.2.2.2 e.symm⟩
theorem plt_nodup {qs : List (Int × Int)} (h : qs.Pairwise plt) : qs.Nodup := h.imp fun {a b} z e => by
  subst e
  rcases z with z | z
  · omega
  · omega
theorem ok_L_shape (T : TX K mg) : FnOk P w K mg base CX0 4 (a_L_shape K) (fdOf K (a_L_shape K)) ["_law_hand_here"] spShape := by
  have G_L_draw := ok_L_draw (P := P) (w := w) (base := base) T
  have G_L_both := ok_L_both (P := P) (w := w) (base := base) T
  have G_L_web := ok_L_web (P := P) (w := w) (base := base) T
  refine T.f_L_shape.ok sc_L_shape (fun vs H Q E ⟨F, h, e, _⟩ => by rw [e]; rfl) (fun cdv A outer s H vs Q E hr ⟨F, h, e, hF, hh, q⟩ => ?_)
  subst e
  refine ⟨_, PSs.nox (pss_cons (ps_asg (pe_call G_L_draw (hr.mono (by decide)) rfl T.g_L_draw T.f_L_draw.kp T.b_L_draw .nil pass0 (pa_cons (pv 0) (pa_cons pe_int pa_nil))) (pg_name (i := 1) sc_L_shape.nd rfl (.inl rfl))) (
    pss_cons (ps_asg (pe_op op_add pe_int (pe_call G_L_draw (hr.mono (by decide)) rfl T.g_L_draw T.f_L_draw.kp T.b_L_draw .nil pass0 (pa_cons (pv 0) (pa_cons pe_int pa_nil)))) (pg_name (i := 2) sc_L_shape.nd rfl (.inl rfl))) (
    pss_cons (ps_setLc (i := 3) (own := [("_law_x", 4)]) (g := (gName 4)) (tt := tYes) rfl sc_L_shape.nd rfl rfl (sw_true rfl rfl rfl (by decide +kernel)) (pi_range1 rfl T.z_range (pa_cons (pe_op op_sub (pv 2) pe_int) pa_nil)) (blkOk_by (own := [("_law_x", 4)]) (N := N_L_shape) (sc := defScope s_L_shape) (by decide +kernel)) (fun _ _ _ _ _ => (pg_name (i := 4) sc_L_shape.nd rfl (.inl rfl))) (fun _ _ _ _ _ => pts_nil) (fun _ _ _ _ _ => (pe_tup (pa_cons (pv 4) (pa_cons (pe_op op_add (pv 4) pe_int) pa_nil))))) (
    pss_cons (ps_if (pt_cmpR op_eq (pv 1) pe_int (nomark _)) (pss_one (ps_ret (pe_tup (pa_cons (pv 2) (pa_cons (pe_callTy call_tuple_of (by rfl) T.z_tuple (by decide +kernel) (pa_cons (pe_call G_L_both (hr.mono (by decide)) rfl T.g_L_both T.f_L_both.kp T.b_L_both .nil pass0 (pa_cons (pe_lc (own := [("_law_x", 4)]) (g := (gName 4)) (tt := tYes) rfl sc_L_shape.nd (pi_range2 rfl T.z_range (pa_cons pe_int (pa_cons (pv 2) pa_nil))) (blkOk_by (own := [("_law_x", 4)]) (N := N_L_shape) (sc := defScope s_L_shape) (by decide +kernel)) (fun _ _ _ _ _ => (pg_name (i := 4) sc_L_shape.nd rfl (.inl rfl))) (fun _ _ _ _ _ => pts_nil) (fun _ _ _ _ _ => (pe_tup (pa_cons pe_int (pa_cons (pv 4) pa_nil))))) pa_nil)) pa_nil)) pa_nil))))) pss_nil) (
    pss_cons (ps_if (pt_cmpR op_eq (pv 1) pe_int (nomark _)) (pss_one (ps_ret (pe_tup (pa_cons (pv 2) (pa_cons (pe_callTy call_tuple_of (by rfl) T.z_tuple (by decide +kernel) (pa_cons (pe_call G_L_both (hr.mono (by decide)) rfl T.g_L_both T.f_L_both.kp T.b_L_both .nil pass0 (pa_cons (pv 3) pa_nil)) pa_nil)) pa_nil))))) pss_nil) (
    pss_cons (ps_if (pt_cmpR op_eq (pv 1) pe_int (nomark _)) (pss_one (ps_ret (pe_tup (pa_cons (pv 2) (pa_cons (pe_callTy call_tuple_of (by rfl) T.z_tuple (by decide +kernel) (pa_cons (pe_call G_L_both (hr.mono (by decide)) rfl T.g_L_both T.f_L_both.kp T.b_L_both .nil pass0 (pa_cons (pe_op op_cat (pv 3) (pe_lst (pa_cons (pe_tup (pa_cons pe_int (pa_cons (pe_op op_sub (pv 2) pe_int) pa_nil))) pa_nil))) pa_nil)) pa_nil)) pa_nil))))) pss_nil) (
    pss_one (ps_ret (pe_call G_L_web (hr.mono (by decide)) rfl T.g_L_web T.f_L_web.kp T.b_L_web .nil pass0 (pa_cons (pv 0) (pa_cons pe_int pa_nil))))))))))), ?_⟩
  refine ⟨_, rfl, F, h, 6, rfl, hF, hh, by decide, by decide, fun kd H1 k0 k1 g1 hh1 => ?_⟩
  refine ⟨_, rfl, F, h, 5, rfl, g1.le, hh1, by decide, by decide, fun d H2 d0 d1 g2 hh2 => ⟨3, d, rfl, rfl, ?_⟩⟩
  have g12 := g1.trans g2
  refine gN ?_
  dsimp only
  show tSeq (tAsg _ (gName 3)) _ _ [some (.ref h), some (.int kd), some (.int (3 + d)), none, none] H2
  generalize hm : (3 : Int) + d = m
  have m3 : 3 ≤ m ∧ m ≤ 7 := by omega
  obtain ⟨k, hk⟩ : ∃ k : Nat, m = (k : Int) := ⟨m.toNat, by omega⟩
  have hsteps := en_lcN (F := F) (σ := [some (.ref h), some (.int kd), some (.int m), none, none]) (vs := [4]) (j := 4) (te := tTup (tCons (tVar 4) (tCons (tOp (rI0 fun i j => .int (i + j)) (tVar 4) (tC (.int 1))) tNil))) (walk_range (lo := 0) (n := (m - 1).toNat)) (evi_r1 (ta := tCons (tOp (rI0 fun i j => .int (i - j)) (tVar 2) (tC (.int 1))) tNil) (ea_cons (ev_op (ev_var rfl) ev_c rv_I0) ea_nil) (by omega) (by omega)) (fun _ _ => trivial) (fun i H x H' _ y => by rw [y.1]; exact Ex.refl H) (fun _ => rfl) (by omega) (fun i => pT ((i : Int), (i : Int) + 1)) (fun i x H1 H' hi e y => by
    have hx : x = .int (i : Int) := y.2.trans (congrArg V.int (Int.zero_add _))
    subst hx
    exact eg_tup (ea_cons (ev_var rfl) (ea_cons (ev_op (ev_var rfl) ev_c rv_I0) ea_nil)) ⟨_, _, rfl, rfl, _, _, rfl, rfl, rfl⟩ (by show 2 ≤ 60; decide))
  have es : ((List.range (m - 1).toNat).map fun i : Nat => pT ((i : Int), (i : Int) + 1)) = ((List.range (m - 1).toNat).map fun i : Nat => ((i : Int), (i : Int) + 1)).map pT := by rw [List.map_map]; rfl
  rw [es] at hsteps
  generalize hsp : ((List.range (m - 1).toNat).map fun i : Nat => ((i : Int), (i : Int) + 1)) = sp at hsteps
  have hspl : sp.length ≤ 6 := by rw [← hsp, List.length_map, List.length_range]; omega
  have hspw : ∀ p ∈ sp, Wok m p := fun p hp => by
    rw [← hsp] at hp
    obtain ⟨i, hi, rfl⟩ := List.mem_map.mp hp
    have := List.mem_range.mp hi
    exact ⟨by show (0 : Int) ≤ (i : Int); omega, by show (i : Int) < m; omega, by show (0 : Int) ≤ (i : Int) + 1; omega, by show (i : Int) + 1 < m; omega, by show ¬ (i : Int) = (i : Int) + 1; omega⟩
  refine q_asgN hsteps (Ex.refl F) g12.le fun S ss F3 H3 g3 f3 hS0 hS hsr => ?_
  show tSeq _ _ _ [some (.ref h), some (.int kd), some (.int m), some (.ref S), none] H3
  have nS : ¬ At h S := hh2.ne hS0
  have hss := hsr.len
  rw [List.length_map] at hss
  have gS := (g12.trans g3.widen).freeze (g12.fresh hS0) hS f3
  have hhS : HdAt (upd F3 S (.lst ss)) H3 h := (hh2.gw g3).frz (fun z => nS z.symm) f3
  have hrS : Rp (upd F3 S (.lst ss)) (.lst (sp.map pT)) (.ref S) := .lst_i upd_same (by omega) (hsr.mono (Ex.new f3) _ _)
  generalize hFS : upd F3 S (.lst ss) = FS at gS hhS hrS
  have tail : ∀ (H4 : Hp) (ps : List (Int × Int)) (v : V) (F4 : Hp), Gw (At h) F H F4 H4 → HdAt F4 H4 h → Rp F4 (.lst (ps.map pT)) v → ps.length ≤ 20 → (∀ p ∈ ps, Wok m p) → spBoth [v] H4 (fun x H1 => ∃ p ys, [x] = [V.ref p] ∧ ((SqL K H1 p ys ∧ ∀ l, H1 l = none → 2 ≤ sizeLine ∧ ∀ r, (upd H1 l (.tup ys)) r = none → Q (.ref r) (upd (upd H1 l (.tup ys)) r (.tup [.int m, .ref l]))) ∨ (SqT K H1 p ys ∧ 2 ≤ sizeLine ∧ ∀ r, H1 r = none → Q (.ref r) (upd H1 r (.tup [.int m, .ref p]))))) E :=
    fun H4 ps v F4 g4 hh4 hv hl hw => ⟨F4, v, ps, rfl, g4.le, hv, hl, fun p hp => by have := hw p hp; unfold Wok at this; omega, fun F5 H5 D us qs g5 f5 hD0 hD hrr hpw hqq => ⟨D, us, rfl, .inl ⟨sq_of hD, fun p hp => ⟨by decide, fun r hr' => web_fin (g4.trans g5.widen) (hh4.gw g5) hrr (by
      have z1 := hrr.len
      have z2 : qs.length ≤ 2 * ps.length := by
        have := nodup_sub_len (ys := ps ++ ps.map fun p => (p.2, p.1)) (plt_nodup hpw) (fun q hq => by
          rcases hqq q hq with z | z
          · exact List.mem_append_left _ z
          · exact List.mem_append_right _ (List.mem_map.mpr ⟨_, z, rfl⟩))
        rw [List.length_append, List.length_map] at this
        omega
      rw [List.length_map] at z1
      omega) hp hr' fun F6 H6 r g6 hh6 hW => q F6 H6 r m qs g6 hh6 hW ⟨by omega, by omega, hpw, wok_sym hw hqq, by
      have z2 : qs.length ≤ 2 * ps.length := by
        have := nodup_sub_len (ys := ps ++ ps.map fun p => (p.2, p.1)) (plt_nodup hpw) (fun q hq => by
          rcases hqq q hq with z | z
          · exact List.mem_append_left _ z
          · exact List.mem_append_right _ (List.mem_map.mpr ⟨_, z, rfl⟩))
        rw [List.length_append, List.length_map] at this
        omega
      omega⟩⟩⟩⟩⟩
  have e31 := gS.le
  have kdi : ∀ j : Int, EvT (tTest (tOp rEq (tVar 1) (tC (.int j)))) [some (.ref h), some (.int kd), some (.int m), some (.ref S), none] FS (decide (kd = j)) := fun j => et_is (et_test (ev_op (x := .int kd) (y := .int j) (ev_var rfl) ev_c (rv_eq rfl))) (decide_eq_decide.mpr ⟨fun z => V.int.inj z, fun z => by rw [z]⟩)
  refine q_when (EvT.mono e31 (kdi 0)) (fun hb H4 e4 => ?_) (fun hb H4 e4 => ?_)
  · refine ⟨_, rfl, ?_⟩
    have hub := en_lcN (F := FS) (σ := [some (.ref h), some (.int kd), some (.int m), some (.ref S), none]) (vs := [4]) (j := 4) (te := tTup (tCons (tC (.int 0)) (tCons (tVar 4) tNil))) (walk_range (lo := 1) (n := (m - 1).toNat)) (evi_r2 (ta := tCons (tC (.int 1)) (tCons (tVar 2) tNil)) (ea_cons ev_c (ea_cons (ev_var rfl) ea_nil)) (by omega) (by omega) (by omega) (by omega)) (fun _ _ => trivial) (fun i H x H' _ y => by rw [y.1]; exact Ex.refl H) (fun _ => rfl) (by omega) (fun i => pT (0, 1 + (i : Int))) (fun i x H1 H' hi e y => by
      have hx : x = .int (1 + (i : Int)) := y.2
      subst hx
      exact eg_tup (ea_cons ev_c (ea_cons (ev_var rfl) ea_nil)) ⟨_, _, rfl, rfl, _, _, rfl, rfl, rfl⟩ (by show 2 ≤ 60; decide))
    have eh : ((List.range (m - 1).toNat).map fun i : Nat => pT (0, 1 + (i : Int))) = ((List.range (m - 1).toNat).map fun i : Nat => ((0 : Int), 1 + (i : Int))).map pT := by rw [List.map_map]; rfl
    rw [eh] at hub
    refine nCons (nCB (nCons (nCall (nCons ?_))))
    refine hub FS H4 (Ex.refl FS) (e31.trans e4) _ fun D us F5 H5 g5 f5 hD0 hD hr5 => ?_
    have nD : ¬ At h D := (hhS.ext e4).ne hD0
    have hul := hr5.len
    rw [List.length_map, List.length_map, List.length_range] at hul
    exact tail _ _ (.ref D) _ (((gS.ext e4).trans g5.widen).freeze ((gS.ext e4).fresh hD0) hD f5) (((hhS.ext e4).gw g5).frz (fun z => nD z.symm) f5) (.lst_i upd_same (by omega) (hr5.mono (Ex.new f5) _ _)) (by rw [List.length_map, List.length_range]; omega) fun p hp => by
      obtain ⟨i, hi, rfl⟩ := List.mem_map.mp hp
      have := List.mem_range.mp hi
      exact ⟨by show (0 : Int) ≤ 0; decide, by show (0 : Int) < m; omega, by show (0 : Int) ≤ 1 + (i : Int); omega, by show 1 + (i : Int) < m; omega, by show ¬ (0 : Int) = 1 + (i : Int); omega⟩
  refine q_when (EvT.mono (e31.trans e4) (kdi 1)) (fun hb H5 e5 => ?_) (fun hb H5 e5 => ?_)
  · refine ⟨_, rfl, _, rfl, ?_⟩
    exact tail H5 sp _ FS ((gS.ext e4).ext e5) ((hhS.ext e4).ext e5) hrS (by omega) hspw
  refine q_when (EvT.mono ((e31.trans e4).trans e5) (kdi 2)) (fun hb H6 e6 => ?_) (fun hb H6 e6 => ?_)
  · refine ⟨_, rfl, _, rfl, _, rfl, m, 1, rfl, rfl, by show 2 ≤ sizeLine; decide, fun p hp => ⟨by show 1 ≤ sizeLine; decide, fun l hl => ?_⟩⟩
    have e6' := ((e31.trans e4).trans e5).trans e6
    have gB := ((gS.ext e4).ext e5).ext e6
    have hB := ((hhS.ext e4).ext e5).ext e6
    have fp := fresh_back e6' hp
    have g7 := (gB.alloc (o := .tup [.int 0, .int (m - 1)]) hp).put (o := .lst [.ref p]) hl
    have hS6 : H6 S = some (.lst ss) := e6 _ _ (e5 _ _ (e4 _ _ hS))
    have hS7 : upd (upd H6 p (.tup [.int 0, .int (m - 1)])) l (.lst [.ref p]) S = some (.lst ss) := (Ex.new hl) _ _ ((Ex.new hp) _ _ hS6)
    refine ⟨S, l, ss, [.ref p], rfl, rfl, hS7, upd_same, sz_of (by show ss.length + 1 ≤ 100000; omega), fun c hc => ?_⟩
    have g8 := g7.put (o := .lst (ss ++ [.ref p])) hc
    have h8 := ((hB.alloc hp fp).new (o := .lst [.ref p]) hl).new (o := .lst (ss ++ [.ref p])) hc
    have fc := g7.ffree hc
    have nc : ¬ At h c := ((hB.alloc hp fp).new (o := .lst [.ref p]) hl).ne hc
    have hrS' : Rps FS (sp.map pT) ss := by
      obtain ⟨a, vs, z1, z2, _, z3⟩ := hrS
      obtain rfl : S = a := V.ref.inj z1
      rw [gS.le _ _ z2] at hS
      cases hS
      exact z3
    have hrr : Rps (upd FS p (.tup [.int 0, .int (m - 1)])) ((sp ++ [(0, m - 1)]).map pT) (ss ++ [.ref p]) := by
      rw [List.map_append]
      exact (hrS'.mono (Ex.new fp) _ _).app (.one (rp_pT upd_same))
    exact tail _ (sp ++ [(0, m - 1)]) (.ref c) _ (g8.freeze (g7.fresh hc) upd_same fc) (h8.frz (fun z => nc z.symm) fc) (.lst_i upd_same (by rw [List.length_append]; show ss.length + 1 ≤ 60; omega) (hrr.mono (Ex.new fc) _ _)) (by rw [List.length_append]; show sp.length + 1 ≤ 20; omega) fun q hq => by
      rcases List.mem_append.mp hq with z | z
      · exact hspw q z
      · rw [List.mem_singleton.mp z]
        exact ⟨by show (0 : Int) ≤ 0; decide, by show (0 : Int) < m; omega, by show (0 : Int) ≤ m - 1; omega, by show m - 1 < m; omega, by show ¬ (0 : Int) = m - 1; omega⟩
  · have e6' := ((e31.trans e4).trans e5).trans e6
    have gB := ((gS.ext e4).ext e5).ext e6
    have hB := ((hhS.ext e4).ext e5).ext e6
    exact ⟨_, rfl, FS, h, 6, rfl, e6', hB, by decide, by decide, fun F' H' r m ws g hh' hw hok => q F' H' r m ws (gB.trans g) hh' hw hok⟩
end
end GD

/-! ## Shuffles, sights drawn -/
namespace GD
open PySem L2 Evl G SQ
def spShuf : Sp := fun vs H Q _ => ∃ F h a ns, vs = [.ref h, .ref a] ∧ Ex F H ∧ HdAt F H h ∧ H a = some (.lst (List.map V.int ns)) ∧ ns.length ≤ 60 ∧
  ∀ H' D ms, Gw (At h) F H F H' → HdAt F H' h → H D = none → H' D = some (.lst (List.map V.int ms)) → ms.Perm ns → Q (.ref D) H'
def spSightsL : Sp := fun vs H Q _ => ∃ F h m many, vs = [.ref h, .int m, .int many] ∧ Ex F H ∧ HdAt F H h ∧ 1 ≤ m ∧ m ≤ 7 ∧ 1 ≤ many ∧ many ≤ 4 ∧
  ∀ F' H' v ps, Gw (At h) F H F' H' → HdAt F' H' h → Rp F' (.lst (List.map pT ps)) v → Ps m ps → Q v H'
theorem erase_perm {α : Type} : ∀ {xs : List α} {k : Nat} {y : α}, xs[k]? = some y → (y :: xs.eraseIdx k).Perm xs
  | x :: xs, 0, y, h => by
    simp at h
    subst h
    exact List.Perm.refl _
  | x :: xs, k + 1, y, h => by
    have h' : xs[k]? = some y := by simpa using h
    rw [List.eraseIdx_cons_succ]
    exact (List.Perm.swap x y _).trans ((erase_perm h').cons x)
theorem erase_map {α β : Type} (f : α → β) : ∀ (xs : List α) (k : Nat), (xs.map f).eraseIdx k = (xs.eraseIdx k).map f
  | [], _ => rfl
  | x :: xs, 0 => rfl
  | x :: xs, k + 1 => by
    rw [List.map_cons, List.eraseIdx_cons_succ, List.eraseIdx_cons_succ, List.map_cons, erase_map f xs k]
theorem Rps.mk {F : Hp} : ∀ {ts : List T} {vs : List V}, ts.length = vs.length → (∀ (i : Nat) t v, ts[i]? = some t → vs[i]? = some v → Rp F t v) → Rps F ts vs
  | [], [], _, _ => rfl
  | [], _ :: _, h, _ => by simp at h
  | _ :: _, [], h, _ => by simp at h
  | t :: ts, v :: vs, h, k => ⟨v, vs, rfl, k 0 t v rfl rfl, Rps.mk (by simpa using h) fun i t v h1 h2 => k (i + 1) t v (by simpa using h1) (by simpa using h2)⟩
def frzs (Ts : List Addr) (F H : Hp) : Hp := fun a => if a ∈ Ts then H a else F a
theorem Gw.freezes {M : Addr → Prop} {F H F1 H1 : Hp} {Ts : List Addr} (g : Gw M F H F1 H1) (h : ∀ a ∈ Ts, H a = none ∧ F1 a = none) : Gw M F H (frzs Ts F1 H1) H1 := by
  refine ⟨g.up, g.dom, fun a o e => ?_, fun a o e => ?_, fun a e1 e2 => ?_⟩
  · have e1 := g.fle a o e
    unfold frzs
    rw [if_neg (fun z => by rw [(h a z).2] at e1; cases e1)]
    exact e1
  · unfold frzs at e
    by_cases z : a ∈ Ts
    · rw [if_pos z] at e; exact e
    · rw [if_neg z] at e; exact g.le a o e
  · unfold frzs
    rw [if_neg (fun z => e1 (h a z).1)]
    exact g.new a e1 e2
theorem HdAt.frzs {F H : Hp} {h : Addr} {Ts : List Addr} (g : HdAt F H h) (hn : h ∉ Ts) (hf : ∀ a ∈ Ts, F a = none) : HdAt (frzs Ts F H) H h := by
  obtain ⟨h0, c, cells, i, n, r, z, h1, h2, h3⟩ := g
  refine ⟨by unfold GD.frzs; rw [if_neg hn]; exact h0, c, cells, i, n, r, z, h1, ?_, h3⟩
  unfold GD.frzs
  rw [if_neg (fun z => by rw [hf _ z] at h2; cases h2)]
  exact h2
section
variable {P : Program} {w : World} {K : PySem.W.Frag} {mg : Str → Option Value} {base : Heap}
theorem ok_L_shuffled (T : TX K mg) : FnOk P w K mg base CX0 2 (a_L_shuffled K) (fdOf K (a_L_shuffled K)) ["_law_hand_here", "_law_things"] spShuf := by
  have G_L_draw := ok_L_draw (P := P) (w := w) (base := base) T
  refine T.f_L_shuffled.ok sc_L_shuffled (fun vs H Q E ⟨F, h, a, ns, e, _⟩ => by rw [e]; rfl) (fun cdv A outer s H vs Q E hr ⟨F, h, a, ns, e, hF, hh, ha, hl, q⟩ => ?_)
  subst e
  refine ⟨_, PSs.nox (pss_cons (ps_asg (pe_callTy call_list_of (by rfl) T.z_list (by decide +kernel) (pa_cons (pv 1) pa_nil)) (pg_name (i := 2) sc_L_shuffled.nd rfl (.inl rfl))) (
    pss_cons (ps_asg (pe_lst pa_nil) (pg_name (i := 3) sc_L_shuffled.nd rfl (.inl rfl))) (
    pss_cons (ps_while PassesOwn.never (pt_cmpR op_gt (pe_callB call_len_seq (by rfl) T.z_len PySem.boot_len (pa_cons (pv 2) pa_nil)) pe_int (nomark _)) (pss_one (ps_expr (pe_bm PySem.F.plainAttrs_list PySem.F.slot_list_append PySem.F.type_list_append mt_append (pv 3) (pa_cons (pe_bm PySem.F.plainAttrs_list PySem.F.slot_list_pop PySem.F.type_list_pop mt_popAt (pv 2) (pa_cons (pe_call G_L_draw (hr.mono (by decide)) rfl T.g_L_draw T.f_L_draw.kp T.b_L_draw .nil pass0 (pa_cons (pv 0) (pa_cons (pe_callB call_len_seq (by rfl) T.z_len PySem.boot_len (pa_cons (pv 2) pa_nil)) pa_nil))) pa_nil)) pa_nil))))) (
    pss_one (ps_ret (pv 3)))))), ?_⟩
  refine ⟨_, rfl, a, _, rfl, .inl (sq_of ha), fun L hL => ?_⟩
  refine gN ?_
  dsimp only
  have h1 := hh.new (o := .lst (ns.map V.int)) hL
  have g1 := (Gw.refl (M := At h) hF).put (o := .lst (ns.map V.int)) hL
  refine q_asgL (el_lst ea_nil (by decide)) fun D H1 hD e1 hH1 => ?_
  have hL1 := e1 _ _ (upd_same (H := H) (a := L) (o := .lst (ns.map V.int)))
  have hD0 : H D = none := g1.fresh hD
  have nLD : L ≠ D := fun z => by rw [z, upd_same] at hD; cases hD
  have fL := fresh_back hF hL
  have fD := fresh_back hF hD0
  refine q_while (fun k σ' H' => ∃ ls fs, σ' = [some (.ref h), some (.ref a), some (.ref L), some (.ref D)] ∧ Gw (At h) F H F H' ∧ HdAt F H' h ∧ H' L = some (.lst (List.map V.int ls)) ∧ H' D = some (.lst (List.map V.int fs)) ∧ (fs ++ ls).Perm ns ∧ k = ls.length) ns.length ⟨ns, [], rfl, g1.ext e1, h1.ext e1, hL1, hH1, List.Perm.refl _, rfl⟩ fun k σ' H2 ⟨ls, fs, e, g, hh2, hL2, hD2, hpm, hk⟩ => ?_
  subst e hk
  have hsz := hpm.length_eq
  rw [List.length_append] at hsz
  refine ⟨decide (((ls.map V.int).length : Int) > 0), et_test (ev_op (ev_lenSq (k := true) (ev_var rfl) (sq_of hL2)) ev_c rv_I0), fun hb H3 e3 => ?_, fun hb H3 e3 => ?_⟩
  · have hpos : 0 < ls.length := by
      have := of_decide_eq_true hb
      rw [List.length_map] at this
      omega
    refine ⟨fun σ' H' => ∃ ls' fs', σ' = [some (.ref h), some (.ref a), some (.ref L), some (.ref D)] ∧ Gw (At h) F H F H' ∧ HdAt F H' h ∧ H' L = some (.lst (List.map V.int ls')) ∧ H' D = some (.lst (List.map V.int fs')) ∧ (fs' ++ ls').Perm ns ∧ ls'.length < ls.length, fun σ2 H' ⟨ls', fs', z1, z2, z3, z4, z5, z6, z7⟩ => ⟨_, z7, ls', fs', z1, z2, z3, z4, z5, z6, rfl⟩, ?_⟩
    have hL3 := e3 _ _ hL2
    have hD3 := e3 _ _ hD2
    refine ⟨_, rfl, .inl ⟨rfl, _, sq_of hD3⟩, _, rfl, .inl ⟨rfl, _, sq_of hL3⟩, _, rfl, _, rfl, L, _, rfl, .inl (sq_of hL3), ?_⟩
    refine ⟨F, h, ((ls.map V.int).length : Nat), rfl, g.le.trans e3, hh2.ext e3, by rw [List.length_map]; omega, by rw [List.length_map]; omega, fun d H4 d0 d1 g4 hh4 => ?_⟩
    rw [List.length_map] at d1
    have nL : ¬ At h L := hh.ne hL
    have nD : ¬ At h D := hh.ne hD0
    have hL4 := g4.up L _ nL hL3
    have hD4 := g4.up D _ nD hD3
    obtain ⟨j, rfl⟩ := Int.eq_ofNat_of_zero_le d0
    have hj : j < ls.length := by omega
    refine ⟨L, _, (j : Int), j, .int ls[j], rfl, rfl, hL4, by omega, by omega, ?_, by simp [hj], ?_⟩
    · rw [List.length_map]
      unfold seqIndex?
      have h1 : ¬ ((j : Int) < 0) := by omega
      simp [h1, hj]
    have gA := ((g.ext e3).trans g4).mut (p := L) (o := .lst ((ls.map V.int).eraseIdx j)) fL (.inl hL)
    refine ⟨D, _, .int ls[j], rfl, rfl, by rw [upd_ne nLD.symm]; exact hD4, sz_lt (by rw [List.length_map]; omega), ls.eraseIdx j, fs ++ [ls[j]], rfl, gA.mut fD (.inl hD0), (hh4.set (fun z => nL z.symm)).set (fun z => nD z.symm), ?_, ?_, ?_, ?_⟩
    · rw [upd_ne nLD, upd_same, erase_map]
    · rw [upd_same, List.map_append]
      rfl
    · rw [List.append_assoc]
      exact ((erase_perm (List.getElem?_eq_getElem hj)).append_left fs).trans hpm
    · rw [List.length_eraseIdx, if_pos hj]
      omega
  · have : ls = [] := by
      have := of_decide_eq_false hb
      rw [List.length_map] at this
      exact List.length_eq_zero_iff.mp (by omega)
    subst this
    rw [List.append_nil] at hpm
    exact ⟨_, rfl, q H3 D fs (g.ext e3) (hh2.ext e3) hD0 (e3 _ _ hD2) hpm⟩
theorem ok_L_sights (T : TX K mg) : FnOk P w K mg base CX0 3 (a_L_sights K) (fdOf K (a_L_sights K)) ["_law_hand_here", "_law_machines", "_law_many"] spSightsL := by
  have G_L_shuffled := ok_L_shuffled (P := P) (w := w) (base := base) T
  refine T.f_L_sights.ok sc_L_sights (fun vs H Q E ⟨F, h, m, many, e, _⟩ => by rw [e]; rfl) (fun cdv A outer s H vs Q E hr ⟨F, h, m, many, e, hF, hh, m1, m7, k1, k4, q⟩ => ?_)
  subst e
  refine ⟨_, PSs.nox (pss_cons (ps_asg (pe_call G_L_shuffled (hr.mono (by decide)) rfl T.g_L_shuffled T.f_L_shuffled.kp T.b_L_shuffled .nil pass0 (pa_cons (pv 0) (pa_cons (pe_listRg rfl rfl T.z_list (prg_1 rfl T.z_range (pv 1))) pa_nil))) (pg_name (i := 3) sc_L_sights.nd rfl (.inl rfl))) (
    pss_cons (ps_asg (pe_call G_L_shuffled (hr.mono (by decide)) rfl T.g_L_shuffled T.f_L_shuffled.kp T.b_L_shuffled .nil pass0 (pa_cons (pv 0) (pa_cons (pe_listRg rfl rfl T.z_list (prg_1 rfl T.z_range (pv 1))) pa_nil))) (pg_name (i := 4) sc_L_sights.nd rfl (.inl rfl))) (
    pss_one (ps_ret (pe_slice sl_list (pe_listZip rfl rfl T.z_list rfl T.z_zip (pa_cons (pv 3) (pa_cons (pv 4) pa_nil))) po_none (po_some (pv 2))))))), ?_⟩
  have erg : rgV 0 m = ((List.range m.toNat).map fun i : Nat => (0 : Int) + (i : Int)).map V.int := by
    unfold rgV
    rw [List.map_map, Int.sub_zero]
    rfl
  generalize hrg : ((List.range m.toNat).map fun i : Nat => (0 : Int) + (i : Int)) = rg at erg
  have rgl : rg.length = m.toNat := by rw [← hrg, List.length_map, List.length_range]
  have rgn : rg.Nodup := by
    rw [← hrg]
    refine List.Pairwise.map _ (fun a b (z : a ≠ b) e => z (by omega)) (List.nodup_iff_pairwise_ne.mp List.nodup_range)
  have rgw : ∀ x ∈ rg, 0 ≤ x ∧ x < m := fun x hx => by
    rw [← hrg] at hx
    obtain ⟨i, hi, rfl⟩ := List.mem_map.mp hx
    have := List.mem_range.mp hi
    omega
  refine ⟨_, rfl, _, rfl, m, rfl, .of_le (by decide) (by omega) (by decide) (by omega), fun q1 hq1 => ?_⟩
  rw [erg]
  refine ⟨F, h, q1, rg, rfl, hF.trans (Ex.new hq1), hh.new hq1, upd_same, by omega, fun H1 D1 ws g1 hh1 hD1 hD1' pm1 => ?_⟩
  refine gN ?_
  dsimp only
  have gA := ((Gw.refl (M := At h) hF).put (o := .lst (rg.map V.int)) hq1).trans g1
  refine ⟨_, rfl, _, rfl, m, rfl, .of_le (by decide) (by omega) (by decide) (by omega), fun q2 hq2 => ?_⟩
  rw [erg]
  refine ⟨F, h, q2, rg, rfl, gA.le.trans (Ex.new hq2), hh1.new hq2, upd_same, by omega, fun H2 D2 ss g2 hh2 hD2 hD2' pm2 => ?_⟩
  refine gN ?_
  dsimp only
  have gB := (gA.put (o := .lst (rg.map V.int)) hq2).trans g2
  have nD1 : ¬ At h D1 := fun z => by
    have := (hh.new (o := .lst (rg.map V.int)) hq1).ne hD1
    exact this z
  have hD1'' : H2 D1 = some (.lst (ws.map V.int)) := g2.up D1 _ nD1 ((Ex.new hq2) _ _ hD1')
  have wl : ws.length = m.toNat := by rw [pm1.length_eq, rgl]
  have sl : ss.length = m.toNat := by rw [pm2.length_eq, rgl]
  refine ⟨_, rfl, _, rfl, true, true, D1, D2, _, _, rfl, sq_of hD1'', sq_of hD2', sz_lt (by rw [List.length_map, List.length_map]; omega), fun p Ts H3 hp e3 hp3 pa tl => ?_⟩
  refine ⟨_, rfl, many, rfl, p, _, rfl, sq_of hp3, fun r hr' => ?_⟩
  have hcut : cutV (Ts.map V.ref) none (some many) = (Ts.map V.ref).take many.toNat := by
    have : many = ((many.toNat : Nat) : Int) := by omega
    rw [this, cut_to]
    rfl
  rw [hcut]
  have tl' : Ts.length = m.toNat := by rw [tl, List.length_map, List.length_map, wl, sl, Nat.min_self]
  have g3 := (gB.ext e3).freezes (Ts := Ts) fun a ha => by
    obtain ⟨i, hi⟩ := List.mem_iff_getElem?.mp ha
    have z := (pa.it i a hi).1
    exact ⟨gB.fresh z, gB.ffree z⟩
  have hh3 := (hh2.ext e3).frzs (Ts := Ts) (fun z => by
    obtain ⟨i, hi⟩ := List.mem_iff_getElem?.mp z
    exact hh2.some (pa.it i h hi).1) fun a ha => by
    obtain ⟨i, hi⟩ := List.mem_iff_getElem?.mp ha
    exact gB.ffree (pa.it i a hi).1
  have fr := g3.ffree hr'
  refine q _ _ (.ref r) ((ws.zip ss).take many.toNat) (g3.alloc hr') (hh3.alloc hr' fr) (.lst_i upd_same (by rw [List.length_take, List.length_map]; omega) (Rps.mono (Ex.new fr) _ _ ?_)) ⟨?_, ?_, ?_, ?_, ?_⟩
  · refine Rps.mk ?_ fun i t v z1 z2 => ?_
    · rw [List.length_map, List.length_take, List.length_take, List.length_map, List.length_zip, wl, sl, tl', Nat.min_self]
    · rw [List.getElem?_map, List.getElem?_take] at z1
      rw [List.getElem?_take] at z2
      by_cases hi : i < many.toNat
      · rw [if_pos hi] at z1 z2
        rw [List.getElem?_map] at z2
        cases hT : Ts[i]? with
        | none => rw [hT] at z2; cases z2
        | some t0 =>
          rw [hT] at z2
          cases z2
          obtain ⟨_, x, y, y1, y2, y3⟩ := pa.it i t0 hT
          rw [List.getElem?_map] at y1 y2
          cases hw : ws[i]? with
          | none => rw [hw] at y1; cases y1
          | some x0 =>
            cases hs : ss[i]? with
            | none => rw [hs] at y2; cases y2
            | some y0 =>
              rw [hw] at y1
              rw [hs] at y2
              cases y1
              cases y2
              rw [(List.getElem?_zip_eq_some (z := (x0, y0))).mpr ⟨hw, hs⟩] at z1
              cases z1
              exact rp_pT (q := (x0, y0)) (by unfold GD.frzs; rw [if_pos (List.mem_of_getElem? hT)]; exact y3)
      · rw [if_neg hi] at z1
        cases z1
  · rw [List.length_take, List.length_zip]; omega
  · rw [List.length_take, List.length_zip]; omega
  · intro pq hpq
    obtain ⟨z1, z2⟩ := List.of_mem_zip (List.mem_of_mem_take hpq)
    have y1 := rgw _ (pm1.mem_iff.mp z1)
    have y2 := rgw _ (pm2.mem_iff.mp z2)
    omega
  · rw [List.map_take, List.map_fst_zip (by omega)]
    exact (pm1.nodup_iff.mpr rgn).sublist (List.take_sublist _ _)
  · rw [List.map_take, List.map_snd_zip (by omega)]
    exact (pm2.nodup_iff.mpr rgn).sublist (List.take_sublist _ _)
end
end GD

/-! ## What may be taken for good later -/
namespace GD
open PySem L2 Evl G SQ
/-- v reads as t once what stands at one new address is taken for good -/
def Cn (F H0 H : Hp) (t : T) (v : V) : Prop := Rp F t v ∨ ∃ a o, v = .ref a ∧ H0 a = none ∧ F a = none ∧ H a = some o ∧ ∀ F', Ex F F' → F' a = some o → Rp F' t v
def Cns (F H0 H : Hp) : List T → List V → Prop
  | [], vs => vs = []
  | t :: ts, vs => ∃ v vs', vs = v :: vs' ∧ Cn F H0 H t v ∧ Cns F H0 H ts vs'
def EvE (te : TE) (σ : L2.St) (F : Hp) (t : T) : Prop := ∀ H0 H1, Ex F H0 → Ex H0 H1 → ∀ Q : VK, (∀ v H2, Ex H1 H2 → Cn F H0 H2 t v → Q v H2) → te σ H1 Q
def EvEs (ta : TA) (σ : L2.St) (F : Hp) (ts : List T) : Prop := ∀ H0 H1, Ex F H0 → Ex H0 H1 → ∀ Q : List V → Hp → Prop, (∀ vs H2, Ex H1 H2 → Cns F H0 H2 ts vs → Q vs H2) → ta σ H1 Q
/-- a list or a tuple of these, new or one that stands for good -/
def EvS (te : TE) (σ : L2.St) (F : Hp) (k : Bool) (xs : List V) : Prop := ∀ H0 H1, Ex F H0 → Ex H0 H1 → ∀ Q : VK, (∀ a H2, Ex H1 H2 → H2 a = some (sqO k xs) → (H0 a = none ∨ F a = some (sqO k xs)) → Q (.ref a) H2) → te σ H1 Q
section
variable {K : PySem.W.Frag} {σ : L2.St} {F F' H H' H0 H1 : Hp} {ta tb te : TE} {t : T} {ts us : List T} {v : V} {vs ws xs ys : List V} {k : Bool} {M : Addr → Prop} {h : Addr}
theorem Cn.keep (c : Cn F H0 H t v) (hk : ∀ a o, H0 a = none → H a = some o → H' a = some o) : Cn F H0 H' t v := by
  rcases c with c | ⟨a, o, h1, h2, h3, h4, h5⟩
  · exact .inl c
  · exact .inr ⟨a, o, h1, h2, h3, hk a o h2 h4, h5⟩
theorem Cns.keep (hk : ∀ a o, H0 a = none → H a = some o → H' a = some o) : ∀ {ts : List T} {vs : List V}, Cns F H0 H ts vs → Cns F H0 H' ts vs
  | [], _, h => h
  | _ :: _, _, ⟨v, vs', e, h1, h2⟩ => ⟨v, vs', e, h1.keep hk, Cns.keep hk h2⟩
theorem Cns.len : ∀ {ts : List T} {vs : List V}, Cns F H0 H ts vs → ts.length = vs.length
  | [], _, h => by cases h; rfl
  | _ :: _, _, ⟨_, _, e, _, h⟩ => by rw [e, List.length_cons, List.length_cons, Cns.len h]
theorem Cns.at : ∀ {ts : List T} {vs : List V}, Cns F H0 H ts vs → ∀ {i : Nat} {v : V}, vs[i]? = some v → ∃ t, ts[i]? = some t ∧ Cn F H0 H t v
  | [], _, h, i, v, e => by cases h; simp at e
  | t :: ts, _, ⟨w, ws, e1, h1, h2⟩, 0, v, e => by subst e1; simp at e; subst e; exact ⟨t, rfl, h1⟩
  | t :: ts, _, ⟨w, ws, e1, h1, h2⟩, i + 1, v, e => by subst e1; simpa using Cns.at h2 (by simpa using e)
theorem Cns.app : ∀ {ts : List T} {vs : List V}, Cns F H0 H ts vs → Cns F H0 H us ws → Cns F H0 H (ts ++ us) (vs ++ ws)
  | [], _, h, k => by cases h; exact k
  | _ :: _, _, ⟨v, vs', e, h1, h2⟩, k => ⟨v, vs' ++ ws, by rw [e]; rfl, h1, Cns.app h2 k⟩
/-- taken for good -/
theorem Cn.take {F1 : Hp} (c : Cn F H0 H1 t v) (g : Gw M F1 H0 F H1) (hh : HdAt F H1 h) (hn : H0 h ≠ none) : ∃ F', Gw M F1 H0 F' H1 ∧ HdAt F' H1 h ∧ Ex F F' ∧ Rp F' t v := by
  rcases c with c | ⟨a, o, h1, h2, h3, h4, h5⟩
  · exact ⟨F, g, hh, Ex.refl F, c⟩
  · exact ⟨upd F a o, g.freeze h2 h4 h3, hh.frz (fun z => hn (by rw [z]; exact h2)) h3, Ex.new h3, h5 _ (Ex.new h3) upd_same⟩
theorem ee_val (h : Ev te σ F v) (ht : Rp F t v) : EvE te σ F t := fun H0 H1 e1 e2 Q q => h H1 (e1.trans e2) Q fun H2 e3 => q v H2 e3 (.inl ht)
theorem ees_nil : EvEs tNil σ F [] := fun _ H1 _ _ Q q => q [] H1 (Ex.refl H1) rfl
theorem ees_cons {tr : TA} (h : EvE te σ F t) (hr : EvEs tr σ F ts) : EvEs (tCons te tr) σ F (t :: ts) := fun H0 H1 e1 e2 Q q =>
  h H0 H1 e1 e2 _ fun v H2 e3 c => hr H0 H2 e1 (e2.trans e3) _ fun vs H3 e4 cs => q _ H3 (e3.trans e4) ⟨v, vs, rfl, c.keep fun a o _ z => e4 a o z, cs⟩
theorem ee_tup {ta : TA} {us : List V} (h : EvA ta σ F us) (ht : Rps F ts us) (hz : us.length ≤ 60) : EvE (tTup ta) σ F (.tup ts) := fun H0 H1 e1 e2 Q q =>
  h H1 (e1.trans e2) _ fun H2 e3 => ⟨sz_of (by omega), fun p hp => q _ _ (e3.trans (Ex.new hp)) (.inr ⟨p, _, rfl, fresh_back (e2.trans e3) hp, fresh_back ((e1.trans e2).trans e3) hp, upd_same, fun F' e4 e5 => .tup_i e5 hz (ht.mono e4 _ _)⟩)⟩
theorem ee_s (h : EvS te σ F k xs) (hr : Rps F ts xs) (hz : xs.length ≤ 60) : EvE te σ F (kT k ts) := fun H0 H1 e1 e2 Q q =>
  h H0 H1 e1 e2 Q fun a H2 e3 h2 hor => q _ H2 e3 (by
    have rd : ∀ F', Ex F F' → F' a = some (sqO k xs) → Rp F' (kT k ts) (.ref a) := fun F' e z => by
      cases k with
      | true => exact .lst_i z hz (hr.mono e _ _)
      | false => exact .tup_i z hz (hr.mono e _ _)
    rcases hor with z | z
    · exact .inr ⟨a, _, rfl, z, fresh_back e1 z, h2, rd⟩
    · exact .inl (rd F (Ex.refl F) z))
theorem sq_sqO {a : Addr} (h : F a = some (sqO k xs)) : Sq k K F a xs := by
  cases k with
  | true => exact sq_of h
  | false => exact st_of h
theorem es_val {a : Addr} (h : Ev te σ F (.ref a)) (hx : F a = some (sqO k xs)) : EvS te σ F k xs := fun H0 H1 e1 e2 Q q => h H1 (e1.trans e2) Q fun H2 e3 => q a H2 e3 ((e1.trans (e2.trans e3)) _ _ hx) (.inr hx)
/-- slices of tuples -/
theorem es_slA {tl th : TO} {a : Addr} {lo hi : Option Int} (h : Ev te σ F (.ref a)) (h1 : EvO tl σ F lo) (h2 : EvO th σ F hi) (hx : F a = some (.tup xs)) : EvS (tSl (rSlA K) te tl th) σ F false (cutV xs lo hi) := fun H0 H1 e1 e0 Q q =>
  h H1 (e1.trans e0) _ fun H2 e2 => h1 H2 ((e1.trans e0).trans e2) _ fun H3 e3 => h2 H3 (((e1.trans e0).trans e2).trans e3) _ fun H4 e4 => by
    have eF := (((e1.trans e0).trans e2).trans e3).trans e4
    refine ⟨a, xs, rfl, st_of (eF _ _ hx), fun hw => ?_, fun _ p hp => q p _ (((e2.trans e3).trans e4).trans (Ex.new hp)) upd_same (.inl (fresh_back (((e0.trans e2).trans e3).trans e4) hp))⟩
    have : cutV xs lo hi = xs := by unfold cutV; rw [hw.1, hw.2]; simp
    rw [this] at q
    exact q a H4 ((e2.trans e3).trans e4) (eF _ _ hx) (.inr hx)
/-- slices of lists or tuples -/
theorem es_sl {tl th : TO} {a : Addr} {lo hi : Option Int} (h : Ev te σ F (.ref a)) (h1 : EvO tl σ F lo) (h2 : EvO th σ F hi) (hx : F a = some (sqO k xs)) : EvS (tSl (fun x lo hi H Q => rSlL K x lo hi H Q ∨ rSlA K x lo hi H Q) te tl th) σ F k (cutV xs lo hi) := by
  cases k with
  | true => exact fun H0 H1 e1 e0 Q q => h H1 (e1.trans e0) _ fun H2 e2 => h1 H2 ((e1.trans e0).trans e2) _ fun H3 e3 => h2 H3 (((e1.trans e0).trans e2).trans e3) _ fun H4 e4 => .inl ⟨a, xs, rfl, sq_of (((((e1.trans e0).trans e2).trans e3).trans e4) _ _ hx), fun p hp => q p _ (((e2.trans e3).trans e4).trans (Ex.new hp)) upd_same (.inl (fresh_back (((e0.trans e2).trans e3).trans e4) hp))⟩
  | false => exact fun H0 H1 e1 e0 Q q => h H1 (e1.trans e0) _ fun H2 e2 => h1 H2 ((e1.trans e0).trans e2) _ fun H3 e3 => h2 H3 (((e1.trans e0).trans e2).trans e3) _ fun H4 e4 => .inr (by
      have eF := (((e1.trans e0).trans e2).trans e3).trans e4
      refine ⟨a, xs, rfl, st_of (eF _ _ hx), fun hw => ?_, fun _ p hp => q p _ (((e2.trans e3).trans e4).trans (Ex.new hp)) upd_same (.inl (fresh_back (((e0.trans e2).trans e3).trans e4) hp))⟩
      have : cutV xs lo hi = xs := by unfold cutV; rw [hw.1, hw.2]; simp
      rw [this] at q
      exact q a H4 ((e2.trans e3).trans e4) (eF _ _ hx) (.inr hx))
theorem es_catA (h : EvS ta σ F false xs) (h1 : EvS tb σ F false ys) (hz : xs.length + ys.length ≤ 60) : EvS (tOp (rCatA K) ta tb) σ F false (xs ++ ys) := fun H0 H1 e1 e0 Q q =>
  h H0 H1 e1 e0 _ fun a H2 e2 ha oa => h1 H0 H2 e1 (e0.trans e2) _ fun b H3 e3 hb ob =>
    ⟨a, b, xs, ys, rfl, rfl, st_of (e3 _ _ ha), st_of hb, sz_of (by omega), fun z => by subst z; exact q b H3 (e2.trans e3) hb ob, fun _ z => by
      subst z
      rw [List.append_nil] at q
      exact q a H3 (e2.trans e3) (e3 _ _ ha) oa, fun _ _ p hp => q p _ ((e2.trans e3).trans (Ex.new hp)) upd_same (.inl (fresh_back ((e0.trans e2).trans e3) hp))⟩
theorem es_cat (h : EvS ta σ F k xs) (h1 : EvS tb σ F k ys) (hz : xs.length + ys.length ≤ 60) : EvS (tOp (fun x y H Q => rCat x y H Q ∨ rCatA K x y H Q) ta tb) σ F k (xs ++ ys) := fun H0 H1 e1 e0 Q q =>
  h H0 H1 e1 e0 _ fun a H2 e2 ha oa => h1 H0 H2 e1 (e0.trans e2) _ fun b H3 e3 hb ob => by
    cases k with
    | true => exact .inl ⟨a, b, xs, ys, rfl, rfl, e3 _ _ ha, hb, sz_of (by omega), fun p hp => q p _ ((e2.trans e3).trans (Ex.new hp)) upd_same (.inl (fresh_back ((e0.trans e2).trans e3) hp))⟩
    | false => exact .inr ⟨a, b, xs, ys, rfl, rfl, st_of (e3 _ _ ha), st_of hb, sz_of (by omega), fun z => by subst z; exact q b H3 (e2.trans e3) hb ob, fun _ z => by
        subst z
        rw [List.append_nil] at q
        exact q a H3 (e2.trans e3) (e3 _ _ ha) oa, fun _ _ p hp => q p _ ((e2.trans e3).trans (Ex.new hp)) upd_same (.inl (fresh_back ((e0.trans e2).trans e3) hp))⟩
theorem es_tup {ta : TA} {us : List V} (h : EvA ta σ F us) (hz : us.length ≤ 60) : EvS (tTup ta) σ F false us := fun H0 H1 e1 e2 Q q =>
  h H1 (e1.trans e2) _ fun H2 e3 => ⟨sz_of (by omega), fun p hp => q _ _ (e3.trans (Ex.new hp)) upd_same (.inl (fresh_back (e2.trans e3) hp))⟩
theorem es_rev {a : Addr} (h : Ev te σ F (.ref a)) (hx : F a = some (sqO k xs)) : EvS (tRev K te) σ F k xs.reverse := fun H0 H1 e1 e2 Q q =>
  h H1 (e1.trans e2) _ fun H2 e3 => ⟨k, a, xs, rfl, sq_sqO ((e1.trans (e2.trans e3)) _ _ hx), fun p hp => q p _ (e3.trans (Ex.new hp)) upd_same (.inl (fresh_back (e2.trans e3) hp))⟩
theorem es_list {a : Addr} (h : Ev te σ F (.ref a)) (hx : F a = some (sqO k xs)) : EvS (tCB (rListS K) (tCons te tNil)) σ F true xs := fun H0 H1 e1 e2 Q q =>
  h H1 (e1.trans e2) _ fun H2 e3 => ⟨a, xs, rfl, sq_or (sq_sqO ((e1.trans (e2.trans e3)) _ _ hx)), fun p hp => q p _ (e3.trans (Ex.new hp)) upd_same (.inl (fresh_back (e2.trans e3) hp))⟩
end
end GD

/-! ## Things bent -/
namespace GD
open PySem L2 Evl G SQ
def flatT : T → Bool
  | .tup _ => false
  | .lst _ => false
  | .dic => false
  | _ => true
def Goods (t : T) : Prop := ∀ xs, T.tup xs ∈ items t → 2 ≤ xs.length → ∀ y ∈ xs, flatT y = true
def It8 (x : T) : Prop := ∃ xs, x = .tup xs ∧ xs.length ≤ 8 ∧ ∀ y ∈ xs, flatT y = true
def spBent : Sp := fun vs H Q _ => ∃ F h k ts v m, vs = [.ref h, v, .int m] ∧ Ex F H ∧ HdAt F H h ∧ Rp F (kT k ts) v ∧ ts.length ≤ 40 ∧ (∀ x ∈ ts, It8 x) ∧ 1 ≤ m ∧ m ≤ 7 ∧
  ∀ F' H' v' t', Gw (At h) F H F' H' → HdAt F' H' h → Rp F' t' v' → (k = true → Goods t') → Q v' H'
theorem kT_at {F : Hp} {k : Bool} {ts : List T} {v : V} (h : Rp F (kT k ts) v) : ∃ a vs, v = .ref a ∧ F a = some (sqO k vs) ∧ vs.length ≤ 60 ∧ Rps F ts vs := by
  cases k with
  | true => exact h
  | false => exact h
theorem goods_of {k : Bool} {ts : List T} (h : ∀ x ∈ ts, ∀ xs, x = .tup xs → 2 ≤ xs.length → ∀ y ∈ xs, flatT y = true) : Goods (kT k ts) := fun xs hx => h _ (by rw [kT_items] at hx; exact hx) xs rfl
theorem it8_good {x : T} (h : It8 x) : ∀ xs, x = .tup xs → 2 ≤ xs.length → ∀ y ∈ xs, flatT y = true := fun xs e _ => by
  obtain ⟨ys, e2, _, h3⟩ := h
  rw [e] at e2
  cases e2
  exact h3
theorem deep_good {t : T} (h : Deep t) : Goods t := fun xs hx h2 => by
  cases h with
  | tup hd =>
    have e : T.tup xs = _ := List.mem_singleton.mp hx
    rw [← e] at hd
    cases hd
    simp at h2
  | lst hd =>
    have e : T.tup xs = _ := List.mem_singleton.mp hx
    rw [← e] at hd
    cases hd
    simp at h2
  | _ => cases hx
theorem cut_cut (xs : List V) (i j : Nat) : cutV xs (some (i : Int)) (some (j : Int)) = (xs.drop (min i xs.length)).take (min j xs.length - min i xs.length) := by
  unfold cutV
  rw [HT.sIx_nat, HT.sIx_nat]
theorem cut_but (xs : List V) : cutV xs none (some (-1)) = xs.take (xs.length - 1) := by
  unfold cutV
  rw [HT.sIx_none, List.drop_zero, Nat.sub_zero]
  have : HT.sIx xs.length xs.length (some (-1)) = xs.length - 1 := by
    show (if (-1 : Int) < 0 then ((-1 : Int) + (xs.length : Int)).toNat else min (-1 : Int).toNat xs.length) = _
    rw [if_pos (by decide)]
    omega
  rw [this]
theorem Cns.gw {M : Addr → Prop} {F F' H0 H H' : Hp} (g : Gw M F H F' H') (hM : ∀ a, M a → H0 a ≠ none) : ∀ {ts : List T} {vs : List V}, Cns F H0 H ts vs → Cns F' H0 H' ts vs
  | [], _, h => h
  | _ :: _, _, ⟨v, vs', e, h1, h2⟩ => ⟨v, vs', e, by
    rcases h1 with c | ⟨a, o, h1, h2, h3, h4, h5⟩
    · exact .inl (c.mono g.fle _ _)
    · exact .inr ⟨a, o, h1, h2, g.new a (some_ne h4) h3, g.up a o (fun z => hM a z h2) h4, fun F2 e e2 => h5 F2 (g.fle.trans e) e2⟩, Cns.gw g hM h2⟩
section
variable {K : PySem.W.Frag} {σ : L2.St} {F F0 H H0 : Hp} {ta : TA} {ts : List T} {h : Addr} {Q : VK} {E : XK} {n : Nat}
/-- [..][draw(hand, n)], the items made -/
theorem rd_pick2 {H1 : Hp} {vs : List V} (h0 : σ[0]? = some (some (.ref h))) (hn : ts.length = n) (n0 : 0 < n) (n1 : n ≤ 60) (g : Gw (At h) F0 H0 F H1) (hh : HdAt F H1 h) (hs : H0 h ≠ none) (cs : Cns F H0 H1 ts vs)
    (k : ∀ v t F' H', t ∈ ts → Gw (At h) F0 H0 F' H' → HdAt F' H' h → Ex F F' → Rp F' t v → Q v H') : vs.length ≤ sizeLine ∧ ∀ l, H1 l = none → tCall spDraw [] E (tCons (tVar 0) (tCons (tC (.int (n : Nat))) tNil)) σ (upd H1 l (.lst vs)) fun y H2 => rIxL K (.ref l) y H2 Q :=
  ⟨sz_of (by rw [← cs.len]; omega), fun l hl => ⟨_, h0, F, h, (n : Nat), rfl, g.le.trans (Ex.new hl), hh.new hl, by omega, by omega, fun d H2 d0 d1 g2 hh2 => by
    have hl2 := g2.up l _ (hh.ne hl) (upd_same (H := H1) (a := l) (o := .lst vs))
    obtain ⟨j, rfl⟩ := Int.eq_ofNat_of_zero_le d0
    have hj : j < vs.length := by rw [← cs.len]; omega
    have cs2 : Cns F H0 H2 ts vs := (cs.keep fun a o _ z => (Ex.new hl) a o z).gw g2 fun a z => by rw [z]; exact hs
    obtain ⟨t, ht, c⟩ := cs2.at (List.getElem?_eq_getElem hj)
    refine ⟨l, vs, (j : Int), vs[j], rfl, rfl, sq_of hl2, atI_nat (List.getElem?_eq_getElem hj), ?_⟩
    obtain ⟨F', g3, hh3, e3, r3⟩ := c.take ((g.put (o := .lst vs) hl).trans g2) hh2 hs
    exact k _ t F' H2 (List.mem_of_getElem? ht) g3 hh3 e3 r3⟩⟩
/-- [..][draw(hand, n)] -/
theorem rd_pick (h0 : σ[0]? = some (some (.ref h))) (he : EvEs ta σ F ts) (hn : ts.length = n) (n0 : 0 < n) (n1 : n ≤ 60) (g : Gw (At h) F0 H0 F H) (hh : HdAt F H h)
    (k : ∀ v t F' H', t ∈ ts → Gw (At h) F0 H0 F' H' → HdAt F' H' h → Ex F F' → Rp F' t v → Q v H') : tOp (rIxL K) (tLst ta) (tCall spDraw [] E (tCons (tVar 0) (tCons (tC (.int (n : Nat))) tNil))) σ H Q :=
  he H H g.le (Ex.refl H) _ fun vs H1 e1 cs => rd_pick2 h0 hn n0 n1 ((Gw.refl (M := At h) g.le).ext e1) (hh.ext e1) hh.some cs fun v t F' H' ht g3 => k v t F' H' ht (g.trans g3)
end
section
variable {K : PySem.W.Frag} {σ : L2.St} {F H : Hp} {ta tb te : TE} {tl : TA} {g : TG} {tz : TS} {D : Ends} {Q : VK} {k : Bool} {v : V}
theorem nAsg (h : te σ H fun x H1 => g x σ H1 (tz D)) : tSeq (tAsg te g) tz D σ H := h
theorem nLst (h : tl σ H fun vs H1 => vs.length ≤ sizeLine ∧ ∀ p, H1 p = none → Q (.ref p) (upd H1 p (.lst vs))) : tLst tl σ H Q := h
theorem nEs {H0 : Hp} {ts : List T} {QA : List V → Hp → Prop} (he : EvEs tl σ F ts) (e0 : Ex F H0) (e : Ex H0 H) (k : ∀ vs H2, Ex H H2 → Cns F H0 H2 ts vs → QA vs H2) : tl σ H QA := he H0 H e0 e QA k
theorem ev_ixSq {a : Addr} {xs : List V} {i : Int} (ha : Ev ta σ F (.ref a)) (hx : Sq k K F a xs) (hb : Ev tb σ F (.int i)) (hi : atI xs i = some v) : Ev (tOp (fun x y H Q => rIxL K x y H Q ∨ rIxT K x y H Q) ta tb) σ F v := by
  cases k with
  | true => exact ev_op ha hb fun H1 e Q q => .inl ⟨a, xs, i, v, rfl, rfl, ex_l e hx, hi, q H1 (Ex.refl H1)⟩
  | false => exact ev_op ha hb fun H1 e Q q => .inr ⟨a, xs, i, v, rfl, rfl, ex_t e hx, hi, q H1 (Ex.refl H1)⟩
end
theorem kit_l {K : PySem.W.Frag} (t : T) : PySem.W.kitOne K (.type (tyT t)) (.type "list") = some (isL t) := by cases t <;> exact kit_ty (by simp only [tyT, isL]; decide +kernel)
section
variable {P : Program} {w : World} {K : PySem.W.Frag} {mg : Str → Option Value} {base : Heap}
theorem ok_L_bent (T : TX K mg) : FnOk P w K mg base CX0 3 (a_L_bent K) (fdOf K (a_L_bent K)) ["_law_hand_here", "_law_thing", "_law_machines"] spBent := by
  have G_L_draw := ok_L_draw (P := P) (w := w) (base := base) T
  have G_L_deep := ok_L_deep (P := P) (w := w) (base := base) T
  refine T.f_L_bent.ok sc_L_bent (fun vs H Q E ⟨F, h, k, ts, v, m, e, _⟩ => by rw [e]; rfl) (fun cdv A outer s H vs Q E hr ⟨F, h, k, ts, v, m, e, hF, hh, ht, hl, hi, m1, m7, q⟩ => ?_)
  subst e
  refine ⟨_, PSs.nox (pss_cons (ps_asg (pe_call G_L_draw (hr.mono (by decide)) rfl T.g_L_draw T.f_L_draw.kp T.b_L_draw .nil pass0 (pa_cons (pv 0) (pa_cons pe_int pa_nil))) (pg_name (i := 3) sc_L_bent.nd rfl (.inl rfl))) (
    pss_cons (ps_if (PW.pt (pw_or (pt_cmpR op_eq (pv 3) pe_int (nomark _)) (pw_or1 (pt_cmpR op_eq (pe_callB call_len_seq (by rfl) T.z_len PySem.boot_len (pa_cons (pv 1) pa_nil)) pe_int (nomark _))))) (pss_one (ps_ret (pe_ix ix_list (pe_lst (pa_cons pe_non (pa_cons pe_dnewK (pa_cons pe_int (pa_cons pe_str (pa_cons (pe_op op_cat (pe_callTy call_list_of (by rfl) T.z_list (by decide +kernel) (pa_cons (pv 1) pa_nil)) (pe_lst (pa_cons (pe_tup pa_nil) pa_nil))) (pa_cons (pe_lst (pa_cons (pv 1) pa_nil)) (pa_cons (pe_call G_L_deep (hr.mono (by decide)) rfl T.g_L_deep T.f_L_deep.kp T.b_L_deep .nil pass0 (pa_cons (pv 0) pa_nil)) (pa_cons (pe_tup (pa_cons pe_non pa_nil)) (pa_cons pe_bl pa_nil)))))))))) (pe_call G_L_draw (hr.mono (by decide)) rfl T.g_L_draw T.f_L_draw.kp T.b_L_draw .nil pass0 (pa_cons (pv 0) (pa_cons pe_int pa_nil))) (fun _ _ => rfl)))) pss_nil) (
    pss_cons (ps_asg (pe_call G_L_draw (hr.mono (by decide)) rfl T.g_L_draw T.f_L_draw.kp T.b_L_draw .nil pass0 (pa_cons (pv 0) (pa_cons (pe_callB call_len_seq (by rfl) T.z_len PySem.boot_len (pa_cons (pv 1) pa_nil)) pa_nil))) (pg_name (i := 4) sc_L_bent.nd rfl (.inl rfl))) (
    pss_cons (ps_if (pt_cmpR op_eq (pv 3) pe_int (nomark _)) (pss_one (ps_ret (pe_ix ix_list (pe_lst (pa_cons (pe_op (OpR.or op_cat op_catA) (pe_slice (SlR.or sl_list sl_tupA) (pv 1) po_none (po_some (pv 4))) (pe_slice (SlR.or sl_list sl_tupA) (pv 1) (po_some (pe_op op_add (pv 4) pe_int)) po_none)) (pa_cons (pe_op (OpR.or op_cat op_catA) (pv 1) (pe_slice (SlR.or sl_list sl_tupA) (pv 1) (po_some (pv 4)) (po_some (pe_op op_add (pv 4) pe_int)))) (pa_cons (pe_rev (pv 1)) pa_nil)))) (pe_call G_L_draw (hr.mono (by decide)) rfl T.g_L_draw T.f_L_draw.kp T.b_L_draw .nil pass0 (pa_cons (pv 0) (pa_cons pe_int pa_nil))) (fun _ _ => rfl)))) pss_nil) (
    pss_cons (ps_asg (pe_ix (IxR.or ix_list ix_tup) (pv 1) (pv 4) (fun _ _ => rfl)) (pg_name (i := 5) sc_L_bent.nd rfl (.inl rfl))) (
    pss_cons (ps_asg (pe_call G_L_draw (hr.mono (by decide)) rfl T.g_L_draw T.f_L_draw.kp T.b_L_draw .nil pass0 (pa_cons (pv 0) (pa_cons (pv 2) pa_nil))) (pg_name (i := 6) sc_L_bent.nd rfl (.inl rfl))) (
    pss_cons (ps_asg (pe_lst (pa_cons (pe_callTy call_list_of (by rfl) T.z_list (by decide +kernel) (pa_cons (pv 5) pa_nil)) (pa_cons (pe_slice sl_tupA (pv 5) po_none (po_some (pe_un un_neg pe_int))) (pa_cons (pe_op op_catA (pv 5) (pe_tup (pa_cons (pv 6) pa_nil))) (pa_cons (pe_op op_catA (pe_slice sl_tupA (pv 5) po_none (po_some (pe_un un_neg pe_int))) (pe_tup (pa_cons (pv 6) pa_nil))) (pa_cons (pe_op op_catA (pe_tup (pa_cons (pv 6) pa_nil)) (pe_slice sl_tupA (pv 5) (po_some pe_int) po_none)) (pa_cons pe_non (pa_cons (pe_rev (pv 5)) pa_nil)))))))) (pg_name (i := 7) sc_L_bent.nd rfl (.inl rfl))) (
    pss_cons (ps_asg (pe_op op_cat (pv 7) (pe_lst (pa_cons (pe_op op_catA (pe_tup (pa_cons pe_str pa_nil)) (pv 5)) (pa_cons (pe_slice sl_tupA (pv 5) po_none (po_some pe_int)) (pa_cons (pe_tup (pa_cons pe_str (pa_cons pe_bl pa_nil))) (pa_cons (pe_tup (pa_cons pe_str (pa_cons (pe_un un_neg pe_int) pa_nil))) (pa_cons (pe_tup (pa_cons pe_str (pa_cons (pv 6) (pa_cons pe_int pa_nil)))) pa_nil))))))) (pg_name (i := 7) sc_L_bent.nd rfl (.inl rfl))) (
    pss_cons (ps_expr (pe_bm PySem.F.plainAttrs_list PySem.F.slot_list_append PySem.F.type_list_append mt_append (pv 7) (pa_cons (pe_callTy call_tuple_of (by rfl) T.z_tuple (by decide +kernel) (pa_cons (pe_lc (own := [("_law_part", 9)]) (g := (gName 9)) (tt := tYes) rfl sc_L_bent.nd (pi_sq (pv 5)) (blkOk_by (own := [("_law_part", 9)]) (N := N_L_bent) (sc := defScope s_L_bent) (by decide +kernel)) (fun _ _ _ _ _ => (pg_name (i := 9) sc_L_bent.nd rfl (.inl rfl))) (fun _ _ _ _ _ => pts_nil) (fun _ _ _ _ _ => pe_bl)) pa_nil)) pa_nil))) (
    pss_cons (ps_asg (pe_callTy call_list_of (by rfl) T.z_list (by decide +kernel) (pa_cons (pv 1) pa_nil)) (pg_name (i := 8) sc_L_bent.nd rfl (.inl rfl))) (
    pss_cons (ps_asg (pe_ix ix_list (pv 7) (pe_call G_L_draw (hr.mono (by decide)) rfl T.g_L_draw T.f_L_draw.kp T.b_L_draw .nil pass0 (pa_cons (pv 0) (pa_cons pe_int pa_nil))) (fun _ _ => rfl)) (pg_sub (pv 8) (pv 4) set_list)) (
    pss_one (ps_ret (pe_ifExp (pt_val (pe_callB call_isi (by rfl) T.z_isinstance (by decide +kernel) (pa_cons (pv 1) (pa_cons (pe_bltn (v := .ty "list") (by rfl) T.z_list (by decide +kernel) rfl) pa_nil)))) (pv 8) (pe_callTy call_tuple_of (by rfl) T.z_tuple (by decide +kernel) (pa_cons (pv 8) pa_nil)))))))))))))))), ?_⟩
  obtain ⟨a, vs, rfl, h1, h2, h3⟩ := kT_at ht
  have hvl : vs.length = ts.length := h3.len.symm
  have s1 : Sq k K F a vs := sq_sqO h1
  refine ⟨_, rfl, F, h, 5, rfl, hF, hh, by decide, by decide, fun kd H1 k0 k1 g1 hh1 => ?_⟩
  refine gN ?_
  try dsimp only
  refine q_when (b := decide (kd = 0) || decide (vs.length = 0)) (EvT.mono g1.le (et_or (et_is (et_test (ev_op (x := .int kd) (y := .int 0) (ev_var rfl) ev_c (rv_eq rfl))) (decide_eq_decide.mpr ⟨fun z => V.int.inj z, fun z => by rw [z]⟩)) fun _ => et_is (et_test (ev_op (ev_lenSq (ev_var rfl) s1) ev_c (rv_eq rfl))) (decide_eq_decide.mpr ⟨fun z => by have := V.int.inj z; omega, fun z => by rw [z]; rfl⟩))) (fun _ H2 e2 => ?_) (fun hb H2 e2 => ?_)
  · have gA := g1.ext e2
    have hhA := hh1.ext e2
    intro d hd
    refine ⟨_, rfl, a, vs, rfl, sq_or (sq_sqO ((gA.le.trans (Ex.new hd)) _ _ (gA.fle _ _ h1))), fun l1 hl1 => ⟨Nat.zero_le _, fun t1 ht1 => ⟨by show 1 ≤ sizeLine; decide, fun l2 hl2 => ?_⟩⟩⟩
    have g3 := ((((gA.put (o := .dK []) hd).put (o := .lst vs) hl1).alloc (o := .tup []) ht1).put (o := .lst [.ref t1]) hl2)
    have x1 := (Ex.new (o := .lst [.ref t1]) hl2) _ _ ((Ex.new (o := .tup []) ht1) _ _ (upd_same (H := upd H2 d (.dK [])) (a := l1) (o := .lst vs)))
    refine ⟨l1, l2, vs, [.ref t1], rfl, rfl, x1, upd_same, sz_of (by show vs.length + 1 ≤ 100000; omega), fun l3 hl3 => ⟨_, rfl, by show 1 ≤ sizeLine; decide, fun l4 hl4 => ?_⟩⟩
    have f1 : F t1 = none := ((gA.put (o := .dK []) hd).put (o := .lst vs) hl1).ffree ht1
    have g4 := (g3.put (o := .lst (vs ++ [.ref t1])) hl3).put (o := .lst [.ref a]) hl4
    have hh4 := (((((hhA.new (o := .dK []) hd).new (o := .lst vs) hl1).alloc (o := .tup []) ht1 f1).new (o := .lst [.ref t1]) hl2).new (o := .lst (vs ++ [.ref t1])) hl3).new (o := .lst [.ref a]) hl4
    have d4 := (Ex.new (o := .lst [.ref a]) hl4) _ _ ((Ex.new (o := .lst (vs ++ [.ref t1])) hl3) _ _ ((Ex.new (o := .lst [.ref t1]) hl2) _ _ ((Ex.new (o := .tup []) ht1) _ _ ((Ex.new (o := .lst vs) hl1) _ _ (upd_same (H := H2) (a := d) (o := .dK []))))))
    have l34 := (Ex.new (o := .lst [.ref a]) hl4) _ _ (upd_same (H := upd (upd (upd (upd H2 d (.dK [])) l1 (.lst vs)) t1 (.tup [])) l2 (.lst [.ref t1])) (a := l3) (o := .lst (vs ++ [.ref t1])))
    have l44 := upd_same (H := upd (upd (upd (upd (upd H2 d (.dK [])) l1 (.lst vs)) t1 (.tup [])) l2 (.lst [.ref t1])) l3 (.lst (vs ++ [.ref t1]))) (a := l4) (o := .lst [.ref a])
    have hdH : H d = none := gA.fresh hd
    have hl3H : H l3 = none := g3.fresh hl3
    have hl4H : H l4 = none := (g3.put (o := .lst (vs ++ [.ref t1])) hl3).fresh hl4
    have fd : upd F t1 (.tup []) d = none := by
      have nd : d ≠ t1 := fun z => by
        rw [← z, upd_ne (fun z2 => by rw [← z2, upd_same] at hl1; cases hl1), upd_same] at ht1
        cases ht1
      rw [upd_ne nd]
      exact gA.ffree hd
    have fl3 := g3.ffree hl3
    have fl4 := (g3.put (o := .lst (vs ++ [.ref t1])) hl3).ffree hl4
    have eF1 : Ex F (upd F t1 (.tup [])) := Ex.new f1
    generalize upd (upd (upd (upd (upd (upd H2 d (.dK [])) l1 (.lst vs)) t1 (.tup [])) l2 (.lst [.ref t1])) l3 (.lst (vs ++ [.ref t1]))) l4 (.lst [.ref a]) = H4 at *
    generalize hF1 : upd F t1 (.tup []) = F1 at *
    have ft1 : F1 t1 = some (.tup []) := by rw [← hF1]; exact upd_same
    refine ⟨_, rfl, F1, h, rfl, g4.le, hh4, fun F' H' v7 t7 g5 hh5 r7 dp7 => ⟨by show 1 ≤ sizeLine; decide, fun t8 ht8 => ?_⟩⟩
    have nh : ∀ b, H b = none → ¬ At h b := fun b hb z => hh.some (by rw [← (show b = h from z)]; exact hb)
    have c1 : Cns F1 H H4 [GD.T.non, .dic, .int 0, .str "put", .lst (ts ++ [.tup []]), .lst [kT k ts]] [V.non, .ref d, .int 0, .str "put", .ref l3, .ref l4] :=
      ⟨_, _, rfl, .inl rfl, _, _, rfl, .inr ⟨d, _, rfl, hdH, fd, d4, fun F2 _ z => ⟨d, [], rfl, z⟩⟩, _, _, rfl, .inl rfl, _, _, rfl, .inl rfl,
        _, _, rfl, .inr ⟨l3, _, rfl, hl3H, fl3, l34, fun F2 e z => .lst_i z (by rw [List.length_append]; show vs.length + 1 ≤ 60; omega) ((h3.mono (eF1.trans e) _ _).app (.one (.tup_i (e _ _ ft1) (Nat.zero_le _) rfl)))⟩,
        _, _, rfl, .inr ⟨l4, _, rfl, hl4H, fl4, l44, fun F2 e z => .lst_i z (by show 1 ≤ 60; decide) (.one (ht.mono (eF1.trans e) _ _))⟩, rfl⟩
    have c2 := c1.gw g5 fun b z => by rw [z]; exact hh.some
    have c3 := c2.keep (H' := upd H' t8 (.tup [.non])) fun b o _ z => (Ex.new ht8) b o z
    have c4 : Cns F' H (upd H' t8 (.tup [.non])) [t7, .tup [.non], .bl true] [v7, .ref t8, .bl true] :=
      ⟨_, _, rfl, .inl r7, _, _, rfl, .inr ⟨t8, _, rfl, (g4.trans g5).fresh ht8, (g4.trans g5).ffree ht8, upd_same, fun F2 e z => .tup_i z (by show 1 ≤ 60; decide) (.one rfl)⟩, _, _, rfl, .inl rfl, rfl⟩
    refine rd_pick2 (n := 9) (vs := [V.non, .ref d, .int 0, .str "put", .ref l3, .ref l4, v7, .ref t8, .bl true]) rfl rfl (by decide) (by decide) ((g4.trans g5).put (o := .tup [.non]) ht8) (hh5.new ht8) hh.some (c3.app c4) fun v' t' F2 H5 hm g6 hh6 e6 r6 => q F2 H5 v' t' g6 hh6 r6 fun hk => ?_
    subst hk
    rcases List.mem_append.mp hm with z | z
    · simp only [List.mem_cons, List.not_mem_nil, or_false] at z
      rcases z with z | z | z | z | z | z <;> subst z
      · exact fun xs hx => by cases hx
      · exact fun xs hx => by cases hx
      · exact fun xs hx => by cases hx
      · exact fun xs hx => by cases hx
      · refine goods_of (k := true) fun x hx xs e h2 => ?_
        rcases List.mem_append.mp hx with z | z
        · exact it8_good (hi x z) xs e h2
        · rw [List.mem_singleton.mp z] at e
          cases e
          simp at h2
      · intro xs hx
        have e : GD.T.tup xs = kT true ts := List.mem_singleton.mp hx
        cases e
    · simp only [List.mem_cons, List.not_mem_nil, or_false] at z
      rcases z with z | z | z
      · rw [z]; exact deep_good dp7
      · rw [z]
        intro xs hx
        have e : GD.T.tup xs = GD.T.non := List.mem_singleton.mp hx
        cases e
      · rw [z]
        exact fun xs hx => by cases hx
  rw [Bool.or_eq_false_iff, decide_eq_false_iff_not, decide_eq_false_iff_not] at hb
  have hvp : 0 < vs.length := by omega
  have gA := g1.ext e2
  have hhA := hh1.ext e2
  refine ⟨_, rfl, _, rfl, a, vs, rfl, sq_or (sq_sqO ((gA.le) _ _ h1)), F, h, (vs.length : Nat), rfl, gA.le, hhA, by omega, by omega, fun at' H3 a0 a1 g3 hh3 => ?_⟩
  refine gN ?_
  try dsimp only
  obtain ⟨j, rfl⟩ := Int.eq_ofNat_of_zero_le a0
  have hj : j < vs.length := by omega
  have gB := gA.trans g3
  have jj : ((j : Int) + 1) = ((j + 1 : Nat) : Int) := by omega
  have c1 : cutV vs none (some (j : Int)) = vs.take j := cut_to vs j
  have c2 : cutV vs (some ((j : Int) + 1)) none = vs.drop (j + 1) := by rw [jj]; exact cut_from vs (j + 1)
  have c3 : cutV vs (some (j : Int)) (some ((j : Int) + 1)) = (vs.drop j).take 1 := by
    rw [jj, cut_cut, Nat.min_eq_left (by omega), Nat.min_eq_left (by omega)]
    congr 1
    omega
  refine q_when (b := decide (kd = 1)) (EvT.mono gB.le (et_is (et_test (ev_op (x := .int kd) (y := .int 1) (ev_var rfl) ev_c (rv_eq rfl))) (decide_eq_decide.mpr ⟨fun z => V.int.inj z, fun z => by rw [z]⟩))) (fun _ H4 e4 => ?_) (fun _ H4 e4 => ?_)
  · refine nRet (rd_pick (n := 3) (ts := [kT k (ts.take j ++ ts.drop (j + 1)), kT k (ts ++ (ts.drop j).take 1), kT k ts.reverse]) rfl (ees_cons ?_ (ees_cons ?_ (ees_cons ?_ ees_nil))) rfl (by decide) (by decide) (gB.ext e4) (hh3.ext e4) fun v' t' F2 H5 hm g6 hh6 e6 r6 => q F2 H5 v' t' g6 hh6 r6 fun hk => ?_)
    · have := es_cat (K := K) (es_sl (K := K) (te := tVar 1) (σ := [some (.ref h), some (.ref a), some (.int m), some (.int kd), some (.int (j : Int)), none, none, none, none, none]) (ev_var rfl) eo_none (eo_some (ev_var (i := 4) rfl)) h1) (es_sl (K := K) (te := tVar 1) (ev_var rfl) (eo_some (ev_op (ev_var (i := 4) rfl) (ev_c (v := .int 1)) (rv_I0 (g := fun i j => .int (i + j))))) eo_none h1) (by rw [c1, c2, List.length_take, List.length_drop]; omega)
      rw [c1, c2] at this
      exact ee_s this ((h3.take j).app (h3.drop (j + 1))) (by rw [List.length_append, List.length_take, List.length_drop]; omega)
    · have := es_cat (K := K) (es_val (te := tVar 1) (σ := [some (.ref h), some (.ref a), some (.int m), some (.int kd), some (.int (j : Int)), none, none, none, none, none]) (ev_var rfl) h1) (es_sl (K := K) (te := tVar 1) (ev_var rfl) (eo_some (ev_var (i := 4) rfl)) (eo_some (ev_op (ev_var (i := 4) rfl) (ev_c (v := .int 1)) (rv_I0 (g := fun i j => .int (i + j))))) h1) (by rw [c3, List.length_take, List.length_drop]; omega)
      rw [c3] at this
      exact ee_s this (h3.app ((h3.drop j).take 1)) (by rw [List.length_append, List.length_take, List.length_drop]; omega)
    · exact ee_s (es_rev (ev_var rfl) h1) h3.rev (by rw [List.length_reverse]; omega)
    · subst hk
      simp only [List.mem_cons, List.not_mem_nil, or_false] at hm
      rcases hm with z | z | z <;> subst z
      · refine goods_of (k := true) fun x hx => it8_good (hi x ?_)
        rcases List.mem_append.mp hx with z | z
        · exact List.mem_of_mem_take z
        · exact List.mem_of_mem_drop z
      · refine goods_of (k := true) fun x hx => it8_good (hi x ?_)
        rcases List.mem_append.mp hx with z | z
        · exact z
        · exact List.mem_of_mem_drop (List.mem_of_mem_take z)
      · exact goods_of (k := true) fun x hx => it8_good (hi x (List.mem_reverse.mp hx))
  have gC := gB.ext e4
  have hhC := hh3.ext e4
  obtain ⟨tj, htj, rj⟩ := h3.at (List.getElem?_eq_getElem hj)
  obtain ⟨ixs, rfl, il, ifl⟩ := hi tj (List.mem_of_getElem? htj)
  obtain ⟨b, us, hb1, hb2, hb3, hb4⟩ := rj
  have ul : us.length ≤ 8 := by rw [← hb4.len]; exact il
  refine q_asg (v := .ref b) (Ev.mono gC.le (ev_ixSq (ev_var rfl) s1 (ev_var rfl) (by rw [← hb1]; exact atI_nat (List.getElem?_eq_getElem hj)))) fun H5 e5 => ?_
  refine ⟨_, rfl, _, rfl, F, h, m, rfl, gC.le.trans e5, hhC.ext e5, by omega, by omega, fun mo H6 m0 m1' g6 hh6 => ?_⟩
  refine gN ?_
  try dsimp only
  have gD := (gC.ext e5).trans g6
  show tSeq (tAsg (tLst _) (gName 7)) _ _ [some (.ref h), some (.ref a), some (.int m), some (.int kd), some (.int (j : Int)), some (.ref b), some (.int mo), none, none, none] H6
  have cb : cutV us none (some (-1)) = us.take (us.length - 1) := cut_but us
  have cf : cutV us (some 1) none = us.drop 1 := cut_from us 1
  have ct : cutV us none (some 1) = us.take 1 := cut_to us 1
  have bs : F b = some (sqO false us) := hb2
  have il' : ixs.length = us.length := hb4.len
  have em : EvO (tPart (tUn (rU fun i => .int (-i)) (tC (.int 1)))) [some (.ref h), some (.ref a), some (.int m), some (.int kd), some (.int (j : Int)), some (.ref b), some (.int mo), none, none, none] F (some (-1)) := eo_some (ev_un ev_c ru_neg)
  refine nAsg (nLst (nEs (H0 := H6) (ts := [kT true ixs, kT false (ixs.take (us.length - 1)), kT false (ixs ++ [.int mo]), kT false (ixs.take (us.length - 1) ++ [.int mo]), kT false ([.int mo] ++ ixs.drop 1), .non, kT false ixs.reverse]) (ees_cons ?_ (ees_cons ?_ (ees_cons ?_ (ees_cons ?_ (ees_cons ?_ (ees_cons (ee_val ev_c rfl) (ees_cons ?_ ees_nil))))))) gD.le (Ex.refl H6) fun v7 H7 e7 c7 => ⟨sz_of (by rw [← c7.len]; show 7 ≤ 100000; decide), fun O hO => gN ?_⟩))
  · exact ee_s (es_list (ev_var rfl) bs) hb4 (by omega)
  · exact ee_s (by have := es_slA (K := K) (te := tVar 5) (ev_var rfl) eo_none em hb2; rw [cb] at this; exact this) (hb4.take _) (by rw [List.length_take]; omega)
  · exact ee_s (es_catA (es_val (ev_var rfl) bs) (es_tup (ea_cons (ev_var rfl) ea_nil) (by show 1 ≤ 60; decide)) (by show us.length + 1 ≤ 60; omega)) (hb4.app (.one rfl)) (by rw [List.length_append]; show us.length + 1 ≤ 60; omega)
  · exact ee_s (es_catA (by have := es_slA (K := K) (te := tVar 5) (ev_var rfl) eo_none em hb2; rw [cb] at this; exact this) (es_tup (ea_cons (ev_var rfl) ea_nil) (by show 1 ≤ 60; decide)) (by rw [List.length_take]; show _ + 1 ≤ 60; omega)) ((hb4.take _).app (.one rfl)) (by rw [List.length_append, List.length_take]; show _ + 1 ≤ 60; omega)
  · exact ee_s (es_catA (es_tup (ea_cons (ev_var rfl) ea_nil) (by show 1 ≤ 60; decide)) (by have := es_slA (K := K) (te := tVar 5) (σ := [some (.ref h), some (.ref a), some (.int m), some (.int kd), some (.int (j : Int)), some (.ref b), some (.int mo), none, none, none]) (ev_var rfl) (eo_some (ev_c (v := .int 1))) eo_none hb2; rw [cf] at this; exact this) (by rw [List.length_drop]; show 1 + _ ≤ 60; omega)) (Rps.app (.one rfl) (hb4.drop 1)) (by rw [List.length_append, List.length_drop]; show 1 + _ ≤ 60; omega)
  · exact ee_s (es_rev (ev_var rfl) bs) hb4.rev (by rw [List.length_reverse]; omega)
  try dsimp only
  have x7 : Ex H6 (upd H7 O (.lst v7)) := e7.trans (Ex.new hO)
  show tSeq (tAsg (tOp rCat (tVar 7) (tLst _)) (gName 7)) _ _ [some (.ref h), some (.ref a), some (.int m), some (.int kd), some (.int (j : Int)), some (.ref b), some (.int mo), some (.ref O), none, none] _
  refine nAsg (nOp (nVar rfl (nLst (nEs (H0 := H6) (ts := [kT false ([.str "come"] ++ ixs), kT false (ixs.take 1), .tup [.str "put", .bl true], .tup [.str "put", .int (-1)], .tup [.str "come", .int mo, .int 0]]) (ees_cons ?_ (ees_cons ?_ (ees_cons ?_ (ees_cons ?_ (ees_cons ?_ ees_nil))))) gD.le x7 fun v5 H8 e8 c5 => ⟨sz_of (by rw [← c5.len]; show 5 ≤ 100000; decide), fun O2 hO2 => ?_⟩))))
  · exact ee_s (es_catA (es_tup (ea_cons ev_c ea_nil) (by show 1 ≤ 60; decide)) (es_val (ev_var rfl) bs) (by show 1 + us.length ≤ 60; omega)) (Rps.app (.one rfl) hb4) (by rw [List.length_append]; show 1 + us.length ≤ 60; omega)
  · exact ee_s (by have := es_slA (K := K) (te := tVar 5) (σ := [some (.ref h), some (.ref a), some (.int m), some (.int kd), some (.int (j : Int)), some (.ref b), some (.int mo), some (.ref O), none, none]) (ev_var rfl) eo_none (eo_some (ev_c (v := .int 1))) hb2; rw [ct] at this; exact this) (hb4.take _) (by rw [List.length_take]; omega)
  · exact ee_tup (ea_cons ev_c (ea_cons ev_c ea_nil)) ⟨_, _, rfl, rfl, _, _, rfl, rfl, rfl⟩ (by show 2 ≤ 60; decide)
  · exact ee_tup (ea_cons ev_c (ea_cons (ev_un ev_c ru_neg) ea_nil)) ⟨_, _, rfl, rfl, _, _, rfl, rfl, rfl⟩ (by show 2 ≤ 60; decide)
  · exact ee_tup (ea_cons ev_c (ea_cons (ev_var rfl) (ea_cons ev_c ea_nil))) ⟨_, _, rfl, rfl, _, _, rfl, rfl, _, _, rfl, rfl, rfl⟩ (by show 3 ≤ 60; decide)
  have x8 : Ex H6 (upd H8 O2 (.lst v5)) := (x7.trans e8).trans (Ex.new hO2)
  refine ⟨O, O2, v7, v5, rfl, rfl, (Ex.new hO2) _ _ (e8 _ _ upd_same), upd_same, sz_of (by rw [← c7.len, ← c5.len]; show 12 ≤ 100000; decide), fun O3 hO3 => gN ?_⟩
  try dsimp only
  have x9 : Ex H6 (upd (upd H8 O2 (.lst v5)) O3 (.lst (v7 ++ v5))) := x8.trans (Ex.new hO3)
  have c12 := Cns.app (c7.keep (H' := upd H8 O2 (.lst v5)) fun o u _ z => (Ex.new hO2) _ _ (e8 _ _ ((Ex.new hO) _ _ z))) (c5.keep (H' := upd H8 O2 (.lst v5)) fun o u _ z => (Ex.new hO2) _ _ z)
  have g89 := (Gw.refl (M := Mn) (gD.le.trans x8)).put (o := .lst (v7 ++ v5)) hO3
  have h9 := upd_same (H := upd H8 O2 (.lst v5)) (a := O3) (o := .lst (v7 ++ v5))
  have o3H : H6 O3 = none := fresh_back x8 hO3
  generalize hH9 : upd (upd H8 O2 (.lst v5)) O3 (.lst (v7 ++ v5)) = H9 at *
  have hcomp := en_lcN (F := F) (σ := [some (.ref h), some (.ref a), some (.int m), some (.int kd), some (.int (j : Int)), some (.ref b), some (.int mo), some (.ref O3), none, none]) (vs := [9]) (j := 9) (te := tC (.bl true)) (walk_sq (K := K) (k := false) (a := b) (xs := us)) (evi_sq (K := K) (tl := tVar 5) (ev_var rfl) (st_of hb2)) (fun H e => ex_sq (k := false) e (st_of hb2)) (fun i H x H' _ y => by rw [y.1]; exact Ex.refl H) (fun _ => rfl) (by omega) (fun _ => GD.T.bl true) (fun i x H1 H' hi e y => eg_val ev_c rfl)
  refine ⟨_, rfl, .inl ⟨rfl, _, sq_of h9⟩, nCons ?_⟩
  refine (eg_tupOf (K := K) hcomp (by rw [List.length_map, List.length_range]; omega)) F H9 (Ex.refl F) (gD.le.trans x9) _ fun v10 F2 H10 g10 r10 => ?_
  refine ⟨O3, _, v10, rfl, rfl, g10.ex _ _ h9, sz_lt (by rw [List.length_append, ← c7.len, ← c5.len]; show 12 < 100000; decide), ?_⟩
  have nh : ∀ p, H6 p = none → ¬ At h p := fun p hp => g6.dom |> fun _ => hh6.ne hp
  have hh10 : HdAt F2 H10 h := (hh6.ext x9).gw g10
  have f3 : F O3 = none := fresh_back gD.le o3H
  have f3' : F2 O3 = none := g10.new O3 (some_ne h9) f3
  have g610 : Gw (At h) F H6 F2 H10 := ((Gw.refl (M := At h) gD.le).ext x9).trans g10.widen
  have g11 := g610.mut (o := .lst (v7 ++ v5 ++ [v10])) f3' (.inl o3H)
  have hh11 : HdAt F2 (upd H10 O3 (.lst (v7 ++ v5 ++ [v10]))) h := hh10.set (fun z => nh O3 o3H z.symm)
  have hhs6 : H6 h ≠ none := hh6.some
  have hO3v := upd_same (H := H10) (a := O3) (o := .lst (v7 ++ v5 ++ [v10]))
  have cv : Cns F2 H6 (upd H10 O3 (.lst (v7 ++ v5 ++ [v10]))) [.tup ((List.range us.length).map fun _ => .bl true)] [v10] := ⟨v10, [], rfl, .inl r10, rfl⟩
  have c13 := Cns.app (c12.gw ((g89.trans g10).mut (o := .lst (v7 ++ v5 ++ [v10])) f3' (.inl hO3)) (fun _ z => z.elim)) cv
  generalize upd H10 O3 (.lst (v7 ++ v5 ++ [v10])) = H11 at *
  refine ⟨_, rfl, a, vs, rfl, sq_or (sq_sqO (g11.le _ _ (g11.fle _ _ h1))), fun Fd hFd => gN ?_⟩
  show tSeq (tAsg (tOp (rIxL K) (tVar 7) _) _) _ _ [some (.ref h), some (.ref a), some (.int m), some (.int kd), some (.int (j : Int)), some (.ref b), some (.int mo), some (.ref O3), some (.ref Fd), none] _
  have g12 := g11.put (o := .lst vs) hFd
  refine nAsg (nOp (nVar rfl ⟨_, rfl, F2, h, 13, rfl, g12.le, hh11.new hFd, by decide, by decide, fun d H13 d0 d1 g13 hh13 => ?_⟩))
  have nO3 := nh O3 o3H
  have hFd11 : H6 Fd = none := g11.fresh hFd
  have nFd := nh Fd hFd11
  have lO3 := g13.up O3 _ nO3 ((Ex.new hFd) _ _ hO3v)
  have lFd := g13.up Fd _ nFd (upd_same (H := H11) (a := Fd) (o := .lst vs))
  obtain ⟨i, rfl⟩ := Int.eq_ofNat_of_zero_le d0
  have clen := c13.len
  have clen' : (v7 ++ v5 ++ [v10]).length = 13 := by rw [← clen]; rfl
  have hi13 : i < (v7 ++ v5 ++ [v10]).length := by rw [clen']; omega
  obtain ⟨tn, htn, ctn⟩ := c13.at (List.getElem?_eq_getElem hi13)
  refine ⟨O3, _, (i : Int), _, rfl, rfl, sq_of lO3, atI_nat (List.getElem?_eq_getElem hi13), ?_⟩
  have fFd2 : F2 Fd = none := g11.ffree hFd
  have gX := g12.trans g13
  have key : ∃ F3, Gw (At h) F H6 F3 H13 ∧ HdAt F3 H13 h ∧ Ex F F3 ∧ Rp F3 tn (v7 ++ v5 ++ [v10])[i] ∧ F3 Fd = none := by
    rcases ctn with c | ⟨p, o, z1, z2, z3, z4, z5⟩
    · exact ⟨F2, gX, hh13, gX.fle, c, fFd2⟩
    · have np : Fd ≠ p := fun z => by rw [z, z4] at hFd; cases hFd
      have p13 := g13.up p _ (nh p z2) ((Ex.new (o := .lst vs) hFd) _ _ z4)
      exact ⟨upd F2 p o, gX.freeze z2 p13 z3, hh13.frz (fun z => nh p z2 z.symm) z3, gX.fle.trans (Ex.new z3), z5 _ (Ex.new z3) upd_same, by rw [upd_ne np]; exact fFd2⟩
  obtain ⟨F3, g15, hh15, e15, r15, fFd3⟩ := key
  refine ⟨_, rfl, _, rfl, Fd, vs, (j : Int), j, rfl, rfl, lFd, ixN_nat hj, ?_⟩
  have g16 := g15.mut (p := Fd) (o := .lst (vs.set j (v7 ++ v5 ++ [v10])[i])) fFd3 (.inl hFd11)
  have hh16 : HdAt F3 (upd H13 Fd (.lst (vs.set j (v7 ++ v5 ++ [v10])[i]))) h := hh15.set (fun z => nFd z.symm)
  have hF16 := upd_same (H := H13) (a := Fd) (o := .lst (vs.set j (v7 ++ v5 ++ [v10])[i]))
  have r16 : Rps F3 (ts.set j tn) (vs.set j (v7 ++ v5 ++ [v10])[i]) := (h3.mono e15 _ _).set r15 j
  generalize upd H13 Fd (.lst (vs.set j (v7 ++ v5 ++ [v10])[i])) = H16 at *
  have good : k = true → Goods (kT k (ts.set j tn)) := fun hk => by
    refine goods_of fun x hx xs e h2 => ?_
    rcases List.mem_or_eq_of_mem_set hx with z | z
    · exact it8_good (hi x z) xs e h2
    · subst z
      have hm := List.mem_of_getElem? htn
      simp only [kT, List.cons_append, List.nil_append, List.mem_cons, List.not_mem_nil, or_false] at hm
      have fl : ∀ ys : List GD.T, (∀ y ∈ ys, y ∈ ixs ∨ flatT y = true) → ∀ y ∈ ys, flatT y = true := fun ys hys y hy => (hys y hy).elim (fun z => ifl y z) fun z => z
      rcases hm with z | z | z | z | z | z | z | z | z | z | z | z | z <;> rw [z] at e <;> cases e
      · exact fl _ fun y hy => .inl (List.mem_of_mem_take hy)
      · refine fl _ fun y hy => (List.mem_append.mp hy).elim .inl fun z => .inr ?_
        rw [List.mem_singleton.mp z]; rfl
      · refine fl _ fun y hy => (List.mem_append.mp hy).elim (fun z => .inl (List.mem_of_mem_take z)) fun z => .inr ?_
        rw [List.mem_singleton.mp z]; rfl
      · refine fl _ fun y hy => (List.mem_cons.mp hy).elim (fun z => .inr ?_) fun z => .inl (List.mem_of_mem_drop z)
        rw [z]; rfl
      · exact fl _ fun y hy => .inl (List.mem_reverse.mp hy)
      · refine fl _ fun y hy => (List.mem_cons.mp hy).elim (fun z => .inr ?_) fun z => .inl z
        rw [z]; rfl
      · exact fl _ fun y hy => .inl (List.mem_of_mem_take hy)
      · refine fl _ fun y hy => .inr ?_
        simp only [List.mem_cons, List.not_mem_nil, or_false] at hy
        rcases hy with z | z <;> subst z <;> rfl
      · refine fl _ fun y hy => .inr ?_
        simp only [List.mem_cons, List.not_mem_nil, or_false] at hy
        rcases hy with z | z <;> subst z <;> rfl
      · refine fl _ fun y hy => .inr ?_
        simp only [List.mem_cons, List.not_mem_nil, or_false] at hy
        rcases hy with z | z | z <;> subst z <;> rfl
      · refine fl _ fun y hy => .inr ?_
        obtain ⟨_, _, z⟩ := List.mem_map.mp hy
        rw [← z]; rfl
  show tRet (tIf _ (tVar 8) _) _ [some (.ref h), some (.ref a), some (.int m), some (.int kd), some (.int (j : Int)), some (.ref b), some (.int mo), some (.ref O3), some (.ref Fd), none] H16
  refine nRet ?_
  refine (et_test (ev_isi (K := K) (t := kT k ts) (ev_var rfl) ht (kit_l _))).mono (gD.fle.trans e15 |>.trans g16.le) H16 (Ex.refl _) _ fun H17 e17 => ?_
  cases k with
  | true =>
    refine ⟨_, rfl, ?_⟩
    have g17 := ((gD.trans g16).ext e17).freeze (gD.fresh hFd11) (e17 _ _ hF16) fFd3
    exact q _ _ _ (kT true (ts.set j tn)) g17 ((hh16.ext e17).frz (fun z => nFd z.symm) fFd3) (.lst_i upd_same (by rw [List.length_set]; exact h2) (r16.mono (Ex.new fFd3) _ _)) good
  | false =>
    refine ⟨_, rfl, Fd, _, rfl, .inl ⟨sq_of (e17 _ _ hF16), fun p hp => ?_⟩⟩
    have g17 := (gD.trans g16).ext e17
    exact q _ _ _ (kT false (ts.set j tn)) (g17.alloc hp) ((hh16.ext e17).alloc hp (g17.ffree hp)) (.tup_i upd_same (by rw [List.length_set]; exact h2) (r16.mono (Ex.new (g17.ffree hp)) _ _)) good
end
end GD

/-! ## The mathematics of the search through all ways -/
namespace GD
open PySem L2
def Way (ws : List (Int × Int)) (tk : List Int) (a : Int) (p : List Int) : Prop := p.head? = some a ∧ p.Nodup ∧ (∀ x ∈ p, x ∉ tk) ∧ chainIn ws p = true
def Full (ws : List (Int × Int)) (tk : List Int) (a b : Int) (p : List Int) : Prop := Way ws tk a p ∧ p.getLast? = some b
theorem chain_snoc {ws : List (Int × Int)} {x l : Int} : ∀ {q : List Int}, q.getLast? = some l → chainIn ws (q ++ [x]) = (chainIn ws q && decide ((l, x) ∈ ws))
  | [], h => by cases h
  | [a], h => by
    cases h
    show (decide ((a, x) ∈ ws) && true) = (true && decide ((a, x) ∈ ws))
    rw [Bool.and_true, Bool.true_and]
  | a :: b :: r, h => by
    have h' : (b :: r).getLast? = some l := by rw [List.getLast?_cons_cons] at h; exact h
    have ih := chain_snoc (ws := ws) (x := x) h'
    show (decide ((a, b) ∈ ws) && chainIn ws (b :: r ++ [x])) = (decide ((a, b) ∈ ws) && chainIn ws (b :: r) && _)
    rw [ih, Bool.and_assoc]
theorem chain_app {ws : List (Int × Int)} {x l : Int} : ∀ {q r : List Int}, q.getLast? = some l → chainIn ws (q ++ x :: r) = true → (l, x) ∈ ws
  | [], _, h, _ => by cases h
  | [a], r, h, hc => by
    cases h
    have : (decide ((a, x) ∈ ws) && chainIn ws (x :: r)) = true := hc
    rw [Bool.and_eq_true, decide_eq_true_eq] at this
    exact this.1
  | a :: b :: q, r, h, hc => by
    have h' : (b :: q).getLast? = some l := by rw [List.getLast?_cons_cons] at h; exact h
    have : (decide ((a, b) ∈ ws) && chainIn ws (b :: q ++ x :: r)) = true := hc
    rw [Bool.and_eq_true] at this
    exact chain_app h' this.2
theorem way_snoc {ws : List (Int × Int)} {tk : List Int} {a l x : Int} {q : List Int} (h : Way ws tk a q) (hl : q.getLast? = some l) (hw : (l, x) ∈ ws) (hq : x ∉ q) (ht : x ∉ tk) : Way ws tk a (q ++ [x]) := by
  obtain ⟨h1, h2, h3, h4⟩ := h
  refine ⟨?_, ?_, fun y hy => ?_, ?_⟩
  · rw [List.head?_append, h1]; rfl
  · rw [List.nodup_append]
    exact ⟨h2, by simp, fun y hy z hz e => hq (by rw [← List.mem_singleton.mp hz, ← e]; exact hy)⟩
  · rcases List.mem_append.mp hy with z | z
    · exact h3 y z
    · rw [List.mem_singleton.mp z]; exact ht
  · rw [chain_snoc hl, h4, Bool.true_and]
    exact decide_eq_true hw
/-- the ways one wire longer -/
def extOf (ws : List (Int × Int)) (tk q : List Int) (l : Int) : List (List Int) := ((outsOf ws l).filter fun x => !decide (x ∈ q) && !decide (x ∈ tk)).map fun x => q ++ [x]
theorem mem_outs {ws : List (Int × Int)} {l x : Int} : x ∈ outsOf ws l ↔ (l, x) ∈ ws := by
  unfold outsOf
  rw [List.mem_map]
  constructor
  · rintro ⟨⟨y, z⟩, h, rfl⟩
    rw [List.mem_filter, decide_eq_true_eq] at h
    obtain ⟨h1, h2⟩ := h
    have : y = l := h2
    subst this
    exact h1
  · intro h
    exact ⟨(l, x), List.mem_filter.mpr ⟨h, by simp⟩, rfl⟩
theorem mem_ext {ws : List (Int × Int)} {tk q p : List Int} {l : Int} : p ∈ extOf ws tk q l ↔ ∃ x, p = q ++ [x] ∧ (l, x) ∈ ws ∧ x ∉ q ∧ x ∉ tk := by
  unfold extOf
  rw [List.mem_map]
  constructor
  · rintro ⟨x, hx, rfl⟩
    rw [List.mem_filter, mem_outs] at hx
    simp only [Bool.and_eq_true, Bool.not_eq_true', decide_eq_false_iff_not] at hx
    exact ⟨x, rfl, hx.1, hx.2.1, hx.2.2⟩
  · rintro ⟨x, rfl, h1, h2, h3⟩
    exact ⟨x, List.mem_filter.mpr ⟨mem_outs.mpr h1, by simp [h2, h3]⟩, rfl⟩
structure SI (ws : List (Int × Int)) (tk : List Int) (a b : Int) (fs ls : List (List Int)) : Prop where
  sf : ∀ p ∈ fs, Full ws tk a b p
  sl : ∀ p ∈ ls, Way ws tk a p
  all : ∀ p, Full ws tk a b p → p ∈ fs ∨ ∃ q ∈ ls, q <+: p
section
variable {ws : List (Int × Int)} {tk : List Int} {a b l : Int} {fs ls : List (List Int)} {q : List Int}
theorem SI.start (h : a ∉ tk) : SI ws tk a b [] [[a]] := by
  refine ⟨fun p hp => (by cases hp), fun p hp => ?_, fun p hp => .inr ⟨[a], List.mem_singleton.mpr rfl, ?_⟩⟩
  · rw [List.mem_singleton.mp hp]
    exact ⟨rfl, by simp, fun x hx => by rw [List.mem_singleton.mp hx]; exact h, rfl⟩
  · cases p with
    | nil => cases hp.1.1
    | cons x r =>
      obtain rfl : x = a := Option.some.inj hp.1.1
      exact ⟨r, rfl⟩
theorem SI.none (h : a ∈ tk ∨ b ∈ tk) : SI ws tk a b [] [] := by
  refine ⟨fun p hp => (by cases hp), fun p hp => (by cases hp), fun p hp => ?_⟩
  rcases h with h | h
  · exact absurd h (hp.1.2.2.1 a (List.mem_of_mem_head? hp.1.1))
  · exact absurd h (hp.1.2.2.1 b (List.mem_of_getLast? hp.2))
theorem way_last (h : Way ws tk a q) : ∃ l, q.getLast? = some l := by
  cases hq : q with
  | nil => rw [hq] at h; cases h.1
  | cons x r => exact ⟨_, List.getLast?_eq_some_getLast (by simp)⟩
theorem SI.hit (h : SI ws tk a b fs (ls ++ [q])) (hl : q.getLast? = some b) : SI ws tk a b (fs ++ [q]) ls := by
  refine ⟨fun p hp => ?_, fun p hp => h.sl p (List.mem_append_left _ hp), fun p hp => ?_⟩
  · rcases List.mem_append.mp hp with z | z
    · exact h.sf p z
    · rw [List.mem_singleton.mp z]
      exact ⟨h.sl q (by simp), hl⟩
  · rcases h.all p hp with z | ⟨q', z, y⟩
    · exact .inl (List.mem_append_left _ z)
    · rcases List.mem_append.mp z with z | z
      · exact .inr ⟨q', z, y⟩
      · rw [List.mem_singleton.mp z] at y
        obtain ⟨r, rfl⟩ := y
        cases r with
        | nil => rw [List.append_nil]; exact .inl (by simp)
        | cons x r =>
          exfalso
          have h1 : b ∈ x :: r := by
            have := hp.2
            rw [List.getLast?_append] at this
            have h3 := List.getLast?_eq_some_getLast (l := x :: r) (by simp)
            rw [h3] at this
            have h4 : (x :: r).getLast (by simp) = b := by simpa using this
            rw [← h4]
            exact List.getLast_mem _
          have h2 : b ∈ q := List.mem_of_getLast? hl
          have := hp.1.2.1
          rw [List.nodup_append] at this
          exact this.2.2 b h2 b h1 rfl
theorem SI.go (h : SI ws tk a b fs (ls ++ [q])) (hl : q.getLast? = some l) (hb : l ≠ b) : SI ws tk a b fs (ls ++ extOf ws tk q l) := by
  have hq := h.sl q (by simp)
  refine ⟨h.sf, fun p hp => ?_, fun p hp => ?_⟩
  · rcases List.mem_append.mp hp with z | z
    · exact h.sl p (List.mem_append_left _ z)
    · obtain ⟨x, rfl, h1, h2, h3⟩ := mem_ext.mp z
      exact way_snoc hq hl h1 h2 h3
  · rcases h.all p hp with z | ⟨q', z, y⟩
    · exact .inl z
    · rcases List.mem_append.mp z with z | z
      · exact .inr ⟨q', List.mem_append_left _ z, y⟩
      · rw [List.mem_singleton.mp z] at y
        obtain ⟨r, rfl⟩ := y
        cases r with
        | nil =>
          rw [List.append_nil] at hp
          exact absurd (Option.some.inj (hl.symm.trans hp.2)) hb
        | cons x r =>
          refine .inr ⟨q ++ [x], List.mem_append_right _ (mem_ext.mpr ⟨x, rfl, chain_app hl hp.1.2.2.2, fun hx => ?_, ?_⟩), ⟨r, by simp⟩⟩
          · have := hp.1.2.1
            rw [List.nodup_append] at this
            exact this.2.2 x hx x (by simp) rfl
          · exact hp.1.2.2.1 x (by simp)
theorem SI.done (h : SI ws tk a b fs []) (p : List Int) : p ∈ fs ↔ Full ws tk a b p := ⟨h.sf p, fun hp => (h.all p hp).elim id fun ⟨_, z, _⟩ => by cases z⟩
end
/-! ### how many -/
def rng7 : List Int := [0, 1, 2, 3, 4, 5, 6]
theorem in_rng {m x : Int} (h7 : m ≤ 7) (h0 : 0 ≤ x) (h1 : x < m) : x ∈ rng7 := by
  have : x = 0 ∨ x = 1 ∨ x = 2 ∨ x = 3 ∨ x = 4 ∨ x = 5 ∨ x = 6 := by omega
  rcases this with rfl | rfl | rfl | rfl | rfl | rfl | rfl <;> decide
theorem chain_mem {ws : List (Int × Int)} {m : Int} (hw : ∀ w ∈ ws, Wok m w) : ∀ {p : List Int} {a : Int}, 0 ≤ a ∧ a < m → p.head? = some a → chainIn ws p = true → ∀ x ∈ p, 0 ≤ x ∧ x < m
  | [], _, _, h, _ => by cases h
  | [c], a, ha, h, _ => fun x hx => by
    cases h
    rw [List.mem_singleton.mp hx]
    exact ha
  | c :: d :: r, a, ha, h, hc => fun x hx => by
    cases h
    have : (decide ((c, d) ∈ ws) && chainIn ws (d :: r)) = true := hc
    rw [Bool.and_eq_true, decide_eq_true_eq] at this
    have hd := hw _ this.1
    rcases List.mem_cons.mp hx with z | z
    · rw [z]; exact ha
    · exact chain_mem hw (p := d :: r) (a := d) ⟨hd.2.2.1, hd.2.2.2.1⟩ rfl this.2 x z
theorem way_mem {ws : List (Int × Int)} {tk q : List Int} {a m : Int} (hw : ∀ w ∈ ws, Wok m w) (ha : 0 ≤ a ∧ a < m) (h : Way ws tk a q) : ∀ x ∈ q, 0 ≤ x ∧ x < m := chain_mem hw ha h.1 h.2.2.2
theorem way_len {ws : List (Int × Int)} {tk q : List Int} {a m : Int} (hw : ∀ w ∈ ws, Wok m w) (h7 : m ≤ 7) (ha : 0 ≤ a ∧ a < m) (h : Way ws tk a q) : q.length ≤ 7 :=
  SQ.nodup_sub_len (ys := rng7) h.2.1 fun x hx => in_rng h7 (way_mem hw ha h x hx).1 (way_mem hw ha h x hx).2
def wsum (ls : List (List Int)) : Nat := (ls.map fun q => 8 ^ (7 - q.length)).sum
theorem wsum_app (xs ys : List (List Int)) : wsum (xs ++ ys) = wsum xs + wsum ys := by
  unfold wsum
  rw [List.map_append, List.sum_append]
theorem wsum_one (q : List Int) : wsum [q] = 8 ^ (7 - q.length) := by
  unfold wsum
  simp
theorem wsum_len (ls : List (List Int)) : ls.length ≤ wsum ls := by
  induction ls with
  | nil => exact Nat.zero_le _
  | cons q ls ih =>
    have : wsum (q :: ls) = 8 ^ (7 - q.length) + wsum ls := by unfold wsum; rw [List.map_cons, List.sum_cons]
    have h8 : 0 < 8 ^ (7 - q.length) := Nat.pow_pos (by decide)
    rw [this, List.length_cons]
    omega
theorem outs_nodup {ws : List (Int × Int)} {l : Int} (h : ws.Nodup) : (outsOf ws l).Nodup := by
  unfold outsOf
  have h1 : (ws.filter fun p => decide (p.1 = l)).Nodup := h.filter _
  rw [List.nodup_iff_pairwise_ne, List.pairwise_map]
  refine (List.Pairwise.and_mem.mp (List.nodup_iff_pairwise_ne.mp h1)).imp ?_
  rintro ⟨y, z⟩ ⟨y', z'⟩ ⟨m1, m2, hne⟩ e
  rw [List.mem_filter, decide_eq_true_eq] at m1 m2
  have e1 : y = l := m1.2
  have e2 : y' = l := m2.2
  exact hne (by rw [e1, e2]; exact congrArg _ e)
theorem wsum_same (ls : List (List Int)) (k : Nat) (h : ∀ q ∈ ls, q.length = k) : wsum ls = ls.length * 8 ^ (7 - k) := by
  induction ls with
  | nil => simp [wsum]
  | cons q ls ih =>
    have : wsum (q :: ls) = 8 ^ (7 - q.length) + wsum ls := by unfold wsum; rw [List.map_cons, List.sum_cons]
    rw [this, ih fun r hr => h r (List.mem_cons_of_mem _ hr), h q (by simp), List.length_cons, Nat.add_mul, Nat.one_mul, Nat.add_comm]
theorem ext_wsum {ws : List (Int × Int)} {tk q : List Int} {a m l : Int} (hw : ∀ w ∈ ws, Wok m w) (hn : ws.Nodup) (h7 : m ≤ 7) (ha : 0 ≤ a ∧ a < m) (h : Way ws tk a q) (hl : q.getLast? = some l) : wsum (extOf ws tk q l) < 8 ^ (7 - q.length) := by
  have hlen : ∀ p ∈ extOf ws tk q l, p.length = q.length + 1 := fun p hp => by
    obtain ⟨x, rfl, _⟩ := mem_ext.mp hp
    simp
  rw [wsum_same _ _ hlen]
  have h1 : (extOf ws tk q l).length ≤ 7 := by
    unfold extOf
    rw [List.length_map]
    refine Nat.le_trans (List.length_filter_le _ _) (SQ.nodup_sub_len (ys := rng7) (outs_nodup hn) fun x hx => ?_)
    have := hw _ (mem_outs.mp hx)
    exact in_rng h7 this.2.2.1 this.2.2.2.1
  cases he : extOf ws tk q l with
  | nil => simp; exact Nat.pow_pos (by decide)
  | cons p r =>
    have hp : p ∈ extOf ws tk q l := by rw [he]; simp
    obtain ⟨x, e, x1, x2, x3⟩ := mem_ext.mp hp
    have := way_len hw h7 ha (way_snoc h hl x1 x2 x3)
    rw [List.length_append, List.length_singleton] at this
    have e1 : 7 - q.length = (7 - (q.length + 1)) + 1 := by omega
    rw [e1, Nat.pow_succ, ← he]
    have h8 : 0 < 8 ^ (7 - (q.length + 1)) := Nat.pow_pos (by decide)
    have h2 : (extOf ws tk q l).length * 8 ^ (7 - (q.length + 1)) ≤ 7 * 8 ^ (7 - (q.length + 1)) := Nat.mul_le_mul_right _ h1
    omega
end GD

/-! ## The law's search -/
namespace GD
open PySem L2 Evl G SQ
def spWaysL (K : PySem.W.Frag) : Sp := fun vs H Q _ => ∃ F wv ba a b m ws tk, vs = [wv, .int a, .int b, .ref ba] ∧ Ex F H ∧ Rp F (.tup (List.map pT ws)) wv ∧ SqT K F ba (List.map V.int tk) ∧ tk.length ≤ 60 ∧ 0 ≤ a ∧ a < m ∧ WebOk m ws ∧
  ∀ F' H' D us fs, Gw Mn F H F' H' → F' D = none → H D = none → H' D = some (.lst us) → Rps F' (List.map iT fs) us → (∀ p, p ∈ fs ↔ Full ws tk a b p) → fs.length ≤ 262144 → Q (.ref D) H'
theorem inV_int (a : Int) : ∀ ns : List Int, inV (.int a) (ns.map V.int) = decide (a ∈ ns)
  | [] => by simp [inV]
  | n :: ns => by
    have ih := inV_int a ns
    unfold inV at *
    rw [List.map_cons, List.any_cons, ih]
    have e : eqV (V.int n) (V.int a) = decide (n = a) := by
      by_cases z : n = a <;> simp [eqV, z]
    rw [e]
    by_cases h : a = n
    · simp [h]
    · have h2 : ¬ n = a := fun z => h z.symm
      by_cases h3 : a ∈ ns <;> simp [h, h2, h3]
theorem flat_ints (ns : List Int) : (ns.map V.int).all flatV = true := by
  rw [List.all_eq_true]
  intro x hx
  obtain ⟨n, _, rfl⟩ := List.mem_map.mp hx
  rfl
theorem ext_take {ws : List (Int × Int)} {tk q : List Int} {l : Int} {i : Nat} {w : Int × Int} (h : ws[i]? = some w) : extOf (ws.take (i + 1)) tk q l = extOf (ws.take i) tk q l ++ (if (decide (w.1 = l) && (!decide (w.2 ∈ q) && !decide (w.2 ∈ tk))) = true then [q ++ [w.2]] else []) := by
  rw [List.take_add_one, h]
  unfold extOf outsOf
  rw [List.filter_append, List.map_append, List.filter_append, List.map_append]
  congr 1
  by_cases h1 : w.1 = l
  · by_cases h2 : w.2 ∈ q
    · simp [h1, h2]
    · by_cases h3 : w.2 ∈ tk <;> simp [h1, h2, h3]
  · simp [h1]
theorem szL {n : Nat} (h : n ≤ 300000) : n ≤ sizeLine := by rw [sizeLine_eq]; omega
theorem szl {n : Nat} (h : n < 300000) : n < sizeLine := by rw [sizeLine_eq]; omega
section
variable {K : PySem.W.Frag} {σ : L2.St} {F F0 H H0 : Hp} {ta tb : TE} {h : Addr} {Q : VK}
theorem rv_niI {p : Addr} {ns : List Int} {a : Int} (h : SqL K F p (ns.map V.int) ∨ SqT K F p (ns.map V.int)) : RV (rIn K true) (.int a) (.ref p) F (.bl (!decide (a ∈ ns))) := by
  rw [← inV_int]
  rcases h with h | h
  · exact rv_niL h rfl (flat_ints ns)
  · exact rv_niT h rfl (flat_ints ns)
theorem rv_isI {p : Addr} {ns : List Int} {a : Int} (h : SqL K F p (ns.map V.int) ∨ SqT K F p (ns.map V.int)) : RV (rIn K false) (.int a) (.ref p) F (.bl (decide (a ∈ ns))) := by
  rw [← inV_int]
  rcases h with h | h
  · exact rv_isL h rfl (flat_ints ns)
  · exact rv_isT h rfl (flat_ints ns)
/-- t[-1], t a tuple of ints -/
theorem ev_lastI {b : Addr} {q : List Int} {l : Int} (hb : Ev tb σ F (.ref b)) (h : F b = some (.tup (q.map V.int))) (hl : q.getLast? = some l) : Ev (tOp (rIxT K) tb (tUn (rU fun i => .int (-i)) (tC (.int 1)))) σ F (.int l) :=
  ev_op hb (ev_un ev_c ru_neg) (rv_ixT (st_of h) (at_last (by rw [List.getLast?_map, hl]; rfl)))
end
theorem plt_nd {m : Int} {ws : List (Int × Int)} (h : WebOk m ws) : ws.Nodup := plt_nodup h.srt
/-- where the search stands -/
def LW (F H : Hp) (ws : List (Int × Int)) (tk : List Int) (a b : Int) (Fd Wt : Addr) (fs ls : List (List Int)) (H' : Hp) : Prop :=
  ∃ F' us vs, Gw Mn F H F' H' ∧ F' Fd = none ∧ F' Wt = none ∧ H' Fd = some (.lst us) ∧ Rps F' (List.map iT fs) us ∧ H' Wt = some (.lst vs) ∧ Rps F' (List.map iT ls) vs
theorem LW.ext {F H H1 H2 : Hp} {ws : List (Int × Int)} {tk : List Int} {a b : Int} {Fd Wt : Addr} {fs ls : List (List Int)} (h : LW F H ws tk a b Fd Wt fs ls H1) (e : Ex H1 H2) : LW F H ws tk a b Fd Wt fs ls H2 := by
  obtain ⟨F', us, vs, g, f1, f2, h1, r1, h2, r2⟩ := h
  exact ⟨F', us, vs, g.ext e, f1, f2, e _ _ h1, r1, e _ _ h2, r2⟩
theorem Rps.snoc {F : Hp} : ∀ {ts : List T} {t : T} {vs : List V}, Rps F (ts ++ [t]) vs → ∃ ws w, vs = ws ++ [w] ∧ Rps F ts ws ∧ Rp F t w
  | [], t, _, ⟨v, vs', e, h1, h2⟩ => ⟨[], v, by rw [e, show vs' = [] from h2]; rfl, rfl, h1⟩
  | s :: ts, t, _, ⟨v, vs', e, h1, h2⟩ => by
    obtain ⟨ws, w, e2, h3, h4⟩ := Rps.snoc h2
    exact ⟨v :: ws, w, by rw [e, e2]; rfl, ⟨v, ws, rfl, h1, h3⟩, h4⟩
theorem iT_at {F : Hp} {q : List Int} {w : V} (h : Rp F (iT q) w) : ∃ b, w = .ref b ∧ F b = some (.tup (q.map V.int)) ∧ q.length ≤ 60 := by
  obtain ⟨b, us, rfl, h1, h2, h3⟩ := h
  rw [Rps.ints] at h3
  subst h3
  rw [List.length_map] at h2
  exact ⟨b, rfl, h1, h2⟩
theorem rp_iT {F : Hp} {b : Addr} {q : List Int} (h : F b = some (.tup (q.map V.int))) (hz : q.length ≤ 60) : Rp F (iT q) (.ref b) := ⟨b, _, rfl, h, by rw [List.length_map]; exact hz, Rps.ints.mpr rfl⟩
section
variable {P : Program} {w : World} {K : PySem.W.Frag} {mg : Str → Option Value} {base : Heap}
theorem ok_L_ways (T : TX K mg) : FnOk P w K mg base CX0 1 (a_L_ways K) (fdOf K (a_L_ways K)) ["_law_wires_here", "_law_first", "_law_last", "_law_barred"] (spWaysL K) := by
  refine T.f_L_ways.ok sc_L_ways (fun vs H Q E ⟨F, wv, ba, a, b, m, ws, tk, e, _⟩ => by rw [e]; rfl) (fun cdv A outer s H vs Q E hr ⟨F, wv, ba, a, b, m, ws, tk, e, hF, hw, hb, htl, a0, a1, hok, q⟩ => ?_)
  subst e
  refine ⟨_, PSs.nox (pss_cons (ps_asg (pe_lst pa_nil) (pg_name (i := 4) sc_L_ways.nd rfl (.inl rfl))) (
    pss_cut (ps_asg (pe_ifExp (pt_cmpR op_notIn_seq (pv 1) (pv 3) (by rfl)) (pe_lst (pa_cons (pe_tup (pa_cons (pv 1) pa_nil)) pa_nil)) (pe_lst pa_nil)) (pg_name (i := 5) sc_L_ways.nd rfl (.inl rfl))) (
    pss_cons (ps_while PassesOwn.never (pt_cmpR op_gt (pe_callB call_len_seq (by rfl) T.z_len PySem.boot_len (pa_cons (pv 5) pa_nil)) pe_int (nomark _)) (pss_cons (ps_asg (pe_bm0 PySem.F.plainAttrs_list PySem.F.slot_list_pop PySem.F.type_list_pop mt_pop (pv 5)) (pg_name (i := 6) sc_L_ways.nd rfl (.inl rfl))) (pss_one (ps_if (pt_cmpR op_eq (pe_ix ix_tup (pv 6) (pe_un un_neg pe_int) (fun _ _ => rfl)) (pv 2) (nomark _)) (pss_one (ps_expr (pe_bm PySem.F.plainAttrs_list PySem.F.slot_list_append PySem.F.type_list_append mt_append (pv 4) (pa_cons (pv 6) pa_nil)))) (pss_one (ps_for PassesOwn.never rfl (pi_sq (pv 0)) (pg_tup rfl (pgs_cons (pg_name (i := 7) sc_L_ways.nd rfl (.inl rfl)) (pgs_cons (pg_name (i := 8) sc_L_ways.nd rfl (.inl rfl)) pgs_nil))) (pss_one (ps_if (PW.pt (pw_and (pt_cmpR op_eq (pv 7) (pe_ix ix_tup (pv 6) (pe_un un_neg pe_int) (fun _ _ => rfl)) (nomark _)) (pw_and (pt_cmpR op_notIn_seq (pv 8) (pv 6) (by rfl)) (pw_and1 (pt_cmpR op_notIn_seq (pv 8) (pv 3) (by rfl)))))) (pss_one (ps_expr (pe_bm PySem.F.plainAttrs_list PySem.F.slot_list_append PySem.F.type_list_append mt_append (pv 5) (pa_cons (pe_op op_catA (pv 6) (pe_tup (pa_cons (pv 8) pa_nil))) pa_nil)))) pss_nil)))))))) (
    pss_one (ps_ret (pv 4)))))), ?_⟩
  obtain ⟨wa, wxs, rfl, w1, w2, w3⟩ := hw
  have wl : wxs.length = ws.length := by rw [← w3.len, List.length_map]
  refine q_asgL (el_lst ea_nil (by decide)) fun Fd H1 hFd e1 hH1 => ?_
  have hFd0 := hFd
  have fFd := fresh_back hF hFd
  refine q_cut (M := fun σ' H' => ∃ Wt ls, σ' = [some (.ref wa), some (.int a), some (.int b), some (.ref ba), some (.ref Fd), some (.ref Wt), none, none, none] ∧ LW F H ws tk a b Fd Wt [] ls H' ∧ H Wt = none ∧ Fd ≠ Wt ∧ SI ws tk a b [] ls ∧ wsum ls ≤ 262144) ?_ ?_
  · refine (et_test (ev_op (ev_var rfl) (ev_var rfl) (rv_niI (.inr hb)))).mono (hF.trans e1) H1 (Ex.refl H1) _ fun H2 e2 => ?_
    have g2 := ((Gw.refl (M := Mn) hF).ext e1).ext e2
    by_cases ht : a ∈ tk
    · rw [if_neg (by simpa using ht)]
      refine ⟨Nat.zero_le _, fun Wt hWt => ⟨Wt, [], rfl, ⟨F, [], [], g2.put hWt, fFd, g2.ffree hWt, (Ex.new hWt) _ _ (e2 _ _ hH1), rfl, upd_same, rfl⟩, g2.fresh hWt, (fun z => by rw [z] at hH1; rw [e2 _ _ hH1] at hWt; cases hWt), SI.none (.inl ht), by decide⟩⟩
    · rw [if_pos (by simpa using ht)]
      refine ⟨_, rfl, by show 1 ≤ sizeLine; decide, fun p hp => ⟨by show 1 ≤ sizeLine; decide, fun Wt hWt => ?_⟩⟩
      have g3 := g2.alloc (o := .tup [.int a]) hp
      have hp1 := e2 _ _ hH1
      have nFp : Fd ≠ p := ne_of_none hp1 hp
      refine ⟨Wt, [[a]], rfl, ⟨_, [], [.ref p], g3.put hWt, by rw [upd_ne nFp]; exact fFd, g3.ffree hWt, (Ex.new hWt) _ _ ((Ex.new hp) _ _ hp1), rfl, upd_same, .one (rp_iT (q := [a]) upd_same (by show 1 ≤ 60; decide))⟩, g3.fresh hWt, (fun z => ?_), SI.start ht, by rw [wsum_one]; show 8 ^ 6 ≤ 262144; decide⟩
      have := (Ex.new (o := .tup [.int a]) hp) _ _ hp1
      rw [z, hWt] at this
      cases this
  · rintro σ' H2 ⟨Wt, ls, rfl, L0, hWt, nFW, si0, ws0⟩
    refine q_while (fun k σ' H' => ∃ fs ls o1 o2 o3, σ' = [some (.ref wa), some (.int a), some (.int b), some (.ref ba), some (.ref Fd), some (.ref Wt), o1, o2, o3] ∧ LW F H ws tk a b Fd Wt fs ls H' ∧ SI ws tk a b fs ls ∧ fs.length + wsum ls ≤ 262144 ∧ k = wsum ls) (wsum ls) ⟨[], ls, none, none, none, rfl, L0, si0, by simpa using ws0, rfl⟩ fun k σ' H3 ⟨fs, ls, o1, o2, o3, e, L, si, hwz, hk⟩ => ?_
    subst e hk
    obtain ⟨F', us, vs, g, f1, f2, h1, r1, h2, r2⟩ := id L
    have vl := r2.len
    rw [List.length_map] at vl
    refine ⟨decide ((vs.length : Int) > 0), et_test (ev_op (ev_lenSq (k := true) (ev_var rfl) (sq_of h2)) ev_c rv_I0), fun hb1 H4 e4 => ?_, fun hb1 H4 e4 => ?_⟩
    · have hpos : 0 < ls.length := by
        have := of_decide_eq_true hb1
        omega
      obtain ⟨rest, q0, els⟩ : ∃ rest q0, ls = rest ++ [q0] := ⟨ls.dropLast, ls.getLast (List.length_pos_iff.mp hpos), (List.dropLast_concat_getLast _).symm⟩
      subst els
      rw [List.map_append] at r2
      obtain ⟨vr, wq, rfl, r3, r4⟩ := Rps.snoc r2
      obtain ⟨qa, rfl, hq, hq60⟩ := iT_at r4
      have wy := si.sl q0 (by simp)
      obtain ⟨l, hl⟩ := way_last wy
      have hwl := way_len hok.wok hok.hi ⟨a0, a1⟩ wy
      have hws := wsum_app rest [q0]
      rw [wsum_one] at hws
      have hlen := wsum_len rest
      refine ⟨fun σ' H' => ∃ fs2 ls2 o1 o2 o3, σ' = [some (.ref wa), some (.int a), some (.int b), some (.ref ba), some (.ref Fd), some (.ref Wt), o1, o2, o3] ∧ LW F H ws tk a b Fd Wt fs2 ls2 H' ∧ SI ws tk a b fs2 ls2 ∧ fs2.length + wsum ls2 ≤ 262144 ∧ wsum ls2 < wsum (rest ++ [q0]), fun σ2 H' ⟨fs2, ls2, y1, y2, y3, z1, z2, z3, z4, z5⟩ => ⟨_, z5, fs2, ls2, y1, y2, y3, z1, z2, z3, z4, rfl⟩, ?_⟩
      have h24 := e4 _ _ h2
      refine ⟨_, rfl, .inl ⟨rfl, _, sq_of h24⟩, Wt, _, .ref qa, rfl, rfl, h24, by simp, ?_⟩
      refine gN ?_
      try dsimp only
      rw [List.dropLast_concat]
      have g5 := (g.ext e4).mut (o := .lst vr) f2 (.inl hWt)
      have L5 : LW F H ws tk a b Fd Wt fs rest (upd H4 Wt (.lst vr)) := ⟨F', us, vr, g5, f1, f2, by rw [upd_ne nFW]; exact e4 _ _ h1, r1, upd_same, r3⟩
      have h8p : 0 < 8 ^ (7 - q0.length) := Nat.pow_pos (by decide)
      refine s_if (b := decide (l = b)) (et_is (et_test (ev_op (x := .int l) (y := .int b) (Ev.mono g5.le (ev_lastI (K := K) (ev_var rfl) hq hl)) (ev_var rfl) (rv_eq rfl))) (decide_eq_decide.mpr ⟨fun z => V.int.inj z, fun z => by rw [z]⟩)) (fun hlb H6 e6 => ?_) (fun hlb H6 e6 => ?_)
      · have hlb' : l = b := of_decide_eq_true hlb
        subst hlb'
        have g6 := g5.ext e6
        have hF6 : H6 Fd = some (.lst us) := e6 _ _ (by rw [upd_ne nFW]; exact e4 _ _ h1)
        have ul := r1.len
        rw [List.length_map] at ul
        have hW6 : H6 Wt = some (.lst vr) := e6 _ _ upd_same
        refine ⟨_, rfl, .inl ⟨rfl, _, sq_of hF6⟩, _, rfl, Fd, us, .ref qa, rfl, rfl, hF6, szl (by omega), ?_⟩
        refine ⟨fs ++ [q0], rest, _, _, _, rfl, ⟨F', us ++ [.ref qa], vr, g6.mut f1 (.inl hFd0), f1, f2, upd_same, ?_, by rw [upd_ne nFW.symm]; exact hW6, r3⟩, si.hit hl, ?_, by omega⟩
        · rw [List.map_append]
          exact r1.app (.one r4)
        · rw [List.length_append, List.length_singleton]
          omega
      · have hlb' : l ≠ b := of_decide_eq_false hlb
        have g6 := g5.ext e6
        have hext := ext_wsum (tk := tk) hok.wok (plt_nd hok) hok.hi ⟨a0, a1⟩ wy hl
        refine s_forW (J := Isq false K wa) (n := wxs.length) (Gd := fun H => Sq false K H wa wxs) (Y := YAt wxs) walk_sq (evi_sq (ev_var rfl) (ex_sq (k := false) g6.le (st_of (g.fle _ _ w1)))) 
          (fun i σ' H' => ∃ F2 vs2 o1 o2, σ' = [some (.ref wa), some (.int a), some (.int b), some (.ref ba), some (.ref Fd), some (.ref Wt), some (.ref qa), o1, o2] ∧ Gw Mn F H F2 H' ∧ Ex F' F2 ∧ F2 Fd = none ∧ F2 Wt = none ∧ H' Fd = some (.lst us) ∧ H' Wt = some (.lst vs2) ∧ Rps F2 (List.map iT (rest ++ extOf (ws.take i) tk q0 l)) vs2)
          (fun H7 e7 => ⟨F', vr, _, _, rfl, g6.ext e7, Ex.refl F', f1, f2, e7 _ _ (e6 _ _ (by rw [upd_ne nFW]; exact e4 _ _ h1)), e7 _ _ (e6 _ _ upd_same), by
            have : extOf (ws.take 0) tk q0 l = [] := rfl
            rw [this, List.append_nil]
            exact r3⟩)
          (fun i σ' H' _ ⟨F2, vs2, _, _, _, g7, _⟩ => ex_sq (k := false) g7.le (st_of (g7.fle _ _ w1))) (fun i x σ1 H7 H8 hi hp y => ?_) (fun σ' H' hp => ?_)
        · obtain ⟨rfl, hy⟩ := y
          obtain ⟨F2, vs2, y1, y2, rfl, g7, eF, fa, fb, hFd7, hWt7, r7⟩ := hp
          obtain ⟨pp, ab, k1, rfl, k2⟩ := rps_pT w3 hy
          refine ⟨ab, _, rfl, st_of ((g7.fle.trans g7.le) _ _ k2), rfl, _, _, rfl, _, _, rfl, rfl, ?_⟩
          have hq7 : F2 qa = some (.tup (q0.map V.int)) := eF _ _ hq
          have vl7 := r7.len
          rw [List.length_map, List.length_append] at vl7
          have xl : (extOf (ws.take i) tk q0 l).length ≤ 60 := by
            unfold extOf outsOf
            rw [List.length_map]
            refine Nat.le_trans (List.length_filter_le _ _) ?_
            rw [List.length_map]
            refine Nat.le_trans (List.length_filter_le _ _) ?_
            rw [List.length_take]
            have := hok.len
            omega
          show tIfS _ _ _ _ [some (.ref wa), some (.int a), some (.int b), some (.ref ba), some (.ref Fd), some (.ref Wt), some (.ref qa), some (.int pp.1), some (.int pp.2)] H8
          refine s_when (b := decide (pp.1 = l) && (!decide (pp.2 ∈ q0) && !decide (pp.2 ∈ tk))) (EvT.mono g7.le (et_and (et_is (et_test (ev_op (x := .int pp.1) (y := .int l) (ev_var rfl) (ev_lastI (K := K) (ev_var rfl) hq7 hl) (rv_eq rfl))) (decide_eq_decide.mpr ⟨fun z => V.int.inj z, fun z => by rw [z]⟩)) fun _ => et_and (et_test (ev_op (ev_var rfl) (ev_var rfl) (rv_niI (.inr (st_of hq7))))) fun _ => et_test (ev_op (ev_var rfl) (ev_var rfl) (rv_niI (.inr (ex_t g7.fle hb)))))) (fun hc H9 e9 => ?_) (fun hc H9 e9 => ?_)
          · have hW9 := e9 _ _ hWt7
            refine ⟨_, rfl, .inl ⟨rfl, _, sq_of hW9⟩, _, rfl, _, rfl, by show 1 ≤ sizeLine; decide, fun p hp => ⟨qa, p, q0.map V.int, [.int pp.2], rfl, rfl, st_of (((g7.ext e9).le.trans (Ex.new hp)) _ _ hq7), st_of upd_same, sz_of (by rw [List.length_map]; show q0.length + 1 ≤ 100000; omega), fun z => ?_, fun _ z => (by cases z), fun _ _ r hr' => ?_⟩⟩
            · have : q0 = [] := List.map_eq_nil_iff.mp z
              rw [this] at hl
              cases hl
            · have gp := (g7.ext e9).put (o := .tup [.int pp.2]) hp
              have gr := gp.alloc (o := .tup (q0.map V.int ++ [.int pp.2])) hr'
              have hWr := (Ex.new (o := .tup (q0.map V.int ++ [.int pp.2])) hr') _ _ ((Ex.new (o := .tup [.int pp.2]) hp) _ _ hW9)
              have hFr := (Ex.new (o := .tup (q0.map V.int ++ [.int pp.2])) hr') _ _ ((Ex.new (o := .tup [.int pp.2]) hp) _ _ (e9 _ _ hFd7))
              have fr := gp.ffree hr'
              have nWr : Wt ≠ r := fun z => by
                have := (Ex.new (o := .tup [.int pp.2]) hp) _ _ hW9
                rw [z, hr'] at this
                cases this
              have nFr : Fd ≠ r := fun z => by
                have := (Ex.new (o := .tup [.int pp.2]) hp) _ _ (e9 _ _ hFd7)
                rw [z, hr'] at this
                cases this
              refine ⟨Wt, vs2, .ref r, rfl, rfl, hWr, szl (by omega), _, vs2 ++ [.ref r], _, _, rfl, gr.mut (by rw [upd_ne nWr]; exact fb) (.inl hWt), eF.trans (Ex.new fr), by rw [upd_ne nFr]; exact fa, by rw [upd_ne nWr]; exact fb, by rw [upd_ne nFW]; exact hFr, upd_same, ?_⟩
              rw [ext_take k1, if_pos hc, ← List.append_assoc, List.map_append]
              refine (r7.mono (Ex.new fr) _ _).app (.one (rp_iT ?_ ?_))
              · rw [upd_same, List.map_append]; rfl
              · rw [List.length_append, List.length_singleton]; omega
          · refine ⟨F2, vs2, _, _, rfl, g7.ext e9, eF, fa, fb, e9 _ _ hFd7, e9 _ _ hWt7, ?_⟩
            rw [ext_take k1, if_neg (by rw [hc]; decide), List.append_nil]
            exact r7
        · obtain ⟨F2, vs2, y1, y2, rfl, g7, eF, fa, fb, hFd7, hWt7, r7⟩ := hp
          rw [wl, List.take_length] at r7
          exact ⟨fs, _, _, _, _, rfl, ⟨F2, us, vs2, g7, fa, fb, hFd7, r1.mono eF _ _, hWt7, r7⟩, si.go hl hlb', by rw [wsum_app]; omega, by rw [wsum_app]; omega⟩
    · have : ls = [] := by
        have := of_decide_eq_false hb1
        exact List.length_eq_zero_iff.mp (by omega)
      subst this
      exact ⟨_, rfl, q F' H4 Fd us fs (g.ext e4) f1 hFd0 (e4 _ _ h1) r1 si.done (by omega)⟩
end
end GD

/-! ## The program's search between two machines -/
namespace GD
open PySem L2 Evl G SQ
theorem range_fm {α β : Type} (ts : List α) (g : α → Option β) : (List.range ts.length).filterMap (fun i => (ts[i]?).bind g) = ts.filterMap g := by
  have e : (List.range ts.length).filterMap (ts[·]?) = ts := by
    have := PySem.W.krv_all ts.toArray
    simpa using this
  conv => rhs; rw [← e]
  rw [List.filterMap_filterMap]
section
variable {K : PySem.W.Frag} {σ : L2.St} {F F' H : Hp} {ta : TA} {te : TE} {tt : TT} {n : Nat} {vs : List Nat} {wi : TI}
def Cg2 (F1 H1 : Hp) (t : Nat → Option T) (D : Addr) (i : Nat) (H' : Hp) : Prop := H1 D = none ∧ ∃ F' us, Gw Mn F1 H1 F' H' ∧ F' D = none ∧ H' D = some (.lst us) ∧ Rps F' ((List.range i).filterMap t) us
theorem cg2_turn {F1 H1 Ha Hb : Hp} {t : Nat → Option T} {D : Addr} {i : Nat} {σ2 : L2.St} (p : Cg2 F1 H1 t D i Ha) (eF : Ex F F1) (e2 : Ex Ha Hb) (hi : i < 100000) (ht : EvT tt σ2 F (t i).isSome) (he : ∀ u, t i = some u → EvG te σ2 F fun F2 v => Rp F2 u v) :
    tt σ2 Hb fun b H3 => if b = true then te σ2 H3 fun y H4 => ∃ acc, H4 D = some (.lst acc) ∧ acc.length < sizeLine ∧ Cg2 F1 H1 t D (i + 1) (upd H4 D (.lst (acc ++ [y]))) else Cg2 F1 H1 t D (i + 1) H3 := by
  obtain ⟨p1, F', us, g, f, hD, hr⟩ := p
  refine ht Hb (eF.trans (g.fle.trans (g.le.trans e2))) _ fun H3 e3 => ?_
  have hl := hr.len
  have hl2 := List.length_filterMap_le t (List.range i)
  rw [List.length_range] at hl2
  have rs : List.range (i + 1) = List.range i ++ [i] := List.range_succ
  cases hti : t i with
  | none =>
    show Cg2 F1 H1 t D (i + 1) H3
    refine ⟨p1, F', us, (g.ext e2).ext e3, f, e3 _ _ (e2 _ _ hD), ?_⟩
    rw [rs, List.filterMap_append, List.filterMap_cons, hti]
    simpa using hr
  | some u =>
    show te σ2 H3 fun y H4 => ∃ acc, H4 D = some (.lst acc) ∧ acc.length < sizeLine ∧ Cg2 F1 H1 t D (i + 1) (upd H4 D (.lst (acc ++ [y])))
    refine he u hti F' H3 (eF.trans g.fle) ((g.le.trans e2).trans e3) _ fun v F2 H2 g2 hv => ?_
    have hb : H3 D = some (.lst us) := e3 _ _ (e2 _ _ hD)
    refine ⟨us, g2.ex _ _ hb, sz_lt (by omega), p1, F2, us ++ [v], ((((g.ext e2).ext e3).trans g2).mut (g2.new D (some_ne hb) f) (.inl p1)), g2.new D (some_ne hb) f, upd_same, ?_⟩
    rw [rs, List.filterMap_append, List.filterMap_cons, hti]
    exact (hr.mono g2.fle _ _).app (.one hv)
theorem en_lcX {j : Nat} (Pr : Nat → V → Prop) (hw : ∀ H1, Ex F H1 → ∀ R : It → Hp → Prop, (∀ J H2 (G : Hp → Prop) (Y : Nat → Hp → V → Hp → Prop), Ex H1 H2 → Walk J n G Y → (∀ H, Ex H2 H → G H) → (∀ i H x H', i < n → Ex H2 H → Y i H x H' → Ex H H' ∧ Pr i x) → R J H2) → wi σ H1 R)
    (hwp : ∀ x, wipe ((wipe σ vs).set j (some x)) vs = wipe σ vs) (hn : n ≤ 100000) (t : Nat → Option T)
    (hs : ∀ i x, i < n → Pr i x → EvT tt ((wipe σ vs).set j (some x)) F (t i).isSome ∧ ∀ u, t i = some u → EvG te ((wipe σ vs).set j (some x)) F fun F2 v => Rp F2 u v) : EvN (tLc wi (gName j) tt te vs) σ F ((List.range n).filterMap t) := fun F1 H0 e1 e2 Q q =>
  hw H0 (e1.trans e2) _ fun J H1 G Y e3 W hG hY D hD => lc_it W (Cg2 F1 H1 t D) ⟨hD, F1, [], (Gw.refl (e2.trans e3)).put hD, fresh_back (e2.trans e3) hD, upd_same, rfl⟩ (fun i H' _ ⟨_, F', us, g, _⟩ => hG H' g.ex)
    (fun i x Ha Hb hi p y => by
      obtain ⟨_, F', us, g, _⟩ := id p
      obtain ⟨y1, y2⟩ := hY i Ha x Hb hi g.ex y
      exact ⟨hwp x, cg2_turn p e1 y1 (by omega) (hs i x hi y2).1 (hs i x hi y2).2⟩)
    (fun H' ⟨p1, F', us, g, f, hd, hr⟩ => q D us F' H' (((Gw.refl e2).ext e3).trans g) f (fresh_back e3 p1) hd hr)
/-- over a new list -/
theorem en_lcO {j : Nat} {xs : List V} {tl : TE} (h : EvL tl σ F xs) (hwp : ∀ x, wipe ((wipe σ vs).set j (some x)) vs = wipe σ vs) (hn : xs.length ≤ 100000) (t : Nat → Option T)
    (hs : ∀ (i : Nat) x, xs[i]? = some x → EvT tt ((wipe σ vs).set j (some x)) F (t i).isSome ∧ ∀ u, t i = some u → EvG te ((wipe σ vs).set j (some x)) F fun F2 v => Rp F2 u v) : EvN (tLc (iSq K tl) (gName j) tt te vs) σ F ((List.range xs.length).filterMap t) :=
  en_lcX (fun i x => xs[i]? = some x) (fun H1 e1 R hR => h H1 e1 _ fun p H2 _ e2 hp => ⟨true, p, xs, rfl, sq_of hp, hR _ H2 (fun H => Sq true K H p xs) (YAt xs) e2 walk_sq (fun H e => ex_sq (k := true) e (sq_of hp)) fun i H x H' _ _ y => ⟨by rw [y.1]; exact Ex.refl H, y.2⟩⟩) hwp hn t
    fun i x _ y => hs i x y
/-- an EvS that reads as a tree -/
theorem eg_s {k : Bool} {ts : List T} {xs : List V} (h : EvS te σ F k xs) (hr : Rps F ts xs) (hz : xs.length ≤ 60) : EvG te σ F fun F2 v => Rp F2 (kT k ts) v := fun F1 H1 e1 e2 Q q =>
  h H1 H1 (e1.trans e2) (Ex.refl H1) Q fun a H2 e3 h2 hor => by
    have rd : ∀ F', Ex F F' → F' a = some (sqO k xs) → Rp F' (kT k ts) (.ref a) := fun F' e z => by
      cases k with
      | true => exact .lst_i z hz (hr.mono e _ _)
      | false => exact .tup_i z hz (hr.mono e _ _)
    rcases hor with z | z
    · have f1 := fresh_back e2 z
      exact q _ (upd F1 a (sqO k xs)) H2 (((Gw.refl e2).ext e3).freeze z h2 f1) (rd _ (e1.trans (Ex.new f1)) upd_same)
    · exact q _ F1 H2 ((Gw.refl e2).ext e3) (rd F1 e1 (e1 _ _ z))
end
theorem rows_perm {F : Hp} {us ys : List V} (h : ys.Perm us) : ∀ {fs : List (List Int)}, Rps F (fs.map iT) us → ∃ gs : List (List Int), gs.Perm fs ∧ Rps F (gs.map iT) ys := by
  induction h with
  | nil => exact fun {fs} r => ⟨fs, List.Perm.refl _, r⟩
  | cons x _ ih =>
    intro fs r
    cases fs with
    | nil => cases r
    | cons f fs =>
      obtain ⟨v, vs, e, r1, r2⟩ := r
      cases e
      obtain ⟨gs, g1, g2⟩ := ih r2
      exact ⟨f :: gs, g1.cons f, _, _, rfl, r1, g2⟩
  | swap x y l =>
    intro fs r
    cases fs with
    | nil => cases r
    | cons f fs =>
      obtain ⟨v, vs, e, r1, r2⟩ := r
      cases e
      cases fs with
      | nil => cases r2
      | cons f2 fs =>
        obtain ⟨v, vs, e, r3, r4⟩ := r2
        cases e
        exact ⟨f2 :: f :: fs, List.Perm.swap _ _ _, _, _, rfl, r3, _, _, rfl, r1, r4⟩
  | trans _ _ ih1 ih2 =>
    intro fs r
    obtain ⟨gs, g1, g2⟩ := ih2 r
    obtain ⟨hs, h1, h2⟩ := ih1 g2
    exact ⟨hs, h1.trans g1, h2⟩
def spBetween (K : PySem.W.Frag) : Sp := fun vs H Q _ => ∃ F web pa ta k a b m ws tk, vs = [web, .ref pa, .ref ta] ∧ Ex F H ∧ Wb K F web m ws ∧ SqT K F pa [.int a, .int b] ∧ Sq k K F ta (List.map V.int tk) ∧ 0 ≤ a ∧ a < m ∧ WebOk m ws ∧
  ∀ F' H' D us fs, Gw Mn F H F' H' → F' D = none → H D = none → H' D = some (.lst us) → Rps F' (List.map iT fs) us → (∀ p, p ∈ fs ↔ Full ws tk a b p) → Q (.ref D) H'
section
variable {P : Program} {w : World} {K : PySem.W.Frag} {mg : Str → Option Value} {base : Heap}
theorem ok_ways_between (T : TX K mg) : FnOk P w K mg base CX0 2 (a_ways_between K) (fdOf K (a_ways_between K)) ["web", "pair", "taken"] (spBetween K) := by
  have G_outs := ok_outs (P := P) (w := w) (base := base) T
  refine T.f_ways_between.ok sc_ways_between (fun vs H Q E ⟨F, web, pa, ta, k, a, b, m, ws, tk, e, _⟩ => by rw [e]; rfl) (fun cdv A outer s H vs Q E hr ⟨F, web, pa, ta, k, a, b, m, ws, tk, e, hF, hW, hp, ht, a0, a1, hok, q⟩ => ?_)
  subst e
  refine ⟨_, PSs.nox (pss_cons (ps_asg (pv 1) (pg_tup rfl (pgs_cons (pg_name (i := 3) sc_ways_between.nd rfl (.inl rfl)) (pgs_cons (pg_name (i := 4) sc_ways_between.nd rfl (.inl rfl)) pgs_nil)))) (
    pss_cons (ps_asg (pe_lst pa_nil) (pg_name (i := 5) sc_ways_between.nd rfl (.inl rfl))) (
    pss_cut (ps_asg (pe_ifExp (PW.pt (pw_or (pt_cmpR op_in_seq (pv 3) (pv 2) (by rfl)) (pw_or1 (pt_cmpR op_in_seq (pv 4) (pv 2) (by rfl))))) (pe_lst pa_nil) (pe_lst (pa_cons (pe_tup (pa_cons (pv 3) pa_nil)) pa_nil))) (pg_name (i := 6) sc_ways_between.nd rfl (.inl rfl))) (
    pss_cons (ps_while PassesOwn.never (pt_cmpR op_gt (pe_callB call_len_seq (by rfl) T.z_len PySem.boot_len (pa_cons (pv 6) pa_nil)) pe_int (nomark _)) (pss_cons (ps_asg (pe_bm0 PySem.F.plainAttrs_list PySem.F.slot_list_pop PySem.F.type_list_pop mt_pop (pv 6)) (pg_name (i := 7) sc_ways_between.nd rfl (.inr rfl))) (pss_one (ps_if (pt_cmpR op_eq (pe_ix ix_tup (pv 7) (pe_un un_neg pe_int) (fun _ _ => rfl)) (pv 4) (nomark _)) (pss_one (ps_expr (pe_bm PySem.F.plainAttrs_list PySem.F.slot_list_append PySem.F.type_list_append mt_append (pv 5) (pa_cons (pv 7) pa_nil)))) (pss_one (ps_expr (pe_bm PySem.F.plainAttrs_list PySem.F.slot_list_extend PySem.F.type_list_extend mt_extend (pv 6) (pa_cons (pe_lc (own := [("x", 8)]) (g := (gName 8))  rfl sc_ways_between.nd (pi_sq (pe_call G_outs (hr.mono (by decide)) rfl T.g_outs T.f_outs.kp T.b_outs .nil pass0 (pa_cons (pv 0) (pa_cons (pe_ix ix_tup (pv 7) (pe_un un_neg pe_int) (fun _ _ => rfl)) pa_nil)))) (blkOk_by (own := [("x", 8)]) (N := N_ways_between) (sc := defScope s_ways_between) (by decide +kernel)) (fun _ _ _ _ _ => (pg_name (i := 8) sc_ways_between.nd rfl (.inl rfl))) (fun _ _ _ _ _ => (pts_one (PW.pt (pw_and (pt_cmpR (notIn_K (K := K)) (pv 8) (pv 7) (by rfl)) (pw_and1 (pt_cmpR (notIn_K (K := K)) (pv 8) (pv 2) (by rfl))))))) (fun _ _ _ _ _ => (pe_op (catA_K (K := K)) (pv 7) (pe_tup (pa_cons (pv 8) pa_nil))))) pa_nil)))))))) (
    pss_one (ps_ret (pe_sortLen rfl T.z_sorted rfl T.z_len (pa_cons (pv 5) pa_nil) (units2 hr)))))))), ?_⟩
  refine ⟨_, rfl, pa, _, rfl, ex_t hF hp, rfl, _, _, rfl, _, _, rfl, rfl, ?_⟩
  show tSeq _ _ _ [some web, some (.ref pa), some (.ref ta), some (.int a), some (.int b), none, none, none, none] H
  refine q_asgL (el_lst ea_nil (by decide)) fun Fd H1 hFd e1 hH1 => ?_
  have fFd := fresh_back hF hFd
  refine q_cut (M := fun σ' H' => ∃ Wt ls, σ' = [some web, some (.ref pa), some (.ref ta), some (.int a), some (.int b), some (.ref Fd), some (.ref Wt), none, none] ∧ LW F H ws tk a b Fd Wt [] ls H' ∧ H Wt = none ∧ Fd ≠ Wt ∧ SI ws tk a b [] ls ∧ wsum ls ≤ 262144) ?_ ?_
  · refine (et_or (et_test (ev_op (ev_var rfl) (ev_var rfl) (rv_isI (a := a) (sq_or ht)))) fun _ => et_test (ev_op (ev_var rfl) (ev_var rfl) (rv_isI (a := b) (sq_or ht)))).mono (hF.trans e1) H1 (Ex.refl H1) _ fun H2 e2 => ?_
    have g2 := ((Gw.refl (M := Mn) hF).ext e1).ext e2
    by_cases ht : a ∈ tk ∨ b ∈ tk
    · rw [if_pos (by simpa using ht)]
      refine ⟨Nat.zero_le _, fun Wt hWt => ⟨Wt, [], rfl, ⟨F, [], [], g2.put hWt, fFd, g2.ffree hWt, (Ex.new hWt) _ _ (e2 _ _ hH1), rfl, upd_same, rfl⟩, g2.fresh hWt, (fun z => by rw [z] at hH1; rw [e2 _ _ hH1] at hWt; cases hWt), SI.none ht, by decide⟩⟩
    · rw [if_neg (by simpa using ht)]
      refine ⟨_, rfl, by show 1 ≤ sizeLine; decide, fun p hp => ⟨by show 1 ≤ sizeLine; decide, fun Wt hWt => ?_⟩⟩
      have g3 := g2.alloc (o := .tup [.int a]) hp
      have hp1 := e2 _ _ hH1
      have nFp : Fd ≠ p := ne_of_none hp1 hp
      refine ⟨Wt, [[a]], rfl, ⟨_, [], [.ref p], g3.put hWt, by rw [upd_ne nFp]; exact fFd, g3.ffree hWt, (Ex.new hWt) _ _ ((Ex.new hp) _ _ hp1), rfl, upd_same, .one (rp_iT (q := [a]) upd_same (by show 1 ≤ 60; decide))⟩, g3.fresh hWt, (fun z => ?_), SI.start fun z => ht (.inl z), by rw [wsum_one]; show 8 ^ 6 ≤ 262144; decide⟩
      have := (Ex.new (o := .tup [.int a]) hp) _ _ hp1
      rw [z, hWt] at this
      cases this
  · rintro σ' H2 ⟨Wt, ls, rfl, L0, hWt, nFW, si0, ws0⟩
    refine q_while (fun k σ' H' => ∃ fs ls o1 o2, σ' = [some web, some (.ref pa), some (.ref ta), some (.int a), some (.int b), some (.ref Fd), some (.ref Wt), o1, o2] ∧ LW F H ws tk a b Fd Wt fs ls H' ∧ SI ws tk a b fs ls ∧ fs.length + wsum ls ≤ 262144 ∧ k = wsum ls) (wsum ls) ⟨[], ls, none, none, rfl, L0, si0, by simpa using ws0, rfl⟩ fun k σ' H3 ⟨fs, ls, o1, o2, e, L, si, hwz, hk⟩ => ?_
    subst e hk
    obtain ⟨F', us, vs, g, f1, f2, h1, r1, h2, r2⟩ := id L
    have vl := r2.len
    rw [List.length_map] at vl
    have ul := r1.len
    rw [List.length_map] at ul
    refine ⟨decide ((vs.length : Int) > 0), et_test (ev_op (ev_lenSq (k := true) (ev_var rfl) (sq_of h2)) ev_c rv_I0), fun hb1 H4 e4 => ?_, fun hb1 H4 e4 => ?_⟩
    · have hpos : 0 < ls.length := by
        have := of_decide_eq_true hb1
        omega
      obtain ⟨rest, q0, els⟩ : ∃ rest q0, ls = rest ++ [q0] := ⟨ls.dropLast, ls.getLast (List.length_pos_iff.mp hpos), (List.dropLast_concat_getLast _).symm⟩
      subst els
      rw [List.map_append] at r2
      obtain ⟨vr, wq, rfl, r3, r4⟩ := Rps.snoc r2
      obtain ⟨qa, rfl, hq, hq60⟩ := iT_at r4
      have wy := si.sl q0 (by simp)
      obtain ⟨l, hl⟩ := way_last wy
      have hwl := way_len hok.wok hok.hi ⟨a0, a1⟩ wy
      have hws := wsum_app rest [q0]
      rw [wsum_one] at hws
      have hlen := wsum_len rest
      refine ⟨fun σ' H' => ∃ fs2 ls2 o1 o2, σ' = [some web, some (.ref pa), some (.ref ta), some (.int a), some (.int b), some (.ref Fd), some (.ref Wt), o1, o2] ∧ LW F H ws tk a b Fd Wt fs2 ls2 H' ∧ SI ws tk a b fs2 ls2 ∧ fs2.length + wsum ls2 ≤ 262144 ∧ wsum ls2 < wsum (rest ++ [q0]), fun σ2 H' ⟨fs2, ls2, y1, y2, z1, z2, z3, z4, z5⟩ => ⟨_, z5, fs2, ls2, y1, y2, z1, z2, z3, z4, rfl⟩, ?_⟩
      have h24 := e4 _ _ h2
      refine ⟨_, rfl, .inl ⟨rfl, _, sq_of h24⟩, Wt, _, .ref qa, rfl, rfl, h24, by simp, ?_⟩
      refine gN ?_
      try dsimp only
      rw [List.dropLast_concat]
      have g5 := (g.ext e4).mut (o := .lst vr) f2 (.inl hWt)
      have h8p : 0 < 8 ^ (7 - q0.length) := Nat.pow_pos (by decide)
      refine s_if (b := decide (l = b)) (et_is (et_test (ev_op (x := .int l) (y := .int b) (Ev.mono g5.le (ev_lastI (K := K) (ev_var rfl) hq hl)) (ev_var rfl) (rv_eq rfl))) (decide_eq_decide.mpr ⟨fun z => V.int.inj z, fun z => by rw [z]⟩)) (fun hlb H6 e6 => ?_) (fun hlb H6 e6 => ?_)
      · have hlb' : l = b := of_decide_eq_true hlb
        subst hlb'
        have g6 := g5.ext e6
        have hF6 : H6 Fd = some (.lst us) := e6 _ _ (by rw [upd_ne nFW]; exact e4 _ _ h1)
        have hW6 : H6 Wt = some (.lst vr) := e6 _ _ upd_same
        refine ⟨_, rfl, .inl ⟨rfl, _, sq_of hF6⟩, _, rfl, Fd, us, .ref qa, rfl, rfl, hF6, szl (by omega), ?_⟩
        refine ⟨fs ++ [q0], rest, _, _, rfl, ⟨F', us ++ [.ref qa], vr, g6.mut f1 (.inl hFd), f1, f2, upd_same, ?_, by rw [upd_ne nFW.symm]; exact hW6, r3⟩, si.hit hl, ?_, by omega⟩
        · rw [List.map_append]
          exact r1.app (.one r4)
        · rw [List.length_append, List.length_singleton]
          omega
      · have hlb' : l ≠ b := of_decide_eq_false hlb
        have g6 := g5.ext e6
        have hext := ext_wsum (tk := tk) hok.wok (plt_nd hok) hok.hi ⟨a0, a1⟩ wy hl
        have hF6 : H6 Fd = some (.lst us) := e6 _ _ (by rw [upd_ne nFW]; exact e4 _ _ h1)
        have hW6 : H6 Wt = some (.lst vr) := e6 _ _ upd_same
        refine ⟨_, rfl, .inl ⟨rfl, _, sq_of hW6⟩, nCons ?_⟩
        have hol : (outsOf ws l).length ≤ 60 := by
          unfold outsOf
          rw [List.length_map]
          exact Nat.le_trans (List.length_filter_le _ _) hok.len
        have hcomp := en_lcO (K := K) (F := F') (σ := [some web, some (.ref pa), some (.ref ta), some (.int a), some (.int b), some (.ref Fd), some (.ref Wt), some (.ref qa), o2]) (vs := [8]) (j := 8) (tt := tAnd (tTest (tOp (rIn K true) (tVar 8) (tVar 7))) (tTest (tOp (rIn K true) (tVar 8) (tVar 2)))) (te := tOp (rCatA K) (tVar 7) (tTup (tCons (tVar 8) tNil)))
          (el_call (E := fun _ _ _ => False) (dvs := []) (ta := tCons (tVar 0) (tCons (tOp (rIxT K) (tVar 7) (tUn (rU fun i => .int (-i)) (tC (.int 1)))) tNil)) (ea_cons (ev_var rfl) (ea_cons (ev_lastI (K := K) (ev_var rfl) hq hl) ea_nil)) (svOuts (a := l) (hW.mono g.fle))) (fun _ => rfl) (by rw [List.length_map]; omega)
          (fun i => ((outsOf ws l)[i]?).bind fun x => if (!decide (x ∈ q0) && !decide (x ∈ tk)) = true then some (iT (q0 ++ [x])) else none) (fun i x hx => by
            rw [List.getElem?_map] at hx
            cases ho : (outsOf ws l)[i]? with
            | none => rw [ho] at hx; cases hx
            | some y =>
              rw [ho] at hx
              cases hx
              refine ⟨et_is (et_and (et_test (ev_op (ev_var rfl) (ev_var rfl) (rv_niI (.inr (st_of hq))))) fun _ => et_test (ev_op (ev_var rfl) (ev_var rfl) (rv_niI (sq_or (ex_sq g.fle ht))))) ?_, fun u hu => ?_⟩
              · show _ = (if (!decide (y ∈ q0) && !decide (y ∈ tk)) = true then some (iT (q0 ++ [y])) else none).isSome
                by_cases hc : (!decide (y ∈ q0) && !decide (y ∈ tk)) = true
                · rw [if_pos hc, hc]; rfl
                · rw [if_neg hc]
                  cases hcc : (!decide (y ∈ q0) && !decide (y ∈ tk)) with
                  | true => exact absurd hcc hc
                  | false => rfl
              · have hu' : (if (!decide (y ∈ q0) && !decide (y ∈ tk)) = true then some (iT (q0 ++ [y])) else none) = some u := hu
                by_cases hc : (!decide (y ∈ q0) && !decide (y ∈ tk)) = true
                · rw [if_pos hc] at hu'
                  cases hu'
                  have := eg_s (k := false) (ts := q0.map .int ++ [.int y]) (es_catA (K := K) (es_val (ev_var (σ := (wipe [some web, some (.ref pa), some (.ref ta), some (.int a), some (.int b), some (.ref Fd), some (.ref Wt), some (.ref qa), o2] [8]).set 8 (some (.int y))) (i := 7) rfl) hq) (es_tup (ea_cons (ev_var (i := 8) rfl) ea_nil) (by show 1 ≤ 60; decide)) (by rw [List.length_map]; show q0.length + 1 ≤ 60; omega)) (Rps.app (Rps.ints.mpr rfl) (.one (t := .int y) rfl)) (by rw [List.length_append, List.length_map]; show q0.length + 1 ≤ 60; omega)
                  have ei : iT (q0 ++ [y]) = kT false (q0.map GD.T.int ++ [.int y]) := by
                    show GD.T.tup _ = GD.T.tup _
                    rw [List.map_append]
                    rfl
                  rw [ei]
                  exact this
                · rw [if_neg hc] at hu'
                  cases hu')
        have ex : (List.range ((outsOf ws l).map V.int).length).filterMap (fun i => ((outsOf ws l)[i]?).bind fun x => if (!decide (x ∈ q0) && !decide (x ∈ tk)) = true then some (iT (q0 ++ [x])) else none) = (extOf ws tk q0 l).map iT := by
          rw [List.length_map, range_fm]
          unfold extOf
          rw [List.map_map, ← List.filterMap_eq_map, List.filterMap_filter]
          rfl
        rw [ex] at hcomp
        refine hcomp F' H6 (Ex.refl F') g6.le _ fun D xs F7 H7 g7 f7 hD0 hD hr7 => ?_
        have hxl := hr7.len
        rw [List.length_map] at hxl
        have hxl2 := wsum_len (extOf ws tk q0 l)
        have hvr := r3.len
        rw [List.length_map] at hvr
        have f27 := g7.new Wt (some_ne hW6) f2
        have f17 := g7.new Fd (some_ne hF6) f1
        refine ⟨Wt, D, vr, xs, rfl, rfl, g7.ex _ _ hW6, hD, szL (by omega), fs, rest ++ extOf ws tk q0 l, _, _, rfl, ⟨F7, us, vr ++ xs, (g6.trans g7).mut f27 (.inl hWt), f17, f27, by rw [upd_ne nFW]; exact g7.ex _ _ hF6, r1.mono g7.fle _ _, upd_same, ?_⟩, si.go hl hlb', by rw [wsum_app]; omega, by rw [wsum_app]; omega⟩
        rw [List.map_append]
        exact (r3.mono g7.fle _ _).app hr7
    · have : ls = [] := by
        have := of_decide_eq_false hb1
        exact List.length_eq_zero_iff.mp (by omega)
      subst this
      have h14 := e4 _ _ h1
      refine ⟨_, rfl, Fd, us, rfl, sq_of h14, fun x hx => ?_, fun ys p hpm hp => ?_⟩
      · obtain ⟨i, hi⟩ := List.mem_iff_getElem?.mp hx
        obtain ⟨t0, z1, z2⟩ := r1.at hi
        rw [List.getElem?_map] at z1
        cases hfs : fs[i]? with
        | none => rw [hfs] at z1; cases z1
        | some q1 =>
          rw [hfs] at z1
          cases z1
          obtain ⟨b1, rfl, z3, _⟩ := iT_at z2
          exact ⟨b1, _, rfl, st_of ((g.ext e4).le _ _ z3)⟩
      · obtain ⟨gs, p1, p2⟩ := rows_perm hpm r1
        have g4 := g.ext e4
        exact q F' _ p ys gs (g4.put hp) (g4.ffree hp) (g4.fresh hp) upd_same p2 fun x => (p1.mem_iff).trans (si.done x)
end
end GD

/-! ## Ways apart: the mathematics -/
namespace GD
open PySem L2
/-- ways for these pairs, one for each, away from tk and from each other -/
def AW (ws : List (Int × Int)) : List Int → List (Int × Int) → List (List Int) → Prop
  | _, [], ways => ways = []
  | tk, p :: ps, ways => ∃ w r, ways = w :: r ∧ Full ws tk p.1 p.2 w ∧ AW ws (tk ++ w) ps r
theorem full_congr {ws : List (Int × Int)} {tk tk' : List Int} {a b : Int} {p : List Int} (h : ∀ x, x ∈ tk ↔ x ∈ tk') (f : Full ws tk a b p) : Full ws tk' a b p :=
  ⟨⟨f.1.1, f.1.2.1, fun x hx hm => f.1.2.2.1 x hx ((h x).mpr hm), f.1.2.2.2⟩, f.2⟩
theorem AW.congr {ws : List (Int × Int)} : ∀ {ps : List (Int × Int)} {tk tk' : List Int} {ways : List (List Int)}, (∀ x, x ∈ tk ↔ x ∈ tk') → AW ws tk ps ways → AW ws tk' ps ways
  | [], _, _, _, _, h => h
  | p :: ps, tk, tk', _, h, ⟨w, r, e, f, k⟩ => ⟨w, r, e, full_congr h f, k.congr fun x => by rw [List.mem_append, List.mem_append, h x]⟩
theorem AW.snoc {ws : List (Int × Int)} : ∀ {ps : List (Int × Int)} {tk : List Int} {p : Int × Int} {ways : List (List Int)}, AW ws tk (ps ++ [p]) ways ↔ ∃ r w, ways = r ++ [w] ∧ AW ws tk ps r ∧ Full ws (tk ++ r.flatten) p.1 p.2 w
  | [], tk, p, ways => by
    constructor
    · rintro ⟨w, r, e, f, k⟩
      have : r = [] := k
      subst this
      exact ⟨[], w, e, rfl, by simpa using f⟩
    · rintro ⟨r, w, e, k, f⟩
      have : r = [] := k
      subst this
      exact ⟨w, [], e, by simpa using f, rfl⟩
  | q :: ps, tk, p, ways => by
    constructor
    · rintro ⟨w, r, e, f, k⟩
      obtain ⟨r', w', e', k', f'⟩ := AW.snoc.mp k
      exact ⟨w :: r', w', by rw [e, e']; rfl, ⟨w, r', rfl, f, k'⟩, by
        rw [List.flatten_cons, ← List.append_assoc]
        exact f'⟩
    · rintro ⟨r, w', e, ⟨w, r', e', f, k⟩, f'⟩
      subst e'
      refine ⟨w, r' ++ [w'], by rw [e]; rfl, f, AW.snoc.mpr ⟨r', w', rfl, k, ?_⟩⟩
      rw [List.flatten_cons, ← List.append_assoc] at f'
      exact f'
theorem AW.len {ws : List (Int × Int)} : ∀ {ps : List (Int × Int)} {tk : List Int} {ways : List (List Int)}, AW ws tk ps ways → ways.length = ps.length
  | [], _, ways, h => by
    have : ways = [] := h
    rw [this]; rfl
  | p :: ps, _, _, ⟨w, r, e, _, k⟩ => by rw [e, List.length_cons, List.length_cons, k.len]
/-- a row of machines in use: no machine twice, all within -/
def Rw (m : Int) (r : List Int) : Prop := r.Nodup ∧ ∀ x ∈ r, 0 ≤ x ∧ x < m
theorem AW.row {ws : List (Int × Int)} {m : Int} (hw : ∀ w ∈ ws, Wok m w) : ∀ {ps : List (Int × Int)} {tk : List Int} {ways : List (List Int)}, Rw m tk → (∀ p ∈ ps, 0 ≤ p.1 ∧ p.1 < m) → AW ws tk ps ways → Rw m (tk ++ ways.flatten)
  | [], tk, ways, h, _, k => by
    have : ways = [] := k
    subst this
    simpa using h
  | p :: ps, tk, _, h, hp, ⟨w, r, e, f, k⟩ => by
    subst e
    rw [List.flatten_cons, ← List.append_assoc]
    have hm := way_mem hw (hp p (by simp)) f.1
    refine AW.row hw ⟨?_, fun x hx => (List.mem_append.mp hx).elim (h.2 x) (hm x)⟩ (fun q hq => hp q (List.mem_cons_of_mem _ hq)) k
    rw [List.nodup_append]
    exact ⟨h.1, f.1.2.1, fun x hx y hy e => f.1.2.2.1 y hy (by rw [← e]; exact hx)⟩
theorem rw_len {m : Int} {r : List Int} (h7 : m ≤ 7) (h : Rw m r) : r.length ≤ 7 := SQ.nodup_sub_len (ys := rng7) h.1 fun x hx => in_rng h7 (h.2 x hx).1 (h.2 x hx).2
def subs : List Int → List (List Int)
  | [] => [[]]
  | x :: xs => subs xs ++ (subs xs).map fun r => x :: r
theorem filter_subs (f : Int → Bool) : ∀ xs : List Int, xs.filter f ∈ subs xs
  | [] => by simp [subs]
  | x :: xs => by
    have ih := filter_subs f xs
    rw [List.filter_cons]
    unfold subs
    by_cases h : f x = true
    · rw [if_pos h]
      exact List.mem_append_right _ (List.mem_map.mpr ⟨_, ih, rfl⟩)
    · rw [if_neg h]
      exact List.mem_append_left _ ih
def Srt (r : List Int) : Prop := r.Pairwise (· ≤ ·)
theorem srt_unique {r s : List Int} (hr : Srt r) (hs : Srt s) (h : r.Perm s) : r = s := List.Perm.eq_of_pairwise (fun a b _ _ h1 h2 => Int.le_antisymm h1 h2) hr hs h
theorem row_sub {m : Int} {r : List Int} (h7 : m ≤ 7) (h : Rw m r) (hs : Srt r) : r ∈ subs rng7 := by
  have : r = rng7.filter fun x => decide (x ∈ r) := by
    refine srt_unique hs ?_ ((List.perm_ext_iff_of_nodup h.1 ?_).mpr fun x => ?_)
    · exact List.Pairwise.filter _ (by decide)
    · exact (show rng7.Nodup by decide).filter _
    · rw [List.mem_filter, decide_eq_true_eq]
      exact ⟨fun hx => ⟨in_rng h7 (h.2 x hx).1 (h.2 x hx).2, hx⟩, fun hx => hx.2⟩
  rw [this]
  exact filter_subs _ _
theorem rows_few {m : Int} {rows : List (List Int)} (h7 : m ≤ 7) (hn : rows.Nodup) (h : ∀ r ∈ rows, Rw m r ∧ Srt r) : rows.length ≤ 128 :=
  Nat.le_trans (SQ.nodup_sub_len (ys := subs rng7) hn fun r hr => row_sub h7 (h r hr).1 (h r hr).2) (by decide)
theorem rw_app {ws : List (Int × Int)} {m : Int} {used w : List Int} {a b : Int} (hw : ∀ w ∈ ws, Wok m w) (ha : 0 ≤ a ∧ a < m) (hu : Rw m used) (f : Full ws used a b w) : Rw m (used ++ w) := by
  refine ⟨?_, fun x hx => (List.mem_append.mp hx).elim (hu.2 x) (way_mem hw ha f.1 x)⟩
  rw [List.nodup_append]
  exact ⟨hu.1, f.1.2.1, fun x hx y hy e => f.1.2.2.1 y hy (by rw [← e]; exact hx)⟩
theorem rw_perm {m : Int} {r s : List Int} (h : r.Perm s) (hs : Rw m s) : Rw m r := ⟨h.nodup_iff.mpr hs.1, fun x hx => hs.2 x (h.mem_iff.mp hx)⟩
/-- the rows behind the first pairs -/
def RI (ws ps : List (Int × Int)) (rows : List (List Int)) : Prop := ∀ r, r ∈ rows ↔ ∃ ways, AW ws [] ps ways ∧ r.Perm ways.flatten ∧ Srt r
theorem RI.start (ws : List (Int × Int)) : RI ws [] [[]] := fun r => by
  constructor
  · intro h
    rw [List.mem_singleton.mp h]
    exact ⟨[], rfl, List.Perm.refl _, .nil⟩
  · rintro ⟨ways, h, hp, _⟩
    have : ways = [] := h
    subst this
    rw [hp.eq_nil]
    simp
theorem RI.step {ws ps : List (Int × Int)} {p : Int × Int} {rows later : List (List Int)} (h : RI ws ps rows) (hl : ∀ r, r ∈ later ↔ ∃ used ∈ rows, ∃ w, Full ws used p.1 p.2 w ∧ r.Perm (used ++ w) ∧ Srt r) : RI ws (ps ++ [p]) later := fun r => by
  rw [hl]
  constructor
  · rintro ⟨used, hu, w, f, hp, hs⟩
    obtain ⟨ways, hA, hpm, _⟩ := (h used).mp hu
    refine ⟨ways ++ [w], AW.snoc.mpr ⟨ways, w, rfl, hA, ?_⟩, ?_, hs⟩
    · exact full_congr (fun x => by rw [List.nil_append]; exact hpm.mem_iff) f
    · rw [List.flatten_append]
      simp only [List.flatten_cons, List.flatten_nil, List.append_nil]
      exact hp.trans (hpm.append_right w)
  · rintro ⟨ways, hA, hp, hs⟩
    obtain ⟨r', w, e, hA', f⟩ := AW.snoc.mp hA
    subst e
    rw [List.nil_append] at f
    have hp1 : (r'.flatten.mergeSort (fun x y => decide (x ≤ y))).Perm r'.flatten := List.mergeSort_perm _ _
    have hs1 : Srt (r'.flatten.mergeSort (fun x y => decide (x ≤ y))) := by
      have := List.pairwise_mergeSort (le := fun x y : Int => decide (x ≤ y)) (fun a b c h1 h2 => by simp at *; omega) (fun a b => by simp; omega) r'.flatten
      exact this.imp fun {a b} z => by simpa using z
    refine ⟨_, (h _).mpr ⟨r', hA', hp1, hs1⟩, w, full_congr (fun x => hp1.mem_iff.symm) f, ?_, hs⟩
    rw [List.flatten_append] at hp
    simp only [List.flatten_cons, List.flatten_nil, List.append_nil] at hp
    exact hp.trans (hp1.symm.append_right w)
theorem RI.good {ws ps : List (Int × Int)} {rows : List (List Int)} {m : Int} (hw : ∀ w ∈ ws, Wok m w) (hp : ∀ p ∈ ps, 0 ≤ p.1 ∧ p.1 < m) (h : RI ws ps rows) {r : List Int} (hr : r ∈ rows) : Rw m r ∧ Srt r := by
  obtain ⟨ways, hA, hpm, hs⟩ := (h r).mp hr
  have := AW.row hw (tk := []) ⟨.nil, fun x hx => by cases hx⟩ hp hA
  rw [List.nil_append] at this
  exact ⟨rw_perm hpm this, hs⟩
end GD

/-! ## The law's own answer: are there ways apart -/
namespace GD
open PySem L2 Evl G SQ
def spSomeL (K : PySem.W.Frag) : Sp := fun vs H Q _ => ∃ F wv v m ws ps, vs = [wv, v] ∧ Ex F H ∧ Rp F (.tup (List.map pT ws)) wv ∧ Prs F v ps ∧ Ps m ps ∧ WebOk m ws ∧
  ∀ H' b, Ex H H' → (b = true ↔ ∃ ways, AW ws [] ps ways) → Q (.bl b) H'
section
variable {P : Program} {w : World} {K : PySem.W.Frag} {mg : Str → Option Value} {base : Heap}
theorem ok_L_some_ways (T : TX K mg) : FnOk P w K mg base CX0 2 (a_L_some_ways K) (fdOf K (a_L_some_ways K)) ["_law_wires_here", "_law_pairs"] (spSomeL K) := by
  have G_L_ways := ok_L_ways (P := P) (w := w) (base := base) T
  refine T.f_L_some_ways.ok sc_L_some_ways (fun vs H Q E ⟨F, wv, v, m, ws, ps, e, _⟩ => by rw [e]; rfl) (fun cdv A outer s H vs Q E hr ⟨F, wv, v, m, ws, ps, e, hF, hw, hP, hv, hok, q⟩ => ?_)
  subst e
  refine ⟨_, PSs.nox (pss_cons (ps_asg (pe_lst (pa_cons (pe_tup pa_nil) pa_nil)) (pg_name (i := 2) sc_L_some_ways.nd rfl (.inl rfl))) (
    pss_cons (ps_for PassesOwn.never rfl (pi_sq (pv 1)) (pg_tup rfl (pgs_cons (pg_name (i := 3) sc_L_some_ways.nd rfl (.inl rfl)) (pgs_cons (pg_name (i := 4) sc_L_some_ways.nd rfl (.inl rfl)) pgs_nil))) (pss_cons (ps_asg (pe_lst pa_nil) (pg_name (i := 5) sc_L_some_ways.nd rfl (.inl rfl))) (pss_cons (ps_for PassesOwn.never rfl (pi_sq (pv 2)) (pg_name (i := 6) sc_L_some_ways.nd rfl (.inl rfl)) (pss_one (ps_for PassesOwn.never rfl (pi_sq (pe_call G_L_ways (hr.mono (by decide)) rfl T.g_L_ways T.f_L_ways.kp T.b_L_ways .nil pass0 (pa_cons (pv 0) (pa_cons (pv 3) (pa_cons (pv 4) (pa_cons (pv 6) pa_nil)))))) (pg_name (i := 7) sc_L_some_ways.nd rfl (.inl rfl)) (pss_cons (ps_asg (pe_callTy call_tuple_of (by rfl) T.z_tuple (by decide +kernel) (pa_cons (pe_callB cr_sortedU (by rfl) T.z_sorted (by decide +kernel) (pa_cons (pe_op op_catA (pv 6) (pv 7)) pa_nil)) pa_nil)) (pg_name (i := 8) sc_L_some_ways.nd rfl (.inl rfl))) (pss_one (ps_if (pt_cmpR (op_notInD (units65 hr)) (pv 8) (pv 5) (by rfl)) (pss_one (ps_expr (pe_bm PySem.F.plainAttrs_list PySem.F.slot_list_append PySem.F.type_list_append mt_append (pv 5) (pa_cons (pv 8) pa_nil)))) pss_nil)))))) (pss_one (ps_asg (pv 5) (pg_name (i := 2) sc_L_some_ways.nd rfl (.inl rfl))))))) (
    pss_one (ps_ret (pe_cmpR op_gt (pe_callB call_len_seq (by rfl) T.z_len PySem.boot_len (pa_cons (pv 2) pa_nil)) pe_int (nomark _)))))), ?_⟩
  obtain ⟨kp, pa, pxs, rfl, p1, p2, p3, pl⟩ := hP.sq (K := K)
  obtain ⟨wa, wxs, hwa, w1, w2, w3⟩ := id hw
  subst hwa
  have hpw : ∀ p ∈ ps, 0 ≤ p.1 ∧ p.1 < m := fun p hp => by have := hv.within p hp; omega
  refine ⟨Nat.zero_le _, fun t0 ht0 => ⟨by show 1 ≤ sizeLine; decide, fun R0 hR0 => ?_⟩⟩
  refine gN ?_
  try dsimp only
  have g0 := ((Gw.refl (M := Mn) hF).alloc (o := .tup []) ht0).put (o := .lst [.ref t0]) hR0
  refine q_forW (J := Isq kp K pa) (n := pxs.length) (Gd := fun H => Sq kp K H pa pxs) (Y := YAt pxs) walk_sq (evi_sq (ev_var rfl) (ex_sq g0.le (ex_sq g0.fle p1)))
    (fun i σ' H' => ∃ F' R us rows o1 o2 o3 o4 o5 o6, σ' = [some (.ref wa), some (.ref pa), some (.ref R), o1, o2, o3, o4, o5, o6] ∧ Gw Mn F H F' H' ∧ H' R = some (.lst us) ∧ F' R = none ∧ H R = none ∧ Rps F' (List.map iT rows) us ∧ RI ws (ps.take i) rows ∧ rows.Nodup)
    (fun H1 e1 => ⟨_, R0, [.ref t0], [[]], _, _, _, _, _, _, rfl, g0.ext e1, e1 _ _ upd_same, ((Gw.refl (M := Mn) hF).alloc (o := .tup []) ht0).ffree hR0, ((Gw.refl (M := Mn) hF).alloc (o := .tup []) ht0).fresh hR0, .one (rp_iT (q := []) upd_same (Nat.zero_le _)), RI.start ws, by simp⟩)
    (fun i σ' H' _ ⟨F', R, us, rows, _, _, _, _, _, _, _, g, _⟩ => ex_sq g.le (ex_sq g.fle p1)) (fun i x σ1 Ha Hb hi hp y => ?_) (fun σ' H' ⟨F', R, us, rows, o1, o2, o3, o4, o5, o6, e, g, hR, fR, hRn, hr1, ri, nd⟩ => ?_)
  · obtain ⟨rfl, hy⟩ := y
    obtain ⟨F', R, us, rows, o1, o2, o3, o4, o5, o6, rfl, g, hR, fR, hRn, hr1, ri, nd⟩ := hp
    obtain ⟨pp, ab, k1, rfl, k2⟩ := rps_pT p3 hy
    refine ⟨ab, _, rfl, st_of ((g.fle.trans g.le) _ _ k2), rfl, _, _, rfl, _, _, rfl, rfl, ?_⟩
    show tSeq _ _ _ [some (.ref wa), some (.ref pa), some (.ref R), some (.int pp.1), some (.int pp.2), o3, o4, o5, o6] Hb
    have hpp := hpw pp (List.mem_of_getElem? k1)
    have htk : ps.take (i + 1) = ps.take i ++ [pp] := by rw [List.take_add_one, k1]; rfl
    have rigood : ∀ r ∈ rows, Rw m r ∧ Srt r := fun r hr => ri.good hok.wok (fun p hp => hpw p (List.mem_of_mem_take hp)) hr
    refine q_asgL (el_lst ea_nil (by decide)) fun L H1 hL e1 hH1 => ?_
    have hLn : H L = none := g.fresh hL
    have nRL : R ≠ L := ne_of_none hR hL
    have usl := hr1.len
    rw [List.length_map] at usl
    refine q_forW (J := Isq true K R) (n := us.length) (Gd := fun H => Sq true K H R us) (Y := YAt us) walk_sq (evi_sq (ev_var rfl) (ex_sq (k := true) e1 (sq_of hR)))
      (fun j σ' H' => ∃ F2 vs later o1 o2 o3, σ' = [some (.ref wa), some (.ref pa), some (.ref R), some (.int pp.1), some (.int pp.2), some (.ref L), o1, o2, o3] ∧ Gw Mn F H F2 H' ∧ Ex F' F2 ∧ H' R = some (.lst us) ∧ H' L = some (.lst vs) ∧ F2 L = none ∧ Rps F2 (List.map iT later) vs ∧ later.Nodup ∧ (∀ r, r ∈ later ↔ ∃ used ∈ rows.take j, ∃ w, Full ws used pp.1 pp.2 w ∧ r.Perm (used ++ w) ∧ Srt r))
      (fun H2 e2 => ⟨F', [], [], _, _, _, rfl, (g.ext e1).ext e2, Ex.refl F', e2 _ _ (e1 _ _ hR), e2 _ _ hH1, g.ffree hL, rfl, .nil, fun r => ⟨fun z => (by cases z), fun ⟨_, z, _⟩ => (by cases z)⟩⟩)
      (fun j σ' H' _ ⟨F2, vs, later, _, _, _, _, _, _, hR', _⟩ => sq_of hR') (fun j x σ1 Hc Hd hj hp y => ?_) (fun σ' H' ⟨F2, vs, later, o1, o2, o3, e, g2, eF2, hR2, hL2, fL2, hr2, nd2, hl2⟩ => ?_)
    · obtain ⟨rfl, hy⟩ := y
      obtain ⟨F2, vs, later, o1, o2, o3, rfl, g2, eF2, hR2, hL2, fL2, hr2, nd2, hl2⟩ := hp
      obtain ⟨t, z1, z2⟩ := (hr1.mono eF2 _ _).at hy
      rw [List.getElem?_map] at z1
      cases hu : rows[j]? with
      | none => rw [hu] at z1; cases z1
      | some used =>
        rw [hu] at z1
        cases z1
        obtain ⟨ua, rfl, hua, ulen⟩ := iT_at z2
        have hum := List.mem_of_getElem? hu
        have ug := rigood used hum
        have ul7 := rw_len hok.hi ug.1
        have htj : rows.take (j + 1) = rows.take j ++ [used] := by rw [List.take_add_one, hu]; rfl
        refine gN ?_
        show tFor _ _ _ _ [some (.ref wa), some (.ref pa), some (.ref R), some (.int pp.1), some (.int pp.2), some (.ref L), some (.ref ua), o2, o3] Hd
        refine ⟨_, rfl, _, rfl, _, rfl, _, rfl, F2, .ref wa, ua, pp.1, pp.2, m, ws, used, rfl, g2.le, hw.mono g2.fle _ _, st_of hua, ulen, hpp.1, hpp.2, hok, fun F3 H3 Dw dus fs g3 f3 hDn hD hr3 hfs hfl => ⟨true, Dw, dus, rfl, sq_of hD, ?_⟩⟩
        have fL3 := g3.new L (some_ne hL2) fL2
        have hL3 := g3.ex _ _ hL2
        have dul := hr3.len
        rw [List.length_map] at dul
        refine for_it walk_sq (fun k σ' H' => ∃ F4 vs4 later4 o1 o2, σ' = [some (.ref wa), some (.ref pa), some (.ref R), some (.int pp.1), some (.int pp.2), some (.ref L), some (.ref ua), o1, o2] ∧ Gw Mn F H F4 H' ∧ Ex F3 F4 ∧ H' R = some (.lst us) ∧ H' L = some (.lst vs4) ∧ F4 L = none ∧ H' Dw = some (.lst dus) ∧ Rps F4 (List.map iT later4) vs4 ∧ later4.Nodup ∧ (∀ r, r ∈ later4 ↔ r ∈ later ∨ ∃ w ∈ fs.take k, r.Perm (used ++ w) ∧ Srt r))
          ⟨F3, vs, later, _, _, rfl, g2.trans g3, Ex.refl F3, g3.ex _ _ hR2, hL3, fL3, hD, hr2.mono g3.fle _ _, nd2, fun r => ⟨.inl, fun z => z.elim id fun ⟨_, z, _⟩ => (by cases z)⟩⟩
          (fun k σ' H' _ ⟨_, _, _, _, _, _, _, _, _, _, _, hD', _⟩ => sq_of hD') (fun k x σ1 He Hf hk hp y => ?_) (fun σ' H' ⟨F4, vs4, later4, y1, y2, e, g4, eF4, hR4, hL4, fL4, hD4, hr4, nd4, hl4⟩ => ?_)
        · obtain ⟨rfl, hy⟩ := y
          obtain ⟨F4, vs4, later4, y1, y2, rfl, g4, eF4, hR4, hL4, fL4, hD4, hr4, nd4, hl4⟩ := hp
          obtain ⟨t, z1, z2⟩ := hr3.at hy
          rw [List.getElem?_map] at z1
          cases hwk : fs[k]? with
          | none => rw [hwk] at z1; cases z1
          | some wv =>
            rw [hwk] at z1
            cases z1
            obtain ⟨wb, rfl, hwb, wlen⟩ := iT_at z2
            have hfull := (hfs wv).mp (List.mem_of_getElem? hwk)
            have wl7 := way_len hok.wok hok.hi hpp hfull.1
            have hua4 := eF4 _ _ (g3.fle _ _ hua)
            have hwb4 := eF4 _ _ hwb
            have htk3 : fs.take (k + 1) = fs.take k ++ [wv] := by rw [List.take_add_one, hwk]; rfl
            refine gN ?_
            show tSeq _ _ _ [some (.ref wa), some (.ref pa), some (.ref R), some (.int pp.1), some (.int pp.2), some (.ref L), some (.ref ua), some (.ref wb), y2] Hf
            refine nAsg (nCB (nCons (nCB (nCons ?_))))
            refine (es_catA (K := K) (σ := [some (.ref wa), some (.ref pa), some (.ref R), some (.int pp.1), some (.int pp.2), some (.ref L), some (.ref ua), some (.ref wb), y2]) (es_val (ev_var (i := 6) rfl) hua4) (es_val (ev_var (i := 7) rfl) hwb4) (by rw [List.length_map, List.length_map]; omega)) Hf Hf g4.le (Ex.refl Hf) _ fun ca H6 e6 hca _ => ?_
            refine ⟨ca, used ++ wv, rfl, st_of (by rw [List.map_append]; exact hca), fun ns' p hpm hsrt hp => ⟨p, _, rfl, .inl ⟨sq_of upd_same, fun t ht => gN ?_⟩⟩⟩
            try dsimp only
            have gp := (g4.ext e6).put (o := .lst (ns'.map V.int)) hp
            have gt := gp.alloc (o := .tup (ns'.map V.int)) ht
            have ft := gp.ffree ht
            have hL6 := (Ex.new (o := .tup (ns'.map V.int)) ht) _ _ ((Ex.new (o := .lst (ns'.map V.int)) hp) _ _ (e6 _ _ hL4))
            have hR6 := (Ex.new (o := .tup (ns'.map V.int)) ht) _ _ ((Ex.new (o := .lst (ns'.map V.int)) hp) _ _ (e6 _ _ hR4))
            have hD6 := (Ex.new (o := .tup (ns'.map V.int)) ht) _ _ ((Ex.new (o := .lst (ns'.map V.int)) hp) _ _ (e6 _ _ hD4))
            have nLt : L ≠ t := fun z => by
              have := (Ex.new (o := .lst (ns'.map V.int)) hp) _ _ (e6 _ _ hL4)
              rw [z, ht] at this
              cases this
            have ht6 := upd_same (H := upd H6 p (.lst (ns'.map V.int))) (a := t) (o := .tup (ns'.map V.int))
            have ft6 := upd_same (H := F4) (a := t) (o := .tup (ns'.map V.int))
            have nslen : ns'.length ≤ 60 := by rw [hpm.length_eq, List.length_append]; omega
            have fL6 : upd F4 t (.tup (ns'.map V.int)) L = none := by rw [upd_ne nLt]; exact fL4
            have eF6 : Ex F4 (upd F4 t (.tup (ns'.map V.int))) := Ex.new ft
            generalize upd (upd H6 p (.lst (ns'.map V.int))) t (.tup (ns'.map V.int)) = H7 at *
            generalize upd F4 t (.tup (ns'.map V.int)) = F7 at *
            show tIfS _ _ _ _ [some (.ref wa), some (.ref pa), some (.ref R), some (.int pp.1), some (.int pp.2), some (.ref L), some (.ref ua), some (.ref wb), some (.ref t)] H7
            have hr7 := hr4.mono eF6 _ _
            have huniq : ∀ r, (r.Perm (used ++ wv) ∧ Srt r) ↔ r = ns' := fun r => ⟨fun ⟨z1, z2⟩ => srt_unique z2 hsrt (z1.trans hpm.symm), fun z => by rw [z]; exact ⟨hpm, hsrt⟩⟩
            have hmem : ∀ r, (r ∈ later ∨ ∃ w ∈ fs.take (k + 1), r.Perm (used ++ w) ∧ Srt r) ↔ (r ∈ later4 ∨ r = ns') := fun r => by
              rw [hl4, htk3]
              constructor
              · rintro (z | ⟨w, z1, z2⟩)
                · exact .inl (.inl z)
                · rcases List.mem_append.mp z1 with z3 | z3
                  · exact .inl (.inr ⟨w, z3, z2⟩)
                  · rw [List.mem_singleton.mp z3] at z2
                    exact .inr ((huniq r).mp z2)
              · rintro ((z | ⟨w, z1, z2⟩) | z)
                · exact .inl z
                · exact .inr ⟨w, List.mem_append_left _ z1, z2⟩
                · exact .inr ⟨wv, List.mem_append_right _ (by simp), (huniq r).mpr z⟩
            have lgood : ∀ r ∈ later4, Rw m r ∧ Srt r := fun r hr => by
              rcases (hl4 r).mp hr with z | ⟨w, z1, z2, z3⟩
              · obtain ⟨u, hu1, w, hf1, hp1, hs1⟩ := (hl2 r).mp z
                exact ⟨rw_perm hp1 (rw_app hok.wok hpp (rigood u (List.mem_of_mem_take hu1)).1 hf1), hs1⟩
              · exact ⟨rw_perm z2 (rw_app hok.wok hpp ug.1 ((hfs w).mp (List.mem_of_mem_take z1))), z3⟩
            have few := rows_few hok.hi nd4 lgood
            have v4l := hr4.len
            rw [List.length_map] at v4l
            refine s_when (b := !decide (ns' ∈ later4)) (et_test (ev_op (ev_var rfl) (ev_var rfl) (rv_notInL (st_of ht6) (sq_of hL6) (hr7.mono gt.le _ _)))) (fun hc H8 e8 => ?_) (fun hc H8 e8 => ?_)
            · have hns : ns' ∉ later4 := by simpa using hc
              refine ⟨_, rfl, .inl ⟨rfl, _, sq_of (e8 _ _ hL6)⟩, _, rfl, L, vs4, .ref t, rfl, rfl, e8 _ _ hL6, szl (by omega), F7, vs4 ++ [.ref t], later4 ++ [ns'], _, _, rfl, (gt.ext e8).mut fL6 (.inl hLn), eF4.trans eF6, by rw [upd_ne nRL]; exact e8 _ _ hR6, upd_same, fL6, ?_, ?_, ?_, fun r => ?_⟩
              · have : Dw ≠ L := fun z => by rw [z] at hDn; rw [hL2] at hDn; cases hDn
                rw [upd_ne this]
                exact e8 _ _ hD6
              · rw [List.map_append]
                exact hr7.app (.one (rp_iT ft6 nslen))
              · rw [List.nodup_append]
                exact ⟨nd4, by simp, fun x hx y hy e => hns (by rw [← List.mem_singleton.mp hy, ← e]; exact hx)⟩
              · rw [hmem, List.mem_append, List.mem_singleton]
            · have hns : ns' ∈ later4 := by simpa using hc
              refine ⟨F7, vs4, later4, _, _, rfl, gt.ext e8, eF4.trans eF6, e8 _ _ hR6, e8 _ _ hL6, fL6, e8 _ _ hD6, hr7, nd4, fun r => ?_⟩
              rw [hmem]
              exact ⟨.inl, fun z => z.elim id fun z => by rw [z]; exact hns⟩
        · subst e
          rw [← dul, List.take_length] at hl4
          refine ⟨F4, vs4, later4, _, _, _, rfl, g4, eF2.trans (g3.fle.trans eF4), hR4, hL4, fL4, hr4, nd4, fun r => ?_⟩
          rw [hl4, htj, hl2]
          constructor
          · rintro (⟨u, z1, z2⟩ | ⟨w, z1, z2⟩)
            · exact ⟨u, List.mem_append_left _ z1, z2⟩
            · exact ⟨used, List.mem_append_right _ (by simp), w, (hfs w).mp z1, z2⟩
          · rintro ⟨u, z1, w, z2, z3⟩
            rcases List.mem_append.mp z1 with z | z
            · exact .inl ⟨u, z, w, z2, z3⟩
            · rw [List.mem_singleton.mp z] at z2 z3
              exact .inr ⟨w, (hfs w).mpr z2, z3⟩
    · subst e
      rw [← usl, List.take_length] at hl2
      refine ⟨_, rfl, F2, L, vs, later, _, _, _, _, _, _, rfl, g2, hL2, fL2, hLn, hr2, ?_, nd2⟩
      rw [htk]
      exact ri.step hl2
  · subst e
    refine s_ret (v := .bl (decide ((us.length : Int) > 0))) (ev_op (ev_lenSq (k := true) (ev_var rfl) (sq_of hR)) ev_c rv_I0) fun H1 e1 => q H1 _ (g.ex.trans e1) ?_
    rw [decide_eq_true_eq]
    have usl := hr1.len
    rw [List.length_map] at usl
    have ht : ps.take pxs.length = ps := by rw [pl, List.take_length]
    rw [ht] at ri
    constructor
    · intro hp
      have : rows ≠ [] := fun z => by rw [z] at usl; simp at usl; omega
      obtain ⟨r, hr'⟩ := List.exists_mem_of_ne_nil rows this
      obtain ⟨ways, hA, _⟩ := (ri r).mp hr'
      exact ⟨ways, hA⟩
    · rintro ⟨ways, hA⟩
      have hp1 : (ways.flatten.mergeSort (fun x y => decide (x ≤ y))).Perm ways.flatten := List.mergeSort_perm _ _
      have hs1 : Srt (ways.flatten.mergeSort (fun x y => decide (x ≤ y))) := by
        have := List.pairwise_mergeSort (le := fun x y : Int => decide (x ≤ y)) (fun a b c h1 h2 => by simp at *; omega) (fun a b => by simp; omega) ways.flatten
        exact this.imp fun {a b} z => by simpa using z
      have hm := (ri _).mpr ⟨ways, hA, hp1, hs1⟩
      have := List.length_pos_of_mem hm
      omega
end
end GD

/-! ## The program's search for ways apart -/
namespace GD
open PySem L2 Evl G SQ
def wysT (ways : List (List Int)) : T := .tup (ways.map iT)
def spBehind (K : PySem.W.Frag) (n : Nat) : Sp := fun vs H Q _ => ∃ F web v wy m ws ps dn, vs = [web, v, wy] ∧ Ex F H ∧ Wb K F web m ws ∧ Prs F v ps ∧ Ps m ps ∧ WebOk m ws ∧ Rp F (wysT dn) wy ∧ dn.length + n = ps.length ∧ AW ws [] (ps.take dn.length) dn ∧
  (∀ F' H', Gw Mn F H F' H' → (¬ ∃ r, AW ws dn.flatten (ps.drop dn.length) r) → Q .non H') ∧ ∀ F' H' r ways, Gw Mn F H F' H' → Rp F' (wysT ways) r → r ≠ .non → AW ws [] ps ways → Q r H'
theorem flat_rows {F : Hp} : ∀ {qs : List (List Int)} {vs : List V}, Rps F ((qs.map fun q => GD.T.lst (q.map GD.T.int))) vs → ∃ as : List Addr, vs = as.map V.ref ∧ as.length = qs.length ∧ ∀ (i : Nat) (p : Addr) (q : List Int), as[i]? = some p → qs[i]? = some q → F p = some (.lst (q.map V.int))
  | [], _, h => by cases h; exact ⟨[], rfl, rfl, fun i p q e => by simp at e⟩
  | q :: qs, _, ⟨v, vs, e, ⟨a, us, e2, h1, _, h2⟩, h3⟩ => by
    rw [Rps.ints] at h2
    subst e e2 h2
    obtain ⟨as, k1, k2, k3⟩ := flat_rows h3
    refine ⟨a :: as, by rw [k1]; rfl, by rw [List.length_cons, List.length_cons, k2], fun i p q' z1 z2 => ?_⟩
    cases i with
    | zero =>
      cases z1
      cases z2
      exact h1
    | succ i => exact k3 i p q' (by simpa using z1) (by simpa using z2)
section
variable {K : PySem.W.Frag} {σ : L2.St} {H : Hp} {wi : TI} {g : TG} {tb tz : TS} {D : Ends} {tl : TE} {R : It → Hp → Prop}
theorem nFor (h : wi σ H fun J H1 => ∃ W : Nat → Nat → St → Hp → Prop, (∃ m, W 0 m σ H1) ∧ ∀ i m σ H, W i m σ H → (J.stop i H ∧ tz D σ H) ∨ (J.go i H ∧ ∃ N : St → Hp → Prop, (∀ σ' H', N σ' H' → ∃ m', m' < m ∧ W (i + 1) m' σ' H') ∧ ∀ x H', J.yld i H x H' → g x σ H' fun σ2 H2 => tb { D with nx := N, ct := N, bk := tz D } σ2 H2)) : tSeq (tFor wi g tb) tz D σ H := h
theorem nSq (h : tl σ H fun x H1 => ∃ k a xs, x = .ref a ∧ Sq k K H1 a xs ∧ R (Isq k K a) H1) : iSq K tl σ H R := h
end
section
variable {P : Program} {w : World} {K : PySem.W.Frag} {mg : Str → Option Value} {base : Heap}
theorem ok_ways_behind (T : TX K mg) : ∀ n, FnOk P w K mg base CX0 (n + 3) (a_ways_behind K) (fdOf K (a_ways_behind K)) ["web", "sights", "ways"] (spBehind K n)
  | 0 => by
    refine T.f_ways_behind.ok sc_ways_behind (fun vs H Q E ⟨F, web, v, wy, m, ws, ps, dn, e, _⟩ => by rw [e]; rfl) (fun cdv A outer s H vs Q E hr ⟨F, web, v, wy, m, ws, ps, dn, e, hF, hW, hP, hv, hok, hd, hl, hA, q1, q2⟩ => ?_)
    subst e
    refine ⟨_, PSs.nox (pss_cons (ps_if (pt_cmpR op_eq (pe_callB call_len_seq (by rfl) T.z_len PySem.boot_len (pa_cons (pv 2) pa_nil)) (pe_callB call_len_seq (by rfl) T.z_len PySem.boot_len (pa_cons (pv 1) pa_nil)) (nomark _)) (pss_one (ps_ret (pv 2))) pss_nil) pss_never), ?_⟩
    obtain ⟨kp, pa, pxs, rfl, p1, p2, p3, pl⟩ := hP.sq (K := K)
    obtain ⟨wya, us, hwy, u1, u2, u3⟩ := id hd
    subst hwy
    have ul := u3.len
    rw [List.length_map] at ul
    refine q_when (b := true) (EvT.mono hF (et_is (et_test (ev_op (ev_lenSq (k := false) (ev_var rfl) (st_of u1)) (ev_lenSq (ev_var rfl) p1) (rv_eq rfl))) ?_)) (fun _ H1 e1 => ?_) (fun hb => by cases hb)
    · exact decide_eq_true (by rw [← ul, pl]; congr 1; omega)
    · refine ⟨_, rfl, q2 F H1 _ dn ((Gw.refl hF).ext e1) hd (by intro z; cases z) ?_⟩
      have : ps.take dn.length = ps := by rw [List.take_of_length_le]; omega
      rwa [this] at hA
  | n + 1 => by
    have G_ways_behind := ok_ways_behind T n
    have G_ways_between := ok_ways_between (P := P) (w := w) (base := base) T
    refine T.f_ways_behind.ok sc_ways_behind (fun vs H Q E ⟨F, web, v, wy, m, ws, ps, dn, e, _⟩ => by rw [e]; rfl) (fun cdv A outer s H vs Q E hr ⟨F, web, v, wy, m, ws, ps, dn, e, hF, hW, hP, hv, hok, hd, hl, hA, q1, q2⟩ => ?_)
    subst e
    refine ⟨_, PSs.nox (pss_cons (ps_if (pt_cmpR op_eq (pe_callB call_len_seq (by rfl) T.z_len PySem.boot_len (pa_cons (pv 2) pa_nil)) (pe_callB call_len_seq (by rfl) T.z_len PySem.boot_len (pa_cons (pv 1) pa_nil)) (nomark _)) (pss_one (ps_ret (pv 2))) pss_nil) (
    pss_cons (ps_asg (pe_callB (cr_sumL rfl) (by rfl) T.z_sum (by decide +kernel) (pa_cons (pe_lc (own := [("way", 4)]) (g := (gName 4)) (tt := tYes) rfl sc_ways_behind.nd (pi_sq (pv 2)) (blkOk_by (own := [("way", 4)]) (N := N_ways_behind) (sc := defScope s_ways_behind) (by decide +kernel)) (fun _ _ _ _ _ => (pg_name (i := 4) sc_ways_behind.nd rfl (.inl rfl))) (fun _ _ _ _ _ => pts_nil) (fun _ _ _ _ _ => (pe_callTy (list_K (K := K)) (by rfl) T.z_list (by decide +kernel) (pa_cons (pv 4) pa_nil)))) (pa_cons (pe_lst pa_nil) pa_nil))) (pg_name (i := 3) sc_ways_behind.nd rfl (.inl rfl))) (
    pss_cons (ps_for PassesOwn.never rfl (pi_sq (pe_call G_ways_between (hr.mono (by omega)) rfl T.g_ways_between T.f_ways_between.kp T.b_ways_between .nil pass0 (pa_cons (pv 0) (pa_cons (pe_ix (IxR.or ix_list ix_tup) (pv 1) (pe_callB call_len_seq (by rfl) T.z_len PySem.boot_len (pa_cons (pv 2) pa_nil)) (fun _ _ => rfl)) (pa_cons (pv 3) pa_nil))))) (pg_name (i := 4) sc_ways_behind.nd rfl (.inl rfl)) (pss_cons (ps_asg (pe_call G_ways_behind (hr.mono (by omega)) rfl T.g_ways_behind T.f_ways_behind.kp T.b_ways_behind .nil pass0 (pa_cons (pv 0) (pa_cons (pv 1) (pa_cons (pe_op op_catA (pv 2) (pe_tup (pa_cons (pv 4) pa_nil))) pa_nil)))) (pg_name (i := 5) sc_ways_behind.nd rfl (.inl rfl))) (pss_one (ps_if (pt_cmp (pc_notN (pv 5))) (pss_one (ps_ret (pv 5))) pss_nil)))) (
    pss_one (ps_ret pe_non))))), ?_⟩
    obtain ⟨kp, pa, pxs, rfl, p1, p2, p3, pl⟩ := hP.sq (K := K)
    obtain ⟨wya, us, hwy, u1, u2, u3⟩ := id hd
    subst hwy
    have ul := u3.len
    rw [List.length_map] at ul
    have hp4 := hv.hi
    refine q_when (b := false) (EvT.mono hF (et_is (et_test (ev_op (ev_lenSq (k := false) (ev_var rfl) (st_of u1)) (ev_lenSq (ev_var rfl) p1) (rv_eq rfl))) ?_)) (fun hb => by cases hb) (fun _ H1 e1 => ?_)
    · exact decide_eq_false (fun z => by have := V.int.inj z; omega)
    have hcomp := en_lcN (F := F) (σ := start N_ways_behind [web, .ref pa, .ref wya]) (vs := [4]) (j := 4) (te := tCB (rListS K) (tCons (tVar 4) tNil)) (walk_sq (K := K) (k := false) (a := wya) (xs := us)) (evi_sq (K := K) (tl := tVar 2) (ev_var rfl) (st_of u1)) (fun H e => ex_sq (k := false) e (st_of u1)) (fun i H x H' _ y => by rw [y.1]; exact Ex.refl H) (fun _ => rfl) (by omega) (fun i => GD.T.lst ((dn.getD i []).map GD.T.int)) (fun i x H1 H' hi e y => by
      obtain ⟨rfl, hy⟩ := y
      obtain ⟨t, z1, z2⟩ := u3.at hy
      rw [List.getElem?_map] at z1
      cases hq : dn[i]? with
      | none => rw [hq] at z1; cases z1
      | some q0 =>
        rw [hq] at z1
        cases z1
        obtain ⟨qa, rfl, z3, z4⟩ := iT_at z2
        have : dn.getD i [] = q0 := by rw [List.getD_eq_getElem?_getD, hq]; rfl
        rw [this]
        exact eg_s (k := true) (es_list (k := false) (ev_var rfl) z3) (Rps.ints.mpr rfl) (by rw [List.length_map]; exact z4))
    have et : ((List.range us.length).map fun i => GD.T.lst ((dn.getD i []).map GD.T.int)) = dn.map fun q => GD.T.lst (q.map GD.T.int) := by
      refine List.ext_getElem (by simp [ul]) fun i z1 z2 => ?_
      have z3 : i < dn.length := by simpa using z2
      simp [z3]
    rw [et] at hcomp
    refine nAsg (nCB (nCons ?_))
    refine hcomp F H1 (Ex.refl F) (hF.trans e1) _ fun D xs F2 H2 g2 f2 hD0 hD hr2 => ⟨Nat.zero_le _, fun st hst => ?_⟩
    obtain ⟨as, k1, k2, k3⟩ := flat_rows hr2
    subst k1
    have gA := ((Gw.refl (M := Mn) hF).ext e1).trans g2
    refine ⟨D, st, as, dn.map fun q => q.map V.int, [], rfl, sq_of ((Ex.new hst) _ _ hD), by rw [k2, List.length_map], fun i p xs z1 z2 => ?_, upd_same, ?_, fun t H3 e3 ht hor => gN ?_⟩
    · rw [List.getElem?_map] at z2
      cases hq : dn[i]? with
      | none => rw [hq] at z2; cases z2
      | some q0 =>
        rw [hq] at z2
        cases z2
        exact (Ex.new hst) _ _ (g2.le _ _ (k3 i p q0 z1 hq))
    · refine sz_of ?_
      have hrow := AW.row hok.wok (tk := []) ⟨.nil, fun x hx => by cases hx⟩ (fun p hp => by have := hv.within p (List.mem_of_mem_take hp); omega) hA
      have := rw_len hok.hi hrow
      rw [List.nil_append] at this
      rw [← List.map_flatten, List.length_map]
      show 0 + _ ≤ 100000
      omega
    try dsimp only
    rw [← List.map_flatten, List.nil_append] at ht
    have htn2 : H2 t = none := by
      rcases hor with z | z
      · rw [z]; exact hst
      · by_cases z2 : t = st
        · rw [z2]; exact hst
        · rw [upd_ne z2] at z; exact z
    have ft2 := gA.ffree htn2
    have gB := ((gA.put hst).ext e3).freeze (gA.fresh htn2) ht ft2
    have ft3 := upd_same (H := F2) (a := t) (o := .lst (dn.flatten.map V.int))
    generalize upd F2 t (.lst (dn.flatten.map V.int)) = F3 at gB ft3
    have hdl : dn.length < ps.length := by omega
    have hdx : dn.length < pxs.length := by omega
    obtain ⟨pp, ab, y1, y2, y3⟩ := rps_pT p3 (List.getElem?_eq_getElem hdx)
    have hpp := hv.within pp (List.mem_of_getElem? y1)
    have hdrop : ps.drop dn.length = pp :: ps.drop (dn.length + 1) := by
      rw [List.drop_eq_getElem_cons hdl]
      congr 1
      rw [List.getElem?_eq_getElem hdl] at y1
      exact Option.some.inj y1
    have htake : ps.take (dn.length + 1) = ps.take dn.length ++ [pp] := by rw [List.take_add_one, y1]; rfl
    refine nFor (nSq (nCall ?_))
    refine (show EvA _ [some web, some (.ref pa), some (.ref wya), some (.ref t), none, none] F3 [web, .ref ab, .ref t] from ea_cons (ev_var rfl) (ea_cons (ev_ixSq (K := K) (ev_var (i := 1) rfl) (ex_sq gB.fle p1) (ev_lenSq (K := K) (k := false) (ev_var (i := 2) rfl) (st_of (gB.fle _ _ u1))) (by rw [← ul]; exact atI_nat (by rw [← y2]; exact List.getElem?_eq_getElem hdx))) (ea_cons (ev_var rfl) ea_nil))) H3 gB.le _ fun H4 e4 => ?_
    refine ⟨F3, web, ab, t, true, pp.1, pp.2, m, ws, dn.flatten, rfl, gB.le.trans e4, hW.mono gB.fle, st_of (gB.fle _ _ y3), sq_of ft3, hpp.1, hpp.2.1, hok, fun F4 H5 Dw dus fs g5 f5 hDn hDw hr5 hfs => ⟨true, Dw, dus, rfl, sq_of hDw, ?_⟩⟩
    have dul := hr5.len
    rw [List.length_map] at dul
    have gC := (gB.ext e4).trans g5
    refine for_it (D := { nx := tRet (tC .non) { nx := fun _ H' => Q .non H', rt := Q }, rt := Q }) (walk_sq (K := K) (k := true) (a := Dw) (xs := dus)) (fun k σ' H' => ∃ F5 o1 o2, σ' = [some web, some (.ref pa), some (.ref wya), some (.ref t), o1, o2] ∧ Gw Mn F H F5 H' ∧ Ex F4 F5 ∧ H' Dw = some (.lst dus) ∧ ∀ w ∈ fs.take k, ¬ ∃ r, AW ws (dn ++ [w]).flatten (ps.drop (dn.length + 1)) r)
      ⟨F4, none, none, rfl, gC, Ex.refl F4, hDw, fun w hw => by cases hw⟩ (fun k σ' H' _ ⟨_, _, _, _, _, _, hD', _⟩ => sq_of hD') (fun k x σ1 He Hf hk hp y => ?_) (fun σ' H' ⟨F5, o1, o2, e, g6, eF, hD6, hno⟩ => ?_)
    · obtain ⟨rfl, hy⟩ := y
      obtain ⟨F5, o1, o2, rfl, g6, eF, hD6, hno⟩ := hp
      obtain ⟨t1, z1, z2⟩ := (hr5.mono eF _ _).at hy
      rw [List.getElem?_map] at z1
      cases hwk : fs[k]? with
      | none => rw [hwk] at z1; cases z1
      | some wv =>
        rw [hwk] at z1
        cases z1
        obtain ⟨wb, rfl, hwb, wlen⟩ := iT_at z2
        have hfull := (hfs wv).mp (List.mem_of_getElem? hwk)
        have htk3 : fs.take (k + 1) = fs.take k ++ [wv] := by rw [List.take_add_one, hwk]; rfl
        refine gN ?_
        show tSeq _ _ _ [some web, some (.ref pa), some (.ref wya), some (.ref t), some (.ref wb), o2] Hf
        refine nAsg (nCall (nCons (nVar rfl (nCons (nVar rfl (nCons ?_))))))
        refine (eg_s (k := false) (ts := dn.map iT ++ [iT wv]) (es_catA (K := K) (σ := [some web, some (.ref pa), some (.ref wya), some (.ref t), some (.ref wb), o2]) (F := F5) (es_val (ev_var (i := 2) rfl) (eF _ _ (gC.fle _ _ u1))) (es_tup (ea_cons (ev_var (i := 4) rfl) ea_nil) (by show 1 ≤ 60; decide)) (by show us.length + 1 ≤ 60; omega)) ((u3.mono (gC.fle.trans eF) _ _).app (.one (rp_iT hwb wlen))) (by rw [List.length_append]; show us.length + 1 ≤ 60; omega)) F5 Hf (Ex.refl F5) g6.le _ fun va F6 H7 g7 r7 => ?_
        have gD := g6.trans g7
        refine ⟨F6, web, .ref pa, va, m, ws, ps, dn ++ [wv], rfl, gD.le, hW.mono gD.fle, hP.mono gD.fle, hv, hok, by
          show Rp F6 (GD.T.tup _) va
          rw [List.map_append]
          exact r7, by rw [List.length_append, List.length_singleton]; omega, by
          rw [List.length_append, List.length_singleton, htake]
          exact AW.snoc.mpr ⟨dn, wv, rfl, hA, by simpa using hfull⟩, fun F7 H8 g8 hn8 => gN ?_, fun F7 H8 r ways g8 r8 hr0 hA8 => gN ?_⟩
        · refine ⟨_, rfl, _, rfl, ?_⟩
          show if (!decide (V.non = V.non)) = true then _ else _
          rw [if_neg (by simp)]
          refine ⟨F7, _, _, rfl, gD.trans g8, eF.trans (g7.fle.trans g8.fle), g8.ex _ _ (g7.ex _ _ hD6), fun w hw => ?_⟩
          rw [htk3] at hw
          rcases List.mem_append.mp hw with z | z
          · exact hno w z
          · rw [List.mem_singleton.mp z]
            rw [List.length_append, List.length_singleton] at hn8
            exact hn8
        · refine ⟨_, rfl, _, rfl, ?_⟩
          show if (!decide (r = V.non)) = true then _ else _
          rw [if_pos (by simpa using hr0)]
          exact ⟨_, rfl, q2 F7 H8 r ways (gD.trans g8) r8 hr0 hA8⟩
    · subst e
      rw [← dul, List.take_length] at hno
      refine q1 F5 H' g6 ?_
      rintro ⟨r, hr'⟩
      rw [hdrop] at hr'
      obtain ⟨w0, r', e0, hf0, hA0⟩ := hr'
      refine hno w0 ((hfs w0).mpr hf0) ⟨r', ?_⟩
      rw [List.flatten_append]
      simpa using hA0
end
end GD

/-! ## ways_apart, first_sights -/
namespace GD
open PySem L2 Evl G SQ
def putT (k : Int) : T := .tup [.str "put", .int k]
def comeT (y x : Int) : T := .tup [.str "come", .int y, .int x]
def comes (w : List Int) : List T := (List.range (w.length - 1)).map fun i => comeT (w.getD i 0) (w.getD (i + 1) 0)
def runTo (ways : List (List Int)) (i : Nat) : List T := (List.range i).flatMap fun k => putT (k : Nat) :: comes (ways.getD k [])
theorem runTo_succ (ways : List (List Int)) (i : Nat) : runTo ways (i + 1) = runTo ways i ++ putT (i : Nat) :: comes (ways.getD i []) := by
  unfold runTo
  rw [List.range_succ, List.flatMap_append]
  simp
theorem run_len {ways : List (List Int)} (hne : ∀ w ∈ ways, w ≠ []) : ∀ i, i ≤ ways.length → (runTo ways i).length = (ways.take i).flatten.length
  | 0, _ => by simp [runTo]
  | i + 1, hi => by
    have ih := run_len hne i (by omega)
    have hw : ways[i]? = some ways[i] := List.getElem?_eq_getElem (by omega)
    have hg : ways.getD i [] = ways[i] := by rw [List.getD_eq_getElem?_getD, hw]; rfl
    have hn := hne ways[i] (List.getElem_mem _)
    have hl := List.length_pos_iff.mpr hn
    rw [runTo_succ, List.length_append, ih, hg, List.take_add_one, hw, List.flatten_append, List.length_append]
    unfold comes
    simp
    omega
theorem AW.ne {ws : List (Int × Int)} : ∀ {ps : List (Int × Int)} {tk : List Int} {ways : List (List Int)}, AW ws tk ps ways → ∀ w ∈ ways, w ≠ []
  | [], _, ways, h, w, hw => by
    have : ways = [] := h
    rw [this] at hw
    cases hw
  | p :: ps, _, _, ⟨w0, r, e, f, k⟩, w, hw => by
    subst e
    rcases List.mem_cons.mp hw with z | z
    · subst z
      intro e
      rw [e] at f
      cases f.2
    · exact k.ne w z
theorem AW.flen {ws ps : List (Int × Int)} {m : Int} {ways : List (List Int)} (hok : WebOk m ws) (hv : Ps m ps) (h : AW ws [] ps ways) : ways.flatten.length ≤ 7 := by
  have := AW.row hok.wok (tk := []) ⟨.nil, fun x hx => by cases hx⟩ (fun p hp => by have := hv.within p hp; omega) h
  rw [List.nil_append] at this
  exact rw_len hok.hi this
def spApart (K : PySem.W.Frag) (f : List (List Int) → T) : Sp := fun vs H Q _ => ∃ F web v m ws ps, vs = [web, v] ∧ Ex F H ∧ Wb K F web m ws ∧ Prs F v ps ∧ Ps m ps ∧ WebOk m ws ∧
  (∀ F' H', Gw Mn F H F' H' → (¬ ∃ r, AW ws [] ps r) → Q .non H') ∧ ∀ F' H' r ways, Gw Mn F H F' H' → Rp F' (f ways) r → r ≠ .non → AW ws [] ps ways → Q r H'
section
variable {P : Program} {w : World} {K : PySem.W.Frag} {mg : Str → Option Value} {base : Heap}
theorem ok_ways_apart (T : TX K mg) : FnOk P w K mg base CX0 8 (a_ways_apart K) (fdOf K (a_ways_apart K)) ["web", "sights"] (spApart K wysT) := by
  have G_check_sights := ok_check_sights (P := P) (w := w) (base := base) T
  refine T.f_ways_apart.ok sc_ways_apart (fun vs H Q E ⟨F, web, v, m, ws, ps, e, _⟩ => by rw [e]; rfl) (fun cdv A outer s H vs Q E hr ⟨F, web, v, m, ws, ps, e, hF, hW, hP, hv, hok, q1, q2⟩ => ?_)
  subst e
  have hp4 := hv.hi
  have G_ways_behind := ok_ways_behind (P := P) (w := w) (base := base) T ps.length
  refine ⟨_, PSs.nox (pss_cons (ps_expr (pe_call G_check_sights (hr.mono (by omega)) rfl T.g_check_sights T.f_check_sights.kp T.b_check_sights .nil pass0 (pa_cons (pv 0) (pa_cons (pv 1) pa_nil)))) (
    pss_one (ps_ret (pe_call G_ways_behind (hr.mono (by omega)) rfl T.g_ways_behind T.f_ways_behind.kp T.b_ways_behind .nil pass0 (pa_cons (pv 0) (pa_cons (pv 1) (pa_cons (pe_tup pa_nil) pa_nil))))))), ?_⟩
  refine q_drop (Ev.mono hF (ev_call (ea_cons (ev_var rfl) (ea_cons (ev_var rfl) ea_nil)) (svSights hW hP hv))) fun H1 e1 => ?_
  refine ⟨_, rfl, _, rfl, Nat.zero_le _, fun t ht => ?_⟩
  have g1 := ((Gw.refl (M := Mn) hF).ext e1).alloc (o := .tup []) ht
  refine ⟨upd F t (.tup []), web, v, .ref t, m, ws, ps, [], rfl, g1.le, hW.mono g1.fle, hP.mono g1.fle, hv, hok, .tup_i upd_same (Nat.zero_le _) rfl, by simp, rfl, fun F' H' g hn => q1 F' H' (g1.trans g) hn, fun F' H' r ways g hr' hr0 hA => q2 F' H' r ways (g1.trans g) hr' hr0 hA⟩
theorem ok_first_sights (T : TX K mg) : FnOk P w K mg base CX0 8 (a_first_sights K) (fdOf K (a_first_sights K)) ["web", "sights"] (spApart K fun ways => .lst (runTo ways ways.length)) := by
  have G_check_sights := ok_check_sights (P := P) (w := w) (base := base) T
  refine T.f_first_sights.ok sc_first_sights (fun vs H Q E ⟨F, web, v, m, ws, ps, e, _⟩ => by rw [e]; rfl) (fun cdv A outer s H vs Q E hr ⟨F, web, v, m, ws, ps, e, hF, hW, hP, hv, hok, q1, q2⟩ => ?_)
  subst e
  have hp4 := hv.hi
  have G_ways_behind := ok_ways_behind (P := P) (w := w) (base := base) T ps.length
  refine ⟨_, PSs.nox (pss_cons (ps_expr (pe_call G_check_sights (hr.mono (by omega)) rfl T.g_check_sights T.f_check_sights.kp T.b_check_sights .nil pass0 (pa_cons (pv 0) (pa_cons (pv 1) pa_nil)))) (
    pss_cons (ps_asg (pe_call G_ways_behind (hr.mono (by omega)) rfl T.g_ways_behind T.f_ways_behind.kp T.b_ways_behind .nil pass0 (pa_cons (pv 0) (pa_cons (pv 1) (pa_cons (pe_tup pa_nil) pa_nil)))) (pg_name (i := 2) sc_first_sights.nd rfl (.inl rfl))) (
    pss_cons (ps_if (pt_cmp (pc_isN (pv 2))) (pss_one (ps_ret pe_non)) pss_nil) (
    pss_cons (ps_asg (pe_lst pa_nil) (pg_name (i := 3) sc_first_sights.nd rfl (.inl rfl))) (
    pss_cons (ps_for PassesOwn.never rfl (pi_E rfl T.z_enumerate (pa_cons (pv 2) pa_nil)) (pg_tup rfl (pgs_cons (pg_name (i := 4) sc_first_sights.nd rfl (.inl rfl)) (pgs_cons (pg_name (i := 5) sc_first_sights.nd rfl (.inr rfl)) pgs_nil))) (pss_cons (ps_expr (pe_bm PySem.F.plainAttrs_list PySem.F.slot_list_append PySem.F.type_list_append mt_append (pv 3) (pa_cons (pe_tup (pa_cons pe_str (pa_cons (pv 4) pa_nil))) pa_nil))) (pss_one (ps_expr (pe_bm PySem.F.plainAttrs_list PySem.F.slot_list_extend PySem.F.type_list_extend mt_extend (pv 3) (pa_cons (pe_lc (own := [("at", 6)]) (g := (gName 6)) (tt := tYes) rfl sc_first_sights.nd (pi_range1 rfl T.z_range (pa_cons (pe_op op_sub (pe_callB call_len_seq (by rfl) T.z_len PySem.boot_len (pa_cons (pv 5) pa_nil)) pe_int) pa_nil)) (blkOk_by (own := [("at", 6)]) (N := N_first_sights) (sc := defScope s_first_sights) (by decide +kernel)) (fun _ _ _ _ _ => (pg_name (i := 6) sc_first_sights.nd rfl (.inl rfl))) (fun _ _ _ _ _ => pts_nil) (fun _ _ _ _ _ => (pe_tup (pa_cons pe_str (pa_cons (pe_ix (ixT_K (K := K)) (pv 5) (pv 6) (fun _ _ => rfl)) (pa_cons (pe_ix (ixT_K (K := K)) (pv 5) (pe_op op_add (pv 6) pe_int) (fun _ _ => rfl)) pa_nil)))))) pa_nil)))))) (
    pss_one (ps_ret (pv 3)))))))), ?_⟩
  refine q_drop (Ev.mono hF (ev_call (ea_cons (ev_var rfl) (ea_cons (ev_var rfl) ea_nil)) (svSights hW hP hv))) fun H1 e1 => ?_
  refine nAsg (nCall (nCons (nVar rfl (nCons (nVar rfl (nCons ?_))))))
  refine ⟨Nat.zero_le _, fun t ht => ?_⟩
  have g1 := ((Gw.refl (M := Mn) hF).ext e1).alloc (o := .tup []) ht
  refine ⟨upd F t (.tup []), web, v, .ref t, m, ws, ps, [], rfl, g1.le, hW.mono g1.fle, hP.mono g1.fle, hv, hok, .tup_i upd_same (Nat.zero_le _) rfl, by simp, rfl, fun F' H' g hn => gN ?_, fun F' H' r ways g hr' hr0 hA => gN ?_⟩
  · refine ⟨_, rfl, _, rfl, ?_⟩
    show if decide (V.non = V.non) = true then _ else _
    rw [if_pos (by simp)]
    exact q1 F' H' (g1.trans g) hn
  · refine ⟨_, rfl, _, rfl, ?_⟩
    show if decide (r = V.non) = true then _ else _
    rw [if_neg (by simpa using hr0)]
    have gA := g1.trans g
    obtain ⟨ra, rs, hra, r1, r2, r3⟩ := id hr'
    subst hra
    have rl := r3.len
    rw [List.length_map] at rl
    have fl := hA.flen hok hv
    have hne := hA.ne
    have wl := hA.len
    show tSeq _ _ _ [some web, some v, some (.ref ra), none, none, none, none] H'
    refine q_asgL (el_lst ea_nil (by decide)) fun S H2 hS e2 hH2 => ?_
    have gB := gA.ext e2
    have hSn := gA.fresh hS
    refine q_forW (J := JE K false ra) (n := rs.length) (Gd := fun H => Sq false K H ra rs) (walk_E) (evi_E (ea_cons (ev_var rfl) ea_nil) (st_of (gB.le _ _ r1)))
      (fun i σ' H' => ∃ F2 us o1 o2, σ' = [some web, some v, some (.ref ra), some (.ref S), o1, o2, none] ∧ Gw Mn F H F2 H' ∧ Ex F' F2 ∧ H' S = some (.lst us) ∧ F2 S = none ∧ Rps F2 (runTo ways i) us)
      (fun H3 e3 => ⟨F', [], none, none, rfl, gB.ext e3, Ex.refl F', e3 _ _ hH2, gA.ffree hS, rfl⟩) (fun i σ' H' _ ⟨F2, us, _, _, _, g2, eF, _⟩ => st_of ((eF.trans g2.le) _ _ r1)) (fun i x σ1 Hc Hd hi hp y => ?_) (fun σ' H3 ⟨F2, us, o1, o2, e, g2, eF, hS2, fS2, hr2⟩ => ?_)
    · obtain ⟨F2, us, o1, o2, rfl, g2, eF, hS2, fS2, hr2⟩ := hp
      have ey := ypair_ex y
      obtain ⟨T0, x0, y0, rfl, y1, y2, y3, y4⟩ := y
      obtain ⟨t1, z1, z2⟩ := (r3.mono eF _ _).at y4
      rw [List.getElem?_map] at z1
      cases hw : ways[i]? with
      | none => rw [hw] at z1; cases z1
      | some wv =>
        rw [hw] at z1
        cases z1
        obtain ⟨wb, rfl, hwb, wlen⟩ := iT_at z2
        cases y3
        have hg : ways.getD i [] = wv := by rw [List.getD_eq_getElem?_getD, hw]; rfl
        have hil : i < ways.length := (List.getElem?_eq_some_iff.mp hw).1
        have usl := hr2.len
        have rl2 := run_len hne i (by omega)
        have fl2 : (ways.take i).flatten.length ≤ 7 := by
          have : (ways.take i).flatten.length + (ways.drop i).flatten.length = ways.flatten.length := by
            rw [← List.length_append, ← List.flatten_append, List.take_append_drop]
          omega
        have hwl : wv.length ≤ 7 := by
          have hm := List.mem_of_getElem? hw
          obtain ⟨as, bs, e⟩ := List.append_of_mem hm
          rw [e, List.flatten_append, List.flatten_cons, List.length_append, List.length_append] at fl
          omega
        refine ⟨T0, _, rfl, st_of (by rw [y2]; exact upd_same), rfl, _, _, rfl, _, _, rfl, rfl, ?_⟩
        show tSeq _ _ _ [some web, some v, some (.ref ra), some (.ref S), some (.int (i : Int)), some (.ref wb), none] Hd
        have g3 := g2.ext ey
        have hS3 := ey _ _ hS2
        refine ⟨_, rfl, .inl ⟨rfl, _, sq_of hS3⟩, _, rfl, by show 2 ≤ sizeLine; decide, fun p hp => ⟨S, us, .ref p, rfl, rfl, (Ex.new hp) _ _ hS3, sz_lt (by omega), ?_⟩⟩
        have nSp : S ≠ p := ne_of_none hS3 hp
        have g4 := g3.alloc (o := .tup [.str "put", .int (i : Int)]) hp
        have fp := g3.ffree hp
        have fS4 : upd F2 p (.tup [.str "put", .int (i : Int)]) S = none := by rw [upd_ne nSp]; exact fS2
        have g5 := g4.mut (p := S) (o := .lst (us ++ [.ref p])) fS4 (.inl hSn)
        have hr5 : Rps (upd F2 p (.tup [.str "put", .int (i : Int)])) (runTo ways i ++ [putT (i : Nat)]) (us ++ [.ref p]) := (hr2.mono (Ex.new fp) _ _).app (.one ⟨p, _, rfl, upd_same, by show 2 ≤ 60; decide, _, _, rfl, rfl, _, _, rfl, rfl, rfl⟩)
        have hS5 := upd_same (H := upd Hd p (.tup [.str "put", .int (i : Int)])) (a := S) (o := .lst (us ++ [.ref p]))
        have e5 : Ex F' (upd F2 p (.tup [.str "put", .int (i : Int)])) := eF.trans (Ex.new fp)
        have hwb5 := (Ex.new (o := .tup [.str "put", .int (i : Int)]) fp) _ _ hwb
        generalize upd (upd Hd p (.tup [.str "put", .int (i : Int)])) S (.lst (us ++ [.ref p])) = H5 at *
        generalize upd F2 p (.tup [.str "put", .int (i : Int)]) = F5 at *
        have hcomp := en_lcN (F := F5) (σ := [some web, some v, some (.ref ra), some (.ref S), some (.int (i : Int)), some (.ref wb), none]) (vs := [6]) (j := 6) (te := tTup (tCons (tC (.str "come")) (tCons (tOp (rIxT K) (tVar 5) (tVar 6)) (tCons (tOp (rIxT K) (tVar 5) (tOp (rI0 fun i j => .int (i + j)) (tVar 6) (tC (.int 1)))) tNil)))) (walk_range (lo := 0) (n := wv.length - 1)) (wi := iRng1 (tCons (tOp (rI0 fun i j => .int (i - j)) (tCB (rLenS K) (tCons (tVar 5) tNil)) (tC (.int 1))) tNil)) (by
            have hpos := List.length_pos_iff.mpr (hne wv (List.mem_of_getElem? hw))
            have := evi_r1 (σ := [some web, some v, some (.ref ra), some (.ref S), some (.int (i : Int)), some (.ref wb), none]) (F := F5) (n := (wv.length : Int) - 1) (ta := tCons (tOp (rI0 fun i j => .int (i - j)) (tCB (rLenS K) (tCons (tVar 5) tNil)) (tC (.int 1))) tNil) (ea_cons (ev_op (ev_is (ev_lenSq (K := K) (k := false) (ev_var (i := 5) rfl) (st_of hwb5)) (by rw [List.length_map])) ev_c rv_I0) ea_nil) (by omega) (by omega)
            have e0 : ((wv.length : Int) - 1).toNat = wv.length - 1 := by omega
            rw [e0] at this
            exact this) (fun _ _ => trivial) (fun i H x H' _ y => by rw [y.1]; exact Ex.refl H) (fun _ => rfl) (by omega) (fun j => comeT (wv.getD j 0) (wv.getD (j + 1) 0)) (fun j x H1 H' hj e y => by
              have hx : x = .int (j : Int) := y.2.trans (congrArg V.int (Int.zero_add _))
              subst hx
              have a1 : atI (wv.map V.int) (j : Nat) = some (.int (wv.getD j 0)) := atI_nat (by simp [show j < wv.length by omega])
              have a2 : atI (wv.map V.int) ((j + 1 : Nat) : Int) = some (.int (wv.getD (j + 1) 0)) := atI_nat (by simp [show j + 1 < wv.length by omega])
              exact eg_tup (ea_cons ev_c (ea_cons (ev_op (ev_var rfl) (ev_var rfl) (rv_ixT (st_of hwb5) a1)) (ea_cons (ev_op (ev_var rfl) (ev_op (ev_var rfl) ev_c rv_I0) (rv_ixT (st_of hwb5) a2)) ea_nil))) ⟨_, _, rfl, rfl, _, _, rfl, rfl, _, _, rfl, rfl, rfl⟩ (by show 3 ≤ 60; decide))
        refine ⟨_, rfl, .inl ⟨rfl, _, sq_of hS5⟩, nCons ?_⟩
        refine hcomp F5 H5 (Ex.refl F5) g5.le _ fun D xs F6 H6 g6 f6 hD0 hD hr6 => ?_
        have xl := hr6.len
        rw [List.length_map, List.length_range] at xl
        refine ⟨S, D, _, xs, rfl, rfl, g6.ex _ _ hS5, hD, sz_of (by rw [List.length_append, List.length_singleton]; omega), F6, us ++ [.ref p] ++ xs, _, _, rfl, (g5.trans g6).mut (g6.new S (some_ne hS5) fS4) (.inl hSn), e5.trans g6.fle, upd_same, g6.new S (some_ne hS5) fS4, ?_⟩
        rw [runTo_succ, hg]
        have := (hr5.mono g6.fle _ _).app hr6
        rw [List.append_assoc] at this
        exact this
    · subst e
      rw [← rl] at hr2
      have usl := hr2.len
      have rl2 := run_len hne ways.length (Nat.le_refl _)
      rw [List.take_length] at rl2
      refine ⟨_, rfl, q2 _ H3 _ ways (g2.freeze hSn hS2 fS2) (.lst_i upd_same (by omega) (hr2.mono (Ex.new fS2) _ _)) (by intro z; cases z) hA⟩
end
end GD

/-! ## The state of a run: diaries and letters -/
namespace GD
open PySem L2 Evl G SQ
section
variable {K : PySem.W.Frag} {σ : L2.St} {F H : Hp} {ta : TA} {vs : List Nat} {Q : VK}
/-- [[] for i in range(n)] -/
theorem rd_lists {j : Nat} {n : Int} (h : EvA ta σ F [.int n]) (n0 : 0 ≤ n) (n1 : n ≤ 100) (hF : Ex F H) (hwp : ∀ x, wipe ((wipe σ vs).set j (some x)) vs = wipe σ vs)
    (k : ∀ (D : Addr) (das : List Addr) (H' : Hp), Gw Mn F H F H' → H D = none → H' D = some (.lst (das.map V.ref)) → das.length = n.toNat → (∀ a ∈ das, H a = none ∧ H' a = some (.lst [])) → das.Nodup → D ∉ das → Q (.ref D) H') : tLc (iRng1 ta) (gName j) tYes (tLst tNil) vs σ H Q :=
  (evi_r1 h n0 (by omega)) H hF _ fun H1 e1 D hD => lc_it walk_range (fun i H' => ∃ das : List Addr, Gw Mn F H F H' ∧ H' D = some (.lst (das.map V.ref)) ∧ das.length = i ∧ (∀ a ∈ das, H a = none ∧ H' a = some (.lst [])) ∧ das.Nodup ∧ D ∉ das)
    ⟨[], ((Gw.refl hF).ext e1).put hD, upd_same, rfl, fun a ha => (by cases ha), .nil, by simp⟩ (fun _ _ _ _ => trivial) (fun i x Ha Hb hi p y => by
      obtain ⟨rfl, _⟩ := y
      obtain ⟨das, g, hD1, hl, hd, nd, hDn⟩ := p
      refine ⟨hwp x, Nat.zero_le _, fun p hp => ?_⟩
      have nDp : D ≠ p := ne_of_none hD1 hp
      have hDn0 : H D = none := fresh_back e1 hD
      have fD := fresh_back hF hDn0
      refine ⟨das.map V.ref, by rw [upd_ne nDp]; exact hD1, sz_lt (by rw [List.length_map]; omega), das ++ [p], (g.put hp).mut fD (.inl hDn0), by rw [upd_same, List.map_append]; rfl, by rw [List.length_append, hl]; rfl, fun a ha => ?_, ?_, ?_⟩
      · rcases List.mem_append.mp ha with z | z
        · have h1 := hd a z
          have na : a ≠ p := ne_of_none h1.2 hp
          have na2 : a ≠ D := fun e => hDn (by rw [← e]; exact z)
          exact ⟨h1.1, by rw [upd_ne na2, upd_ne na]; exact h1.2⟩
        · rw [List.mem_singleton.mp z]
          exact ⟨g.fresh hp, by rw [upd_ne nDp.symm, upd_same]⟩
      · rw [List.nodup_append]
        exact ⟨nd, by simp, fun a ha b hb e => by
          rw [List.mem_singleton.mp hb] at e
          have := (hd a ha).2
          rw [e, hp] at this
          cases this⟩
      · rw [List.mem_append, List.mem_singleton]
        rintro (z | z)
        · exact hDn z
        · exact nDp z)
    (fun H' ⟨das, g, hD1, hl, hd, nd, hDn⟩ => k D das H' g (fresh_back e1 hD) hD1 hl hd nd hDn)
theorem paired_mk {α β : Type} {R : α → β → Prop} : ∀ {xs : List α} {ys : List β}, xs.length = ys.length → (∀ (i : Nat) x y, xs[i]? = some x → ys[i]? = some y → R x y) → Paired R xs ys
  | [], [], _, _ => .nil
  | [], _ :: _, h, _ => by simp at h
  | _ :: _, [], h, _ => by simp at h
  | x :: xs, y :: ys, h, k => .cons (k 0 x y rfl rfl) (paired_mk (by simpa using h) fun i x y h1 h2 => k (i + 1) x y (by simpa using h1) (by simpa using h2))
def kvs (ws : List (Int × Int)) (las : List Addr) : List (List Key × V) := (ws.zip las).map fun p => ([Sum.inl p.1.1, Sum.inl p.1.2], V.ref p.2)
theorem kvs_at {ws : List (Int × Int)} {las : List Addr} {j : Nat} {w : Int × Int} {a : Addr} (h1 : ws[j]? = some w) (h2 : las[j]? = some a) : (kvs ws las)[j]? = some ([Sum.inl w.1, Sum.inl w.2], V.ref a) := by
  unfold kvs
  rw [List.getElem?_map, (List.getElem?_zip_eq_some (z := (w, a))).mpr ⟨h1, h2⟩]
  rfl
theorem kvs_len {ws : List (Int × Int)} {las : List Addr} (h : las.length = ws.length) : (kvs ws las).length = ws.length := by
  unfold kvs
  rw [List.length_map, List.length_zip, h, Nat.min_self]
theorem kvs_keys : ∀ {ws : List (Int × Int)} {las : List Addr}, las.length = ws.length → (kvs ws las).map (·.1) = ws.map fun w => [Sum.inl w.1, Sum.inl w.2]
  | [], [], _ => rfl
  | [], _ :: _, h => by simp at h
  | _ :: _, [], h => by simp at h
  | w :: ws, a :: las, h => by
    have := kvs_keys (ws := ws) (las := las) (by simpa using h)
    unfold kvs at *
    rw [List.zip_cons_cons, List.map_cons, List.map_cons, this]
    rfl
theorem kvs_get {ws : List (Int × Int)} {las : List Addr} {y x : Int} (hl : las.length = ws.length) : (∀ (j : Nat) (a : Addr), ws[j]? = some (y, x) → las[j]? = some a → ws.Nodup → valV (kvs ws las) [Sum.inl y, Sum.inl x] = some (V.ref a)) ∧ ((y, x) ∉ ws → valV (kvs ws las) [Sum.inl y, Sum.inl x] = none) := by
  induction ws generalizing las with
  | nil => exact ⟨fun j a h => by simp at h, fun _ => by unfold valV kvs; simp⟩
  | cons w ws ih =>
    cases las with
    | nil => simp at hl
    | cons b las =>
      have hl' : las.length = ws.length := by simpa using hl
      obtain ⟨i1, i2⟩ := ih hl'
      have e : ∀ k, valV (kvs (w :: ws) (b :: las)) k = if decide (([Sum.inl w.1, Sum.inl w.2] : List Key) = k) = true then some (V.ref b) else valV (kvs ws las) k := fun k => by
        unfold valV kvs
        rw [List.zip_cons_cons, List.map_cons, List.find?_cons]
        by_cases z : decide (([Sum.inl w.1, Sum.inl w.2] : List Key) = k) = true
        · rw [if_pos z]; simp only [z]; rfl
        · rw [if_neg z]
          have : decide (([Sum.inl w.1, Sum.inl w.2] : List Key) = k) = false := by simpa using z
          simp only [this]
      have ek : ∀ y x : Int, (([Sum.inl w.1, Sum.inl w.2] : List Key) = [Sum.inl y, Sum.inl x]) ↔ w = (y, x) := fun y x => by
        constructor
        · intro z
          injection z with z1 z2
          injection z2 with z2 _
          injection z1 with z1
          injection z2 with z2
          exact Prod.ext z1 z2
        · intro z
          rw [z]
      refine ⟨fun j a h1 h2 nd => ?_, fun h => ?_⟩
      · rw [e]
        cases j with
        | zero =>
          simp at h1 h2
          rw [if_pos (decide_eq_true ((ek y x).mpr h1)), h2]
        | succ j =>
          have h1' : ws[j]? = some (y, x) := by simpa using h1
          have h2' : las[j]? = some a := by simpa using h2
          obtain ⟨n1, n2⟩ := List.nodup_cons.mp nd
          rw [if_neg (by
            rw [decide_eq_true_eq, ek]
            intro z
            rw [z] at n1
            exact n1 (List.mem_of_getElem? h1'))]
          exact i1 j a h1' h2' n2
      · rw [e, if_neg (by
          rw [decide_eq_true_eq, ek]
          intro z
          exact h (by rw [z]; simp))]
        exact i2 fun z => h (List.mem_cons_of_mem _ z)
/-- dict([(wire, []) for wire in wires]) -/
theorem rd_boxes {j : Nat} {tl : TE} {wa : Addr} {xs : List V} {ws : List (Int × Int)} (h : Ev tl σ F (.ref wa)) (hx : F wa = some (.tup xs)) (hr : Rps F (ws.map pT) xs) (hz : xs.length ≤ 60) (hnd : ws.Nodup) (hF : Ex F H) (hj : (wipe σ vs).length > j) (hwp : ∀ x, wipe ((wipe σ vs).set j (some x)) vs = wipe σ vs)
    (k : ∀ (D : Addr) (las : List Addr) (H' : Hp), Gw Mn F H F H' → H D = none → H' D = some (.dT (kvs ws las)) → las.length = ws.length → (∀ a ∈ las, H a = none ∧ H' a = some (.lst [])) → las.Nodup → D ∉ las → Q (.ref D) H') :
    tCB (rDictT K) (tCons (tLc (iSq K tl) (gName j) tYes (tTup (tCons (tVar j) (tCons (tLst tNil) tNil))) vs) tNil) σ H Q :=
  nCB (nCons ((evi_sq (K := K) (k := false) h (st_of hx)) H hF _ fun H1 e1 D hD => lc_it (walk_sq (K := K) (k := false) (a := wa) (xs := xs)) (fun i H' => ∃ Ts las : List Addr, Gw Mn F H F H' ∧ H' D = some (.lst (Ts.map V.ref)) ∧ Ts.length = i ∧ las.length = i ∧ (∀ a ∈ las, H a = none ∧ H' a = some (.lst [])) ∧ las.Nodup ∧ D ∉ las ∧
      ∀ q T a b, q < i → Ts[q]? = some T → las[q]? = some a → xs[q]? = some b → H' T = some (.tup [b, .ref a]))
    ⟨[], [], ((Gw.refl hF).ext e1).put hD, upd_same, rfl, rfl, fun a ha => (by cases ha), .nil, by simp, fun q T a b hq => (by omega)⟩ (fun i H' _ ⟨_, _, g, _⟩ => st_of (g.le _ _ hx)) (fun i x Ha Hb hi p y => by
      obtain ⟨rfl, hy⟩ := y
      obtain ⟨Ts, las, g, hD1, hTl, hll, hd, nd, hDn, hT⟩ := p
      have hDn0 : H D = none := fresh_back e1 hD
      have fD := fresh_back hF hDn0
      refine ⟨hwp x, x, by rw [List.getElem?_set_self hj], Nat.zero_le _, fun p hp => ⟨by show 2 ≤ sizeLine; decide, fun t ht => ?_⟩⟩
      have nDp : D ≠ p := ne_of_none hD1 hp
      have hD2 := (Ex.new (o := .lst []) hp) _ _ hD1
      have nDt : D ≠ t := ne_of_none hD2 ht
      have npt : p ≠ t := fun z => by rw [← z, upd_same] at ht; cases ht
      have g2 := (g.put (o := .lst []) hp).put (o := .tup [x, .ref p]) ht
      refine ⟨Ts.map V.ref, (Ex.new ht) _ _ hD2, sz_lt (by rw [List.length_map]; omega), Ts ++ [t], las ++ [p], g2.mut fD (.inl hDn0), by rw [upd_same, List.map_append]; rfl, by rw [List.length_append, hTl]; rfl, by rw [List.length_append, hll]; rfl, fun a ha => ?_, ?_, ?_, fun q T a b hq z1 z2 z3 => ?_⟩
      · rcases List.mem_append.mp ha with z | z
        · have h1 := hd a z
          have na2 : a ≠ D := fun e => hDn (by rw [← e]; exact z)
          exact ⟨h1.1, by rw [upd_ne na2]; exact (Ex.new ht) _ _ ((Ex.new hp) _ _ h1.2)⟩
        · rw [List.mem_singleton.mp z]
          exact ⟨g.fresh hp, by rw [upd_ne nDp.symm]; exact (Ex.new ht) _ _ upd_same⟩
      · rw [List.nodup_append]
        exact ⟨nd, by simp, fun a ha b hb e => by
          rw [List.mem_singleton.mp hb] at e
          have := (hd a ha).2
          rw [e, hp] at this
          cases this⟩
      · rw [List.mem_append, List.mem_singleton]
        rintro (z | z)
        · exact hDn z
        · exact nDp z
      · have hTD : ∀ T o, upd (upd Hb p (.lst [])) t (.tup [x, .ref p]) T = some (.tup o) → upd (upd (upd Hb p (.lst [])) t (.tup [x, .ref p])) D (.lst (Ts.map V.ref ++ [.ref t])) T = some (.tup o) := fun T o z => by
          rw [upd_ne (fun e => by rw [e, (Ex.new ht) _ _ hD2] at z; cases z)]
          exact z
        by_cases hqi : q < i
        · rw [List.getElem?_append_left (by omega)] at z1 z2
          exact hTD _ _ ((Ex.new ht) _ _ ((Ex.new hp) _ _ (hT q T a b hqi z1 z2 z3)))
        · have : q = i := by omega
          subst this
          rw [List.getElem?_append_right (by omega), hTl] at z1
          rw [List.getElem?_append_right (by omega), hll] at z2
          simp at z1 z2
          rw [hy] at z3
          cases z3
          subst z1 z2
          exact hTD _ _ upd_same)
    (fun H' ⟨Ts, las, g, hD1, hTl, hll, hd, nd, hDn, hT⟩ => by
      have wl : ws.length = xs.length := by rw [← hr.len, List.length_map]
      refine ⟨D, Ts, kvs ws las, rfl, sq_of hD1, ?_, ?_, fun p hp => ?_⟩
      · refine paired_mk (by rw [kvs_len (by omega), hTl]; omega) fun i T kv z1 z2 => ?_
        have hil : i < ws.length := by
          have := (List.getElem?_eq_some_iff.mp z2).1
          rw [kvs_len (by omega)] at this
          exact this
        have hla : las[i]? = some las[i] := List.getElem?_eq_getElem (by omega)
        have hw := List.getElem?_eq_getElem hil
        rw [kvs_at hw hla] at z2
        cases z2
        obtain ⟨p, b, y1, y2, y3⟩ := rps_pT hr (List.getElem?_eq_getElem (show i < xs.length by omega))
        rw [hw] at y1
        cases y1
        have := hT i T las[i] xs[i] (by omega) z1 hla (List.getElem?_eq_getElem (by omega))
        rw [y2] at this
        exact ⟨b, st_of this, g.le _ _ y3⟩
      · rw [kvs_keys (by omega)]
        rw [List.nodup_iff_pairwise_ne, List.pairwise_map]
        refine (List.nodup_iff_pairwise_ne.mp hnd).imp ?_
        intro a b hab e
        injection e with e1 e2
        injection e2 with e2 _
        injection e1 with e1
        injection e2 with e2
        exact hab (Prod.ext e1 e2)
      · have hp0 := g.fresh hp
        refine k p las _ (g.put hp) hp0 upd_same (by omega) (fun a ha => ⟨(hd a ha).1, (Ex.new hp) _ _ (hd a ha).2⟩) nd fun z => ?_
        have := (hd p z).2
        rw [hp] at this
        cases this)))
end
end GD

/-! ## The law's floor: made, written to -/
namespace GD
open PySem L2 Evl G SQ
structure RS where
  dia : Nat → List Int
  box : Int × Int → List Int
def RS.write (ws : List (Int × Int)) (st : RS) (x : Nat) (k : Int) : RS := ⟨fun i => if i = x then st.dia i ++ [k] else st.dia i, fun w => if w.1 = (x : Int) ∧ w ∈ ws then st.box w ++ [k] else st.box w⟩
def RS.start : RS := ⟨fun _ => [], fun _ => []⟩
/-- the diaries das in the list at dl, the letters las in the dict at bd -/
structure Sto (H : Hp) (dl bd : Addr) (das las : List Addr) (ws : List (Int × Int)) (m n : Nat) (st : RS) : Prop where
  hd : H dl = some (.lst (das.map V.ref))
  hb : H bd = some (.dT (kvs ws las))
  dn : das.length = m
  ll : las.length = ws.length
  dia : ∀ (i : Nat) a, das[i]? = some a → H a = some (.lst ((st.dia i).map V.int))
  box : ∀ (j : Nat) a w, las[j]? = some a → ws[j]? = some w → H a = some (.lst ((st.box w).map V.int))
  nd : (das ++ las).Nodup
  n1 : dl ∉ das ++ las
  n2 : bd ∉ das ++ las
  ld : ∀ i, i < m → (st.dia i).length ≤ n
  lb : ∀ w, (st.box w).length ≤ n
  nw : ws.Nodup
def Ml (das las : List Addr) : Addr → Prop := fun a => a ∈ das ++ las
theorem Sto.gw {F H F' H' : Hp} {M : Addr → Prop} {dl bd : Addr} {das las : List Addr} {ws : List (Int × Int)} {m n : Nat} {st : RS} (s : Sto H dl bd das las ws m n st) (g : Gw M F H F' H') (hM : ∀ a, M a → a ∉ das ++ las ∧ a ≠ dl ∧ a ≠ bd) : Sto H' dl bd das las ws m n st :=
  ⟨g.up _ _ (fun z => (hM _ z).2.1 rfl) s.hd, g.up _ _ (fun z => (hM _ z).2.2 rfl) s.hb, s.dn, s.ll, fun i a h => g.up _ _ (fun z => (hM _ z).1 (List.mem_append_left _ (List.mem_of_getElem? h))) (s.dia i a h),
    fun j a w h1 h2 => g.up _ _ (fun z => (hM _ z).1 (List.mem_append_right _ (List.mem_of_getElem? h1))) (s.box j a w h1 h2), s.nd, s.n1, s.n2, s.ld, s.lb, s.nw⟩
theorem Sto.ext {H H' : Hp} {dl bd : Addr} {das las : List Addr} {ws : List (Int × Int)} {m n : Nat} {st : RS} (s : Sto H dl bd das las ws m n st) (e : Ex H H') : Sto H' dl bd das las ws m n st :=
  ⟨e _ _ s.hd, e _ _ s.hb, s.dn, s.ll, fun i a h => e _ _ (s.dia i a h), fun j a w h1 h2 => e _ _ (s.box j a w h1 h2), s.nd, s.n1, s.n2, s.ld, s.lb, s.nw⟩
def spFloor : Sp := fun vs H Q _ => ∃ F wv m ws, vs = [.int (m : Nat), wv] ∧ Ex F H ∧ Rp F (.tup (List.map pT ws)) wv ∧ ws.Nodup ∧ m ≤ 60 ∧
  ∀ H' fl dl bd das las, Gw Mn F H F H' → H fl = none → H bd = none → H' fl = some (.lst [.ref dl, .ref bd]) → Sto H' dl bd das las ws m 0 RS.start → (∀ a ∈ das ++ las, H a = none) → fl ∉ das ++ las → Q (.ref fl) H'
def spLWrite : Sp := fun vs H Q _ => ∃ F fl dl bd das las ws m n st x k, vs = [.ref fl, .int (x : Nat), .int k] ∧ Ex F H ∧ H fl = some (.lst [.ref dl, .ref bd]) ∧ Sto H dl bd das las ws m n st ∧ (∀ a ∈ das ++ las, F a = none) ∧ F bd = none ∧ fl ∉ das ++ las ∧ x < m ∧ n ≤ 1000 ∧
  ∀ H', Gw (Ml das las) F H F H' → Sto H' dl bd das las ws m (n + 1) (st.write ws x k) → Q .non H'
section
variable {P : Program} {w : World} {K : PySem.W.Frag} {mg : Str → Option Value} {base : Heap}
theorem ok_L_floor (T : TX K mg) : FnOk P w K mg base CX0 1 (a_L_floor K) (fdOf K (a_L_floor K)) ["_law_machines", "_law_wires_here"] spFloor := by
  refine T.f_L_floor.ok sc_L_floor (fun vs H Q E ⟨F, wv, m, ws, e, _⟩ => by rw [e]; rfl) (fun cdv A outer s H vs Q E hr ⟨F, wv, m, ws, e, hF, hw, hnd, hm, q⟩ => ?_)
  subst e
  refine ⟨_, PSs.nox (pss_one (ps_ret (pe_lst (pa_cons (pe_lc (own := [("_law_machine", 2)]) (g := (gName 2)) (tt := tYes) rfl sc_L_floor.nd (pi_range1 rfl T.z_range (pa_cons (pv 0) pa_nil)) (blkOk_by (own := [("_law_machine", 2)]) (N := N_L_floor) (sc := defScope s_L_floor) (by decide +kernel)) (fun _ _ _ _ _ => (pg_name (i := 2) sc_L_floor.nd rfl (.inl rfl))) (fun _ _ _ _ _ => pts_nil) (fun _ _ _ _ _ => (pe_lst pa_nil))) (pa_cons (pe_callTy (call_dictT rfl (units2 hr)) (by rfl) T.z_dict (by decide +kernel) (pa_cons (pe_lc (own := [("_law_wire", 3)]) (g := (gName 3)) (tt := tYes) rfl sc_L_floor.nd (pi_sq (pv 1)) (blkOk_by (own := [("_law_wire", 3)]) (N := N_L_floor) (sc := defScope s_L_floor) (by decide +kernel)) (fun _ _ _ _ _ => (pg_name (i := 3) sc_L_floor.nd rfl (.inl rfl))) (fun _ _ _ _ _ => pts_nil) (fun _ _ _ _ _ => (pe_tup (pa_cons (pv 3) (pa_cons (pe_lst pa_nil) pa_nil))))) pa_nil)) pa_nil))))), ?_⟩
  obtain ⟨wa, wxs, rfl, w1, w2, w3⟩ := hw
  refine nRet (nLst (nCons ?_))
  refine rd_lists (F := F) (n := (m : Nat)) (ea_cons (ev_var rfl) ea_nil) (by omega) (by omega) hF (fun _ => rfl) fun dl das H1 g1 hdl hdl1 dlen hdas dnd dln => nCons ?_
  refine rd_boxes (K := K) (F := F) (ev_var rfl) w1 w3 w2 hnd g1.le (by show 4 > 3; decide) (fun _ => rfl) fun bd las H2 g2 hbd hbd1 llen hlas lnd lbn => ⟨by show 2 ≤ sizeLine; decide, fun fl hfl => ?_⟩
  have g12 := g1.trans g2
  have hd2 : ∀ a ∈ das, H2 a = some (.lst []) := fun a ha => g2.ex _ _ (hdas a ha).2
  have dl2 := g2.ex _ _ hdl1
  have dn : ∀ a ∈ das ++ las, H a = none := fun a ha => (List.mem_append.mp ha).elim (fun z => (hdas a z).1) fun z => g1.fresh (hlas a z).1
  have all2 : ∀ a ∈ das ++ las, H2 a = some (.lst []) := fun a ha => (List.mem_append.mp ha).elim (fun z => hd2 a z) fun z => (hlas a z).2
  have e3 : Ex H2 (upd H2 fl (.lst [.ref dl, .ref bd])) := Ex.new hfl
  have m0 : (((m : Nat) : Int)).toNat = m := by omega
  refine q _ fl dl bd das las (g12.put hfl) (g12.fresh hfl) (g1.fresh hbd) upd_same ⟨e3 _ _ dl2, e3 _ _ hbd1, by rw [dlen, m0], llen, fun i a h => e3 _ _ (all2 a (List.mem_append_left _ (List.mem_of_getElem? h))), fun j a w h1 _ => e3 _ _ (all2 a (List.mem_append_right _ (List.mem_of_getElem? h1))), ?_, ?_, ?_, fun _ _ => Nat.le_refl _, fun _ => Nat.le_refl _, hnd⟩ dn ?_
  · rw [List.nodup_append]
    refine ⟨dnd, lnd, fun a ha b hb e => ?_⟩
    have := (hlas b hb).1
    rw [← e, (hdas a ha).2] at this
    cases this
  · intro z
    rcases List.mem_append.mp z with z | z
    · exact dln z
    · have := (hlas dl z).1
      rw [hdl1] at this
      cases this
  · intro z
    rcases List.mem_append.mp z with z | z
    · have := (hdas bd z).2
      rw [hbd] at this
      cases this
    · exact lbn z
  · intro z
    have := all2 fl z
    rw [hfl] at this
    cases this
theorem ok_L_write (T : TX K mg) : FnOk P w K mg base CX0 1 (a_L_write K) (fdOf K (a_L_write K)) ["_law_floor_here", "_law_machine", "_law_put"] spLWrite := by
  refine T.f_L_write.ok sc_L_write (fun vs H Q E ⟨F, fl, dl, bd, das, las, ws, m, n, st, x, k, e, _⟩ => by rw [e]; rfl) (fun cdv A outer s H vs Q E hr ⟨F, fl, dl, bd, das, las, ws, m, n, st, x, k, e, hF, hfl, hS, hN, hbN, hflN, hx, hn, q⟩ => ?_)
  subst e
  refine ⟨_, PSs.nox (pss_cons (ps_expr (pe_bm PySem.F.plainAttrs_list PySem.F.slot_list_append PySem.F.type_list_append mt_append (pe_ix ix_list (pe_ix ix_list (pv 0) pe_int (fun _ _ => rfl)) (pv 1) (fun _ _ => rfl)) (pa_cons (pv 2) pa_nil))) (
    pss_one (ps_lock (ps_for PassesOwn.never rfl (pi_keys (pe_ix ix_list (pv 0) pe_int (fun _ _ => rfl))) (pg_tup rfl (pgs_cons (pg_name (i := 3) sc_L_write.nd rfl (.inl rfl)) (pgs_cons (pg_name (i := 4) sc_L_write.nd rfl (.inl rfl)) pgs_nil))) (pss_one (ps_if (pt_cmpR op_eq (pv 3) (pv 1) (nomark _)) (pss_one (ps_expr (pe_bm PySem.F.plainAttrs_list PySem.F.slot_list_append PySem.F.type_list_append mt_append (pe_dget (units1 hr) (pe_ix ix_list (pv 0) pe_int (fun _ _ => rfl)) (pe_tup (pa_cons (pv 3) (pa_cons (pv 4) pa_nil))) (fun _ _ => rfl)) (pa_cons (pv 2) pa_nil)))) pss_nil)))))), ?_⟩
  have hxd : x < das.length := by rw [hS.dn]; exact hx
  have hda := List.getElem?_eq_getElem hxd
  have hax := hS.dia x _ hda
  have hmx : das[x] ∈ das ++ las := List.mem_append_left _ (List.getElem_mem hxd)
  refine ⟨_, rfl, fl, _, 0, _, rfl, rfl, sq_of hfl, at0, _, rfl, dl, _, (x : Int), (V.ref das[x]), rfl, rfl, sq_of hS.hd, atI_nat (v := V.ref das[x]) (by rw [List.getElem?_map, hda]; rfl), .inl ⟨rfl, _, sq_of hax⟩, _, rfl, das[x], _, _, rfl, rfl, hax, szl (by rw [List.length_map]; have := hS.ld x hx; omega), ?_⟩
  have nflx : fl ≠ das[x] := fun z => hflN (by rw [z]; exact hmx)
  have nbx : bd ≠ das[x] := fun z => hS.n2 (by rw [z]; exact hmx)
  have ndx : dl ≠ das[x] := fun z => hS.n1 (by rw [z]; exact hmx)
  have g1 := (Gw.refl (M := Ml das las) hF).mut (p := das[x]) (o := .lst ((st.dia x).map V.int ++ [.int k])) (hN _ hmx) (.inr hmx)
  have hb1 : upd H das[x] (.lst ((st.dia x).map V.int ++ [.int k])) bd = some (.dT (kvs ws las)) := by rw [upd_ne nbx]; exact hS.hb
  have hfl1 : upd H das[x] (.lst ((st.dia x).map V.int ++ [.int k])) fl = some (.lst [.ref dl, .ref bd]) := by rw [upd_ne nflx]; exact hfl
  have hdl1 : upd H das[x] (.lst ((st.dia x).map V.int ++ [.int k])) dl = some (.lst (das.map V.ref)) := by rw [upd_ne ndx]; exact hS.hd
  have hdia1 : ∀ (i : Nat) a, das[i]? = some a → upd H das[x] (.lst ((st.dia x).map V.int ++ [.int k])) a = some (.lst (((st.write ws x k).dia i).map V.int)) := fun i a h => by
    by_cases hi : i = x
    · subst hi
      rw [hda] at h
      cases h
      rw [upd_same]
      unfold RS.write
      simp
    · have : a ≠ das[x] := fun z => hi (by
        obtain ⟨hl, e⟩ := List.getElem?_eq_some_iff.mp h
        have nd := (List.nodup_append.mp hS.nd).1
        exact (List.getElem_inj nd).mp (e.trans z))
      rw [upd_ne this, hS.dia i a h]
      unfold RS.write
      simp [hi]
  have hbox1 : ∀ (j : Nat) a w, las[j]? = some a → ws[j]? = some w → upd H das[x] (.lst ((st.dia x).map V.int ++ [.int k])) a = some (.lst ((st.box w).map V.int)) := fun j a w h1 h2 => by
    have : a ≠ das[x] := fun z => (List.nodup_append.mp hS.nd).2.2 das[x] (List.getElem_mem hxd) a (List.mem_of_getElem? h1) z.symm
    rw [upd_ne this]
    exact hS.box j a w h1 h2
  generalize upd H das[x] (.lst ((st.dia x).map V.int ++ [.int k])) = H1 at *
  refine ⟨bd, _, hb1, trivial, fun od => ?_⟩
  have nbfl : bd ≠ fl := fun z => by rw [z, hfl1] at hb1; cases hb1
  have e0 : (upd H1 bd (.frz od (.dT (kvs ws las)))) bd = some (.frz od (.dT (kvs ws las))) := upd_same
  refine ⟨_, rfl, fl, _, 1, _, rfl, rfl, sq_of (by rw [upd_ne nbfl.symm]; exact hfl1), at1, bd, od, rfl, .inr ⟨_, e0, ?_⟩⟩
  have hFL : Ex F (upd H1 bd (.frz od (.dT (kvs ws las)))) := fun a o z => by
    rw [upd_ne (ne_of_none z hbN)]
    exact g1.le a o z
  have nbl : ∀ a ∈ las, a ≠ bd := fun a ha z => hS.n2 (List.mem_append_right _ (by rw [← z]; exact ha))
  have hflL : (upd H1 bd (.frz od (.dT (kvs ws las)))) fl = some (.lst [.ref dl, .ref bd]) := by rw [upd_ne nbfl.symm]; exact hfl1
  have nfl : fl ∉ las := fun z => hflN (List.mem_append_right _ z)
  have nbn : bd ∉ las := fun z => hS.n2 (List.mem_append_right _ z)
  refine for_it walk_keysT (fun i σ' H' => ∃ o1 o2, σ' = [some (.ref fl), some (.int (x : Int)), some (.int k), o1, o2] ∧ Gw (fun a => a ∈ las) F (upd H1 bd (.frz od (.dT (kvs ws las)))) F H' ∧
      ∀ (j : Nat) a w, las[j]? = some a → ws[j]? = some w → H' a = some (.lst ((if j < i ∧ w.1 = (x : Int) then st.box w ++ [k] else st.box w).map V.int)))
    ⟨none, none, rfl, Gw.refl hFL, fun j a w h1 h2 => by
      rw [if_neg (fun z => absurd z.1 (Nat.not_lt_zero _)), upd_ne (nbl a (List.mem_of_getElem? h1))]
      exact hbox1 j a w h1 h2⟩ (fun i σ' H' _ ⟨_, _, _, g, _⟩ => g.up _ _ nbn e0) (fun i xx σ1 Ha Hb hi hp y => ?_) (fun σ' H' hp => ?_)
  · obtain ⟨rfl, kk, vv, qa, y1, rfl, y3⟩ := y
    obtain ⟨o1, o2, rfl, g, hbx⟩ := hp
    have hil : i < ws.length := by rw [← kvs_len hS.ll]; exact (List.getElem?_eq_some_iff.mp y1).1
    have hw := List.getElem?_eq_getElem hil
    have hla : las[i]? = some (las[i]'(by rw [hS.ll]; exact hil)) := List.getElem?_eq_getElem (by rw [hS.ll]; exact hil)
    generalize las[i]'(by rw [hS.ll]; exact hil) = la at hla
    generalize ws[i] = wv at hw
    rw [kvs_at hw hla] at y1
    cases y1
    refine ⟨qa, _, rfl, st_of y3, rfl, _, _, rfl, _, _, rfl, rfl, ?_⟩
    show tIfS _ _ _ _ [some (.ref fl), some (.int (x : Int)), some (.int k), some (.int wv.1), some (.int wv.2)] Hb
    have hlam := List.mem_of_getElem? hla
    have bnext : ∀ (j : Nat) a w, las[j]? = some a → ws[j]? = some w → j ≠ i → (if j < i + 1 ∧ w.1 = (x : Int) then st.box w ++ [k] else st.box w) = (if j < i ∧ w.1 = (x : Int) then st.box w ++ [k] else st.box w) := fun j a w _ _ hji => by
      by_cases hj : j < i
      · have : j < i + 1 := by omega
        simp [hj, this]
      · have : ¬ j < i + 1 := by omega
        simp [hj, this]
    have lnd := (List.nodup_append.mp hS.nd).2.1
    refine s_when (b := decide (wv.1 = (x : Int))) (et_is (et_test (ev_op (x := .int wv.1) (y := .int (x : Int)) (ev_var rfl) (ev_var rfl) (rv_eq rfl))) (decide_eq_decide.mpr ⟨fun z => V.int.inj z, fun z => by rw [z]⟩)) (fun hc H2 e2 => ?_) (fun hc H2 e2 => ?_)
    · have hc' : wv.1 = (x : Int) := of_decide_eq_true hc
      have g2 := g.ext e2
      have hfl2 := g2.up fl _ nfl hflL
      have hb2 := g2.up bd _ nbn e0
      have hl2 := e2 _ _ (hbx i la wv hla hw)
      rw [if_neg (fun z => absurd z.1 (Nat.lt_irrefl _))] at hl2
      refine ⟨_, rfl, fl, _, 1, _, rfl, rfl, sq_of hfl2, at1, _, rfl, _, rfl, by show 2 ≤ sizeLine; decide, fun p hp => ?_⟩
      have e3 : Ex H2 (upd H2 p (.tup [.int wv.1, .int wv.2])) := Ex.new hp
      have hget := (kvs_get (y := wv.1) (x := wv.2) hS.ll).1 i la hw hla hS.nw
      refine ⟨bd, .ref la, rfl, .inr ⟨kvs ws las, [Sum.inl wv.1, Sum.inl wv.2], p, .inr ⟨od, e3 _ _ hb2⟩, rfl, upd_same, hget.symm⟩, .inl ⟨rfl, _, sq_of (e3 _ _ hl2)⟩, _, rfl, la, _, _, rfl, rfl, e3 _ _ hl2, szl (by rw [List.length_map]; have := hS.lb wv; omega), _, _, rfl, (g2.put hp).mut (hN _ (List.mem_append_right _ hlam)) (.inr hlam), fun j a w h1 h2 => ?_⟩
      by_cases hji : j = i
      · subst hji
        rw [hla] at h1
        rw [hw] at h2
        cases h1
        cases h2
        rw [upd_same, if_pos ⟨Nat.lt_succ_self _, hc'⟩, List.map_append]
        rfl
      · have : a ≠ la := fun z => hji (by
          obtain ⟨hl1, e1⟩ := List.getElem?_eq_some_iff.mp h1
          obtain ⟨hl2', e2'⟩ := List.getElem?_eq_some_iff.mp hla
          exact (List.getElem_inj lnd).mp (e1.trans (z.trans e2'.symm)))
        rw [upd_ne this, bnext j a w h1 h2 hji]
        exact e3 _ _ (e2 _ _ (hbx j a w h1 h2))
    · have hc' : ¬ wv.1 = (x : Int) := of_decide_eq_false hc
      refine ⟨_, _, rfl, g.ext e2, fun j a w h1 h2 => ?_⟩
      by_cases hji : j = i
      · subst hji
        rw [hw] at h2
        cases h2
        have := hbx j a wv h1 hw
        rw [if_neg (fun z => hc' z.2)]
        rw [if_neg (fun z => hc' z.2)] at this
        exact e2 _ _ this
      · rw [bnext j a w h1 h2 hji]
        exact e2 _ _ (hbx j a w h1 h2)
  · obtain ⟨o1, o2, rfl, g, hbx⟩ := hp
    rw [kvs_len hS.ll] at hbx
    have hb2 := g.up bd _ nbn e0
    refine ⟨hb2, q _ ⟨fun a o mm h => ?_, fun a h => ?_, Ex.refl F, fun a o z => ?_, fun a _ z => z⟩ ?_⟩
    · by_cases z : a = bd
      · subst z
        rw [upd_same]
        rw [hS.hb] at h
        exact h
      · rw [upd_ne z]
        refine g.up a o (fun zz => mm (List.mem_append_right _ zz)) ?_
        rw [upd_ne z]
        exact g1.up a o mm h
    · by_cases z : a = bd
      · subst z; rw [upd_same]; intro q; cases q
      · rw [upd_ne z]
        refine g.dom a ?_
        rw [upd_ne z]
        exact g1.dom a h
    · rw [upd_ne (ne_of_none z hbN)]
      exact g.le a o z
    · have keep : ∀ a o, a ∉ las → a ≠ bd → H1 a = some o → upd H' bd (.dT (kvs ws las)) a = some o := fun a o h1 h2 h3 => by
        rw [upd_ne h2]
        refine g.up a o h1 ?_
        rw [upd_ne h2]
        exact h3
      have ndl := List.nodup_append.mp hS.nd
      refine ⟨keep dl _ (fun z => hS.n1 (List.mem_append_right _ z)) (fun z => by rw [z, hb1] at hdl1; cases hdl1) hdl1, upd_same, hS.dn, hS.ll, fun i a h => keep a _ (fun z => ndl.2.2 a (List.mem_of_getElem? h) a z rfl) (fun z => hS.n2 (List.mem_append_left _ (by rw [← z]; exact List.mem_of_getElem? h))) (hdia1 i a h), fun j a w h1 h2 => ?_, hS.nd, hS.n1, hS.n2, fun i hi => ?_, fun w => ?_, hS.nw⟩
      · rw [upd_ne (nbl a (List.mem_of_getElem? h1)), hbx j a w h1 h2]
        have hj : j < ws.length := (List.getElem?_eq_some_iff.mp h2).1
        have hm := List.mem_of_getElem? h2
        unfold RS.write
        by_cases hc : w.1 = (x : Int) <;> simp [hj, hc, hm]
      · unfold RS.write
        have := hS.ld i hi
        by_cases h : i = x <;> simp [h] <;> (try rw [h] at this) <;> omega
      · unfold RS.write
        have := hS.lb w
        by_cases h : w.1 = (x : Int) ∧ w ∈ ws <;> simp [h] <;> omega
end
end GD

/-! ## The law's step -/
namespace GD
open PySem L2 Evl G SQ
inductive Stp where
  | put (k : Nat)
  | come (y x : Int)
def RS.pop (st : RS) (w : Int × Int) : RS := ⟨st.dia, fun v => if v = w then (st.box w).tail else st.box v⟩
def RS.step (ws : List (Int × Int)) (m : Nat) (wr : Nat → Nat) (st : RS) : Stp → Option RS
  | .put k => if ((List.range m).map fun i => decide ((k : Int) ∈ st.dia i)).any id = true then none else some (st.write ws (wr k) (k : Nat))
  | .come y x => if (y, x) ∈ ws ∧ st.box (y, x) ≠ [] then some (if (st.box (y, x)).headD 0 ∈ st.dia x.toNat then st.pop (y, x) else (st.pop (y, x)).write ws x.toNat ((st.box (y, x)).headD 0)) else none
theorem step_put {ws : List (Int × Int)} {m : Nat} {wr : Nat → Nat} {st : RS} {k : Nat} : st.step ws m wr (.put k) = if ((List.range m).map fun i => decide ((k : Int) ∈ st.dia i)).any id = true then none else some (st.write ws (wr k) (k : Nat)) := rfl
theorem step_come {ws : List (Int × Int)} {m : Nat} {wr : Nat → Nat} {st : RS} {y x : Int} : st.step ws m wr (.come y x) = if (y, x) ∈ ws ∧ st.box (y, x) ≠ [] then some (if (st.box (y, x)).headD 0 ∈ st.dia x.toNat then st.pop (y, x) else (st.pop (y, x)).write ws x.toNat ((st.box (y, x)).headD 0)) else none := rfl
section
variable {K : PySem.W.Frag} {σ : L2.St} {F H : Hp} {ty td : TE} {dl bd : Addr} {das las : List Addr} {ws : List (Int × Int)} {m n : Nat} {st : RS} {y x : Int}
theorem nBM {T : String} {r : V → List V → Hp → VK → Prop} {to : TE} {t : TA} {Q : VK} (h : to σ H fun x H1 => tyV K T x H1 ∧ t σ H1 fun xs H2 => r x xs H2 Q) : tBM K T r to t σ H Q := h
/-- the letters asked for a pair -/
theorem sto_get (s : Sto H dl bd das las ws m n st) : ∃ o, valV (kvs ws las) [Sum.inl y, Sum.inl x] = o ∧ (((y, x) ∈ ws ∧ ∃ (j : Nat) (la : Addr), las[j]? = some la ∧ ws[j]? = some (y, x) ∧ o = some (.ref la) ∧ H la = some (.lst ((st.box (y, x)).map V.int))) ∨ ((y, x) ∉ ws ∧ o = none)) := by
  obtain ⟨g1, g2⟩ := kvs_get (y := y) (x := x) s.ll
  by_cases h : (y, x) ∈ ws
  · obtain ⟨j, hj⟩ := List.mem_iff_getElem?.mp h
    have hjl : j < las.length := by rw [s.ll]; exact (List.getElem?_eq_some_iff.mp hj).1
    have hla := List.getElem?_eq_getElem hjl
    exact ⟨_, rfl, .inl ⟨h, j, _, hla, hj, g1 j _ hj hla s.nw, s.box j _ _ hla hj⟩⟩
  · exact ⟨_, rfl, .inr ⟨h, g2 h⟩⟩
theorem et_dnotin (e : Ex F H) (hty : EvS ty σ F false [.int y, .int x]) (htd : Ev td σ H (.ref bd)) (s : Sto H dl bd das las ws m n st) : EvT (tB (tDNotIn ty td)) σ H (!decide ((y, x) ∈ ws)) := fun H1 e1 Q q =>
  hty H1 H1 (e.trans e1) (Ex.refl H1) _ fun b H2 e2 hb _ => htd H2 (e1.trans e2) _ fun H3 e3 => by
    obtain ⟨o, h1, h2⟩ := sto_get (y := y) (x := x) s
    refine ⟨bd, o, rfl, .inr ⟨kvs ws las, [Sum.inl y, Sum.inl x], b, .inl (e3 _ _ (e2 _ _ (e1 _ _ s.hb))), rfl, e3 _ _ hb, h1.symm⟩, _, rfl, ?_⟩
    have q2 := q H3 (e2.trans e3)
    rcases h2 with ⟨h, j, la, _, _, z, _⟩ | ⟨h, z⟩
    · subst z
      simpa [h] using q2
    · subst z
      simpa [h] using q2
theorem et_din (e : Ex F H) (hty : EvS ty σ F false [.int y, .int x]) (htd : Ev td σ H (.ref bd)) (s : Sto H dl bd das las ws m n st) : Ev (tDIn ty td) σ H (.bl (decide ((y, x) ∈ ws))) := fun H1 e1 Q q =>
  hty H1 H1 (e.trans e1) (Ex.refl H1) _ fun b H2 e2 hb _ => htd H2 (e1.trans e2) _ fun H3 e3 => by
    obtain ⟨o, h1, h2⟩ := sto_get (y := y) (x := x) s
    refine ⟨bd, o, rfl, .inr ⟨kvs ws las, [Sum.inl y, Sum.inl x], b, .inl (e3 _ _ (e2 _ _ (e1 _ _ s.hb))), rfl, e3 _ _ hb, h1.symm⟩, ?_⟩
    have q2 := q H3 (e2.trans e3)
    rcases h2 with ⟨h, j, la, _, _, z, _⟩ | ⟨h, z⟩
    · subst z
      simpa [h] using q2
    · subst z
      simpa [h] using q2
theorem ev_dgetS {j : Nat} {la : Addr} (e : Ex F H) (hty : EvS ty σ F false [.int y, .int x]) (htd : Ev td σ H (.ref bd)) (s : Sto H dl bd das las ws m n st) (h1 : las[j]? = some la) (h2 : ws[j]? = some (y, x)) : Ev (tDGet td ty) σ H (.ref la) := fun H1 e1 Q q =>
  htd H1 e1 _ fun H2 e2 => hty H2 H2 ((e.trans e1).trans e2) (Ex.refl H2) _ fun b H3 e3 hb _ => 
    ⟨bd, .ref la, rfl, .inr ⟨kvs ws las, [Sum.inl y, Sum.inl x], b, .inl (e3 _ _ (e2 _ _ (e1 _ _ s.hb))), rfl, hb, ((kvs_get (y := y) (x := x) s.ll).1 j la h2 h1 s.nw).symm⟩, q H3 (e2.trans e3)⟩
end
/-- how a step stands -/
def StpAt (F : Hp) (sa : Addr) : Stp → Prop
  | .put k => F sa = some (.tup [.str "put", .int (k : Nat)])
  | .come y x => F sa = some (.tup [.str "come", .int y, .int x])
def spLStep : Sp := fun vs H Q _ => ∃ F fl dl bd das las ws m n st wl wrs wr sa s, vs = [.ref fl, .ref wl, .ref sa] ∧ Ex F H ∧ H fl = some (.lst [.ref dl, .ref bd]) ∧ Sto H dl bd das las ws m n st ∧ (∀ a ∈ das ++ las, F a = none) ∧ F bd = none ∧ fl ∉ das ++ las ∧ n ≤ 900 ∧ m ≤ 60 ∧
  H wl = some (.lst wrs) ∧ wl ∉ das ++ las ∧ StpAt F sa s ∧ (∀ k, s = .put k → wrs[k]? = some (.int (wr k : Nat)) ∧ wr k < m) ∧ (∀ w ∈ ws, 0 ≤ w.2 ∧ w.2 < (m : Nat)) ∧
  ∀ H', Gw (Ml das las) F H F H' → (∀ st', st.step ws m wr s = some st' → Sto H' dl bd das las ws m (n + 1) st' → Q (.bl true) H') ∧ (st.step ws m wr s = none → Q (.bl false) H')
section
variable {P : Program} {w : World} {K : PySem.W.Frag} {mg : Str → Option Value} {base : Heap}
theorem put_ne_come : ¬ (("come" : Str) = "put") := by decide +kernel
theorem Sto.pop {F H : Hp} {dl bd : Addr} {das las : List Addr} {ws : List (Int × Int)} {m n : Nat} {st : RS} {j : Nat} {la : Addr} {w : Int × Int} (s : Sto H dl bd das las ws m n st) (h1 : las[j]? = some la) (h2 : ws[j]? = some w) : Sto (upd H la (.lst ((st.box w).tail.map V.int))) dl bd das las ws m n (st.pop w) := by
  have hm := List.mem_of_getElem? h1
  have ndl := List.nodup_append.mp s.nd
  have n3 : dl ≠ la := fun z => s.n1 (by rw [z]; exact List.mem_append_right _ hm)
  have n4 : bd ≠ la := fun z => s.n2 (by rw [z]; exact List.mem_append_right _ hm)
  refine ⟨by rw [upd_ne n3]; exact s.hd, by rw [upd_ne n4]; exact s.hb, s.dn, s.ll, fun i a h => ?_, fun j' a w' h1' h2' => ?_, s.nd, s.n1, s.n2, s.ld, fun v => ?_, s.nw⟩
  · rw [upd_ne (ndl.2.2 a (List.mem_of_getElem? h) la hm)]
    exact s.dia i a h
  · by_cases hj : j' = j
    · subst hj
      rw [h1] at h1'
      rw [h2] at h2'
      cases h1'
      cases h2'
      rw [upd_same]
      unfold RS.pop
      simp
    · have na : a ≠ la := fun z => hj (by
        obtain ⟨hl1, e1⟩ := List.getElem?_eq_some_iff.mp h1'
        obtain ⟨hl2, e2⟩ := List.getElem?_eq_some_iff.mp h1
        exact (List.getElem_inj ndl.2.1).mp (e1.trans (z.trans e2.symm)))
      have nw : w' ≠ w := fun z => hj (by
        obtain ⟨hl1, e1⟩ := List.getElem?_eq_some_iff.mp h2'
        obtain ⟨hl2, e2⟩ := List.getElem?_eq_some_iff.mp h2
        exact (List.getElem_inj s.nw).mp (e1.trans (z.trans e2.symm)))
      rw [upd_ne na, s.box j' a w' h1' h2']
      unfold RS.pop
      simp [nw]
  · unfold RS.pop
    by_cases h : v = w
    · simp only [h, if_true]
      have := s.lb w
      rw [List.length_tail]
      omega
    · simp only [h, if_false]
      exact s.lb v
theorem ok_L_step (T : TX K mg) : FnOk P w K mg base CX0 2 (a_L_step K) (fdOf K (a_L_step K)) ["_law_floor_here", "_law_writers", "_law_step_here"] spLStep := by
  have G_L_write := ok_L_write (P := P) (w := w) (base := base) T
  refine T.f_L_step.ok sc_L_step (fun vs H Q E ⟨F, fl, dl, bd, das, las, ws, m, n, st, wl, wrs, wr, sa, s, e, _⟩ => by rw [e]; rfl) (fun cdv A outer s0 H vs Q E hr ⟨F, fl, dl, bd, das, las, ws, m, n, st, wl, wrs, wr, sa, s, e, hF, hfl, hS, hN, hbN, hflN, hn, hm60, hwl, hwlN, hsa, hput, hws, q⟩ => ?_)
  subst e
  refine ⟨_, PSs.nox (pss_cons (ps_if (pt_cmpR op_eq (pe_ix ix_tup (pv 2) pe_int (fun _ _ => rfl)) pe_str (nomark _)) (pss_cons (ps_if (pt_val (pe_callB (cr_any rfl) (by rfl) T.z_any (by decide +kernel) (pa_cons (pe_lc (own := [("_law_diary", 4)]) (g := (gName 4)) (tt := tYes) rfl sc_L_step.nd (pi_sq (pe_ix ix_list (pv 0) pe_int (fun _ _ => rfl))) (blkOk_by (own := [("_law_diary", 4)]) (N := N_L_step) (sc := defScope s_L_step) (by decide +kernel)) (fun _ _ _ _ _ => (pg_name (i := 4) sc_L_step.nd rfl (.inl rfl))) (fun _ _ _ _ _ => pts_nil) (fun _ _ _ _ _ => (pe_cmpR (in_K (K := K)) (pe_ix (ixT_K (K := K)) (pv 2) pe_int (fun _ _ => rfl)) (pv 4) (by rfl)))) pa_nil))) (pss_one (ps_ret pe_bl)) pss_nil) (pss_cons (ps_expr (pe_call G_L_write (hr.mono (by decide)) rfl T.g_L_write T.f_L_write.kp T.b_L_write .nil pass0 (pa_cons (pv 0) (pa_cons (pe_ix ix_list (pv 1) (pe_ix ix_tup (pv 2) pe_int (fun _ _ => rfl)) (fun _ _ => rfl)) (pa_cons (pe_ix ix_tup (pv 2) pe_int (fun _ _ => rfl)) pa_nil))))) (pss_one (ps_ret pe_bl)))) pss_nil) (
    pss_cons (ps_if (PW.pt (pw_or (pt_cmp (pc_dnotin (units1 hr) (pe_slice sl_tupA (pv 2) (po_some pe_int) po_none) (pe_ix ix_list (pv 0) pe_int (fun _ _ => rfl)))) (pw_or1 (pt_cmpR op_eq (pe_callB call_len_seq (by rfl) T.z_len PySem.boot_len (pa_cons (pe_dget (units1 hr) (pe_ix ix_list (pv 0) pe_int (fun _ _ => rfl)) (pe_slice sl_tupA (pv 2) (po_some pe_int) po_none) (fun _ _ => rfl)) pa_nil)) pe_int (nomark _))))) (pss_one (ps_ret pe_bl)) pss_nil) (
    pss_cons (ps_asg (pe_bm PySem.F.plainAttrs_list PySem.F.slot_list_pop PySem.F.type_list_pop mt_popAt (pe_dget (units1 hr) (pe_ix ix_list (pv 0) pe_int (fun _ _ => rfl)) (pe_slice sl_tupA (pv 2) (po_some pe_int) po_none) (fun _ _ => rfl)) (pa_cons pe_int pa_nil)) (pg_name (i := 3) sc_L_step.nd rfl (.inl rfl))) (
    pss_cons (ps_if (pt_cmpR op_notIn_seq (pv 3) (pe_ix ix_list (pe_ix ix_list (pv 0) pe_int (fun _ _ => rfl)) (pe_ix ix_tup (pv 2) pe_int (fun _ _ => rfl)) (fun _ _ => rfl)) (by rfl)) (pss_one (ps_expr (pe_call G_L_write (hr.mono (by decide)) rfl T.g_L_write T.f_L_write.kp T.b_L_write .nil pass0 (pa_cons (pv 0) (pa_cons (pe_ix ix_tup (pv 2) pe_int (fun _ _ => rfl)) (pa_cons (pv 3) pa_nil)))))) pss_nil) (
    pss_one (ps_ret pe_bl)))))), ?_⟩
  cases s with
  | put k =>
    have hsa' : F sa = some (.tup [.str "put", .int (k : Nat)]) := hsa
    obtain ⟨hw1, hw2⟩ := hput k rfl
    refine q_when (b := true) (EvT.mono hF (et_is (et_test (ev_op (x := .str "put") (y := .str "put") (ev_op (ev_var rfl) ev_c (rv_ixT (st_of hsa') at0)) ev_c (rv_eq rfl))) (by simp))) (fun _ H1 e1 => ?_) (fun hb => by cases hb)
    have hfl1 := e1 _ _ hfl
    have hS1 := hS.ext e1
    have hF1 := hF.trans e1
    have hany := ev_any (K := K) (F := H1) (σ := start N_L_step [.ref fl, .ref wl, .ref sa]) (bs := (List.range m).map fun i => decide ((k : Int) ∈ st.dia i)) (tl := tLc (iSq K (tOp (rIxL K) (tVar 0) (tC (.int 0)))) (gName 4) tYes (tOp (rIn K false) (tOp (rIxT K) (tVar 2) (tC (.int 1))) (tVar 4)) [4])
      (el_mapSq (k := true) (a := dl) (xs := das.map V.ref) _ (ev_ixLN (ev_var rfl) hfl1 at0) (sq_of hS1.hd) (by rw [List.length_map, List.length_map, List.length_map, List.length_range, hS1.dn]) (by rw [List.length_map, hS1.dn]; exact hm60) (fun _ => rfl) fun i x y H e hx hy => by
        rw [List.getElem?_map] at hx
        cases hd : das[i]? with
        | none => rw [hd] at hx; cases hx
        | some da =>
          rw [hd] at hx
          cases hx
          have him : i < m := by rw [← hS1.dn]; exact (List.getElem?_eq_some_iff.mp hd).1
          have hy' : y = .bl (decide ((k : Int) ∈ st.dia i)) := by
            rw [List.map_map, List.getElem?_map, List.getElem?_range him] at hy
            exact (Option.some.inj hy).symm
          subst hy'
          exact ev_op (ev_op (ev_var rfl) ev_c (rv_ixT (st_of ((hF1.trans e) _ _ hsa')) at1)) (ev_var rfl) (rv_isI (.inl (sq_of (e _ _ (hS1.dia i da hd))))))
    refine q_when (b := ((List.range m).map fun i => decide ((k : Int) ∈ st.dia i)).any id) (et_test hany) (fun hb H2 e2 => ?_) (fun hb H2 e2 => ?_)
    · exact (q H2 (((Gw.refl hF).ext e1).ext e2)).2 (by rw [step_put, if_pos hb])
    · have hF2 := hF1.trans e2
      refine ⟨_, rfl, _, rfl, _, rfl, sa, _, 1, .int (k : Nat), rfl, rfl, st_of (hF2 _ _ hsa'), at1, wl, wrs, (k : Int), .int (wr k : Nat), rfl, rfl, sq_of (e2 _ _ (e1 _ _ hwl)), atI_nat hw1, _, rfl, sa, _, 1, .int (k : Nat), rfl, rfl, st_of (hF2 _ _ hsa'), at1, ?_⟩
      refine ⟨F, fl, dl, bd, das, las, ws, m, n, st, wr k, (k : Nat), rfl, hF2, e2 _ _ hfl1, hS1.ext e2, hN, hbN, hflN, hw2, by omega, fun H3 g3 hS3 => ?_⟩
      exact (q H3 ((((Gw.refl hF).ext e1).ext e2).trans g3)).1 _ (by rw [step_put, if_neg (by rw [hb]; decide)]) hS3
  | come y x =>
    have hsa' : F sa = some (.tup [.str "come", .int y, .int x]) := hsa
    refine q_when (b := false) (EvT.mono hF (et_is (et_test (ev_op (x := .str "come") (y := .str "put") (ev_op (ev_var rfl) ev_c (rv_ixT (st_of hsa') at0)) ev_c (rv_eq rfl))) (decide_eq_false fun z => put_ne_come (V.str.inj z)))) (fun hb => by cases hb) (fun _ H1 e1 => ?_)
    have hF1 := hF.trans e1
    have hfl1 := e1 _ _ hfl
    have hS1 := hS.ext e1
    have hsl : EvS (tSl (rSlA K) (tVar 2) (tPart (tC (.int 1))) tNoPart) (start N_L_step [.ref fl, .ref wl, .ref sa]) F false [.int y, .int x] := es_slA (K := K) (te := tVar 2) (ev_var rfl) (eo_some (ev_c (v := .int 1))) eo_none hsa'
    obtain ⟨o, _, hg⟩ := sto_get (y := y) (x := x) hS1
    have hlen : ∀ (j : Nat) (la : Addr), las[j]? = some la → ws[j]? = some (y, x) → H1 la = some (.lst ((st.box (y, x)).map V.int)) → EvT (tTest (tOp rEq (tCB (rLenS K) (tCons (tDGet (tOp (rIxL K) (tVar 0) (tC (.int 1))) (tSl (rSlA K) (tVar 2) (tPart (tC (.int 1))) tNoPart)) tNil)) (tC (.int 0)))) (start N_L_step [.ref fl, .ref wl, .ref sa]) H1 (decide ((st.box (y, x)).length = 0)) := fun j la z1 z2 z3 =>
      et_is (et_test (ev_op (ev_lenSq (K := K) (k := true) (ev_dgetS (F := F) hF1 hsl (ev_ixLN (ev_var rfl) hfl1 at1) hS1 z1 z2) (sq_of z3)) ev_c (rv_eq rfl))) (by rw [List.length_map]; exact decide_eq_decide.mpr ⟨fun z => by have := V.int.inj z; omega, fun z => by rw [z]; rfl⟩)
    refine q_when (b := !decide ((y, x) ∈ ws) || decide ((st.box (y, x)).length = 0)) (et_or (et_dnotin (F := F) hF1 hsl (ev_ixLN (ev_var rfl) hfl1 at1) hS1) fun hb => ?_) (fun hb H2 e2 => ?_) (fun hb H2 e2 => ?_)
    · rcases hg with ⟨_, j, la, z1, z2, _, z3⟩ | ⟨h, _⟩
      · exact hlen j la z1 z2 z3
      · simp [h] at hb
    · refine (q H2 (((Gw.refl hF).ext e1).ext e2)).2 ?_
      rw [step_come, if_neg]
      rintro ⟨z1, z2⟩
      rw [Bool.or_eq_true] at hb
      rcases hb with z | z
      · simp [z1] at z
      · exact z2 (List.length_eq_zero_iff.mp (of_decide_eq_true z))
    · rw [Bool.or_eq_false_iff, Bool.not_eq_false', decide_eq_true_eq, decide_eq_false_iff_not] at hb
      obtain ⟨hin, hne⟩ := hb
      have hne' : st.box (y, x) ≠ [] := fun z => hne (by rw [z]; rfl)
      obtain ⟨_, j, la, z1, z2, _, z3⟩ := hg.resolve_right fun z => z.1 hin
      obtain ⟨k0, r0, hbx⟩ : ∃ k0 r0, st.box (y, x) = k0 :: r0 := by
        cases hc : st.box (y, x) with
        | nil => exact absurd hc hne'
        | cons a b => exact ⟨a, b, rfl⟩
      have hF2 := hF1.trans e2
      have hS2 := hS1.ext e2
      have hfl2 := e2 _ _ hfl1
      have hxm := hws (y, x) hin
      have hlam : la ∈ das ++ las := List.mem_append_right _ (List.mem_of_getElem? z1)
      refine nAsg (nBM ?_)
      refine (ev_dgetS (F := F) (σ := start N_L_step [.ref fl, .ref wl, .ref sa]) (td := tOp (rIxL K) (tVar 0) (tC (.int 1))) hF2 hsl (ev_ixLN (ev_var rfl) hfl2 at1) hS2 z1 z2) H2 (Ex.refl H2) _ fun H3 e3 => ?_
      have hS3 := hS2.ext e3
      have hla3 := hS3.box j la _ z1 z2
      rw [hbx] at hla3
      refine ⟨.inl ⟨rfl, _, sq_of hla3⟩, la, _, 0, 0, .int k0, rfl, rfl, hla3, by decide, by decide, by simp [seqIndex?], rfl, gN ?_⟩
      try dsimp only
      have g3 := ((((Gw.refl (M := Ml das las) hF).ext e1).ext e2).ext e3).mut (p := la) (o := .lst (r0.map V.int)) (hN la hlam) (.inr hlam)
      have hS4 : Sto (upd H3 la (.lst (r0.map V.int))) dl bd das las ws m n (st.pop (y, x)) := by
        have := Sto.pop (F := F) hS3 z1 z2
        rw [hbx] at this
        exact this
      have hfl4 : upd H3 la (.lst (r0.map V.int)) fl = some (.lst [.ref dl, .ref bd]) := by
        rw [upd_ne (fun z => hflN (by rw [z]; exact hlam))]
        exact e3 _ _ hfl2
      show tSeq _ _ _ [some (.ref fl), some (.ref wl), some (.ref sa), some (.int k0), none] (upd H3 la (.lst (r0.map V.int)))
      generalize upd H3 la (.lst (r0.map V.int)) = H4 at *
      have hxd : x.toNat < das.length := by rw [hS4.dn]; have := hxm.2; simp only at this; omega
      have hda := List.getElem?_eq_getElem hxd
      have hxn : ((x.toNat : Nat) : Int) = x := by have := hxm.1; simp only at this; omega
      have hdia := hS4.dia _ _ hda
      have hatx : atI (das.map V.ref) x = some (V.ref das[x.toNat]) := by
        have := atI_nat (xs := das.map V.ref) (j := x.toNat) (v := V.ref das[x.toNat]) (by rw [List.getElem?_map, hda]; rfl)
        rwa [hxn] at this
      have hhead : (st.box (y, x)).headD 0 = k0 := by rw [hbx]; rfl
      have hdp : (st.pop (y, x)).dia = st.dia := rfl
      have hstep : ∀ st', (if k0 ∈ st.dia x.toNat then st.pop (y, x) else (st.pop (y, x)).write ws x.toNat k0) = st' → st.step ws m wr (.come y x) = some st' := fun st' h => by
        rw [step_come, if_pos ⟨hin, hne'⟩, hhead, h]
      refine q_when (b := !decide (k0 ∈ st.dia x.toNat)) (et_test (ev_op (ev_var rfl) (ev_op (ev_ixLN (ev_var rfl) hfl4 at0) (ev_op (ev_var rfl) ev_c (rv_ixT (st_of (g3.le _ _ hsa')) at2)) (rv_ixL (v := V.ref das[x.toNat]) (sq_of hS4.hd) hatx)) (rv_niI (.inl (sq_of hdia))))) (fun hb H5 e5 => ?_) (fun hb H5 e5 => ?_)
      · have hnk : k0 ∉ st.dia x.toNat := by simpa using hb
        have hle5 := (g3.ext e5).le
        refine ⟨_, rfl, _, rfl, sa, _, 2, .int x, rfl, rfl, st_of (hle5 _ _ hsa'), at2, _, rfl, F, fl, dl, bd, das, las, ws, m, n, st.pop (y, x), x.toNat, k0, by rw [hxn]; rfl, hle5, e5 _ _ hfl4, hS4.ext e5, hN, hbN, hflN, by have := hxm.2; simp only at this; omega, by omega, fun H6 g6 hS6 => ?_⟩
        exact (q H6 ((g3.ext e5).trans g6)).1 _ (hstep _ (if_neg hnk)) hS6
      · have hk : k0 ∈ st.dia x.toNat := by simpa using hb
        have hS5 := hS4.ext e5
        exact (q H5 (g3.ext e5)).1 _ (hstep _ (if_pos hk)) ⟨hS5.hd, hS5.hb, hS5.dn, hS5.ll, hS5.dia, hS5.box, hS5.nd, hS5.n1, hS5.n2, fun i hi => Nat.le_succ_of_le (hS5.ld i hi), fun w => Nat.le_succ_of_le (hS5.lb w), hS5.nw⟩
end
end GD

/-! ## Runs: what is right, in plain words -/
namespace GD
open PySem L2
def stepOf (n : Nat) : T → Option Stp
  | .tup [.str s, .int k] => if s = "put" ∧ 0 ≤ k ∧ k < (n : Int) then some (.put k.toNat) else none
  | .tup [.str s, .int y, .int x] => if s = "come" then some (.come y x) else none
  | _ => none
def runSteps (ws : List (Int × Int)) (m : Nat) (wr : Nat → Nat) (n : Nat) : RS → List T → Option RS
  | st, [] => some st
  | st, t :: ts => match stepOf n t with
    | none => none
    | some s => match st.step ws m wr s with
      | none => none
      | some st' => runSteps ws m wr n st' ts
def wrOf (ps : List (Int × Int)) (k : Nat) : Nat := (ps.getD k (0, 0)).1.toNat
def seen (ps : List (Int × Int)) (st : RS) : Bool := (List.range ps.length).all fun k => decide (((k : Nat) : Int) ∈ st.dia (ps.getD k (0, 0)).1.toNat) && decide ((st.dia (ps.getD k (0, 0)).2.toNat).head? = some ((k : Nat) : Int))
def sightRight (m : Int) (ws ps : List (Int × Int)) (t : T) : Bool := (isL t || isU t) && match runSteps ws m.toNat (wrOf ps) ps.length RS.start (items t) with
  | none => false
  | some st => seen ps st
section
variable {ws : List (Int × Int)} {m n : Nat} {wr : Nat → Nat}
theorem run_cons {t : T} {ts : List T} {st : RS} : runSteps ws m wr n st (t :: ts) = match stepOf n t with
    | none => none
    | some s => match st.step ws m wr s with
      | none => none
      | some st' => runSteps ws m wr n st' ts := rfl
theorem run_app : ∀ {ts us : List T} {st : RS}, runSteps ws m wr n st (ts ++ us) = match runSteps ws m wr n st ts with
    | none => none
    | some st' => runSteps ws m wr n st' us
  | [], us, st => rfl
  | t :: ts, us, st => by
    rw [List.cons_append, run_cons, run_cons]
    cases h : stepOf n t with
    | none => rfl
    | some s =>
      cases h2 : st.step ws m wr s with
      | none => simp [h2]
      | some st' =>
        simp only [h2]
        exact run_app
theorem run_take {ts : List T} {i : Nat} {t : T} {st : RS} (h : ts[i]? = some t) (hr : runSteps ws m wr n RS.start (ts.take i) = some st) : runSteps ws m wr n RS.start (ts.take (i + 1)) = runSteps ws m wr n st [t] := by
  rw [List.take_add_one, h]
  show runSteps ws m wr n RS.start (ts.take i ++ [t]) = _
  rw [run_app, hr]
theorem run_bad {ts : List T} {i : Nat} {t : T} {st : RS} (h : ts[i]? = some t) (hr : runSteps ws m wr n RS.start (ts.take i) = some st) (hb : runSteps ws m wr n st [t] = none) : runSteps ws m wr n RS.start ts = none := by
  have e : ts = ts.take (i + 1) ++ ts.drop (i + 1) := (List.take_append_drop _ _).symm
  rw [e, run_app, run_take h hr, hb]
theorem run_one {t : T} {st : RS} : runSteps ws m wr n st [t] = match stepOf n t with
    | none => none
    | some s => st.step ws m wr s := by
  rw [run_cons]
  cases stepOf n t with
  | none => rfl
  | some s =>
    simp only
    cases st.step ws m wr s <;> rfl
end
end GD

/-! ## The law's judge of runs -/
namespace GD
open PySem L2 Evl G SQ
def isStr (s : Str) : T → Bool
  | .str z => decide (z = s)
  | _ => false
def v1 (t : T) : Bool := isU t && (!decide ((items t).length < 2) && ((items t).drop 1).all (within 0 40))
def v2 (n : Nat) (t : T) : Bool := match items t with
  | x0 :: r => (isStr "put" x0 && (decide (r.length + 1 = 2) && match nums r with
    | k :: _ => decide (k < (n : Int))
    | [] => false)) || (isStr "come" x0 && decide (r.length + 1 = 3))
  | [] => false
theorem v1_at {t : T} (h : v1 t = true) : ∃ x0 ns, t = .tup (x0 :: ns.map T.int) ∧ ns ≠ [] ∧ ∀ i ∈ ns, 0 ≤ i ∧ i ≤ 40 := by
  unfold v1 at h
  simp only [Bool.and_eq_true, Bool.not_eq_true', decide_eq_false_iff_not] at h
  obtain ⟨h1, h2, h3⟩ := h
  cases t <;> simp [isU] at h1
  rename_i ts
  cases ts with
  | nil => simp [items] at h2
  | cons x0 r =>
    obtain ⟨e, hb⟩ := all_nums h3
    have e' : r = (nums r).map T.int := e
    refine ⟨x0, nums r, by rw [← e'], fun z => ?_, hb⟩
    rw [z] at e'
    rw [e'] at h2
    simp [items] at h2
theorem run_bad1 {ws : List (Int × Int)} {m : Int} {M n : Nat} {wr : Nat → Nat} {st : RS} {t : T} (hw : ∀ w ∈ ws, Wok m w) (h7 : m ≤ 7) (hn : n ≤ 4) (h : v1 t = false) : runSteps ws M wr n st [t] = none := by
  rw [run_one]
  unfold stepOf
  split
  · rfl
  · rename_i s hs
    split at hs
    · split at hs
      · rename_i s0 k hc
        exfalso
        have : v1 (.tup [.str s0, .int k]) = true := by
          show (true && (!decide (2 < 2) && (within 0 40 (.int k) && true))) = true
          unfold within
          simp
          omega
        rw [h] at this
        cases this
      · cases hs
    · split at hs
      · rename_i s0 y x hc
        cases hs
        rw [step_come, if_neg]
        rintro ⟨z, _⟩
        have hwz := hw _ z
        have : v1 (.tup [.str s0, .int y, .int x]) = true := by
          show (true && (!decide (3 < 2) && (within 0 40 (.int y) && (within 0 40 (.int x) && true)))) = true
          unfold within
          unfold Wok at hwz
          simp
          omega
        rw [h] at this
        cases this
      · cases hs
    · cases hs
theorem run_bad2 {ws : List (Int × Int)} {M n : Nat} {wr : Nat → Nat} {st : RS} {x0 : T} {ns : List Int} (h0 : ∀ i ∈ ns, 0 ≤ i ∧ i ≤ 40) (h : v2 n (.tup (x0 :: ns.map T.int)) = false) : stepOf n (.tup (x0 :: ns.map T.int)) = none := by
  unfold stepOf
  split
  · rename_i s k e
    injection e with e
    injection e with e1 e2
    match ns, e2 with
    | [k'], e2 =>
      injection e2 with e2
      injection e2 with e2
      subst e1 e2
      rw [if_neg]
      rintro ⟨z1, z2, z3⟩
      simp [v2, items, isStr, nums, z1, z3] at h
  · rename_i s y x e
    injection e with e
    injection e with e1 e2
    match ns, e2 with
    | [y', x'], e2 =>
      subst e1
      rw [if_neg]
      intro z
      simp [v2, items, isStr, z] at h
  · rfl
theorem v2_at {n : Nat} {x0 : T} {ns : List Int} (h0 : ∀ i ∈ ns, 0 ≤ i ∧ i ≤ 40) (h : v2 n (.tup (x0 :: ns.map T.int)) = true) :
    (∃ k : Nat, x0 = .str "put" ∧ ns = [(k : Int)] ∧ k < n ∧ stepOf n (.tup (x0 :: ns.map T.int)) = some (.put k)) ∨ (∃ y x, x0 = .str "come" ∧ ns = [y, x] ∧ stepOf n (.tup (x0 :: ns.map T.int)) = some (.come y x)) := by
  unfold v2 items at h
  simp only [Bool.or_eq_true, Bool.and_eq_true, decide_eq_true_eq] at h
  rcases h with ⟨h1, h2, h3⟩ | ⟨h1, h2⟩
  · cases x0 <;> simp [isStr] at h1
    subst h1
    match ns, h2 with
    | [k], _ =>
      have hk := h0 k (by simp)
      simp [nums] at h3
      refine .inl ⟨k.toNat, rfl, by congr 1; omega, by omega, ?_⟩
      unfold stepOf
      simp [hk.1, h3]
  · cases x0 <;> simp [isStr] at h1
    subst h1
    match ns, h2 with
    | [y, x], _ => exact .inr ⟨y, x, rfl, rfl, by unfold stepOf; simp⟩
theorem eqv_ilist (a b : List Int) : PyData.eqv (.list (a.map PyData.int)) (.list (b.map PyData.int)) = decide (a = b) := by
  rw [PyData.eqv, eqvAll_int]
theorem sh_ilist (a : List Int) : SeqAt.shaped (.list (a.map PyData.int)) = true := by
  obtain ⟨h1, h2⟩ := lay_ints a
  unfold SeqAt.shaped
  rw [PyData.canLay0, PyData.depth, h1, h2]
  rfl
section
variable {K : PySem.W.Frag} {σ : L2.St} {F F' H : Hp} {tl te : TE} {vs : List Nat}
theorem rv_neIL {a b : Addr} {ns ms : List Int} (h : SqL K F a (ns.map V.int)) (hb : SqL K F b (ms.map V.int)) : RV (rNeD K) (.ref a) (.ref b) F (.bl (!decide (ns = ms))) := fun H1 e _ q =>
  ⟨_, _, .lst (ex_l e h) (dpAll_ints ns), .lst (ex_l e hb) (dpAll_ints ms), sh_ilist _, sh_ilist _, by rw [eqv_ilist]; exact q H1 (Ex.refl H1)⟩
/-- all([p(x) for x in a tuple, new or old]) -/
theorem ev_allV {j : Nat} {xs : List V} {ts : List T} (p : T → Bool) (h : EvV K tl σ F xs) (ht : Rps F ts xs) (hz : xs.length ≤ 60) (hwp : ∀ x, wipe ((wipe σ vs).set j (some x)) vs = wipe σ vs)
    (he : ∀ t x H, Ex F H → t ∈ ts → Rp H t x → Ev te ((wipe σ vs).set j (some x)) H (.bl (p t))) : Ev (tCB (rAll K) (tCons (tLc (iSq K tl) (gName j) tYes te vs) tNil)) σ F (.bl (ts.all p)) := by
  have := el_lcX (σ := σ) (F := F) (vs := vs) (j := j) (tt := tYes) (te := te) (n := xs.length) (wi := iSq K tl) (fun i x H' => xs[i]? = some x) (fun H1 e1 R hR => h H1 e1 _ fun p H2 e2 hp => ⟨false, p, xs, rfl, hp, hR _ H2 (fun H => Sq false K H p xs) (YAt xs) e2 walk_sq (fun H e => ex_sq (k := false) e hp) fun i H x H' _ _ y => ⟨by rw [y.1]; exact Ex.refl H, y.2⟩⟩) hwp (by omega) (fun i => (ts[i]?).map fun t => V.bl (p t)) (fun i x H' hi e y => ?_)
  · have e1 : fm xs.length (fun i => (ts[i]?).map fun t => V.bl (p t)) = (((List.range ts.length).map fun i => match ts[i]? with
        | some t => p t
        | none => true).map V.bl) := by
      rw [← fm_bools, ht.len]
      unfold fm
      refine fm_congr fun i hi => ?_
      have hl := List.mem_range.mp hi
      rw [← ht.len] at hl
      rw [List.getElem?_eq_getElem hl]
      rfl
    rw [e1] at this
    exact ev_is (ev_all this) (congrArg V.bl (all_range p ts _ fun i t h => by rw [h]))
  · obtain ⟨t, h1, h2⟩ := ht.at y
    have hs : ((ts[i]?).map fun t => V.bl (p t)) = some (V.bl (p t)) := by rw [h1]; rfl
    rw [hs]
    refine ⟨et_yes, fun v hv => ?_⟩
    obtain rfl : V.bl (p t) = v := Option.some.inj hv
    exact he t x H' e (List.mem_of_getElem? h1) (h2.mono e _ _)
/-- t[0] == 'put' -/
theorem et_str {a : Addr} {x0 : T} {v0 : V} {us : List V} {s : Str} {i : Nat} (hi : σ[i]? = some (some (.ref a))) (h : F a = some (.tup (v0 :: us))) (hr : Rp F x0 v0) (hf : flatT x0 = true) : EvT (tTest (tOp rEq (tOp (rIxT K) (tVar i) (tC (.int 0))) (tC (.str s)))) σ F (isStr s x0) := by
  refine et_is (et_test (ev_op (x := v0) (y := .str s) (ev_op (ev_var hi) ev_c (rv_ixT (st_of h) at0)) ev_c (rv_eq ?_))) ?_
  · cases x0 <;> simp [flatT] at hf <;> cases hr <;> rfl
  · cases x0 <;> simp [flatT] at hf <;> cases hr <;> simp [isStr]
end
end GD

/-! ## The law's judge of runs, walked -/
namespace GD
open PySem L2 Evl G SQ
def spSightR : Sp := fun vs H Q _ => ∃ F wv v u t M ws ps, vs = [.int (M : Nat), wv, v, u] ∧ Ex F H ∧ Rp F (.tup (List.map pT ws)) wv ∧ Prs F v ps ∧ Ps (M : Nat) ps ∧ WebOk (M : Nat) ws ∧ Rp F t u ∧ Goods t ∧ ∀ H', Ex H H' → Q (.bl (sightRight (M : Nat) ws ps t)) H'
theorem gw_ex {F H F1 H1 H2 : Hp} {das las : List Addr} (g1 : Gw Mn F H F1 H1) (hn : ∀ a ∈ das ++ las, H a = none) (g : Gw (Ml das las) F1 H1 F1 H2) : Ex H H2 := fun a o h =>
  g.up a o (fun z => by rw [hn a z] at h; cases h) (g1.ex a o h)
section
variable {P : Program} {w : World} {K : PySem.W.Frag} {mg : Str → Option Value} {base : Heap}
theorem ok_L_sight_right (T : TX K mg) : FnOk P w K mg base CX0 3 (a_L_sight_right K) (fdOf K (a_L_sight_right K)) ["_law_machines", "_law_wires_here", "_law_pairs", "_law_thing"] spSightR := by
  have G_L_whole := ok_L_whole (P := P) (w := w) (base := base) T
  have G_L_floor := ok_L_floor (P := P) (w := w) (base := base) T
  have G_L_step := ok_L_step (P := P) (w := w) (base := base) T
  refine T.f_L_sight_right.ok sc_L_sight_right (fun vs H Q E ⟨F, wv, v, u, t, M, ws, ps, e, _⟩ => by rw [e]; rfl) (fun cdv A outer s H vs Q E hr ⟨F, wv, v, u, t, M, ws, ps, e, hF, hw, hP, hv, hok, h, hgood, q⟩ => ?_)
  subst e
  refine ⟨_, PSs.nox (pss_cons (ps_if (PW.pt (pw_or (pt_not (pt_val (pe_callB call_isiT (by rfl) T.z_isinstance (by decide +kernel) (pa_cons (pv 3) (pa_cons (pe_tup (pa_cons (pe_bltn (v := .ty "list") (by rfl) T.z_list (by decide +kernel) rfl) (pa_cons (pe_bltn (v := .ty "tuple") (by rfl) T.z_tuple (by decide +kernel) rfl) pa_nil))) pa_nil))))) (pw_or1 (pt_cmpR op_gt (pe_callB call_len_seq (by rfl) T.z_len PySem.boot_len (pa_cons (pv 3) pa_nil)) pe_int (nomark _))))) (pss_one (ps_ret pe_bl)) pss_nil) (
    pss_cons (ps_setLc (i := 4) (own := [("_law_pair", 8)]) (g := (gName 8)) (tt := tYes) rfl sc_L_sight_right.nd rfl rfl (sw_true rfl rfl rfl (by decide +kernel)) (pi_sq (pv 2)) (blkOk_by (own := [("_law_pair", 8)]) (N := N_L_sight_right) (sc := defScope s_L_sight_right) (by decide +kernel)) (fun _ _ _ _ _ => (pg_name (i := 8) sc_L_sight_right.nd rfl (.inl rfl))) (fun _ _ _ _ _ => pts_nil) (fun _ _ _ _ _ => (pe_ix (ixT_K (K := K)) (pv 8) pe_int (fun _ _ => rfl)))) (
    pss_cons (ps_asg (pe_call G_L_floor (hr.mono (by decide)) rfl T.g_L_floor T.f_L_floor.kp T.b_L_floor .nil pass0 (pa_cons (pv 0) (pa_cons (pv 1) pa_nil))) (pg_name (i := 5) sc_L_sight_right.nd rfl (.inl rfl))) (
    pss_cons (ps_for PassesOwn.never rfl (pi_sq (pv 3)) (pg_name (i := 6) sc_L_sight_right.nd rfl (.inl rfl)) (pss_cons (ps_if (PW.pt (pw_or (pt_not (pt_val (pe_callB call_isi (by rfl) T.z_isinstance (by decide +kernel) (pa_cons (pv 6) (pa_cons (pe_bltn (v := .ty "tuple") (by rfl) T.z_tuple (by decide +kernel) rfl) pa_nil))))) (pw_or (pt_cmpR op_lt (pe_callB call_len_seq (by rfl) T.z_len PySem.boot_len (pa_cons (pv 6) pa_nil)) pe_int (nomark _)) (pw_or1 (pt_not (pt_val (pe_callB (cr_all rfl) (by rfl) T.z_all (by decide +kernel) (pa_cons (pe_lc (own := [("_law_part", 9)]) (g := (gName 9)) (tt := tYes) rfl sc_L_sight_right.nd (pi_sq (pe_slice sl_tupA (pv 6) (po_some pe_int) po_none)) (blkOk_by (own := [("_law_part", 9)]) (N := N_L_sight_right) (sc := defScope s_L_sight_right) (by decide +kernel)) (fun _ _ _ _ _ => (pg_name (i := 9) sc_L_sight_right.nd rfl (.inl rfl))) (fun _ _ _ _ _ => pts_nil) (fun _ _ _ _ _ => (pe_call G_L_whole (hr.mono (by decide)) rfl T.g_L_whole T.f_L_whole.kp T.b_L_whole .nil pass0 (pa_cons (pv 9) (pa_cons pe_int (pa_cons pe_int pa_nil)))))) pa_nil)))))))) (pss_one (ps_ret pe_bl)) pss_nil) (pss_cons (ps_if (pt_not (PW.pt (pw_or (PW.pt (pw_and (pt_cmpR op_eq (pe_ix ix_tup (pv 6) pe_int (fun _ _ => rfl)) pe_str (nomark _)) (pw_and (pt_cmpR op_eq (pe_callB call_len_seq (by rfl) T.z_len PySem.boot_len (pa_cons (pv 6) pa_nil)) pe_int (nomark _)) (pw_and1 (pt_cmpR op_lt (pe_ix ix_tup (pv 6) pe_int (fun _ _ => rfl)) (pe_callB call_len_seq (by rfl) T.z_len PySem.boot_len (pa_cons (pv 2) pa_nil)) (nomark _)))))) (pw_or1 (PW.pt (pw_and (pt_cmpR op_eq (pe_ix ix_tup (pv 6) pe_int (fun _ _ => rfl)) pe_str (nomark _)) (pw_and1 (pt_cmpR op_eq (pe_callB call_len_seq (by rfl) T.z_len PySem.boot_len (pa_cons (pv 6) pa_nil)) pe_int (nomark _))))))))) (pss_one (ps_ret pe_bl)) pss_nil) (pss_one (ps_if (pt_not (pt_val (pe_call G_L_step (hr.mono (by decide)) rfl T.g_L_step T.f_L_step.kp T.b_L_step .nil pass0 (pa_cons (pv 5) (pa_cons (pv 4) (pa_cons (pv 6) pa_nil)))))) (pss_one (ps_ret pe_bl)) pss_nil))))) (
    pss_cons (ps_for PassesOwn.never rfl (pi_E rfl T.z_enumerate (pa_cons (pv 2) pa_nil)) (pg_tup rfl (pgs_cons (pg_name (i := 7) sc_L_sight_right.nd rfl (.inl rfl)) (pgs_cons (pg_name (i := 8) sc_L_sight_right.nd rfl (.inl rfl)) pgs_nil))) (pss_one (ps_if (PW.pt (pw_or (pt_cmpR op_notIn_seq (pv 7) (pe_ix ix_list (pe_ix ix_list (pv 5) pe_int (fun _ _ => rfl)) (pe_ix ix_tup (pv 8) pe_int (fun _ _ => rfl)) (fun _ _ => rfl)) (by rfl)) (pw_or1 (pt_cmpR (op_neD hr.units) (pe_slice sl_list (pe_ix ix_list (pe_ix ix_list (pv 5) pe_int (fun _ _ => rfl)) (pe_ix ix_tup (pv 8) pe_int (fun _ _ => rfl)) (fun _ _ => rfl)) po_none (po_some pe_int)) (pe_lst (pa_cons (pv 7) pa_nil)) (nomark _))))) (pss_one (ps_ret pe_bl)) pss_nil))) (
    pss_one (ps_ret pe_bl))))))), ?_⟩
  obtain ⟨kp, pa, pxs, rfl, p1, p2, p3, pl⟩ := hP.sq (K := K)
  have hM : (((M : Nat) : Int)).toNat = M := by omega
  have h7 := hok.hi
  have hp4 := hv.hi
  refine q_when (b := !(isL t || isU t) || decide (((items t).length : Int) > 4000)) (EvT.mono hF (et_or (et_not (et_test (ev_isiLU (ev_var rfl) h))) fun hb => et_test (ev_op (ev_lenT (ev_var rfl) h (by rw [Bool.not_eq_false'] at hb; exact hb)) ev_c rv_I0))) (fun hb H1 e1 => ?_) (fun hb H1 e1 => ?_)
  · have : sightRight (M : Nat) ws ps t = false := by
      rw [Bool.or_eq_true] at hb
      rcases hb with z | z
      · unfold sightRight
        rw [Bool.not_eq_true'] at z
        rw [z, Bool.false_and]
      · exfalso
        by_cases hu : (isL t || isU t) = true
        · obtain ⟨a, xs, _, _, x3, x4⟩ := sq_items (K := K) h hu
          have := x4.len
          have := of_decide_eq_true z
          omega
        · cases t <;> simp [isL, isU, items] at hu z
    have q1 := q H1 e1
    rw [this] at q1
    exact q1
  rw [Bool.or_eq_false_iff, Bool.not_eq_false'] at hb
  obtain ⟨hu, _⟩ := hb
  obtain ⟨a, xs, rfl, h1, h2, h3⟩ := sq_items (K := K) h hu
  have xl := h3.len
  have hF1 := hF.trans e1
  refine q_asgL (xs := ps.map fun p => V.int p.1) (EvL.mono hF1 (el_mapSq (K := K) (k := kp) (a := pa) (xs := pxs) _ (ev_var rfl) p1 (by rw [List.length_map, pl]) p2 (fun _ => rfl) fun i x y H e hx hy => by
    obtain ⟨p, b, g1, rfl, g2⟩ := rps_pT p3 hx
    rw [List.getElem?_map, g1] at hy
    cases hy
    exact ev_op (ev_var rfl) ev_c (rv_ixT (st_of (e _ _ g2)) at0))) fun WL H2 hWL e2 hH2 => ?_
  have hF2 := hF1.trans e2
  refine ⟨_, rfl, _, rfl, F, wv, M, ws, rfl, hF2, hw, plt_nd hok, by omega, fun H3 fl dl bd das las g3 hfl0 hbd0 hfl hS hdn hfln => gN ?_⟩
  try dsimp only
  show tSeq _ _ _ [some (.int (M : Nat)), some wv, some (.ref pa), some (.ref a), some (.ref WL), some (.ref fl), none, none, none, none] H3
  have hN : ∀ b ∈ das ++ las, F b = none := fun b hb => fresh_back hF2 (hdn b hb)
  have hbN : F bd = none := fresh_back hF2 hbd0
  have hWLn : WL ∉ das ++ las := fun z => by have := hdn WL z; rw [hH2] at this; cases this
  have hH0 : ∀ b ∈ das ++ las, H b = none := fun b hb => fresh_back (e1.trans e2) (hdn b hb)
  have exH : ∀ H', Gw (Ml das las) F H3 F H' → Ex H H' := fun H' g => gw_ex (((Gw.refl hF).ext (e1.trans e2)).trans g3) hH0 g
  have hS3 := hS
  have hWL3 := g3.ex _ _ hH2
  have hws : ∀ w ∈ ws, 0 ≤ w.2 ∧ w.2 < ((M : Nat) : Int) := fun w hw => by have := hok.wok w hw; unfold Wok at this; omega
  refine q_forW (J := Isq (isL t) K a) (n := xs.length) (Gd := fun H => Sq (isL t) K H a xs) (Y := YAt xs) walk_sq (evi_sq (ev_var rfl) (ex_sq g3.le h1))
    (fun i σ' H' => ∃ st o, σ' = [some (.int (M : Nat)), some wv, some (.ref pa), some (.ref a), some (.ref WL), some (.ref fl), o, none, none, none] ∧ Gw (Ml das las) F H3 F H' ∧ Sto H' dl bd das las ws M i st ∧ runSteps ws M (wrOf ps) ps.length RS.start ((items t).take i) = some st)
    (fun H4 e4 => ⟨RS.start, _, rfl, (Gw.refl g3.le).ext e4, hS.ext e4, rfl⟩) (fun i σ' H' _ ⟨_, _, _, g, _⟩ => ex_sq g.le h1) (fun i x σ1 Ha Hb hi hp y => ?_) (fun σ' H' ⟨st, o, e, g, hSt, hrun⟩ => ?_)
  · obtain ⟨rfl, hy⟩ := y
    obtain ⟨st, o, rfl, g, hSt, hrun⟩ := hp
    obtain ⟨t0, z1, z2⟩ := h3.at hy
    refine gN ?_
    show tSeq _ _ _ [some (.int (M : Nat)), some wv, some (.ref pa), some (.ref a), some (.ref WL), some (.ref fl), some x, none, none, none] Hb
    have bad : runSteps ws M (wrOf ps) ps.length st [t0] = none → ∀ H', Ex Hb H' → Q (.bl false) H' := fun hb0 H' e' => by
      have hall := run_bad z1 hrun hb0
      have : sightRight (M : Nat) ws ps t = false := by
        unfold sightRight
        rw [hM, hall]
        simp
      have q1 := q H' (exH H' (g.ext e'))
      rw [this] at q1
      exact q1
    refine q_when (b := !(v1 t0)) (EvT.mono g.le (et_is (et_or (et_not (et_test (ev_isi (ev_var rfl) z2 (kit_u t0)))) fun hut => et_or (b := !((items t0).drop 1).all (within 0 40)) (et_test (ev_op (ev_lenT (ev_var rfl) z2 (isU_or (by simpa using hut))) ev_c rv_I0)) fun _ => et_not (et_test ?_)) ?_)) (fun hc H5 e5 => ?_) (fun hc H5 e5 => ?_)
    · have hut' : isU t0 = true := by simpa using hut
      obtain ⟨b, us, rfl, k1, k2, k3⟩ := sq_items (K := K) z2 (isU_or hut')
      rw [isU_notL hut'] at k1
      have hsl := ev_slA (K := K) (te := tVar 6) (σ := [some (.int (M : Nat)), some wv, some (.ref pa), some (.ref a), some (.ref WL), some (.ref fl), some (.ref b), none, none, none]) (F := F) (ev_var rfl) (eo_some (ev_c (v := .int 1))) eo_none k1
      rw [show cutV us (some 1) none = us.drop 1 from cut_from us 1] at hsl
      refine ev_allV (within 0 40) hsl (k3.drop 1) (by rw [List.length_drop]; omega) (fun _ => rfl) fun t x H e _ hx => ?_
      exact ev_call (ea_cons (ev_var rfl) (ea_cons ev_c (ea_cons ev_c ea_nil))) (svWithin hx)
    · unfold v1
      have : decide (((items t0).length : Int) < 2) = decide ((items t0).length < 2) := decide_eq_decide.mpr ⟨fun z => by omega, fun z => by omega⟩
      rw [this]
      cases isU t0 <;> cases decide ((items t0).length < 2) <;> simp
    · rw [Bool.not_eq_true'] at hc
      exact bad (run_bad1 hok.wok h7 hp4 hc) H5 e5
    rw [Bool.not_eq_false'] at hc
    obtain ⟨x0, ns, rfl, hns, hbnd⟩ := v1_at hc
    obtain ⟨b, us, rfl, k1, k2, v0, us', rfl, k3, k4⟩ := z2
    rw [Rps.ints] at k4
    subst k4
    have hfl0' : flatT x0 = true := hgood (x0 :: ns.map GD.T.int) (List.mem_of_getElem? z1) (by
      have := List.length_pos_iff.mpr hns
      rw [List.length_cons, List.length_map]
      omega) x0 (by simp)
    obtain ⟨n0, nr, rfl⟩ : ∃ n0 nr, ns = n0 :: nr := by
      cases ns with
      | nil => exact absurd rfl hns
      | cons a b => exact ⟨a, b, rfl⟩
    have g5 := g.ext e5
    have hb5 : F b = some (.tup (v0 :: .int n0 :: nr.map V.int)) := k1
    have hlen : Ev (tCB (rLenS K) (tCons (tVar 6) tNil)) [some (.int (M : Nat)), some wv, some (.ref pa), some (.ref a), some (.ref WL), some (.ref fl), some (.ref b), none, none, none] F (.int ((nr.length + 2 : Nat) : Int)) := ev_is (ev_lenSq (K := K) (k := false) (ev_var rfl) (st_of hb5)) (by simp; omega)
    have hvv : v2 ps.length (.tup (x0 :: (n0 :: nr).map GD.T.int)) = ((isStr "put" x0 && (decide (nr.length + 2 = 2) && decide (n0 < (ps.length : Int)))) || (isStr "come" x0 && decide (nr.length + 2 = 3))) := by
      unfold v2 items nums
      simp
    refine q_when (b := !(v2 ps.length (.tup (x0 :: (n0 :: nr).map GD.T.int)))) (EvT.mono g5.le (et_is (et_not (et_or (et_and (et_str (K := K) rfl hb5 k3 hfl0') fun _ => et_and (b := decide (n0 < (ps.length : Int))) (et_is (et_test (ev_op hlen ev_c (rv_eq rfl))) (show _ = decide (nr.length + 2 = 2) from decide_eq_decide.mpr ⟨fun z => by have := V.int.inj z; omega, fun z => by rw [z]; rfl⟩)) fun _ => et_is (et_test (ev_op (ev_op (ev_var rfl) ev_c (rv_ixT (st_of hb5) at1)) (ev_lenSq (ev_var rfl) p1) rv_I0)) (by rw [pl])) fun _ => et_and (et_str (K := K) rfl hb5 k3 hfl0') fun _ => et_is (et_test (ev_op hlen ev_c (rv_eq rfl))) (show _ = decide (nr.length + 2 = 3) from decide_eq_decide.mpr ⟨fun z => by have := V.int.inj z; omega, fun z => by rw [z]; rfl⟩))) (by rw [hvv]))) (fun hc2 H6 e6 => ?_) (fun hc2 H6 e6 => ?_)
    · rw [Bool.not_eq_true'] at hc2
      refine bad ?_ H6 (e5.trans e6)
      rw [run_one, run_bad2 (ws := ws) (M := M) (wr := wrOf ps) (st := st) hbnd hc2]
    rw [Bool.not_eq_false'] at hc2
    have g6 := g5.ext e6
    have hSt6 := (hSt.ext e5).ext e6
    have hfl6 : H6 fl = some (.lst [.ref dl, .ref bd]) := g6.up fl _ hfln hfl
    have hWL6 : H6 WL = some (.lst (ps.map fun p => V.int p.1)) := g6.up WL _ hWLn hWL3
    have main : ∀ s, stepOf ps.length (.tup (x0 :: (n0 :: nr).map GD.T.int)) = some s → StpAt F b s → (∀ k, s = .put k → (ps.map fun p => V.int p.1)[k]? = some (.int (wrOf ps k : Nat)) ∧ wrOf ps k < M) → ∀ E' : XK,
        spLStep [.ref fl, .ref WL, .ref b] H6 (fun z H7 => ∃ bb, z = .bl bb ∧ if (!bb) = true then Q (.bl false) H7 else ∃ st o, [some (.int (M : Nat)), some wv, some (.ref pa), some (.ref a), some (.ref WL), some (.ref fl), some (.ref b), none, none, none] = [some (.int (M : Nat)), some wv, some (.ref pa), some (.ref a), some (.ref WL), some (.ref fl), o, none, none, none] ∧ Gw (Ml das las) F H3 F H7 ∧ Sto H7 dl bd das las ws M (i + 1) st ∧ runSteps ws M (wrOf ps) ps.length RS.start ((items t).take (i + 1)) = some st) E' := fun s hs hsat hsp _ =>
      ⟨F, fl, dl, bd, das, las, ws, M, i, st, WL, _, wrOf ps, b, s, rfl, g6.le, hfl6, hSt6, hN, hbN, hfln, by omega, by omega, hWL6, hWLn, hsat, hsp, hws, fun H7 g7 => ⟨fun st' hst hS' => ⟨true, rfl, by
        rw [if_neg (by decide)]
        refine ⟨st', _, rfl, g6.trans g7, hS', ?_⟩
        rw [run_take z1 hrun, run_one, hs]
        exact hst⟩, fun hst => ⟨false, rfl, by
        rw [if_pos (by decide)]
        have hall := run_bad z1 hrun (by rw [run_one, hs]; exact hst)
        have : sightRight (M : Nat) ws ps t = false := by
          unfold sightRight
          rw [hM, hall]
          simp
        have q1 := q H7 (exH H7 (g6.trans g7))
        rw [this] at q1
        exact q1⟩⟩⟩
    refine ⟨_, rfl, _, rfl, _, rfl, ?_⟩
    rcases v2_at hbnd hc2 with ⟨k, ex0, ens, hkn, hst⟩ | ⟨yy, xx, ex0, ens, hst⟩
    · refine main (.put k) hst ?_ (fun k' hk' => ?_) E
      · subst ex0
        cases k3
        injection ens with en1 en2
        subst en1 en2
        exact k1
      · cases hk'
        have hpk := List.getElem?_eq_getElem hkn
        have hpv := hv.within _ (List.getElem_mem hkn)
        refine ⟨?_, ?_⟩
        · rw [List.getElem?_map, hpk]
          unfold wrOf
          rw [List.getD_eq_getElem?_getD, hpk]
          show some (V.int ps[k].1) = some (V.int ((ps[k].1.toNat : Nat) : Int))
          congr 2
          omega
        · unfold wrOf
          rw [List.getD_eq_getElem?_getD, hpk]
          show ps[k].1.toNat < M
          omega
    · refine main (.come yy xx) hst ?_ (fun k' hk' => by cases hk') E
      subst ex0
      cases k3
      injection ens with en1 en2
      subst en1 en2
      exact k1
  · subst e
    have hit : (items t).take xs.length = items t := by rw [← xl, List.take_length]
    rw [hit] at hrun
    have hflE : H' fl = some (.lst [.ref dl, .ref bd]) := g.up fl _ hfln hfl
    have val : sightRight (M : Nat) ws ps t = seen ps st := by
      unfold sightRight
      rw [hM, hrun, hu, Bool.true_and]
    refine q_forW (J := JE K kp pa) (n := pxs.length) (Gd := fun H => Sq kp K H pa pxs) walk_E (evi_E (ea_cons (ev_var rfl) ea_nil) (ex_sq g.le p1))
      (fun i σ1 H1' => ∃ o1 o2 o3, σ1 = [some (.int (M : Nat)), some wv, some (.ref pa), some (.ref a), some (.ref WL), some (.ref fl), o1, o2, o3, none] ∧ Ex H' H1' ∧ ∀ k, k < i → (decide (((k : Nat) : Int) ∈ st.dia (ps.getD k (0, 0)).1.toNat) && decide ((st.dia (ps.getD k (0, 0)).2.toNat).head? = some ((k : Nat) : Int))) = true)
      (fun H4 e4 => ⟨_, _, _, rfl, e4, fun k hk => absurd hk (Nat.not_lt_zero _)⟩) (fun i σ1 H1' _ ⟨_, _, _, _, e4, _⟩ => ex_sq (g.le.trans e4) p1) (fun i x σ1 Hc Hd hi hp y => ?_) (fun σ1 H4 ⟨o1, o2, o3, e, e4, hall⟩ => ?_)
    · obtain ⟨o1, o2, o3, rfl, e4, hall⟩ := hp
      have ey := ypair_ex y
      obtain ⟨T0, x0, y0, rfl, y1, y2, y3, y4⟩ := y
      obtain ⟨pp, ab, k1, rfl, k2⟩ := rps_pT p3 y4
      cases y3
      have hpv := hv.within pp (List.mem_of_getElem? k1)
      have hg : ps.getD i (0, 0) = pp := by rw [List.getD_eq_getElem?_getD, k1]; rfl
      have ed : Ex H' Hd := e4.trans ey
      have hSd := hSt.ext ed
      have hfld := ed _ _ hflE
      have hab := (g.le.trans ed) _ _ k2
      have at_ : ∀ z : Int, 0 ≤ z → z < (M : Int) → ∃ da, atI (das.map V.ref) z = some (.ref da) ∧ Hd da = some (.lst ((st.dia z.toNat).map V.int)) := fun z z0 z1 => by
        have hz : z.toNat < das.length := by rw [hSd.dn]; omega
        have hda := List.getElem?_eq_getElem hz
        refine ⟨das[z.toNat], ?_, hSd.dia _ _ hda⟩
        have := atI_nat (xs := das.map V.ref) (j := z.toNat) (v := V.ref das[z.toNat]) (by rw [List.getElem?_map, hda]; rfl)
        have hzz : ((z.toNat : Nat) : Int) = z := by omega
        rwa [hzz] at this
      obtain ⟨d1, a1, h1'⟩ := at_ pp.1 hpv.1 hpv.2.1
      obtain ⟨d2, a2, h2'⟩ := at_ pp.2 hpv.2.2.1 hpv.2.2.2
      refine ⟨T0, _, rfl, st_of (by rw [y2]; exact upd_same), rfl, _, _, rfl, _, _, rfl, rfl, ?_⟩
      show tIfS _ _ _ _ [some (.int (M : Nat)), some wv, some (.ref pa), some (.ref a), some (.ref WL), some (.ref fl), o1, some (.int (i : Int)), some (.ref ab), none] Hd
      have htk : ∀ d : List Int, (d.take 1 = [(i : Int)]) ↔ d.head? = some (i : Int) := fun d => by
        cases d with
        | nil => simp
        | cons u us => simp
      refine s_when (b := !decide ((i : Int) ∈ st.dia pp.1.toNat) || !decide ((st.dia pp.2.toNat).take 1 = [(i : Int)])) (et_or (et_test (ev_op (ev_var rfl) (ev_op (ev_ixLN (ev_var rfl) hfld at0) (ev_op (ev_var rfl) ev_c (rv_ixT (st_of hab) at0)) (rv_ixL (sq_of hSd.hd) a1)) (rv_niI (.inl (sq_of h1'))))) fun _ => et_test (ev_opLL (xs := ((st.dia pp.2.toNat).take 1).map V.int) (ys := [(i : Int)].map V.int) ?_ (el_lst (ea_cons (ev_var rfl) ea_nil) (by show 1 ≤ 100000; decide)) fun p q H1 hp hq _ => rv_neIL (sq_of hp) (sq_of hq))) (fun hc H5 e5 => ?_) (fun hc H5 e5 => ?_)
      · have := el_sl (K := K) (te := tOp (rIxL K) (tOp (rIxL K) (tVar 5) (tC (.int 0))) (tOp (rIxT K) (tVar 8) (tC (.int 1)))) (σ := [some (.int (M : Nat)), some wv, some (.ref pa), some (.ref a), some (.ref WL), some (.ref fl), o1, some (.int (i : Int)), some (.ref ab), none]) (ev_op (ev_ixLN (ev_var rfl) hfld at0) (ev_op (ev_var rfl) ev_c (rv_ixT (st_of hab) at1)) (rv_ixL (sq_of hSd.hd) a2)) eo_none (eo_some (ev_c (v := .int 1))) (sq_of h2')
        rw [show cutV ((st.dia pp.2.toNat).map V.int) none (some 1) = ((st.dia pp.2.toNat).map V.int).take 1 from cut_to _ 1, ← List.map_take] at this
        exact this
      · have : seen ps st = false := by
          unfold seen
          rw [List.all_eq_false]
          refine ⟨i, List.mem_range.mpr (by rw [← pl]; exact hi), ?_⟩
          rw [hg]
          rw [Bool.or_eq_true] at hc
          simp only [Bool.and_eq_true, decide_eq_true_eq, ← htk]
          rintro ⟨z1, z2⟩
          rcases hc with z | z
          · simp [z1] at z
          · simp [z2] at z
        have q1 := q H5 ((exH _ g).trans (ed.trans e5))
        rw [val, this] at q1
        exact q1
      · refine ⟨_, _, _, rfl, ed.trans e5, fun k hk => ?_⟩
        by_cases hki : k < i
        · exact hall k hki
        · have : k = i := by omega
          subst this
          rw [hg]
          rw [Bool.or_eq_false_iff] at hc
          simp only [Bool.not_eq_false', decide_eq_true_eq] at hc
          simp only [Bool.and_eq_true, decide_eq_true_eq, ← htk]
          exact hc
    · subst e
      have : seen ps st = true := by
        unfold seen
        rw [List.all_eq_true]
        intro k hk
        exact hall k (by rw [pl]; exact List.mem_range.mp hk)
      have q1 := q H4 ((exH _ g).trans e4)
      rw [val, this] at q1
      exact q1
end
end GD

/-! ## The program's wires: their fields, writing -/
namespace GD
open PySem L2 Evl G SQ
def wF (wt dl bd gl dn : Addr) : List (Str × V) := putF "done" (.ref dn) (putF "goals" (.ref gl) (putF "letters" (.ref bd) (putF "diaries" (.ref dl) (putF "writers" (.ref wt) []))))
theorem wF_writers (wt dl bd gl dn : Addr) : (wF wt dl bd gl dn).lookup ("writers" : Str) = some (.ref wt) := by
  unfold wF
  rw [lookup_putF, if_neg (by decide +kernel), lookup_putF, if_neg (by decide +kernel), lookup_putF, if_neg (by decide +kernel), lookup_putF, if_neg (by decide +kernel), lookup_putF, if_pos rfl]
theorem wF_diaries (wt dl bd gl dn : Addr) : (wF wt dl bd gl dn).lookup ("diaries" : Str) = some (.ref dl) := by
  unfold wF
  rw [lookup_putF, if_neg (by decide +kernel), lookup_putF, if_neg (by decide +kernel), lookup_putF, if_neg (by decide +kernel), lookup_putF, if_pos rfl]
theorem wF_letters (wt dl bd gl dn : Addr) : (wF wt dl bd gl dn).lookup ("letters" : Str) = some (.ref bd) := by
  unfold wF
  rw [lookup_putF, if_neg (by decide +kernel), lookup_putF, if_neg (by decide +kernel), lookup_putF, if_pos rfl]
theorem wF_goals (wt dl bd gl dn : Addr) : (wF wt dl bd gl dn).lookup ("goals" : Str) = some (.ref gl) := by
  unfold wF
  rw [lookup_putF, if_neg (by decide +kernel), lookup_putF, if_pos rfl]
theorem wF_done (wt dl bd gl dn : Addr) : (wF wt dl bd gl dn).lookup ("done" : Str) = some (.ref dn) := by
  unfold wF
  rw [lookup_putF, if_pos rfl]
theorem wF_n_write (wt dl bd gl dn : Addr) : (wF wt dl bd gl dn).lookup ("write" : Str) = none := by
  unfold wF
  rw [lookup_putF, if_neg (by decide +kernel), lookup_putF, if_neg (by decide +kernel), lookup_putF, if_neg (by decide +kernel), lookup_putF, if_neg (by decide +kernel), lookup_putF, if_neg (by decide +kernel)]
  rfl
theorem wF_n_can_do (wt dl bd gl dn : Addr) : (wF wt dl bd gl dn).lookup ("can_do" : Str) = none := by
  unfold wF
  rw [lookup_putF, if_neg (by decide +kernel), lookup_putF, if_neg (by decide +kernel), lookup_putF, if_neg (by decide +kernel), lookup_putF, if_neg (by decide +kernel), lookup_putF, if_neg (by decide +kernel)]
  rfl
theorem wF_n_put (wt dl bd gl dn : Addr) : (wF wt dl bd gl dn).lookup ("put" : Str) = none := by
  unfold wF
  rw [lookup_putF, if_neg (by decide +kernel), lookup_putF, if_neg (by decide +kernel), lookup_putF, if_neg (by decide +kernel), lookup_putF, if_neg (by decide +kernel), lookup_putF, if_neg (by decide +kernel)]
  rfl
theorem wF_n_come (wt dl bd gl dn : Addr) : (wF wt dl bd gl dn).lookup ("come" : Str) = none := by
  unfold wF
  rw [lookup_putF, if_neg (by decide +kernel), lookup_putF, if_neg (by decide +kernel), lookup_putF, if_neg (by decide +kernel), lookup_putF, if_neg (by decide +kernel), lookup_putF, if_neg (by decide +kernel)]
  rfl
theorem wF_n_do (wt dl bd gl dn : Addr) : (wF wt dl bd gl dn).lookup ("do" : Str) = none := by
  unfold wF
  rw [lookup_putF, if_neg (by decide +kernel), lookup_putF, if_neg (by decide +kernel), lookup_putF, if_neg (by decide +kernel), lookup_putF, if_neg (by decide +kernel), lookup_putF, if_neg (by decide +kernel)]
  rfl
def goalsT (ws : List (Int × Int)) (m : Nat) : T := .lst ((List.range m).map fun i => .lst ((outsOf ws (i : Nat)).map T.int))
/-- the wires object at p: what never changes of it -/
structure Wo (K : PySem.W.Frag) (F H : Hp) (p wt dl bd gl dn : Addr) (ws : List (Int × Int)) (m : Nat) (wrs : List Int) : Prop where
  hp : ∃ dx, H p = some (.ins (He.ga K "Wires") dx (wF wt dl bd gl dn))
  hw : F wt = some (.tup (wrs.map V.int))
  hg : Rp F (goalsT ws m) (.ref gl)
theorem Wo.gw {K : PySem.W.Frag} {F H F' H' : Hp} {M : Addr → Prop} {p wt dl bd gl dn : Addr} {ws : List (Int × Int)} {m : Nat} {wrs : List Int} (o : Wo K F H p wt dl bd gl dn ws m wrs) (g : Gw M F H F' H') (hM : ¬ M p) : Wo K F' H' p wt dl bd gl dn ws m wrs :=
  let ⟨dx, h⟩ := o.hp
  ⟨⟨dx, g.up _ _ hM h⟩, g.fle _ _ o.hw, o.hg.mono g.fle _ _⟩
theorem Wo.ext {K : PySem.W.Frag} {F H H' : Hp} {p wt dl bd gl dn : Addr} {ws : List (Int × Int)} {m : Nat} {wrs : List Int} (o : Wo K F H p wt dl bd gl dn ws m wrs) (e : Ex H H') : Wo K F H' p wt dl bd gl dn ws m wrs :=
  let ⟨dx, h⟩ := o.hp
  ⟨⟨dx, e _ _ h⟩, o.hw, o.hg⟩
theorem Sto.at_lst {H : Hp} {dl bd : Addr} {das las : List Addr} {ws : List (Int × Int)} {m n : Nat} {st : RS} (s : Sto H dl bd das las ws m n st) {a : Addr} (h : a ∈ das ++ las) : ∃ xs, H a = some (.lst xs) := by
  rcases List.mem_append.mp h with z | z
  · obtain ⟨i, hi⟩ := List.mem_iff_getElem?.mp z
    exact ⟨_, s.dia i a hi⟩
  · obtain ⟨j, hj⟩ := List.mem_iff_getElem?.mp z
    have hjl : j < ws.length := by rw [← s.ll]; exact (List.getElem?_eq_some_iff.mp hj).1
    exact ⟨_, s.box j a _ hj (List.getElem?_eq_getElem hjl)⟩
theorem Sto.nin {H : Hp} {dl bd : Addr} {das las : List Addr} {ws : List (Int × Int)} {m n : Nat} {st : RS} (s : Sto H dl bd das las ws m n st) {a : Addr} {o : HO} (h : H a = some o) (hn : ∀ xs, o ≠ .lst xs) : a ∉ das ++ las := fun z => by
  obtain ⟨xs, hx⟩ := s.at_lst z
  rw [h] at hx
  exact hn xs (Option.some.inj hx)
def spPWrite (K : PySem.W.Frag) : Sp := fun vs H Q _ => ∃ F p wt dl bd gl dn das las ws m n st wrs x k, vs = [.ref p, .int (x : Nat), .int k] ∧ Ex F H ∧ Wo K F H p wt dl bd gl dn ws m wrs ∧ Sto H dl bd das las ws m n st ∧ (∀ a ∈ das ++ las, F a = none) ∧ x < m ∧ n ≤ 1000 ∧ m ≤ 60 ∧ ws.length ≤ 60 ∧
  ∀ H', Gw (Ml das las) F H F H' → Sto H' dl bd das las ws m (n + 1) (st.write ws x k) → Q .non H'
section
variable {P : Program} {w : World} {K : PySem.W.Frag} {mg : Str → Option Value} {base : Heap}
theorem ok_Wires_write (T : TX K mg) : FnOk P w K mg base CX0 1 (a_Wires_write K) (fdOf K (a_Wires_write K)) ["self", "machine", "put"] (spPWrite K) := by
  refine T.f_Wires_write.ok sc_Wires_write (fun vs H Q E ⟨F, p, wt, dl, bd, gl, dn, das, las, ws, m, n, st, wrs, x, k, e, _⟩ => by rw [e]; rfl) (fun cdv A outer s H vs Q E hr ⟨F, p, wt, dl, bd, gl, dn, das, las, ws, m, n, st, wrs, x, k, e, hF, hO, hS, hN, hx, hn, hm, hwl, q⟩ => ?_)
  subst e
  refine ⟨_, PSs.nox (pss_cons (ps_expr (pe_bm PySem.F.plainAttrs_list PySem.F.slot_list_append PySem.F.type_list_append mt_append (pe_ix ix_list (pe_fld (pv 0) rfl) (pv 1) (fun _ _ => rfl)) (pa_cons (pv 2) pa_nil))) (
    pss_one (ps_for PassesOwn.never rfl (pi_sq (pe_ix ix_list (pe_fld (pv 0) rfl) (pv 1) (fun _ _ => rfl))) (pg_name (i := 3) sc_Wires_write.nd rfl (.inl rfl)) (pss_one (ps_expr (pe_bm PySem.F.plainAttrs_list PySem.F.slot_list_append PySem.F.type_list_append mt_append (pe_dget (units1 hr) (pe_fld (pv 0) rfl) (pe_tup (pa_cons (pv 1) (pa_cons (pv 3) pa_nil))) (fun _ _ => rfl)) (pa_cons (pv 2) pa_nil))))))), ?_⟩
  have hxd : x < das.length := by rw [hS.dn]; exact hx
  have hda := List.getElem?_eq_getElem hxd
  have hax := hS.dia x _ hda
  have hmx : das[x] ∈ das ++ las := List.mem_append_left _ (List.getElem_mem hxd)
  obtain ⟨dx, hp⟩ := hO.hp
  have hpn := hS.nin hp (fun xs z => by cases z)
  refine ⟨_, rfl, p, _, dx, _, _, rfl, hp, T.cl_Wires, T.n_Wires_diaries, wF_diaries .., _, rfl, dl, _, (x : Int), (V.ref das[x]), rfl, rfl, sq_of hS.hd, atI_nat (v := V.ref das[x]) (by rw [List.getElem?_map, hda]; rfl), .inl ⟨rfl, _, sq_of hax⟩, _, rfl, das[x], _, _, rfl, rfl, hax, szl (by rw [List.length_map]; have := hS.ld x hx; omega), ?_⟩
  have nbx : bd ≠ das[x] := fun z => hS.n2 (by rw [z]; exact hmx)
  have ndx : dl ≠ das[x] := fun z => hS.n1 (by rw [z]; exact hmx)
  have npx : p ≠ das[x] := fun z => hpn (by rw [z]; exact hmx)
  have g1 := (Gw.refl (M := Ml das las) hF).mut (p := das[x]) (o := .lst ((st.dia x).map V.int ++ [.int k])) (hN _ hmx) (.inr hmx)
  have hb1 : upd H das[x] (.lst ((st.dia x).map V.int ++ [.int k])) bd = some (.dT (kvs ws las)) := by rw [upd_ne nbx]; exact hS.hb
  have hp1 : upd H das[x] (.lst ((st.dia x).map V.int ++ [.int k])) p = some (.ins (He.ga K "Wires") dx (wF wt dl bd gl dn)) := by rw [upd_ne npx]; exact hp
  have hdl1 : upd H das[x] (.lst ((st.dia x).map V.int ++ [.int k])) dl = some (.lst (das.map V.ref)) := by rw [upd_ne ndx]; exact hS.hd
  have hdia1 : ∀ (i : Nat) a, das[i]? = some a → upd H das[x] (.lst ((st.dia x).map V.int ++ [.int k])) a = some (.lst (((st.write ws x k).dia i).map V.int)) := fun i a h => by
    by_cases hi : i = x
    · subst hi
      rw [hda] at h
      cases h
      rw [upd_same]
      unfold RS.write
      simp
    · have : a ≠ das[x] := fun z => hi (by
        obtain ⟨hl, e⟩ := List.getElem?_eq_some_iff.mp h
        have nd := (List.nodup_append.mp hS.nd).1
        exact (List.getElem_inj nd).mp (e.trans z))
      rw [upd_ne this, hS.dia i a h]
      unfold RS.write
      simp [hi]
  have hbox1 : ∀ (j : Nat) a w, las[j]? = some a → ws[j]? = some w → upd H das[x] (.lst ((st.dia x).map V.int ++ [.int k])) a = some (.lst ((st.box w).map V.int)) := fun j a w h1 h2 => by
    have : a ≠ das[x] := fun z => (List.nodup_append.mp hS.nd).2.2 das[x] (List.getElem_mem hxd) a (List.mem_of_getElem? h1) z.symm
    rw [upd_ne this]
    exact hS.box j a w h1 h2
  generalize upd H das[x] (.lst ((st.dia x).map V.int ++ [.int k])) = H1 at *
  obtain ⟨ga, gs, hga, gg1, gg2, gg3⟩ := hO.hg
  cases hga
  have gx : gs[x]? ≠ none := by
    have := gg3.len
    rw [List.length_map, List.length_range] at this
    rw [List.getElem?_eq_getElem (show x < gs.length by omega)]
    intro z
    cases z
  cases hgx : gs[x]? with
  | none => exact absurd hgx gx
  | some gv =>
    obtain ⟨t0, z1, z2⟩ := gg3.at hgx
    rw [List.getElem?_map, List.getElem?_range hx] at z1
    cases z1
    obtain ⟨gb, us, rfl, u1, u2, u3⟩ := z2
    rw [Rps.ints] at u3
    subst u3
    have hgl := g1.le _ _ gg1
    have hgb := g1.le _ _ u1
    have npl : p ∉ las := fun z => hpn (List.mem_append_right _ z)
    have nbl : bd ∉ las := fun z => hS.n2 (List.mem_append_right _ z)
    have lnd := (List.nodup_append.mp hS.nd).2.1
    have ond := outs_nodup (l := (x : Int)) hS.nw
    have ngl : gb ∉ las := fun z => by
      have := hN gb (List.mem_append_right _ z)
      rw [u1] at this
      cases this
    refine ⟨_, rfl, p, _, dx, _, _, rfl, hp1, T.cl_Wires, T.n_Wires_goals, wF_goals .., _, rfl, gl, gs, (x : Int), .ref gb, rfl, rfl, sq_of hgl, atI_nat hgx, true, gb, _, rfl, sq_of hgb, ?_⟩
    refine for_it (walk_sq (K := K) (k := true) (a := gb) (xs := (outsOf ws (x : Nat)).map V.int)) (fun i σ' H' => ∃ o, σ' = [some (.ref p), some (.int (x : Int)), some (.int k), o] ∧ Gw (fun a => a ∈ las) F H1 F H' ∧
      ∀ (j : Nat) a w, las[j]? = some a → ws[j]? = some w → H' a = some (.lst ((if w.1 = (x : Int) ∧ w.2 ∈ (outsOf ws (x : Nat)).take i then st.box w ++ [k] else st.box w).map V.int)))
      ⟨none, rfl, Gw.refl g1.le, fun j a w h1 h2 => by
        rw [if_neg (fun z => by have := z.2; simp at this)]
        exact hbox1 j a w h1 h2⟩ (fun i σ' H' _ ⟨_, _, g, _⟩ => sq_of (g.up _ _ ngl hgb)) (fun i xx σ1 Ha Hb hi hp y => ?_) (fun σ' H' hp => ?_)
    · obtain ⟨rfl, hy⟩ := y
      obtain ⟨o, rfl, g, hbx⟩ := hp
      rw [List.getElem?_map] at hy
      cases hox : (outsOf ws (x : Nat))[i]? with
      | none => rw [hox] at hy; cases hy
      | some x' =>
        rw [hox] at hy
        cases hy
        have hin : ((x : Int), x') ∈ ws := mem_outs.mp (List.mem_of_getElem? hox)
        have hnt : x' ∉ (outsOf ws (x : Nat)).take i := fun z => by
          obtain ⟨q, hq⟩ := List.mem_iff_getElem?.mp z
          rw [List.getElem?_take] at hq
          by_cases hqi : q < i
          · rw [if_pos hqi] at hq
            obtain ⟨l1, e1⟩ := List.getElem?_eq_some_iff.mp hq
            obtain ⟨l2, e2⟩ := List.getElem?_eq_some_iff.mp hox
            have := (List.getElem_inj ond).mp (e1.trans e2.symm)
            omega
          · rw [if_neg hqi] at hq; cases hq
        have htk : (outsOf ws (x : Nat)).take (i + 1) = (outsOf ws (x : Nat)).take i ++ [x'] := by rw [List.take_add_one, hox]; rfl
        obtain ⟨j0, hj0⟩ := List.mem_iff_getElem?.mp hin
        have hjl : j0 < las.length := by rw [hS.ll]; exact (List.getElem?_eq_some_iff.mp hj0).1
        have hla := List.getElem?_eq_getElem hjl
        generalize las[j0] = la at hla
        have hlam := List.mem_of_getElem? hla
        have hpb := g.up p _ npl hp1
        have hbb := g.up bd _ nbl hb1
        have hl2 := hbx j0 la _ hla hj0
        rw [if_neg (fun z => hnt z.2)] at hl2
        refine gN ?_
        show tDrop _ _ [some (.ref p), some (.int (x : Int)), some (.int k), some (.int x')] Hb
        refine ⟨_, rfl, p, _, dx, _, _, rfl, hpb, T.cl_Wires, T.n_Wires_letters, wF_letters .., _, rfl, _, rfl, by show 2 ≤ sizeLine; decide, fun tp htp => ?_⟩
        have e3 : Ex Hb (upd Hb tp (.tup [.int (x : Int), .int x'])) := Ex.new htp
        have hget := (kvs_get (y := (x : Int)) (x := x') hS.ll).1 j0 la hj0 hla hS.nw
        refine ⟨bd, .ref la, rfl, .inr ⟨kvs ws las, [Sum.inl (x : Int), Sum.inl x'], tp, .inl (e3 _ _ hbb), rfl, upd_same, hget.symm⟩, .inl ⟨rfl, _, sq_of (e3 _ _ hl2)⟩, _, rfl, la, _, _, rfl, rfl, e3 _ _ hl2, szl (by rw [List.length_map]; have := hS.lb ((x : Int), x'); omega), _, rfl, (g.put htp).mut (hN _ (List.mem_append_right _ hlam)) (.inr hlam), fun j a w h1 h2 => ?_⟩
        rw [htk]
        by_cases hji : j = j0
        · subst hji
          rw [hla] at h1
          rw [hj0] at h2
          cases h1
          cases h2
          rw [upd_same, if_pos ⟨rfl, by simp⟩, List.map_append]
          rfl
        · have na : a ≠ la := fun z => hji (by
            obtain ⟨hl1, e1⟩ := List.getElem?_eq_some_iff.mp h1
            obtain ⟨hl2', e2'⟩ := List.getElem?_eq_some_iff.mp hla
            exact (List.getElem_inj lnd).mp (e1.trans (z.trans e2'.symm)))
          have nw : ¬ (w.1 = (x : Int) ∧ w.2 = x') := fun z => hji (by
            obtain ⟨hl1, e1⟩ := List.getElem?_eq_some_iff.mp h2
            obtain ⟨hl2', e2'⟩ := List.getElem?_eq_some_iff.mp hj0
            exact (List.getElem_inj hS.nw).mp (e1.trans ((Prod.ext z.1 z.2).trans e2'.symm)))
          rw [upd_ne na, e3 _ _ (hbx j a w h1 h2)]
          have : (w.1 = (x : Int) ∧ w.2 ∈ (outsOf ws (x : Nat)).take i ++ [x']) ↔ (w.1 = (x : Int) ∧ w.2 ∈ (outsOf ws (x : Nat)).take i) := by
            rw [List.mem_append, List.mem_singleton]
            constructor
            · rintro ⟨z1, z2 | z2⟩
              · exact ⟨z1, z2⟩
              · exact absurd ⟨z1, z2⟩ nw
            · rintro ⟨z1, z2⟩
              exact ⟨z1, .inl z2⟩
          simp only [this]
    · obtain ⟨o, rfl, g, hbx⟩ := hp
      have hlen : ((outsOf ws (x : Nat)).map V.int).length = (outsOf ws (x : Nat)).length := List.length_map ..
      rw [hlen, List.take_length] at hbx
      have ndl := List.nodup_append.mp hS.nd
      have gA := g1.trans (g.wide (M' := Ml das las) fun a z => List.mem_append_right _ z)
      refine q H' gA ⟨g.up _ _ (fun z => hS.n1 (List.mem_append_right _ z)) hdl1, g.up _ _ nbl hb1, hS.dn, hS.ll, fun i a h => g.up _ _ (fun z => ndl.2.2 a (List.mem_of_getElem? h) a z rfl) (hdia1 i a h), fun j a w h1 h2 => ?_, hS.nd, hS.n1, hS.n2, fun i hi => ?_, fun w => ?_, hS.nw⟩
      · rw [hbx j a w h1 h2]
        have hm := List.mem_of_getElem? h2
        unfold RS.write
        by_cases hc : w.1 = (x : Int)
        · have : w.2 ∈ outsOf ws (x : Nat) := mem_outs.mpr (by rw [← hc]; exact hm)
          simp [hc, hm, this]
        · simp [hc]
      · unfold RS.write
        have := hS.ld i hi
        by_cases h : i = x <;> simp [h] <;> (try rw [h] at this) <;> omega
      · unfold RS.write
        have := hS.lb w
        by_cases h : w.1 = (x : Int) ∧ w ∈ ws <;> simp [h] <;> omega
end
end GD

/-! ## What is done: the program's dict beside the diaries -/
namespace GD
open PySem L2 Evl G SQ
structure Jn (ws : List (Int × Int)) (m : Nat) (wr : Nat → Nat) (st : RS) (done : List Int) : Prop where
  j1 : ∀ k : Int, k ∈ done ↔ ∃ i, i < m ∧ k ∈ st.dia i
  j2 : ∀ w k, k ∈ st.box w → k ∈ done
  j3 : ∀ k ∈ done, 0 ≤ k ∧ k ∈ st.dia (wr k.toNat)
theorem mem_wdia {ws : List (Int × Int)} {st : RS} {x i : Nat} {k z : Int} : z ∈ (st.write ws x k).dia i ↔ z ∈ st.dia i ∨ (i = x ∧ z = k) := by
  unfold RS.write
  by_cases h : i = x <;> simp [h]
theorem mem_wbox {ws : List (Int × Int)} {st : RS} {x : Nat} {k z : Int} {w : Int × Int} : z ∈ (st.write ws x k).box w → z ∈ st.box w ∨ z = k := by
  unfold RS.write
  by_cases h : w.1 = (x : Int) ∧ w ∈ ws <;> simp [h] <;> exact fun z => .inl z
theorem Jn.start {ws : List (Int × Int)} {m : Nat} {wr : Nat → Nat} : Jn ws m wr RS.start [] :=
  ⟨fun k => ⟨fun z => (by cases z), fun ⟨_, _, z⟩ => (by cases z)⟩, fun w k z => (by cases z), fun k z => (by cases z)⟩
theorem Jn.put {ws : List (Int × Int)} {m : Nat} {wr : Nat → Nat} {st st' : RS} {done : List Int} {k : Nat} (j : Jn ws m wr st done) (hw : wr k < m) (h : st.step ws m wr (.put k) = some st') : Jn ws m wr st' (done ++ [(k : Int)]) ∧ (k : Int) ∉ done ∧ st' = st.write ws (wr k) (k : Nat) := by
  rw [step_put] at h
  split at h
  · cases h
  · rename_i hn
    cases h
    have hnd : (k : Int) ∉ done := fun z => hn (by
      obtain ⟨i, h1, h2⟩ := (j.j1 _).mp z
      rw [List.any_eq_true]
      exact ⟨true, List.mem_map.mpr ⟨i, List.mem_range.mpr h1, decide_eq_true h2⟩, rfl⟩)
    refine ⟨⟨fun z => ?_, fun w z hz => ?_, fun z hz => ?_⟩, hnd, rfl⟩
    · rw [List.mem_append, List.mem_singleton, j.j1]
      constructor
      · rintro (⟨i, h1, h2⟩ | h)
        · exact ⟨i, h1, mem_wdia.mpr (.inl h2)⟩
        · exact ⟨wr k, hw, mem_wdia.mpr (.inr ⟨rfl, h⟩)⟩
      · rintro ⟨i, h1, h2⟩
        rcases mem_wdia.mp h2 with h | ⟨_, h⟩
        · exact .inl ⟨i, h1, h⟩
        · exact .inr h
    · rcases mem_wbox hz with h | h
      · exact List.mem_append_left _ (j.j2 w z h)
      · rw [h]; simp
    · rcases List.mem_append.mp hz with h | h
      · have := j.j3 z h
        exact ⟨this.1, mem_wdia.mpr (.inl this.2)⟩
      · rw [List.mem_singleton.mp h]
        exact ⟨by omega, mem_wdia.mpr (.inr ⟨by simp, rfl⟩)⟩
theorem Jn.can {ws : List (Int × Int)} {m : Nat} {wr : Nat → Nat} {st : RS} {done : List Int} {k : Nat} (j : Jn ws m wr st done) : (st.step ws m wr (.put k)).isSome = !decide ((k : Int) ∈ done) := by
  rw [step_put]
  by_cases h : (k : Int) ∈ done
  · obtain ⟨i, h1, h2⟩ := (j.j1 _).mp h
    rw [if_pos (by
      rw [List.any_eq_true]
      exact ⟨true, List.mem_map.mpr ⟨i, List.mem_range.mpr h1, decide_eq_true h2⟩, rfl⟩)]
    simp [h]
  · rw [if_neg (fun z => h (by
      rw [List.any_eq_true] at z
      obtain ⟨b, hb, hb2⟩ := z
      obtain ⟨i, h1, rfl⟩ := List.mem_map.mp hb
      exact (j.j1 _).mpr ⟨i, List.mem_range.mp h1, of_decide_eq_true hb2⟩))]
    simp [h]
theorem Jn.come {ws : List (Int × Int)} {m : Nat} {wr : Nat → Nat} {st st' : RS} {done : List Int} {y x : Int} (j : Jn ws m wr st done) (hx : x.toNat < m) (h : st.step ws m wr (.come y x) = some st') : Jn ws m wr st' done := by
  rw [step_come] at h
  split at h
  · rename_i hc
    have hmem : ∀ z, z ∈ (st.pop (y, x)).box (y, x) → z ∈ done := fun z hz => by
      unfold RS.pop at hz
      simp at hz
      exact j.j2 _ z (List.mem_of_mem_tail hz)
    have jp : Jn ws m wr (st.pop (y, x)) done := ⟨j.j1, fun w z hz => by
      by_cases hw : w = (y, x)
      · subst hw; exact hmem z hz
      · unfold RS.pop at hz
        simp [hw] at hz
        exact j.j2 _ z hz, j.j3⟩
    have hk : (st.box (y, x)).headD 0 ∈ done := by
      cases hb : st.box (y, x) with
      | nil => exact absurd hb hc.2
      | cons a b => exact j.j2 (y, x) a (by rw [hb]; simp)
    cases h
    split
    · exact jp
    · refine ⟨fun z => ?_, fun w z hz => ?_, fun z hz => ?_⟩
      · rw [jp.j1]
        constructor
        · rintro ⟨i, h1, h2⟩
          exact ⟨i, h1, mem_wdia.mpr (.inl h2)⟩
        · rintro ⟨i, h1, h2⟩
          rcases mem_wdia.mp h2 with h | ⟨_, h⟩
          · exact ⟨i, h1, h⟩
          · rw [h]
            exact (jp.j1 _).mp hk
      · rcases mem_wbox hz with h | h
        · exact jp.j2 w z h
        · rw [h]; exact hk
      · have := jp.j3 z hz
        exact ⟨this.1, mem_wdia.mpr (.inl this.2)⟩
  · cases h
def dKs (done : List Int) : List (Key × V) := done.map fun k => (Sum.inl k, V.bl true)
theorem dKs_get (k : Int) : ∀ done : List Int, (valV (dKs done) (Sum.inl k)).isSome = decide (k ∈ done)
  | [] => rfl
  | d :: ds => by
    have ih := dKs_get k ds
    unfold dKs valV at *
    rw [List.map_cons, List.find?_cons]
    by_cases h : d = k
    · simp [h]
    · have h1 : decide ((Sum.inl d : Key) = Sum.inl k) = false := by simp [h]
      have h2 : ¬ k = d := fun z => h z.symm
      simp only [h1]
      rw [ih]
      simp [h2]
theorem dKs_put {k : Int} {done : List Int} (h : k ∉ done) : putK (dKs done) (Sum.inl k) (V.bl true) = dKs (done ++ [k]) := by
  unfold putK dKs
  rw [if_neg, List.map_append]
  · rfl
  · rw [Bool.not_eq_true, List.any_eq_false]
    intro x hx
    obtain ⟨d, hd, rfl⟩ := List.mem_map.mp hx
    simp
    intro z
    rw [z] at hd
    exact h hd
end GD

/-! ## The program's wires: put, come, do -/
namespace GD
open PySem L2 Evl G SQ
structure Pw (K : PySem.W.Frag) (F H : Hp) (p wt dl bd gl dn : Addr) (das las : List Addr) (ws : List (Int × Int)) (m n : Nat) (st : RS) (wrs : List Int) (wr : Nat → Nat) (done : List Int) : Prop where
  o : Wo K F H p wt dl bd gl dn ws m wrs
  s : Sto H dl bd das las ws m n st
  d : H dn = some (.dK (dKs done))
  j : Jn ws m wr st done
  hN : ∀ a ∈ das ++ las, F a = none
  fd : F dn = none
  m60 : m ≤ 60
  w60 : ws.length ≤ 60
  hw : ∀ k, k < wrs.length → wrs[k]? = some (wr k : Int) ∧ wr k < m
  wl : wrs.length ≤ 60
  ok : ∀ w ∈ ws, Wok (m : Nat) w
  dl60 : done.length ≤ n
def Md (das las : List Addr) (dn : Addr) : Addr → Prop := fun a => a ∈ das ++ las ∨ a = dn
theorem Pw.ext {K : PySem.W.Frag} {F H H' : Hp} {p wt dl bd gl dn : Addr} {das las : List Addr} {ws : List (Int × Int)} {m n : Nat} {st : RS} {wrs : List Int} {wr : Nat → Nat} {done : List Int} (w : Pw K F H p wt dl bd gl dn das las ws m n st wrs wr done) (e : Ex H H') : Pw K F H' p wt dl bd gl dn das las ws m n st wrs wr done :=
  ⟨w.o.ext e, w.s.ext e, e _ _ w.d, w.j, w.hN, w.fd, w.m60, w.w60, w.hw, w.wl, w.ok, w.dl60⟩
def spPut (K : PySem.W.Frag) : Sp := fun vs H Q _ => ∃ F p wt dl bd gl dn das las ws m n st wrs wr done k st', vs = [.ref p, .int (k : Nat)] ∧ Ex F H ∧ Pw K F H p wt dl bd gl dn das las ws m n st wrs wr done ∧ n ≤ 900 ∧ k < wrs.length ∧ st.step ws m wr (.put k) = some st' ∧
  ∀ H', Gw (Md das las dn) F H F H' → Pw K F H' p wt dl bd gl dn das las ws m (n + 1) st' wrs wr (done ++ [(k : Int)]) → Q .non H'
def spCome (K : PySem.W.Frag) : Sp := fun vs H Q _ => ∃ F p wt dl bd gl dn das las ws m n st wrs wr done y x st', vs = [.ref p, .int y, .int x] ∧ Ex F H ∧ Pw K F H p wt dl bd gl dn das las ws m n st wrs wr done ∧ n ≤ 900 ∧ st.step ws m wr (.come y x) = some st' ∧
  ∀ H' z, Gw (Md das las dn) F H F H' → Pw K F H' p wt dl bd gl dn das las ws m (n + 1) st' wrs wr done → Q z H'
def spDo (K : PySem.W.Frag) : Sp := fun vs H Q _ => ∃ F p wt dl bd gl dn das las ws m n st wrs wr done sa s st', vs = [.ref p, .ref sa] ∧ Ex F H ∧ Pw K F H p wt dl bd gl dn das las ws m n st wrs wr done ∧ n ≤ 900 ∧ StpAt F sa s ∧ (∀ k, s = .put k → k < wrs.length) ∧ st.step ws m wr s = some st' ∧
  ∀ H' done', Gw (Md das las dn) F H F H' → Pw K F H' p wt dl bd gl dn das las ws m (n + 1) st' wrs wr done' → Q .non H'
section
variable {P : Program} {w : World} {K : PySem.W.Frag} {mg : Str → Option Value} {base : Heap}
theorem ok_Wires_put (T : TX K mg) : FnOk P w K mg base CX0 2 (a_Wires_put K) (fdOf K (a_Wires_put K)) ["self", "put"] (spPut K) := by
  have G_Wires_write := ok_Wires_write (P := P) (w := w) (base := base) T
  refine T.f_Wires_put.ok sc_Wires_put (fun vs H Q E ⟨F, p, wt, dl, bd, gl, dn, das, las, ws, m, n, st, wrs, wr, done, k, st', e, _⟩ => by rw [e]; rfl) (fun cdv A outer s H vs Q E hr ⟨F, p, wt, dl, bd, gl, dn, das, las, ws, m, n, st, wrs, wr, done, k, st', e, hF, hP, hn, hk, hst, q⟩ => ?_)
  subst e
  refine ⟨_, PSs.nox (pss_cons (ps_dput (units1 hr) (pe_fld (pv 0) rfl) (pv 1) pe_bl rfl) (
    pss_one (ps_expr (pe_meth (pv 0) T.cl_Wires T.m_Wires_write G_Wires_write (hr.mono (by decide)) T.b_Wires_write .nil pass0 (pa_cons (pe_ix ix_tup (pe_fld (pv 0) rfl) (pv 1) (fun _ _ => rfl)) (pa_cons (pv 1) pa_nil)))))), ?_⟩
  obtain ⟨dx, hp⟩ := hP.o.hp
  obtain ⟨hw1, hw2⟩ := hP.hw k hk
  obtain ⟨j', hnd, est⟩ := hP.j.put hw2 hst
  subst est
  have npd : p ≠ dn := fun z => by rw [z, hP.d] at hp; cases hp
  have hdn := hP.s.nin hP.d (fun xs z => by cases z)
  have hpn := hP.s.nin hp (fun xs z => by cases z)
  refine ⟨_, rfl, p, _, dx, _, _, rfl, hp, T.cl_Wires, T.n_Wires_done, wF_done .., _, rfl, dn, _, rfl, DPut.k (k := Sum.inl (k : Int)) hP.d (by unfold dKs; rw [List.length_map]; exact szl (by have := hP.dl60; omega)), ?_⟩
  rw [dKs_put hnd]
  have g1 := (Gw.refl (M := Md das las dn) hF).mut (p := dn) (o := .dK (dKs (done ++ [(k : Int)]))) hP.fd (.inr (.inr rfl))
  have hp1 : upd H dn (.dK (dKs (done ++ [(k : Int)]))) p = some (.ins (He.ga K "Wires") dx (wF wt dl bd gl dn)) := by rw [upd_ne npd]; exact hp
  have hd1 := upd_same (H := H) (a := dn) (o := .dK (dKs (done ++ [(k : Int)])))
  have hS1 : Sto (upd H dn (.dK (dKs (done ++ [(k : Int)])))) dl bd das las ws m n st := hP.s.gw (M := fun a => a = dn) ((Gw.refl hF).mut hP.fd (.inr rfl)) fun a z => by
    subst z
    exact ⟨hdn, (fun z => by have := hP.s.hd; rw [← z, hP.d] at this; cases this), (fun z => by have := hP.s.hb; rw [← z, hP.d] at this; cases this)⟩
  generalize upd H dn (.dK (dKs (done ++ [(k : Int)]))) = H1 at *
  refine ⟨_, rfl, p, dx, _, rfl, hp1, wF_n_write .., _, rfl, p, _, dx, _, _, rfl, hp1, T.cl_Wires, T.n_Wires_writers, wF_writers .., _, rfl, wt, _, (k : Int), .int (wr k : Nat), rfl, rfl, st_of (g1.le _ _ hP.o.hw), atI_nat (by rw [List.getElem?_map, hw1]; rfl), _, rfl, ?_⟩
  refine ⟨F, p, wt, dl, bd, gl, dn, das, las, ws, m, n, st, wrs, wr k, (k : Int), rfl, g1.le, ⟨⟨dx, hp1⟩, hP.o.hw, hP.o.hg⟩, hS1, hP.hN, hw2, by omega, hP.m60, hP.w60, fun H2 g2 hS2 => ?_⟩
  refine q H2 (g1.trans (g2.wide fun a z => .inl z)) ⟨⟨⟨dx, g2.up _ _ hpn hp1⟩, hP.o.hw, hP.o.hg⟩, hS2, g2.up _ _ hdn hd1, j', hP.hN, hP.fd, hP.m60, hP.w60, hP.hw, hP.wl, hP.ok, by rw [List.length_append]; have := hP.dl60; simp; omega⟩
theorem ok_Wires_come (T : TX K mg) : FnOk P w K mg base CX0 2 (a_Wires_come K) (fdOf K (a_Wires_come K)) ["self", "y", "x"] (spCome K) := by
  have G_Wires_write := ok_Wires_write (P := P) (w := w) (base := base) T
  refine T.f_Wires_come.ok sc_Wires_come (fun vs H Q E ⟨F, p, wt, dl, bd, gl, dn, das, las, ws, m, n, st, wrs, wr, done, y, x, st', e, _⟩ => by rw [e]; rfl) (fun cdv A outer s H vs Q E hr ⟨F, p, wt, dl, bd, gl, dn, das, las, ws, m, n, st, wrs, wr, done, y, x, st', e, hF, hP, hn, hst, q⟩ => ?_)
  subst e
  refine ⟨_, PSs.nox (pss_cons (ps_asg (pe_bm PySem.F.plainAttrs_list PySem.F.slot_list_pop PySem.F.type_list_pop mt_popAt (pe_dget (units1 hr) (pe_fld (pv 0) rfl) (pe_tup (pa_cons (pv 1) (pa_cons (pv 2) pa_nil))) (fun _ _ => rfl)) (pa_cons pe_int pa_nil)) (pg_name (i := 3) sc_Wires_come.nd rfl (.inl rfl))) (
    pss_cons (ps_if (pt_cmpR op_notIn_seq (pv 3) (pe_ix ix_list (pe_fld (pv 0) rfl) (pv 2) (fun _ _ => rfl)) (by rfl)) (pss_one (ps_expr (pe_meth (pv 0) T.cl_Wires T.m_Wires_write G_Wires_write (hr.mono (by decide)) T.b_Wires_write .nil pass0 (pa_cons (pv 2) (pa_cons (pv 3) pa_nil))))) pss_nil) (
    pss_one (ps_ret (pv 3))))), ?_⟩
  obtain ⟨dx, hp⟩ := hP.o.hp
  have hst0 := hst
  rw [step_come] at hst
  split at hst
  · rename_i hc
    obtain ⟨hin, hne⟩ := hc
    have hwk := hP.ok _ hin
    have hxm : 0 ≤ x ∧ x < (m : Int) := ⟨hwk.2.2.1, hwk.2.2.2.1⟩
    have j' := hP.j.come (by omega) hst0
    have hdn := hP.s.nin hP.d (fun xs z => by cases z)
    have hpn := hP.s.nin hp (fun xs z => by cases z)
    obtain ⟨o, _, hg⟩ := sto_get (y := y) (x := x) hP.s
    obtain ⟨_, jj, la, z1, z2, _, z3⟩ := hg.resolve_right fun z => z.1 hin
    obtain ⟨k0, r0, hbx⟩ : ∃ k0 r0, st.box (y, x) = k0 :: r0 := by
      cases hcc : st.box (y, x) with
      | nil => exact absurd hcc hne
      | cons a b => exact ⟨a, b, rfl⟩
    have hlam : la ∈ das ++ las := List.mem_append_right _ (List.mem_of_getElem? z1)
    refine nAsg (nBM ?_)
    refine (ev_dgetS (F := F) (σ := start N_Wires_come [.ref p, .int y, .int x]) (td := tFld K (tVar 0) "letters") hF (es_tup (ea_cons (ev_var rfl) (ea_cons (ev_var rfl) ea_nil)) (by show 2 ≤ 60; decide)) (ev_fld (ev_var rfl) hp T.cl_Wires T.n_Wires_letters (wF_letters ..)) hP.s z1 z2) H (Ex.refl H) _ fun H3 e3 => ?_
    have hP3 := hP.ext e3
    have hla3 := hP3.s.box jj la _ z1 z2
    rw [hbx] at hla3
    refine ⟨.inl ⟨rfl, _, sq_of hla3⟩, la, _, 0, 0, .int k0, rfl, rfl, hla3, by decide, by decide, by simp [seqIndex?], rfl, gN ?_⟩
    try dsimp only
    have g3 := ((Gw.refl (M := Ml das las) hF).ext e3).mut (p := la) (o := .lst (r0.map V.int)) (hP.hN la hlam) (.inr hlam)
    have hS4 : Sto (upd H3 la (.lst (r0.map V.int))) dl bd das las ws m n (st.pop (y, x)) := by
      have := Sto.pop (F := F) hP3.s z1 z2
      rw [hbx] at this
      exact this
    have hp4 : upd H3 la (.lst (r0.map V.int)) p = some (.ins (He.ga K "Wires") dx (wF wt dl bd gl dn)) := by
      rw [upd_ne (fun z => hpn (by rw [z]; exact hlam))]
      exact e3 _ _ hp
    have hd4 : upd H3 la (.lst (r0.map V.int)) dn = some (.dK (dKs done)) := by
      rw [upd_ne (fun z => hdn (by rw [z]; exact hlam))]
      exact e3 _ _ hP.d
    show tSeq _ _ _ [some (.ref p), some (.int y), some (.int x), some (.int k0)] (upd H3 la (.lst (r0.map V.int)))
    generalize upd H3 la (.lst (r0.map V.int)) = H4 at *
    have hxd : x.toNat < das.length := by rw [hS4.dn]; omega
    have hda := List.getElem?_eq_getElem hxd
    have hxn : ((x.toNat : Nat) : Int) = x := by omega
    have hdia := hS4.dia _ _ hda
    have hatx : atI (das.map V.ref) x = some (V.ref das[x.toNat]) := by
      have := atI_nat (xs := das.map V.ref) (j := x.toNat) (v := V.ref das[x.toNat]) (by rw [List.getElem?_map, hda]; rfl)
      rwa [hxn] at this
    have hhead : (st.box (y, x)).headD 0 = k0 := by rw [hbx]; rfl
    rw [hhead] at hst
    have hst' := Option.some.inj hst
    refine q_when (b := !decide (k0 ∈ st.dia x.toNat)) (et_test (ev_op (ev_var rfl) (ev_op (ev_fld (ev_var rfl) hp4 T.cl_Wires T.n_Wires_diaries (wF_diaries ..)) (ev_var rfl) (rv_ixL (v := V.ref das[x.toNat]) (sq_of hS4.hd) hatx)) (rv_niI (.inl (sq_of hdia))))) (fun hb H5 e5 => ?_) (fun hb H5 e5 => ?_)
    · have hnk : k0 ∉ st.dia x.toNat := by simpa using hb
      rw [if_neg hnk] at hst'
      subst hst'
      have hp5 := e5 _ _ hp4
      have g5 := g3.ext e5
      refine ⟨_, rfl, p, dx, _, rfl, hp5, wF_n_write .., _, rfl, _, rfl, F, p, wt, dl, bd, gl, dn, das, las, ws, m, n, st.pop (y, x), wrs, x.toNat, k0, by rw [hxn]; rfl, g5.le, ⟨⟨dx, hp5⟩, hP.o.hw, hP.o.hg⟩, hS4.ext e5, hP.hN, by omega, by omega, hP.m60, hP.w60, fun H6 g6 hS6 => ?_⟩
      exact ⟨_, rfl, q H6 _ ((g5.trans g6).wide fun a z => .inl z) ⟨⟨⟨dx, g6.up _ _ hpn hp5⟩, hP.o.hw, hP.o.hg⟩, hS6, g6.up _ _ hdn (e5 _ _ hd4), j', hP.hN, hP.fd, hP.m60, hP.w60, hP.hw, hP.wl, hP.ok, by have := hP.dl60; omega⟩⟩
    · have hk : k0 ∈ st.dia x.toNat := by simpa using hb
      rw [if_pos hk] at hst'
      subst hst'
      have hS5 := hS4.ext e5
      exact ⟨_, rfl, q H5 _ ((g3.ext e5).wide fun a z => .inl z) ⟨⟨⟨dx, e5 _ _ hp4⟩, hP.o.hw, hP.o.hg⟩, ⟨hS5.hd, hS5.hb, hS5.dn, hS5.ll, hS5.dia, hS5.box, hS5.nd, hS5.n1, hS5.n2, fun i hi => Nat.le_succ_of_le (hS5.ld i hi), fun w => Nat.le_succ_of_le (hS5.lb w), hS5.nw⟩, e5 _ _ hd4, j', hP.hN, hP.fd, hP.m60, hP.w60, hP.hw, hP.wl, hP.ok, by have := hP.dl60; omega⟩⟩
  · cases hst
theorem ok_Wires_do (T : TX K mg) : FnOk P w K mg base CX0 3 (a_Wires_do K) (fdOf K (a_Wires_do K)) ["self", "step"] (spDo K) := by
  have G_Wires_put := ok_Wires_put (P := P) (w := w) (base := base) T
  have G_Wires_come := ok_Wires_come (P := P) (w := w) (base := base) T
  refine T.f_Wires_do.ok sc_Wires_do (fun vs H Q E ⟨F, p, wt, dl, bd, gl, dn, das, las, ws, m, n, st, wrs, wr, done, sa, s, st', e, _⟩ => by rw [e]; rfl) (fun cdv A outer s0 H vs Q E hr ⟨F, p, wt, dl, bd, gl, dn, das, las, ws, m, n, st, wrs, wr, done, sa, s, st', e, hF, hP, hn, hsa, hput, hst, q⟩ => ?_)
  subst e
  refine ⟨_, PSs.nox (pss_one (ps_if (pt_cmpR op_eq (pe_ix ix_tup (pv 1) pe_int (fun _ _ => rfl)) pe_str (nomark _)) (pss_one (ps_expr (pe_meth (pv 0) T.cl_Wires T.m_Wires_put G_Wires_put (hr.mono (by decide)) T.b_Wires_put .nil pass0 (pa_cons (pe_ix ix_tup (pv 1) pe_int (fun _ _ => rfl)) pa_nil)))) (pss_one (ps_expr (pe_meth (pv 0) T.cl_Wires T.m_Wires_come G_Wires_come (hr.mono (by decide)) T.b_Wires_come .nil pass0 (pa_cons (pe_ix ix_tup (pv 1) pe_int (fun _ _ => rfl)) (pa_cons (pe_ix ix_tup (pv 1) pe_int (fun _ _ => rfl)) pa_nil))))))), ?_⟩
  obtain ⟨dx, hp⟩ := hP.o.hp
  cases s with
  | put k =>
    have hsa' : F sa = some (.tup [.str "put", .int (k : Nat)]) := hsa
    refine s_if (b := true) (EvT.mono hF (et_is (et_test (ev_op (x := .str "put") (y := .str "put") (ev_op (ev_var rfl) ev_c (rv_ixT (st_of hsa') at0)) ev_c (rv_eq rfl))) (by simp))) (fun _ H1 e1 => ?_) (fun hb => by cases hb)
    have hF1 := hF.trans e1
    exact ⟨_, rfl, p, dx, _, rfl, e1 _ _ hp, wF_n_put .., _, rfl, sa, _, 1, .int (k : Nat), rfl, rfl, st_of (hF1 _ _ hsa'), at1, F, p, wt, dl, bd, gl, dn, das, las, ws, m, n, st, wrs, wr, done, k, st', rfl, hF1, hP.ext e1, hn, hput k rfl, hst, fun H2 g2 hP2 => q H2 _ (((Gw.refl hF).ext e1).trans g2) hP2⟩
  | come y x =>
    have hsa' : F sa = some (.tup [.str "come", .int y, .int x]) := hsa
    refine s_if (b := false) (EvT.mono hF (et_is (et_test (ev_op (x := .str "come") (y := .str "put") (ev_op (ev_var rfl) ev_c (rv_ixT (st_of hsa') at0)) ev_c (rv_eq rfl))) (decide_eq_false fun z => put_ne_come (V.str.inj z)))) (fun hb => by cases hb) (fun _ H1 e1 => ?_)
    have hF1 := hF.trans e1
    exact ⟨_, rfl, p, dx, _, rfl, e1 _ _ hp, wF_n_come .., _, rfl, sa, _, 1, .int y, rfl, rfl, st_of (hF1 _ _ hsa'), at1, _, rfl, sa, _, 2, .int x, rfl, rfl, st_of (hF1 _ _ hsa'), at2, F, p, wt, dl, bd, gl, dn, das, las, ws, m, n, st, wrs, wr, done, y, x, st', rfl, hF1, hP.ext e1, hn, hst, fun H2 z g2 hP2 => q H2 _ (((Gw.refl hF).ext e1).trans g2) hP2⟩
end
end GD

/-! ## The program's wires: can_do -/
namespace GD
open PySem L2 Evl G SQ
section
variable {σ : L2.St} {H : Hp} {ty td : TE} {k : Int} {dn : Addr} {done : List Int}
theorem ev_dniK (hy : Ev ty σ H (.int k)) (htd : Ev td σ H (.ref dn)) (hd : H dn = some (.dK (dKs done))) : Ev (tDNotIn ty td) σ H (.bl (!decide (k ∈ done))) := fun H1 e1 Q q =>
  hy H1 e1 _ fun H2 e2 => htd H2 (e1.trans e2) _ fun H3 e3 => by
    refine ⟨dn, valV (dKs done) (Sum.inl k), rfl, .inl ⟨dKs done, Sum.inl k, .inl (e3 _ _ (e2 _ _ (e1 _ _ hd))), rfl, rfl⟩, ?_⟩
    rw [dKs_get]
    exact q H3 (e2.trans e3)
end
theorem isRow_at {n : Nat} {t : T} (h : isRow n t = true) : ∃ s ts, t = .tup (.str s :: ts) ∧ ts.length + 1 = n := by
  unfold isRow at h
  simp only [Bool.and_eq_true, decide_eq_true_eq] at h
  obtain ⟨h1, h2, h3⟩ := h
  cases t <;> simp [isU] at h1
  rename_i ts
  cases ts with
  | nil => cases h3
  | cons x r =>
    cases x <;> simp [isS, items] at h3
    exact ⟨_, _, rfl, h2⟩
def canDo (n : Nat) (ws : List (Int × Int)) (m : Nat) (wr : Nat → Nat) (st : RS) (t : T) : Bool := match stepOf n t with
  | none => false
  | some s => (st.step ws m wr s).isSome
theorem isRow_mk {s : Str} {ts : List T} {n : Nat} (h : ts.length + 1 = n) : isRow n (.tup (.str s :: ts)) = true := by
  unfold isRow
  simp [isU, isS, items, h]
def spCan (K : PySem.W.Frag) : Sp := fun vs H Q _ => ∃ F p wt dl bd gl dn das las ws m n st wrs wr done t v, vs = [.ref p, v] ∧ Ex F H ∧ Rp F t v ∧ Pw K F H p wt dl bd gl dn das las ws m n st wrs wr done ∧
  ∀ H', Ex H H' → Q (.bl (canDo wrs.length ws m wr st t)) H'
def notD (done : List Int) : T → Bool
  | .int k => !decide (k ∈ done)
  | _ => false
theorem can_put {n m : Nat} {ws : List (Int × Int)} {wr : Nat → Nat} {st : RS} {done : List Int} (j : Jn ws m wr st done) (t1 : T) : canDo n ws m wr st (.tup [.str "put", t1]) = (within 0 ((n : Int) - 1) t1 && notD done t1) := by
  unfold canDo
  cases t1 <;> try rfl
  rename_i k
  unfold stepOf within
  by_cases h : 0 ≤ k ∧ k < (n : Int)
  · have e : (decide (0 ≤ k) && decide (k ≤ (n : Int) - 1)) = true := by simp; omega
    have := j.can (k := k.toNat)
    have hk : ((k.toNat : Nat) : Int) = k := by omega
    rw [hk] at this
    have h3 : k ≤ (n : Int) - 1 := by omega
    simp only [h, true_and, and_self, if_true]
    rw [this]
    simp [h3, notD]
  · have e : (decide (0 ≤ k) && decide (k ≤ (n : Int) - 1)) = false := by
      rw [Bool.and_eq_false_iff, decide_eq_false_iff_not, decide_eq_false_iff_not]
      omega
    have h' : ¬ (True ∧ 0 ≤ k ∧ k < (n : Int)) := fun z => h z.2
    simp only [e, Bool.false_and]
    rw [if_neg (fun z => h z.2)]
theorem can_come {n m : Nat} {ws : List (Int × Int)} {wr : Nat → Nat} {st : RS} {y x : Int} : canDo n ws m wr st (.tup [.str "come", .int y, .int x]) = (decide ((y, x) ∈ ws) && !decide (st.box (y, x) = [])) := by
  unfold canDo stepOf
  simp only [if_true]
  rw [step_come]
  by_cases h1 : (y, x) ∈ ws <;> by_cases h2 : st.box (y, x) = [] <;> simp [h1, h2]
theorem can_no {n m : Nat} {ws : List (Int × Int)} {wr : Nat → Nat} {st : RS} {t : T} (h1 : (isRow 2 t && isStr "put" ((items t).getD 0 (.int 0))) = false) (h2 : (!isRow 3 t || (!isStr "come" ((items t).getD 0 (.int 0)) || !isWP (m : Nat) (.tup ((items t).drop 1)))) = true) (hw : ∀ w ∈ ws, Wok (m : Nat) w) : canDo n ws m wr st t = false := by
  unfold canDo
  split
  · rfl
  · rename_i s hs
    unfold stepOf at hs
    split at hs
    · rename_i s0 k
      split at hs
      · rename_i hc
        exfalso
        have hm := isRow_mk (s := s0) (ts := [.int k]) (n := 2) rfl
        rw [hm, hc.1] at h1
        simp [items, isStr] at h1
      · cases hs
    · rename_i s0 y x
      split at hs
      · rename_i hc
        cases hs
        have hm := isRow_mk (s := s0) (ts := [.int y, .int x]) (n := 3) rfl
        rw [hm, hc] at h2
        rw [step_come]
        by_cases hin : (y, x) ∈ ws
        · exfalso
          have := hw _ hin
          unfold Wok at this
          simp [items, isStr, isWP, isPair, isU, within, nums] at h2
          omega
        · simp [hin]
      · cases hs
    · cases hs
section
variable {P : Program} {w : World} {K : PySem.W.Frag} {mg : Str → Option Value} {base : Heap}
theorem ok_Wires_can_do (T : TX K mg) : FnOk P w K mg base CX0 4 (a_Wires_can_do K) (fdOf K (a_Wires_can_do K)) ["self", "step"] (spCan K) := by
  have G_is_row := ok_is_row (P := P) (w := w) (base := base) T
  have G_is_within := ok_is_within (P := P) (w := w) (base := base) T
  have G_is_wire_pair := ok_is_wire_pair (P := P) (w := w) (base := base) T
  refine T.f_Wires_can_do.ok sc_Wires_can_do (fun vs H Q E ⟨F, p, wt, dl, bd, gl, dn, das, las, ws, m, n, st, wrs, wr, done, t, v, e, _⟩ => by rw [e]; rfl) (fun cdv A outer s H vs Q E hr ⟨F, p, wt, dl, bd, gl, dn, das, las, ws, m, n, st, wrs, wr, done, t, v, e, hF, ht, hP, q⟩ => ?_)
  subst e
  refine ⟨_, PSs.nox (pss_cons (ps_if (PW.pt (pw_and (pt_val (pe_call G_is_row (hr.mono (by decide)) rfl T.g_is_row T.f_is_row.kp T.b_is_row .nil pass0 (pa_cons (pv 1) (pa_cons pe_int pa_nil)))) (pw_and1 (pt_cmpR op_eq (pe_ix ix_tup (pv 1) pe_int (fun _ _ => rfl)) pe_str (nomark _))))) (pss_one (ps_ret (pe_and (pe_call G_is_within (hr.mono (by decide)) rfl T.g_is_within T.f_is_within.kp T.b_is_within .nil pass0 (pa_cons (pe_ix ix_tup (pv 1) pe_int (fun _ _ => rfl)) (pa_cons pe_int (pa_cons (pe_op op_sub (pe_callB call_len_seq (by rfl) T.z_len PySem.boot_len (pa_cons (pe_fld (pv 0) rfl) pa_nil)) pe_int) pa_nil)))) (pe_one (pe_cmp (pc_dnotin (units1 hr) (pe_ix ix_tup (pv 1) pe_int (fun _ _ => rfl)) (pe_fld (pv 0) rfl)) rfl))))) pss_nil) (
    pss_cons (ps_if (PW.pt (pw_or (pt_not (pt_val (pe_call G_is_row (hr.mono (by decide)) rfl T.g_is_row T.f_is_row.kp T.b_is_row .nil pass0 (pa_cons (pv 1) (pa_cons pe_int pa_nil))))) (pw_or (pt_cmpR op_ne (pe_ix ix_tup (pv 1) pe_int (fun _ _ => rfl)) pe_str (nomark _)) (pw_or1 (pt_not (pt_val (pe_call G_is_wire_pair (hr.mono (by decide)) rfl T.g_is_wire_pair T.f_is_wire_pair.kp T.b_is_wire_pair .nil pass0 (pa_cons (pe_callB call_len_seq (by rfl) T.z_len PySem.boot_len (pa_cons (pe_fld (pv 0) rfl) pa_nil)) (pa_cons (pe_slice sl_tupA (pv 1) (po_some pe_int) po_none) pa_nil))))))))) (pss_one (ps_ret pe_bl)) pss_nil) (
    pss_one (ps_ret (pe_and (pe_cmp (pc_din (units1 hr) (pe_slice sl_tupA (pv 1) (po_some pe_int) po_none) (pe_fld (pv 0) rfl)) rfl) (pe_one (pe_cmpR op_gt (pe_callB call_len_seq (by rfl) T.z_len PySem.boot_len (pa_cons (pe_dget (units1 hr) (pe_fld (pv 0) rfl) (pe_slice sl_tupA (pv 1) (po_some pe_int) po_none) (fun _ _ => rfl)) pa_nil)) pe_int (nomark _)))))))), ?_⟩
  obtain ⟨dx, hp⟩ := hP.o.hp
  have hr' : Rp H t v := ht.mono hF _ _
  refine q_when (b := isRow 2 t && isStr "put" ((items t).getD 0 (.int 0))) (et_and (et_test (ev_call (ea_cons (ev_var rfl) (ea_cons ev_c ea_nil)) (svRow hr' (by decide)))) fun hb => ?_) (fun hb H1 e1 => ?_) (fun hb H1 e1 => ?_)
  · obtain ⟨s0, ts, rfl, hl⟩ := isRow_at hb
    obtain ⟨b, us, rfl, k1, k2, v0, us', rfl, k3, k4⟩ := hr'
    exact et_str (K := K) rfl k1 k3 rfl
  · rw [Bool.and_eq_true] at hb
    obtain ⟨s0, ts, rfl, hl⟩ := isRow_at hb.1
    have hs : s0 = "put" := by simpa [items, isStr] using hb.2
    subst hs
    obtain ⟨t1, rfl⟩ : ∃ t1, ts = [t1] := List.length_eq_one_iff.mp (by omega)
    obtain ⟨b, us, rfl, k1, k2, v0, us', rfl, k3, v1', us2, rfl, k4, k5⟩ := hr'
    cases k5
    have hp1 := e1 _ _ hp
    have hx : Ev (tOp (rIxT K) (tVar 1) (tC (.int 1))) [some (.ref p), some (.ref b)] H1 v1' := ev_op (ev_var rfl) ev_c (rv_ixT (st_of (e1 _ _ k1)) at1)
    refine s_ret (v := .bl (canDo wrs.length ws m wr st (.tup [.str "put", t1]))) (ev_is (ev_andV (ev_call (ea_cons hx (ea_cons ev_c (ea_cons (ev_op (ev_lenSq (k := false) (ev_fld (ev_var rfl) hp1 T.cl_Wires T.n_Wires_writers (wF_writers ..)) (st_of (e1 _ _ (hF _ _ hP.o.hw)))) ev_c rv_I0) ea_nil))) (svWithin (k4.mono e1 _ _))) (b := notD done t1) fun hw => ?_) ?_) fun H2 e2 => q H2 (e1.trans e2)
    · cases t1 <;> try (cases hw; done)
      cases k4
      exact ev_dniK hx (ev_fld (ev_var rfl) hp1 T.cl_Wires T.n_Wires_done (wF_done ..)) (e1 _ _ hP.d)
    · rw [can_put hP.j, List.length_map]
  · have hp1 := e1 _ _ hp
    have hS := hP.s.ext e1
    refine q_when (b := !isRow 3 t || (!isStr "come" ((items t).getD 0 (.int 0)) || !isWP (m : Nat) (.tup ((items t).drop 1)))) (et_or (et_not (et_test (ev_call (ea_cons (ev_var rfl) (ea_cons ev_c ea_nil)) (svRow (hr'.mono e1 _ _) (by decide))))) fun hb3 => ?_) (fun hb3 H2 e2 => ?_) (fun hb3 H2 e2 => ?_)
    · rw [Bool.not_eq_false'] at hb3
      obtain ⟨s0, ts, rfl, hl⟩ := isRow_at hb3
      obtain ⟨b, us, rfl, k1, k2, v0, us', rfl, k3, k4⟩ := hr'
      cases k3
      refine et_or (et_is (et_test (ev_op (x := .str s0) (y := .str "come") (ev_op (ev_var rfl) ev_c (rv_ixT (st_of (e1 _ _ k1)) at0)) ev_c (rv_ne rfl))) ?_) fun _ => et_not (et_test ?_)
      · simp [items, isStr]
      · have hsl := es_slA (K := K) (te := tVar 1) (σ := [some (.ref p), some (.ref b)]) (F := H1) (ev_var rfl) (eo_some (ev_c (v := .int 1))) eo_none (e1 _ _ k1)
        rw [show cutV (V.str s0 :: us') (some 1) none = us' from cut_from (V.str s0 :: us') 1] at hsl
        have hln := ev_lenSq (K := K) (k := true) (ev_fld (ta := tVar 0) (σ := [some (.ref p), some (.ref b)]) (ev_var rfl) hp1 T.cl_Wires T.n_Wires_diaries (wF_diaries ..)) (sq_of hS.hd)
        rw [List.length_map, hS.dn] at hln
        have k4' := k4.mono e1 _ _
        exact fun H4 e4 Q q4 => nCall (nCons (hln H4 e4 _ fun H5 e5 => nCons (hsl H5 H5 (e4.trans e5) (Ex.refl H5) _ fun a H6 e6 ha _ => ⟨H6, .tup ts, .ref a, ((m : Nat) : Int), rfl, Ex.refl H6, ⟨a, us', rfl, ha, by simp at k2; omega, k4'.mono ((e4.trans e5).trans e6)⟩, fun H7 e7 => q4 H7 ((e5.trans e6).trans e7)⟩)))
    · exact s_ret ev_c (fun H3 e3 => by
        have := q H3 ((e1.trans e2).trans e3)
        rw [can_no hb hb3 hP.ok] at this
        exact this)
    · simp only [Bool.or_eq_false_iff, Bool.not_eq_false'] at hb3
      obtain ⟨hr3, hc3, hw3⟩ := hb3
      obtain ⟨s0, ts, rfl, hl⟩ := isRow_at hr3
      have hs : s0 = "come" := by simpa [items, isStr] using hc3
      subst hs
      obtain ⟨y, x, rfl⟩ : ∃ y x, ts = [.int y, .int x] := by
        unfold isWP at hw3
        simp only [Bool.and_eq_true] at hw3
        obtain ⟨e, _⟩ := all_nums hw3.2.1
        have e' : ts = (nums ts).map GD.T.int := e
        have hl2 : (nums ts).length = 2 := by
          have := congrArg List.length e'
          rw [List.length_map] at this
          omega
        match hx : nums ts, hl2 with
        | [y, x], _ => exact ⟨y, x, by rw [e', hx]; rfl⟩
      obtain ⟨b, us, rfl, k1, k2, v0, us', rfl, k3, v1', us2, rfl, k4, v2', us3, rfl, k5, k6⟩ := hr'
      cases k3
      cases k4
      cases k5
      cases k6
      have e12 := e1.trans e2
      have hp2 := e12 _ _ hp
      have hS2 := hS.ext e2
      have hsl := es_slA (K := K) (te := tVar 1) (σ := [some (.ref p), some (.ref b)]) (F := H2) (ev_var rfl) (eo_some (ev_c (v := .int 1))) eo_none (e12 _ _ k1)
      rw [show cutV [V.str "come", V.int y, V.int x] (some 1) none = [V.int y, V.int x] from cut_from _ 1] at hsl
      have hbx := ev_fld (K := K) (σ := [some (.ref p), some (.ref b)]) (ta := tVar 0) (f := "letters") (ev_var rfl) hp2 T.cl_Wires T.n_Wires_letters (wF_letters ..)
      refine s_ret (v := .bl (canDo wrs.length ws m wr st (.tup [.str "come", .int y, .int x]))) (ev_is (ev_andV (b := decide ((((st.box (y, x)).length : Nat) : Int) > 0)) (et_din (Ex.refl H2) hsl hbx hS2) fun hin => ?_) ?_) fun H3 e3 => q H3 (e12.trans e3)
      · have hin' : (y, x) ∈ ws := of_decide_eq_true hin
        obtain ⟨o, _, hg⟩ := sto_get (y := y) (x := x) hS2
        obtain ⟨_, jj, la, z1, z2, _, z3⟩ := hg.resolve_right fun z => z.1 hin'
        have := ev_lenSq (K := K) (k := true) (ev_dgetS (Ex.refl H2) hsl hbx hS2 z1 z2) (sq_of z3)
        rw [List.length_map] at this
        exact ev_op this ev_c rv_I0
      · rw [can_come]
        congr 2
        cases st.box (y, x) <;> simp
end
end GD

/-! ## The program's wires: made -/
namespace GD
open PySem L2 Evl G SQ
theorem len_putF (f : Str) (v : V) : ∀ fs : List (Str × V), (putF f v fs).length ≤ fs.length + 1
  | [] => Nat.le_refl _
  | (g, x) :: r => by
    rw [show putF f v ((g, x) :: r) = (if g = f then (g, v) :: r else (g, x) :: putF f v r) from rfl]
    have := len_putF f v r
    split <;> simp <;> omega
theorem nFld {K : PySem.W.Frag} {ta tv : TE} {f : Str} {tz : TS} {D : Ends} {σ : L2.St} {H : Hp} (h : tv σ H fun y H1 => ta σ H1 fun x H2 => ∃ a C dx fs, x = .ref a ∧ H2 a = some (.ins C dx fs) ∧ Cls K C ∧ NoAttr K C f ∧ fs.length < 1000 ∧ tz D σ (upd H2 a (.ins C dx (putF f y fs)))) : tSeq (sFld K ta tv f) tz D σ H := h
theorem nFldE {K : PySem.W.Frag} {ta tv : TE} {f : Str} {D : Ends} {σ : L2.St} {H : Hp} (h : tv σ H fun y H1 => ta σ H1 fun x H2 => ∃ a C dx fs, x = .ref a ∧ H2 a = some (.ins C dx fs) ∧ Cls K C ∧ NoAttr K C f ∧ fs.length < 1000 ∧ D.nx σ (upd H2 a (.ins C dx (putF f y fs)))) : sFld K ta tv f D σ H := h
theorem eg_el {ts : List T} {te : TE} {σ : L2.St} {F : Hp} {us : List V} (h : EvL te σ F us) (ht : Rps F ts us) (hz : us.length ≤ 60) : EvG te σ F fun F2 v => Rp F2 (.lst ts) v := fun F1 H1 e1 e2 Q q =>
  h H1 (e1.trans e2) Q fun p H2 hp e3 h2 => q (.ref p) (upd F1 p (.lst us)) H2 (((Gw.refl e2).ext e3).freeze hp h2 (fresh_back e2 hp)) (.lst_i upd_same hz ((ht.mono e1 _ _).mono (Ex.new (fresh_back e2 hp)) _ _))
def spWInit (K : PySem.W.Frag) : Sp := fun vs H Q _ => ∃ F p dx web wt m ws wrs, vs = [.ref p, web, .ref wt] ∧ Ex F H ∧ H p = some (.ins (He.ga K "Wires") dx []) ∧ F p = none ∧ Wb K F web (m : Nat) ws ∧ ws.Nodup ∧ F wt = some (.tup (List.map V.int wrs)) ∧ m ≤ 60 ∧
  ∀ F' H' dl bd gl dn das las, Gw (fun a => a = p) F H F' H' → (∀ a ∈ das ++ las, H a = none ∧ F' a = none) → H dn = none → F' dn = none → F' p = none → H' p = some (.ins (He.ga K "Wires") dx (wF wt dl bd gl dn)) → Rp F' (goalsT ws m) (.ref gl) → Sto H' dl bd das las ws m 0 RS.start → H' dn = some (.dK []) → Q .non H'
section
variable {P : Program} {w : World} {K : PySem.W.Frag} {mg : Str → Option Value} {base : Heap}
theorem ok_Wires_init (T : TX K mg) : FnOk P w K mg base CX0 2 (a_Wires_init K) (fdOf K (a_Wires_init K)) ["self", "web", "writers"] (spWInit K) := by
  have G_outs := ok_outs (P := P) (w := w) (base := base) T
  refine T.f_Wires_init.ok sc_Wires_init (fun vs H Q E ⟨F, p, dx, web, wt, m, ws, wrs, e, _⟩ => by rw [e]; rfl) (fun cdv A outer s H vs Q E hr ⟨F, p, dx, web, wt, m, ws, wrs, e, hF, hp, fp, hW, hnd, hwt, hm, q⟩ => ?_)
  subst e
  refine ⟨_, PSs.nox (pss_cons (ps_fld (pv 0) (pv 2) rfl) (
    pss_cons (ps_fld (pv 0) (pe_lc (own := [("machine", 3)]) (g := (gName 3)) (tt := tYes) rfl sc_Wires_init.nd (pi_range1 rfl T.z_range (pa_cons (pe_fld (pv 1) rfl) pa_nil)) (blkOk_by (own := [("machine", 3)]) (N := N_Wires_init) (sc := defScope s_Wires_init) (by decide +kernel)) (fun _ _ _ _ _ => (pg_name (i := 3) sc_Wires_init.nd rfl (.inl rfl))) (fun _ _ _ _ _ => pts_nil) (fun _ _ _ _ _ => (pe_lst pa_nil))) rfl) (
    pss_cons (ps_fld (pv 0) (pe_callTy (call_dictT rfl (units2 hr)) (by rfl) T.z_dict (by decide +kernel) (pa_cons (pe_lc (own := [("wire", 4)]) (g := (gName 4)) (tt := tYes) rfl sc_Wires_init.nd (pi_sq (pe_fld (pv 1) rfl)) (blkOk_by (own := [("wire", 4)]) (N := N_Wires_init) (sc := defScope s_Wires_init) (by decide +kernel)) (fun _ _ _ _ _ => (pg_name (i := 4) sc_Wires_init.nd rfl (.inl rfl))) (fun _ _ _ _ _ => pts_nil) (fun _ _ _ _ _ => (pe_tup (pa_cons (pv 4) (pa_cons (pe_lst pa_nil) pa_nil))))) pa_nil)) rfl) (
    pss_cons (ps_fld (pv 0) (pe_lc (own := [("machine", 3)]) (g := (gName 3)) (tt := tYes) rfl sc_Wires_init.nd (pi_range1 rfl T.z_range (pa_cons (pe_fld (pv 1) rfl) pa_nil)) (blkOk_by (own := [("machine", 3)]) (N := N_Wires_init) (sc := defScope s_Wires_init) (by decide +kernel)) (fun _ _ _ _ _ => (pg_name (i := 3) sc_Wires_init.nd rfl (.inl rfl))) (fun _ _ _ _ _ => pts_nil) (fun _ _ _ _ _ => (pe_call G_outs (hr.mono (by decide)) rfl T.g_outs T.f_outs.kp T.b_outs .nil pass0 (pa_cons (pv 1) (pa_cons (pv 3) pa_nil))))) rfl) (
    pss_one (ps_fld (pv 0) pe_dnewK rfl)))))), ?_⟩
  refine ⟨_, rfl, _, rfl, p, _, dx, [], rfl, hp, T.cl_Wires, T.n_Wires_writers, by decide, ?_⟩
  have g1 := (Gw.refl (M := fun a => a = p) hF).mut (p := p) (o := .ins (He.ga K "Wires") dx (putF "writers" (.ref wt) [])) fp (.inr rfl)
  have hp1 := upd_same (H := H) (a := p) (o := .ins (He.ga K "Wires") dx (putF "writers" (.ref wt) []))
  generalize upd H p (.ins (He.ga K "Wires") dx (putF "writers" (.ref wt) [])) = H1 at *
  refine nFld (rd_lists (F := F) (n := (m : Nat)) (ea_cons (ev_webm T (ev_var rfl) hW) ea_nil) (by omega) (by omega) g1.le (fun _ => rfl) fun dl das H2 g2 hdl hdl1 dlen hdas dnd dln => ?_)
  have hp2 := g2.ex _ _ hp1
  have l1 := len_putF "writers" (.ref wt) []
  have l2 := len_putF "diaries" (.ref dl) (putF "writers" (.ref wt) [])
  refine ⟨_, rfl, p, _, dx, _, rfl, hp2, T.cl_Wires, T.n_Wires_diaries, by simp at l1; omega, ?_⟩
  have g3 := (g1.trans g2.widen).mut (p := p) (o := .ins (He.ga K "Wires") dx (putF "diaries" (.ref dl) (putF "writers" (.ref wt) []))) fp (.inr rfl)
  have hp3 := upd_same (H := H2) (a := p) (o := .ins (He.ga K "Wires") dx (putF "diaries" (.ref dl) (putF "writers" (.ref wt) [])))
  have ndp : dl ≠ p := fun z => by rw [z, hp1] at hdl; cases hdl
  have hdl3 : upd H2 p (.ins (He.ga K "Wires") dx (putF "diaries" (.ref dl) (putF "writers" (.ref wt) []))) dl = some (.lst (das.map V.ref)) := by rw [upd_ne ndp]; exact hdl1
  have hdas3 : ∀ a ∈ das, upd H2 p (.ins (He.ga K "Wires") dx (putF "diaries" (.ref dl) (putF "writers" (.ref wt) []))) a = some (.lst []) := fun a ha => by
    have : a ≠ p := fun z => by have h1 := (hdas a ha).2; rw [z, hp2] at h1; cases h1
    rw [upd_ne this]
    exact (hdas a ha).2
  have H0 : ∀ a, H1 a = none → H a = none := fun a h => g1.fresh h
  have hdasH : ∀ a ∈ das, H a = none := fun a ha => H0 a (hdas a ha).1
  generalize upd H2 p (.ins (He.ga K "Wires") dx (putF "diaries" (.ref dl) (putF "writers" (.ref wt) []))) = H3 at *
  obtain ⟨wa, wxs, w1, w2, w3, w4⟩ := ev_webw (σ := start N_Wires_init [.ref p, web, .ref wt]) (ta := tVar 1) T (ev_var rfl) hW
  refine nFld (rd_boxes (K := K) (F := F) w4 w1 w3 w2 hnd g3.le (by show 5 > 4; decide) (fun _ => rfl) fun bd las H4 g4 hbd hbd1 llen hlas lnd lbn => ?_)
  have hp4 := g4.ex _ _ hp3
  have l3 := len_putF "letters" (.ref bd) (putF "diaries" (.ref dl) (putF "writers" (.ref wt) []))
  refine ⟨_, rfl, p, _, dx, _, rfl, hp4, T.cl_Wires, T.n_Wires_letters, by simp at l1; omega, ?_⟩
  have g5 := (g3.trans g4.widen).mut (p := p) (o := .ins (He.ga K "Wires") dx (putF "letters" (.ref bd) (putF "diaries" (.ref dl) (putF "writers" (.ref wt) [])))) fp (.inr rfl)
  have hp5 := upd_same (H := H4) (a := p) (o := .ins (He.ga K "Wires") dx (putF "letters" (.ref bd) (putF "diaries" (.ref dl) (putF "writers" (.ref wt) []))))
  have kp : ∀ a o, a ≠ p → H4 a = some o → upd H4 p (.ins (He.ga K "Wires") dx (putF "letters" (.ref bd) (putF "diaries" (.ref dl) (putF "writers" (.ref wt) [])))) a = some o := fun a o na h => by rw [upd_ne na]; exact h
  have np3 : ∀ a, H3 a = none → a ≠ p := fun a h z => by rw [z, hp3] at h; cases h
  have nbp := np3 bd hbd
  have hbd5 := kp _ _ nbp hbd1
  have hdl5 := kp _ _ ndp (g4.ex _ _ hdl3)
  have hdasp : ∀ a ∈ das, a ≠ p := fun a ha z => by have h1 := hdas3 a ha; rw [z, hp3] at h1; cases h1
  have hdas5 : ∀ a ∈ das, _ := fun a ha => kp a _ (hdasp a ha) (g4.ex _ _ (hdas3 a ha))
  have hlas5 : ∀ a ∈ las, _ := fun a ha => kp a _ (np3 a (hlas a ha).1) (hlas a ha).2
  have hlasH : ∀ a ∈ las, H a = none := fun a ha => by
    have h3 := (hlas a ha).1
    cases hx : H a with
    | none => rfl
    | some o => exact absurd h3 (g3.dom a (by rw [hx]; exact fun z => by cases z))
  have hlda : ∀ a ∈ das, ∀ b ∈ las, a ≠ b := fun a ha b hb z => by
    have h1 := (hlas b hb).1
    rw [← z, hdas3 a ha] at h1
    cases h1
  have ndl : dl ∉ las := fun z => by have h1 := (hlas dl z).1; rw [hdl3] at h1; cases h1
  have nbd : bd ∉ das := fun z => by rw [hdas3 bd z] at hbd; cases hbd
  clear kp
  generalize upd H4 p (.ins (He.ga K "Wires") dx (putF "letters" (.ref bd) (putF "diaries" (.ref dl) (putF "writers" (.ref wt) [])))) = H5 at *
  have wl : ws.length ≤ 60 := by have := w3.len; rw [List.length_map] at this; omega
  have hgo : EvN _ (start N_Wires_init [.ref p, web, .ref wt]) F ((List.range m).map fun i => GD.T.lst ((outsOf ws (i : Nat)).map GD.T.int)) := en_lcN (F := F) (σ := start N_Wires_init [.ref p, web, .ref wt]) (vs := [3]) (j := 3) (te := tCall (spOuts K) [] E0 (tCons (tVar 1) (tCons (tVar 3) tNil))) (walk_range (lo := 0) (n := m)) (evi_r1 (n := (m : Nat)) (ta := tCons (tFld K (tVar 1) "machines") tNil) (ea_cons (ev_webm T (ev_var rfl) hW) ea_nil) (by omega) (by omega)) (fun _ _ => trivial) (fun i H x H' _ y => by rw [y.1]; exact Ex.refl H) (fun _ => rfl) (by omega) (fun i => GD.T.lst ((outsOf ws (i : Nat)).map GD.T.int)) (fun i x H1 H' hi e y => by
    obtain ⟨rfl, rfl⟩ := y
    refine eg_el (el_call (ea_cons (ev_var rfl) (ea_cons (ev_var rfl) ea_nil)) (svOuts hW)) (by rw [Rps.ints, Int.zero_add]) ?_
    rw [List.length_map]
    exact Nat.le_trans (by unfold outsOf; rw [List.length_map]; exact List.length_filter_le _ _) wl)
  refine nFld (hgo F H5 (Ex.refl F) g5.le _ fun gl gvs F6 H6 g6 ff hgl hgl6 hr6 => ?_)
  have hp6 := g6.ex _ _ hp5
  have g7 := g6.freeze hgl hgl6 ff
  have hgR : Rp (upd F6 gl (.lst gvs)) (goalsT ws m) (.ref gl) := .lst_i upd_same (by rw [← hr6.len, List.length_map, List.length_range]; omega) (hr6.mono (Ex.new ff) _ _)
  have f7p := g7.new p (by rw [hp5]; exact fun z => by cases z) fp
  have f7d : ∀ a ∈ das ++ las, upd F6 gl (.lst gvs) a = none := fun a ha => g7.new a (by
    rcases List.mem_append.mp ha with z | z
    · rw [hdas5 a z]; exact fun z => by cases z
    · rw [hlas5 a z]; exact fun z => by cases z) (fresh_back hF (by
    rcases List.mem_append.mp ha with z | z
    · exact hdasH a z
    · exact hlasH a z))
  have l4 := len_putF "goals" (.ref gl) (putF "letters" (.ref bd) (putF "diaries" (.ref dl) (putF "writers" (.ref wt) [])))
  refine ⟨_, rfl, p, _, dx, _, rfl, hp6, T.cl_Wires, T.n_Wires_goals, by simp at l1; omega, ?_⟩
  have hall6 : ∀ a ∈ das ++ las, H6 a = some (.lst []) := fun a ha => by
    rcases List.mem_append.mp ha with z | z
    · exact g6.ex _ _ (hdas5 a z)
    · exact g6.ex _ _ (hlas5 a z)
  have hallp : ∀ a ∈ das ++ las, a ≠ p := fun a ha z => by have h1 := hall6 a ha; rw [z, hp6] at h1; cases h1
  have g8 := (g5.trans g7.widen).mut (p := p) (o := .ins (He.ga K "Wires") dx (putF "goals" (.ref gl) (putF "letters" (.ref bd) (putF "diaries" (.ref dl) (putF "writers" (.ref wt) []))))) f7p (.inr rfl)
  have hp8 := upd_same (H := H6) (a := p) (o := .ins (He.ga K "Wires") dx (putF "goals" (.ref gl) (putF "letters" (.ref bd) (putF "diaries" (.ref dl) (putF "writers" (.ref wt) [])))))
  have kp : ∀ a o, a ≠ p → H6 a = some o → upd H6 p (.ins (He.ga K "Wires") dx (putF "goals" (.ref gl) (putF "letters" (.ref bd) (putF "diaries" (.ref dl) (putF "writers" (.ref wt) []))))) a = some o := fun a o na h => by rw [upd_ne na]; exact h
  have hdl8 := kp _ _ ndp (g6.ex _ _ hdl5)
  have hbd8 := kp _ _ nbp (g6.ex _ _ hbd5)
  have hall8 : ∀ a ∈ das ++ las, _ := fun a ha => kp a _ (hallp a ha) (hall6 a ha)
  clear kp
  generalize upd H6 p (.ins (He.ga K "Wires") dx (putF "goals" (.ref gl) (putF "letters" (.ref bd) (putF "diaries" (.ref dl) (putF "writers" (.ref wt) []))))) = H8 at *
  refine nFldE (fun dn hdn => ?_)
  have hp9 := (Ex.new (o := .dK []) hdn) _ _ hp8
  refine ⟨_, rfl, p, _, dx, _, rfl, hp9, T.cl_Wires, T.n_Wires_done, by simp at l1; omega, ?_⟩
  have g9 := (g8.put (o := .dK []) hdn).mut (p := p) (o := .ins (He.ga K "Wires") dx (wF wt dl bd gl dn)) f7p (.inr rfl)
  have ndnp : dn ≠ p := fun z => by rw [z, hp8] at hdn; cases hdn
  have kp : ∀ a o, a ≠ p → H8 a = some o → upd (upd H8 dn (.dK [])) p (.ins (He.ga K "Wires") dx (wF wt dl bd gl dn)) a = some o := fun a o na h => by rw [upd_ne na]; exact (Ex.new hdn) _ _ h
  have hallE : ∀ a ∈ das ++ las, _ := fun a ha => kp a _ (hallp a ha) (hall8 a ha)
  have m0 : (((m : Nat) : Int)).toNat = m := by omega
  refine q _ _ dl bd gl dn das las g9 (fun a ha => ⟨(List.mem_append.mp ha).elim (fun z => hdasH a z) fun z => hlasH a z, f7d a ha⟩) (g8.fresh hdn) (g8.ffree hdn) f7p upd_same hgR ⟨kp _ _ ndp hdl8, kp _ _ nbp hbd8, by rw [dlen, m0], llen, fun i a h => hallE a (List.mem_append_left _ (List.mem_of_getElem? h)), fun j a w h1 _ => hallE a (List.mem_append_right _ (List.mem_of_getElem? h1)), ?_, ?_, ?_, fun _ _ => Nat.le_refl _, fun _ => Nat.le_refl _, hnd⟩ (by rw [upd_ne ndnp]; exact upd_same)
  · rw [List.nodup_append]
    exact ⟨dnd, lnd, hlda⟩
  · intro z
    rcases List.mem_append.mp z with z | z
    · exact dln z
    · exact ndl z
  · intro z
    rcases List.mem_append.mp z with z | z
    · exact nbd z
    · exact lbn z
end
end GD

/-! ## The program's wires: a run of steps -/
namespace GD
open PySem L2 Evl G SQ
theorem stp_at {n : Nat} {F : Hp} {t : T} {v : V} {s : Stp} (h : stepOf n t = some s) (r : Rp F t v) : ∃ sa, v = .ref sa ∧ StpAt F sa s ∧ ∀ k, s = .put k → k < n := by
  unfold stepOf at h
  split at h
  · rename_i s0 k
    split at h
    · rename_i hc
      obtain ⟨rfl, h0, h1⟩ := hc
      cases h
      obtain ⟨b, us, rfl, k1, k2, v0, us', rfl, k3, v1', us2, rfl, k4, k5⟩ := r
      cases k3
      cases k4
      cases k5
      refine ⟨b, rfl, ?_, fun k' e => by cases e; omega⟩
      show F b = some (.tup [.str "put", .int ((k.toNat : Nat) : Int)])
      rw [show ((k.toNat : Nat) : Int) = k by omega]
      exact k1
    · cases h
  · rename_i s0 y x
    split at h
    · rename_i hc
      subst hc
      cases h
      obtain ⟨b, us, rfl, k1, k2, v0, us', rfl, k3, v1', us2, rfl, k4, v2', us3, rfl, k5, k6⟩ := r
      cases k3
      cases k4
      cases k5
      cases k6
      exact ⟨b, rfl, k1, fun k' e => by cases e⟩
    · cases h
  · cases h
def spFBad (K : PySem.W.Frag) : Sp := fun vs H Q _ => ∃ F p wt dl bd gl dn das las ws m wrs wr t v, vs = [.ref p, v] ∧ Ex F H ∧ Pw K F H p wt dl bd gl dn das las ws m 0 RS.start wrs wr [] ∧ Rp F t v ∧ (isL t || isU t) = true ∧
  (∀ H' st done n, n ≤ 60 → Gw (Md das las dn) F H F H' → runSteps ws m wr wrs.length RS.start (items t) = some st → Pw K F H' p wt dl bd gl dn das las ws m n st wrs wr done → Q .non H') ∧
  (∀ H' (i : Nat), Gw (Md das las dn) F H F H' → runSteps ws m wr wrs.length RS.start (items t) = none → Q (.int (i : Nat)) H')
section
variable {P : Program} {w : World} {K : PySem.W.Frag} {mg : Str → Option Value} {base : Heap}
theorem ok_first_bad (T : TX K mg) : FnOk P w K mg base CX0 5 (a_first_bad K) (fdOf K (a_first_bad K)) ["wires", "steps"] (spFBad K) := by
  have G_Wires_can_do := ok_Wires_can_do (P := P) (w := w) (base := base) T
  have G_Wires_do := ok_Wires_do (P := P) (w := w) (base := base) T
  refine T.f_first_bad.ok sc_first_bad (fun vs H Q E ⟨F, p, wt, dl, bd, gl, dn, das, las, ws, m, wrs, wr, t, v, e, _⟩ => by rw [e]; rfl) (fun cdv A outer s H vs Q E hr ⟨F, p, wt, dl, bd, gl, dn, das, las, ws, m, wrs, wr, t, v, e, hF, hP, ht, hu, q1, q2⟩ => ?_)
  subst e
  refine ⟨_, PSs.nox (pss_cons (ps_for PassesOwn.never rfl (pi_E rfl T.z_enumerate (pa_cons (pv 1) pa_nil)) (pg_tup rfl (pgs_cons (pg_name (i := 2) sc_first_bad.nd rfl (.inl rfl)) (pgs_cons (pg_name (i := 3) sc_first_bad.nd rfl (.inl rfl)) pgs_nil))) (pss_cons (ps_if (pt_not (pt_val (pe_meth (pv 0) T.cl_Wires T.m_Wires_can_do G_Wires_can_do (hr.mono (by decide)) T.b_Wires_can_do .nil pass0 (pa_cons (pv 3) pa_nil)))) (pss_one (ps_ret (pv 2))) pss_nil) (pss_one (ps_expr (pe_meth (pv 0) T.cl_Wires T.m_Wires_do G_Wires_do (hr.mono (by decide)) T.b_Wires_do .nil pass0 (pa_cons (pv 3) pa_nil)))))) (
    pss_one (ps_ret pe_non))), ?_⟩
  obtain ⟨a, xs, rfl, h1, h2, h3⟩ := sq_items (K := K) ht hu
  refine q_forW (J := JE K (isL t) a) (n := xs.length) (Gd := fun H => Sq (isL t) K H a xs) walk_E (evi_E (ea_cons (ev_var rfl) ea_nil) (ex_sq hF h1))
    (fun i σ1 H1 => ∃ st done o1 o2, σ1 = [some (.ref p), some (.ref a), o1, o2] ∧ Gw (Md das las dn) F H F H1 ∧ Pw K F H1 p wt dl bd gl dn das las ws m i st wrs wr done ∧ runSteps ws m wr wrs.length RS.start ((items t).take i) = some st)
    (fun H4 e4 => ⟨RS.start, [], _, _, rfl, (Gw.refl hF).ext e4, hP.ext e4, rfl⟩) (fun i σ1 H1 _ ⟨_, _, _, _, _, g, _⟩ => ex_sq g.le h1) (fun i x σ1 Hc Hd hi hp y => ?_) (fun σ1 H4 ⟨st, done, o1, o2, e, g, hPw, hrun⟩ => ?_)
  · obtain ⟨st, done, o1, o2, rfl, g, hPw, hrun⟩ := hp
    have ey := ypair_ex y
    obtain ⟨T0, x0, y0, rfl, y1, y2, y3, y4⟩ := y
    obtain ⟨t0, z1, z2⟩ := h3.at y4
    cases y3
    have gd := g.ext ey
    have hPd := hPw.ext ey
    refine ⟨T0, _, rfl, st_of (by rw [y2]; exact upd_same), rfl, _, _, rfl, _, _, rfl, rfl, ?_⟩
    show tSeq _ _ _ [some (.ref p), some (.ref a), some (.int (i : Int)), some y0] Hd
    obtain ⟨dx, hpp⟩ := hPd.o.hp
    refine q_when (b := !canDo wrs.length ws m wr st t0) (et_not (et_test (fun H5 e5 Q5 q5 => ⟨_, rfl, p, dx, _, rfl, e5 _ _ hpp, wF_n_can_do .., _, rfl, F, p, wt, dl, bd, gl, dn, das, las, ws, m, i, st, wrs, wr, done, t0, y0, rfl, gd.le.trans e5, z2, hPd.ext e5, fun H6 e6 => q5 H6 e6⟩))) (fun hb H5 e5 => ?_) (fun hb H5 e5 => ?_)
    · rw [Bool.not_eq_true'] at hb
      refine s_ret (ev_var rfl) fun H6 e6 => q2 H6 i (gd.ext (e5.trans e6)) (run_bad z1 hrun ?_)
      rw [run_one]
      unfold canDo at hb
      cases hs : stepOf wrs.length t0 with
      | none => rfl
      | some s =>
        rw [hs] at hb
        simpa using hb
    · rw [Bool.not_eq_false'] at hb
      unfold canDo at hb
      cases hs : stepOf wrs.length t0 with
      | none => rw [hs] at hb; cases hb
      | some s =>
        rw [hs] at hb
        obtain ⟨st', hst⟩ := Option.isSome_iff_exists.mp hb
        obtain ⟨sa, rfl, hsa, hk⟩ := stp_at hs z2
        have hP5 := hPd.ext e5
        exact ⟨_, rfl, p, dx, _, rfl, e5 _ _ hpp, wF_n_do .., _, rfl, F, p, wt, dl, bd, gl, dn, das, las, ws, m, i, st, wrs, wr, done, sa, s, st', rfl, gd.le.trans e5, hP5, by omega, hsa, hk, hst, fun H7 done' g7 hP7 => ⟨st', done', _, _, rfl, (gd.ext e5).trans g7, hP7, by rw [run_take z1 hrun, run_one, hs]; exact hst⟩⟩
  · subst e
    rw [← h3.len, List.take_length] at hrun
    exact q1 H4 st done _ h2 g hrun hPw
end
end GD

/-! ## The program's wires: the diaries behind a run -/
namespace GD
open PySem L2 Evl G SQ
theorem Gw.narrow {M : Addr → Prop} {F H H1 F' H' : Hp} (g : Gw M F H1 F' H') (e : Ex H H1) (h : ∀ a, M a → H a = none) : Gw Mn F H F' H' :=
  ⟨fun a o _ ha => g.up a o (fun z => by rw [h a z] at ha; cases ha) (e _ _ ha), fun a ha => g.dom a (fun z => by
    cases hx : H a with
    | none => exact ha hx
    | some o => rw [e _ _ hx] at z; cases z), g.fle, g.le, fun a ha => g.new a (fun z => by
    cases hx : H a with
    | none => exact ha hx
    | some o => rw [e _ _ hx] at z; cases z)⟩
theorem tupOf_K {X : Cx} {K : PySem.W.Frag} (h : X.K = K := by rfl) : CallR X (.type "tuple") (fun xs H Q => ∃ p ys, xs = [.ref p] ∧ ((SqL K H p ys ∧ ∀ l, H l = none → Q (.ref l) (upd H l (.tup ys))) ∨ (SqT K H p ys ∧ Q (.ref p) H))) := by subst h; exact call_tuple_of
theorem eg_tupL {K : PySem.W.Frag} {σ : L2.St} {F : Hp} {ta : TE} {da : Addr} {us : List V} {ts : List T} (h : Ev ta σ F (.ref da)) (hx : F da = some (.lst us)) (hr : Rps F ts us) (hz : us.length ≤ 60) : EvG (tCB (fun xs H Q => ∃ p ys, xs = [.ref p] ∧ ((SqL K H p ys ∧ ∀ l, H l = none → Q (.ref l) (upd H l (.tup ys))) ∨ (SqT K H p ys ∧ Q (.ref p) H))) (tCons ta tNil)) σ F fun F2 v => Rp F2 (.tup ts) v := fun F1 H1 e1 e2 Q q =>
  h H1 (e1.trans e2) _ fun H2 e3 => ⟨da, us, rfl, .inl ⟨sq_of ((e1.trans (e2.trans e3)) _ _ hx), fun p hp => q _ _ _ (((Gw.refl e2).ext e3).alloc hp) (.tup_i upd_same hz ((hr.mono e1 _ _).mono (Ex.new (fresh_back (e2.trans e3) hp)) _ _))⟩⟩
def diasT (m : Nat) (st : RS) : T := .lst ((List.range m).map fun i => .tup ((st.dia i).map T.int))
def spLeads (K : PySem.W.Frag) : Sp := fun vs H Q _ => ∃ F web wt m ws wrs wr t v, vs = [web, .ref wt, v] ∧ Ex F H ∧ Wb K F web (m : Nat) ws ∧ ws.Nodup ∧ (∀ w ∈ ws, Wok (m : Nat) w) ∧ ws.length ≤ 60 ∧ F wt = some (.tup (List.map V.int wrs)) ∧ wrs.length ≤ 60 ∧ (∀ k, k < wrs.length → wrs[k]? = some ((wr k : Nat) : Int) ∧ wr k < m) ∧ m ≤ 60 ∧ Rp F t v ∧ (isL t || isU t) = true ∧
  (∀ F' H' st done u, Ex H F' → Ex F' H' → runSteps ws m wr wrs.length RS.start (items t) = some st → Jn ws m wr st done → Rp F' (diasT m st) u → Q u H') ∧
  (∀ H', Ex H H' → runSteps ws m wr wrs.length RS.start (items t) = none → Q .non H')
section
variable {P : Program} {w : World} {K : PySem.W.Frag} {mg : Str → Option Value} {base : Heap}
theorem ok_is_steps (T : TX K mg) : FnOk P w K mg base CX0 2 (a_is_steps K) (fdOf K (a_is_steps K)) ["thing"] (sp1 fun t => isL t || isU t) := by
  have G_is_listed := ok_is_listed (P := P) (w := w) (base := base) T
  obtain ⟨t4, h_MOST_STEPS⟩ := T.i_MOST_STEPS
  refine T.f_is_steps.ok sc_is_steps (fun vs H Q E ⟨F, t, v, e, _⟩ => by rw [e]; rfl) (fun cdv A outer s H vs Q E hr ⟨F, t, v, e, hF, h, q⟩ => ?_)
  subst e
  refine ⟨_, PSs.nox (pss_one (ps_ret (pe_and (pe_call G_is_listed (hr.mono (by decide)) rfl T.g_is_listed T.f_is_listed.kp T.b_is_listed .nil pass0 (pa_cons (pv 0) pa_nil)) (pe_one (pe_cmpR op_le (pe_callB call_len_seq (by rfl) T.z_len PySem.boot_len (pa_cons (pv 0) pa_nil)) (pe_glob (v := .int 4000) rfl h_MOST_STEPS ⟨_, rfl⟩) (nomark _)))))), ?_⟩
  refine (ev_is (ev_andV (b := decide (((items t).length : Int) ≤ 4000)) (ev_call (ea_cons (ev_var rfl) ea_nil) (sv1 h)) fun hu => ev_op (ev_lenT (ev_var rfl) h hu) ev_c rv_I0) ?_) H hF _ q
  show V.bl _ = V.bl (isL t || isU t)
  cases hu : (isL t || isU t) with
  | false => rfl
  | true =>
    obtain ⟨a, xs, _, _, h2, h3⟩ := sq_items (K := K) h hu
    have := h3.len
    rw [Bool.true_and]
    exact congrArg V.bl (decide_eq_true (by omega))
theorem ok_leads_to (T : TX K mg) : FnOk P w K mg base CX0 6 (a_leads_to K) (fdOf K (a_leads_to K)) ["web", "writers", "steps"] (spLeads K) := by
  have G_first_bad := ok_first_bad (P := P) (w := w) (base := base) T
  have G_Wires_init := ok_Wires_init (P := P) (w := w) (base := base) T
  refine T.f_leads_to.ok sc_leads_to (fun vs H Q E ⟨F, web, wt, m, ws, wrs, wr, t, v, e, _⟩ => by rw [e]; rfl) (fun cdv A outer s H vs Q E hr ⟨F, web, wt, m, ws, wrs, wr, t, v, e, hF, hW, hnd, hok, hw60, hwt, hwl, hwr, hm, ht, hu, q1, q2⟩ => ?_)
  subst e
  refine ⟨_, PSs.nox (pss_cons (ps_asg (pe_make T.mk_Wires G_Wires_init (hr.mono (by decide)) rfl T.g_Wires T.b_Wires_init .nil pass0 (pa_cons (pv 0) (pa_cons (pv 1) pa_nil))) (pg_name (i := 3) sc_leads_to.nd rfl (.inl rfl))) (
    pss_cons (ps_if (pt_cmp (pc_notN (pe_call G_first_bad (hr.mono (by decide)) rfl T.g_first_bad T.f_first_bad.kp T.b_first_bad .nil pass0 (pa_cons (pv 3) (pa_cons (pv 2) pa_nil))))) (pss_one (ps_ret pe_non)) pss_nil) (
    pss_one (ps_ret (pe_lc (own := [("diary", 4)]) (g := (gName 4)) (tt := tYes) rfl sc_leads_to.nd (pi_sq (pe_fld (pv 3) rfl)) (blkOk_by (own := [("diary", 4)]) (N := N_leads_to) (sc := defScope s_leads_to) (by decide +kernel)) (fun _ _ _ _ _ => (pg_name (i := 4) sc_leads_to.nd rfl (.inl rfl))) (fun _ _ _ _ _ => pts_nil) (fun _ _ _ _ _ => (pe_callTy (tupOf_K (K := K)) (by rfl) T.z_tuple (by decide +kernel) (pa_cons (pv 4) pa_nil)))))))), ?_⟩
  refine nAsg ?_
  refine (show EvA _ [some web, some (.ref wt), some v, none, none] F [web, .ref wt] from ea_cons (ev_var rfl) (ea_cons (ev_var rfl) ea_nil)) H hF _ fun H1 e1 x dx hx hdx hne => ?_
  have hx2 : upd H1 dx (.own x) x = none := by rw [upd_ne hne.symm]; exact hx
  have eA : Ex H1 (upd (upd H1 dx (.own x)) x (.ins (He.ga K "Wires") dx [])) := (Ex.new hdx).trans (Ex.new hx2)
  have eB := e1.trans eA
  refine ⟨F, x, dx, web, wt, m, ws, wrs, rfl, hF.trans eB, upd_same, fresh_back (hF.trans e1) hx, hW, hnd, hwt, hm, fun F2 H2 dl bd gl dn das las g hdas hdn fdn fp hp hg hS hd => ⟨rfl, gN ?_⟩⟩
  try dsimp only
  show tSeq _ _ _ [some web, some (.ref wt), some v, some (.ref x), none] H2
  have gA : Gw Mn F H F2 H2 := g.narrow eB fun a z => by rw [z]; exact fresh_back e1 hx
  have hP : Pw K F2 H2 x wt dl bd gl dn das las ws m 0 RS.start wrs wr [] := ⟨⟨⟨dx, hp⟩, gA.fle _ _ hwt, hg⟩, hS, hd, Jn.start, fun a ha => (hdas a ha).2, fdn, hm, hw60, hwr, hwl, hok, Nat.le_refl 0⟩
  have hMn : ∀ a, Md das las dn a → H a = none := fun a z => by
    have : upd (upd H1 dx (.own x)) x (.ins (He.ga K "Wires") dx []) a = none := by
      rcases z with z | z
      · exact (hdas a z).1
      · rw [z]; exact hdn
    exact fresh_back eB this
  refine ⟨_, rfl, _, rfl, F2, x, wt, dl, bd, gl, dn, das, las, ws, m, wrs, wr, t, v, rfl, gA.le, hP, ht.mono gA.fle _ _, hu, fun H3 st done n hn g3 hrun hP3 => ⟨false, by simp, ?_⟩, fun H3 i g3 hrun => ⟨true, by simp, ?_⟩⟩
  · show (if (false : Bool) = true then _ else _)
    rw [if_neg Bool.false_ne_true]
    have gC : Gw Mn F H F2 H3 := by
      have := (gA.wide (M' := Md das las dn) fun a z => z.elim).trans g3
      exact this.narrow (Ex.refl H) hMn
    obtain ⟨dx3, hp3⟩ := hP3.o.hp
    have hcomp := en_lcN (F := H3) (σ := [some web, some (.ref wt), some v, some (.ref x), none]) (vs := [4]) (j := 4) (te := tCB (fun xs H Q => ∃ p ys, xs = [.ref p] ∧ ((SqL K H p ys ∧ ∀ l, H l = none → Q (.ref l) (upd H l (.tup ys))) ∨ (SqT K H p ys ∧ Q (.ref p) H))) (tCons (tVar 4) tNil)) (walk_sq (K := K) (k := true) (a := dl) (xs := das.map V.ref)) (evi_sq (K := K) (tl := tFld K (tVar 3) "diaries") (ev_fld (ev_var rfl) hp3 T.cl_Wires T.n_Wires_diaries (wF_diaries ..)) (sq_of hP3.s.hd)) (fun H e => ex_sq (k := true) e (sq_of hP3.s.hd)) (fun i H x H' _ y => by rw [y.1]; exact Ex.refl H) (fun _ => rfl) (by rw [List.length_map, hP3.s.dn]; omega) (fun i => GD.T.tup ((st.dia i).map GD.T.int)) (fun i y Ha Hb hi e yy => by
      obtain ⟨rfl, hy⟩ := yy
      rw [List.getElem?_map] at hy
      cases hda : das[i]? with
      | none => rw [hda] at hy; cases hy
      | some da =>
        rw [hda] at hy
        cases hy
        refine eg_tupL (ev_var rfl) (hP3.s.dia i da hda) (by rw [Rps.ints]) ?_
        rw [List.length_map]
        have := hP3.s.ld i (by rw [← hP3.s.dn]; exact (List.getElem?_eq_some_iff.mp hda).1)
        omega)
    refine nRet (hcomp H3 H3 (Ex.refl H3) (Ex.refl H3) _ fun D us F4 H4 g4 f4 hD0 hD hr4 => ?_)
    have g5 := g4.freeze hD0 hD f4
    have hlen : (das.map V.ref).length = m := by rw [List.length_map, hP3.s.dn]
    rw [hlen] at hr4
    refine q1 _ H4 st done (.ref D) (gC.ex.trans g5.fle) g5.le hrun hP3.j (.lst_i upd_same ?_ (hr4.mono (Ex.new f4) _ _))
    rw [← hr4.len, List.length_map, List.length_range]
    omega
  · show (if (true : Bool) = true then _ else _)
    rw [if_pos rfl]
    have gC : Gw Mn F H F2 H3 := by
      have := (gA.wide (M' := Md das las dn) fun a z => z.elim).trans g3
      exact this.narrow (Ex.refl H) hMn
    exact s_ret ev_c fun H4 e4 => q2 H4 (gC.ex.trans e4) hrun
end
end GD

/-! ## First sights, judged by the program -/
namespace GD
open PySem L2 Evl G SQ
section
variable {K : PySem.W.Frag} {σ : L2.St} {F H : Hp} {ta tb : TE} {v z : V}
theorem ev_isN (ha : Ev ta σ F v) : Ev (tIsN ta) σ F (.bl (decide (v = .non))) := fun H1 e _ q => ha H1 e _ fun H2 e2 => q H2 e2
theorem et_tB {b : Bool} {te : TE} (h : Ev te σ F (.bl b)) : EvT (tB te) σ F b := fun H1 e Q q => h H1 e _ fun H2 e2 => ⟨b, rfl, q H2 e2⟩
theorem ev_opSS {k k' : Bool} {xs ys : List V} {r : V → V → Hp → VK → Prop} (ha : EvS ta σ F k xs) (hb : EvS tb σ F k' ys) (hr : ∀ p q H1, H1 p = some (sqO k xs) → H1 q = some (sqO k' ys) → Ex F H1 → RV r (.ref p) (.ref q) H1 z) : Ev (tOp r ta tb) σ F z := fun H1 e Q q =>
  ha H1 H1 e (Ex.refl H1) _ fun a H2 e2 h2 _ => hb H2 H2 (e.trans e2) (Ex.refl H2) _ fun b H3 e3 h3 _ => hr a b H3 (e3 _ _ h2) h3 (e.trans (e2.trans e3)) H3 (Ex.refl H3) Q fun H4 e4 => q H4 (e2.trans (e3.trans e4))
end
theorem eqD_K {X : Cx} {K : PySem.W.Frag} (hu : X.A.units + 64 < cLine) (h : X.K = K := by rfl) : OpR X (compareOp .Eq) (rEqD K) := by subst h; exact op_eqD hu
def spIsFS (K : PySem.W.Frag) : Sp := fun vs H Q _ => ∃ F web v u t M ws ps, vs = [web, v, u] ∧ Ex F H ∧ Wb K F web (M : Nat) ws ∧ Prs F v ps ∧ Ps (M : Nat) ps ∧ WebOk (M : Nat) ws ∧ Rp F t u ∧ ∀ H', Ex H H' → Q (.bl (sightRight (M : Nat) ws ps t)) H'
theorem take1 (d : List Int) (i : Int) : (d.take 1 = [i]) ↔ d.head? = some i := by
  cases d with
  | nil => simp
  | cons u us => simp
theorem seen_jn {ws ps : List (Int × Int)} {M : Nat} {st : RS} {done : List Int} (j : Jn ws M (wrOf ps) st done) (hv : Ps (M : Nat) ps) : seen ps st = ((List.range ps.length).map fun k => decide ((st.dia (ps.getD k (0, 0)).2.toNat).take 1 = [((k : Nat) : Int)])).all id := by
  unfold seen
  rw [List.all_map, Bool.eq_iff_iff, List.all_eq_true, List.all_eq_true]
  refine ⟨fun h k hk => ?_, fun h k hk => ?_⟩
  · have := h k hk
    simp only [Bool.and_eq_true, decide_eq_true_eq] at this
    exact decide_eq_true ((take1 _ _).mpr this.2)
  · have h1 := (take1 _ _).mp (of_decide_eq_true (h k hk))
    have hkl := List.mem_range.mp hk
    have hg : ps.getD k (0, 0) = ps[k] := by rw [List.getD_eq_getElem?_getD, List.getElem?_eq_getElem hkl]; rfl
    have hw := hv.within _ (List.getElem_mem hkl)
    have hin : ((k : Nat) : Int) ∈ st.dia (ps.getD k (0, 0)).2.toNat := by
      rw [List.head?_eq_some_iff] at h1
      obtain ⟨tl, e⟩ := h1
      rw [e]
      simp
    have hd : ((k : Nat) : Int) ∈ done := (j.j1 _).mpr ⟨_, by rw [hg]; omega, hin⟩
    have h3 := (j.j3 _ hd).2
    simp only [Bool.and_eq_true, decide_eq_true_eq]
    refine ⟨?_, h1⟩
    unfold wrOf at h3
    exact h3
theorem wrOf_at {ps : List (Int × Int)} {M : Nat} (hv : Ps (M : Nat) ps) : ∀ k, k < ps.length → (ps.map (·.1))[k]? = some ((wrOf ps k : Nat) : Int) ∧ wrOf ps k < M := fun k hk => by
  have hpk := List.getElem?_eq_getElem hk
  have hpv := hv.within _ (List.getElem_mem hk)
  have e : wrOf ps k = ps[k].1.toNat := by
    unfold wrOf
    rw [List.getD_eq_getElem?_getD, hpk]
    rfl
  rw [e]
  refine ⟨?_, by omega⟩
  rw [List.getElem?_map, hpk]
  show some ps[k].1 = _
  congr 1
  omega
section
variable {P : Program} {w : World} {K : PySem.W.Frag} {mg : Str → Option Value} {base : Heap}
theorem ok_is_first_sights (T : TX K mg) : FnOk P w K mg base CX0 7 (a_is_first_sights K) (fdOf K (a_is_first_sights K)) ["web", "sights", "thing"] (spIsFS K) := by
  have G_check_sights := ok_check_sights (P := P) (w := w) (base := base) T
  have G_is_steps := ok_is_steps (P := P) (w := w) (base := base) T
  have G_leads_to := ok_leads_to (P := P) (w := w) (base := base) T
  refine T.f_is_first_sights.ok sc_is_first_sights (fun vs H Q E ⟨F, web, v, u, t, M, ws, ps, e, _⟩ => by rw [e]; rfl) (fun cdv A outer s H vs Q E hr ⟨F, web, v, u, t, M, ws, ps, e, hF, hW, hP, hv, hok, h, q⟩ => ?_)
  subst e
  refine ⟨_, PSs.nox (pss_cons (ps_expr (pe_call G_check_sights (hr.mono (by decide)) rfl T.g_check_sights T.f_check_sights.kp T.b_check_sights .nil pass0 (pa_cons (pv 0) (pa_cons (pv 1) pa_nil)))) (
    pss_cons (ps_if (pt_not (pt_val (pe_call G_is_steps (hr.mono (by decide)) rfl T.g_is_steps T.f_is_steps.kp T.b_is_steps .nil pass0 (pa_cons (pv 2) pa_nil)))) (pss_one (ps_ret pe_bl)) pss_nil) (
    pss_cons (ps_asg (pe_call G_leads_to (hr.mono (by decide)) rfl T.g_leads_to T.f_leads_to.kp T.b_leads_to .nil pass0 (pa_cons (pv 0) (pa_cons (pe_callTy call_tuple_of (by rfl) T.z_tuple (by decide +kernel) (pa_cons (pe_lc (own := [("writer", 4), ("seer", 5)]) (g := (gTup _ 2 (gCons (gName 4) (gCons (gName 5) gNil)))) (tt := tYes) rfl sc_is_first_sights.nd (pi_sq (pv 1)) (blkOk_by (own := [("writer", 4), ("seer", 5)]) (N := N_is_first_sights) (sc := defScope s_is_first_sights) (by decide +kernel)) (fun _ _ _ _ _ => (pg_tup rfl (pgs_cons (pg_name (i := 4) sc_is_first_sights.nd rfl (.inl rfl)) (pgs_cons (pg_name (i := 5) sc_is_first_sights.nd rfl (.inl rfl)) pgs_nil)))) (fun _ _ _ _ _ => pts_nil) (fun _ _ _ _ _ => (pv 4))) pa_nil)) (pa_cons (pv 2) pa_nil)))) (pg_name (i := 3) sc_is_first_sights.nd rfl (.inr rfl))) (
    pss_cons (ps_if (pt_cmp (pc_isN (pv 3))) (pss_one (ps_ret pe_bl)) pss_nil) (
    pss_one (ps_ret (pe_callB (cr_all rfl) (by rfl) T.z_all (by decide +kernel) (pa_cons (pe_lc (own := [("put", 6), ("pair", 7)]) (g := (gTup _ 2 (gCons (gName 6) (gCons (gName 7) gNil)))) (tt := tYes) rfl sc_is_first_sights.nd (pi_E rfl T.z_enumerate (pa_cons (pv 1) pa_nil)) (blkOk_by (own := [("put", 6), ("pair", 7)]) (N := N_is_first_sights) (sc := defScope s_is_first_sights) (by decide +kernel)) (fun _ _ _ _ _ => (pg_tup rfl (pgs_cons (pg_name (i := 6) sc_is_first_sights.nd rfl (.inl rfl)) (pgs_cons (pg_name (i := 7) sc_is_first_sights.nd rfl (.inl rfl)) pgs_nil)))) (fun _ _ _ _ _ => pts_nil) (fun _ _ _ _ _ => (pe_cmpR (eqD_K (K := K) hr.units) (pe_slice (slA_K (K := K)) (pe_ix (ixL_K (K := K)) (pv 3) (pe_ix (ixT_K (K := K)) (pv 7) pe_int (fun _ _ => rfl)) (fun _ _ => rfl)) po_none (po_some pe_int)) (pe_tup (pa_cons (pv 6) pa_nil)) (nomark _)))) pa_nil)))))))), ?_⟩
  refine q_drop (Ev.mono hF (ev_call (ea_cons (ev_var rfl) (ea_cons (ev_var rfl) ea_nil)) (svSights hW hP hv))) fun H1 e1 => ?_
  obtain ⟨kp, pa, pxs, rfl, p1, p2, p3, pl⟩ := hP.sq (K := K)
  have hF1 := hF.trans e1
  have hM : (((M : Nat) : Int)).toNat = M := by omega
  refine q_when (b := !(isL t || isU t)) (EvT.mono hF1 (et_not (et_test (ev_call (ea_cons (ev_var rfl) ea_nil) (sv1 (f := fun t => isL t || isU t) h))))) (fun hc H2 e2 => ?_) (fun hc H2 e2 => ?_)
  · refine s_ret ev_c fun H3 e3 => ?_
    have := q H3 (e1.trans (e2.trans e3))
    rw [Bool.not_eq_true'] at hc
    unfold sightRight at this
    rw [hc] at this
    exact this
  rw [Bool.not_eq_false'] at hc
  have hF2 := hF1.trans e2
  have hL : EvL _ [some web, some (.ref pa), some u, none, none, none, none, none] H2 (fm pxs.length fun i => (ps[i]?).bind fun p => some (V.int p.1)) := el_lcP (K := K) (σ := [some web, some (.ref pa), some u, none, none, none, none, none]) (vs := [4, 5]) (j1 := 4) (j2 := 5) (tt := tYes) (te := tVar 4) (walk_sq (K := K) (k := kp) (a := pa) (xs := pxs)) (evi_sq (K := K) (tl := tVar 1) (ev_var rfl) (ex_sq hF2 p1)) (fun H e => ex_sq e (ex_sq hF2 p1)) (fun i H x H' _ y => by rw [y.1]; exact Ex.refl H) (fun _ _ => rfl) (by omega) _ fun i x Ha Hb hi e y => by
    obtain ⟨rfl, hy⟩ := y
    obtain ⟨p, b, g1, rfl, g2⟩ := rps_pT p3 hy
    rw [g1]
    exact ⟨b, _, _, rfl, st_of ((hF2.trans e) _ _ g2), et_yes, fun z hz => (by obtain rfl := Option.some.inj hz; exact ev_var rfl)⟩
  have hfm : (fm pxs.length fun i => (ps[i]?).bind fun p => some (V.int p.1)) = (ps.map (·.1)).map V.int := by
    rw [pl, fm_list, List.map_map, List.filterMap_eq_map']
    rfl
  rw [hfm] at hL
  have wtl := wrOf_at hv
  refine nAsg (nCall (nCons (nVar rfl (nCons (nCB (nCons (hL H2 (Ex.refl H2) _ fun D H3 _ e3 hD => ⟨D, _, rfl, .inl ⟨sq_of hD, fun wt hwt => nCons (nVar rfl ?_)⟩⟩)))))))
  have e4 : Ex H3 (upd H3 wt (.tup ((ps.map (·.1)).map V.int))) := Ex.new hwt
  have hwt4 := upd_same (H := H3) (a := wt) (o := .tup ((ps.map (·.1)).map V.int))
  generalize upd H3 wt (.tup ((ps.map (·.1)).map V.int)) = H4 at *
  have e24 := e3.trans e4
  have hF4 := hF2.trans e24
  have hW4 := hW.mono hF4
  have w60 : ws.length ≤ 60 := by
    obtain ⟨_, _, _, xs, _, _, _, z1, z2⟩ := hW
    have := z2.len
    rw [List.length_map] at this
    omega
  have wl : (ps.map (·.1)).length = ps.length := List.length_map ..
  refine ⟨H4, web, wt, M, ws, ps.map (·.1), wrOf ps, t, u, rfl, Ex.refl H4, hW4, plt_nd hok, hok.wok, w60, hwt4, by have := hv.hi; omega, by rw [wl]; exact wtl, by have := hok.hi; omega, h.mono hF4 _ _, hc, fun F5 H5 st done uu e5 e6 hrun hj hr5 => gN ?_, fun H5 e5 hrun => gN ?_⟩
  · rw [wl] at hrun
    try dsimp only
    show tSeq _ _ _ [some web, some (.ref pa), some u, some uu, none, none, none, none] H5
    obtain ⟨D5, us, rfl, k1, k2, k3⟩ := hr5
    have hl5 := k3.len
    rw [List.length_map, List.length_range] at hl5
    refine q_when (b := false) (et_is (et_tB (ev_isN (ev_var rfl))) rfl) (fun hb => by cases hb) (fun _ H6 e7 => ?_)
    have e56 := e6.trans e7
    have hF6 : Ex F H6 := hF4.trans (e5.trans e56)
    have hall := ev_all (K := K) (bs := (List.range ps.length).map fun k => decide ((st.dia (ps.getD k (0, 0)).2.toNat).take 1 = [((k : Nat) : Int)])) (σ := [some web, some (.ref pa), some u, some (.ref D5), none, none, none, none]) (F := H6)
        (tl := tLc (iE K (tCons (tVar 1) tNil)) (gTup K 2 (gCons (gName 6) (gCons (gName 7) gNil))) tYes (tOp (rEqD K) (tSl (rSlA K) (tOp (rIxL K) (tVar 3) (tOp (rIxT K) (tVar 7) (tC (.int 1)))) tNoPart (tPart (tC (.int 1)))) (tTup (tCons (tVar 6) tNil))) [6, 7]) (by
      rw [← fm_bools, ← pl]
      refine el_lcP (J := JE K kp pa) (G := fun H => Sq kp K H pa pxs) walk_E (evi_E (ea_cons (ev_var rfl) ea_nil) (ex_sq hF6 p1)) (fun H e => ex_sq e (ex_sq hF6 p1)) (fun i H x H' _ y => ypair_ex y) (fun _ _ => rfl) (by omega) _ fun i x Ha Hb hi e y => ?_
      have ey := ypair_ex y
      obtain ⟨T0, x0, y0, rfl, y1, y2, y3, y4⟩ := y
      obtain ⟨pp, ab, g1, rfl, g2⟩ := rps_pT p3 y4
      cases y3
      refine ⟨T0, _, _, rfl, st_of (by rw [y2]; exact upd_same), et_yes, fun z hz => ?_⟩
      obtain rfl := Option.some.inj hz
      have hg : ps.getD i (0, 0) = pp := by rw [List.getD_eq_getElem?_getD, g1]; rfl
      have hpv := hv.within pp (List.mem_of_getElem? g1)
      rw [hg]
      have hz5 : pp.2.toNat < us.length := by rw [← hl5]; omega
      obtain ⟨tt, z1, z2⟩ := k3.at (List.getElem?_eq_getElem hz5)
      rw [List.getElem?_map, List.getElem?_range (by omega)] at z1
      obtain rfl := Option.some.inj z1
      obtain ⟨db, hdb1, hdb2, _⟩ := iT_at (q := st.dia pp.2.toNat) z2
      have hat : atI us pp.2 = some (.ref db) := by
        have := atI_nat (List.getElem?_eq_getElem hz5)
        rw [show ((pp.2.toNat : Nat) : Int) = pp.2 by omega, hdb1] at this
        exact this
      have e6b : Ex F5 Hb := e56.trans (e.trans ey)
      have hsl := es_slA (K := K) (te := tOp (rIxL K) (tVar 3) (tOp (rIxT K) (tVar 7) (tC (.int 1)))) (σ := [some web, some (.ref pa), some u, some (.ref D5), none, none, some (.int (i : Int)), some (.ref ab)]) (F := Hb) (ev_op (ev_var rfl) (ev_op (ev_var rfl) ev_c (rv_ixT (st_of ((hF6.trans (e.trans ey)) _ _ g2)) at1)) (rv_ixL (sq_of (e6b _ _ k1)) hat)) eo_none (eo_some (ev_c (v := .int 1))) (e6b _ _ hdb2)
      rw [show cutV ((st.dia pp.2.toNat).map V.int) none (some 1) = ((st.dia pp.2.toNat).map V.int).take 1 from cut_to _ 1, ← List.map_take] at hsl
      exact ev_opSS hsl (es_tup (us := [(i : Int)].map V.int) (ea_cons (ev_var rfl) ea_nil) (by show 1 ≤ 60; decide)) fun p q H1 hp hq _ => rv_eqT (st_of hp) (st_of hq))
    rw [← seen_jn hj hv] at hall
    refine s_ret hall fun H7 e8 => ?_
    have := q H7 (e1.trans (e2.trans (e24.trans (e5.trans (e56.trans e8)))))
    unfold sightRight at this
    rw [hM, hrun, hc] at this
    exact this
  · rw [wl] at hrun
    try dsimp only
    show tSeq _ _ _ [some web, some (.ref pa), some u, some .non, none, none, none, none] H5
    refine q_when (b := true) (et_is (et_tB (ev_isN (ev_var rfl))) rfl) (fun _ H6 e7 => ?_) (fun hb => by cases hb)
    refine s_ret ev_c fun H7 e8 => ?_
    have := q H7 (e1.trans (e2.trans (e24.trans (e5.trans (e7.trans e8)))))
    unfold sightRight at this
    rw [hM, hrun, hc] at this
    exact this
end
end GD

/-! ## The run of the first sights: right -/
namespace GD
open PySem L2
theorem comes_cons (a b : Int) (r : List Int) : comes (a :: b :: r) = comeT a b :: comes (b :: r) := by
  unfold comes
  simp only [List.length_cons, Nat.add_sub_cancel]
  rw [List.range_succ_eq_map, List.map_cons, List.map_map]
  rfl
theorem toNat_ne {x y : Int} (hx : 0 ≤ x) (hy : 0 ≤ y) (h : x ≠ y) : x.toNat ≠ y.toNat := by omega
theorem run_way {ws : List (Int × Int)} {m n : Nat} {wr : Nat → Nat} (i : Int) : ∀ (r : List Int) (a : Int) (st : RS), (∀ x ∈ a :: r, 0 ≤ x) → (a :: r).Nodup → chainIn ws (a :: r) = true → (∀ z, (a, z) ∈ ws → st.box (a, z) = [i]) → (∀ x ∈ r, st.dia x.toNat = []) → (∀ y ∈ r, ∀ z, st.box (y, z) = []) →
    ∃ st', runSteps ws m wr n st (comes (a :: r)) = some st' ∧ (∀ x ∈ r, st'.dia x.toNat = [i]) ∧ (∀ x : Nat, (∀ y ∈ r, y.toNat ≠ x) → st'.dia x = st.dia x) ∧ (∀ y z, y ∉ a :: r → st'.box (y, z) = st.box (y, z))
  | [], a, st, _, _, _, _, _, _ => ⟨st, rfl, fun x hx => (by cases hx), fun _ _ => rfl, fun _ _ _ => rfl⟩
  | b :: r, a, st, h0, hnd, hch, hbx, hd, hb => by
    have ha := h0 a (by simp)
    have hb0 := h0 b (by simp)
    rw [List.nodup_cons] at hnd
    obtain ⟨hab, hnd2⟩ := hnd
    have nab : a ≠ b := fun z => hab (by rw [z]; simp)
    have hnb := (List.nodup_cons.mp hnd2).1
    have hch' : (decide ((a, b) ∈ ws) && chainIn ws (b :: r)) = true := hch
    rw [Bool.and_eq_true, decide_eq_true_eq] at hch'
    obtain ⟨hin, hch2⟩ := hch'
    have hbn : ((b.toNat : Nat) : Int) = b := by omega
    have e1 := hbx b hin
    have hstep : st.step ws m wr (.come a b) = some ((st.pop (a, b)).write ws b.toNat i) := by
      rw [step_come, if_pos ⟨hin, by rw [e1]; simp⟩, e1]
      show some (if i ∈ st.dia b.toNat then st.pop (a, b) else (st.pop (a, b)).write ws b.toNat i) = _
      rw [hd b (by simp), if_neg (by simp)]
    have hdia : ∀ x : Nat, ((st.pop (a, b)).write ws b.toNat i).dia x = if x = b.toNat then st.dia x ++ [i] else st.dia x := fun x => rfl
    have hbox : ∀ y z : Int, y ≠ a → ((st.pop (a, b)).write ws b.toNat i).box (y, z) = if y = b ∧ (y, z) ∈ ws then st.box (y, z) ++ [i] else st.box (y, z) := fun y z hy => by
      unfold RS.write RS.pop
      have : ¬ ((y, z) = (a, b)) := fun e => hy (congrArg Prod.fst e)
      simp only [this, if_false, hbn]
    obtain ⟨st', k1, k2, k3, k4⟩ := run_way i r b ((st.pop (a, b)).write ws b.toNat i) (fun x hx => h0 x (List.mem_cons_of_mem _ hx)) hnd2 hch2 (fun z hz => by
      rw [hbox b z nab.symm, if_pos ⟨rfl, hz⟩, hb b (by simp) z]
      rfl) (fun x hx => by
      rw [hdia, if_neg (toNat_ne (h0 x (by simp [hx])) hb0 (fun z => hnb (by rw [← z]; exact hx)))]
      exact hd x (by simp [hx])) (fun y hy z => by
      rw [hbox y z (fun e => hab (by rw [← e]; simp [hy])), if_neg (fun e => hnb (by rw [← e.1]; exact hy))]
      exact hb y (by simp [hy]) z)
    refine ⟨st', ?_, fun x hx => ?_, fun x hx => ?_, fun y z hy => ?_⟩
    · rw [comes_cons, run_cons]
      have : stepOf n (comeT a b) = some (.come a b) := by simp [stepOf, comeT]
      rw [this]
      simp only [hstep]
      exact k1
    · rcases List.mem_cons.mp hx with z | z
      · subst z
        rw [k3 _ (fun y hy => toNat_ne (h0 y (by simp [hy])) hb0 (fun e => hnb (by rw [← e]; exact hy))), hdia, if_pos rfl, hd x (by simp)]
        rfl
      · exact k2 x z
    · rw [k3 x (fun y hy => hx y (by simp [hy])), hdia, if_neg (fun e => hx b (by simp) e.symm)]
    · rw [k4 y z (fun e => hy (List.mem_cons_of_mem _ e)), hbox y z (fun e => hy (by rw [e]; simp)), if_neg (fun e => hy (by rw [e.1]; simp))]
theorem AW.at {ws : List (Int × Int)} : ∀ {ps : List (Int × Int)} {tk : List Int} {ways : List (List Int)} {i : Nat} {p : Int × Int}, AW ws tk ps ways → ps[i]? = some p → ∃ w, ways[i]? = some w ∧ Full ws (tk ++ (ways.take i).flatten) p.1 p.2 w
  | [], _, _, i, _, _, h => by cases i <;> cases h
  | q :: ps, tk, _, 0, p, ⟨w, r, e, f, k⟩, h => by
    cases h
    subst e
    exact ⟨w, rfl, by simpa using f⟩
  | q :: ps, tk, _, i + 1, p, ⟨w, r, e, f, k⟩, h => by
    subst e
    obtain ⟨w', h1, h2⟩ := AW.at k (i := i) (p := p) h
    refine ⟨w', h1, ?_⟩
    rw [List.take_succ_cons, List.flatten_cons, ← List.append_assoc]
    exact h2
theorem run_all {ws ps : List (Int × Int)} {M : Nat} {ways : List (List Int)} (hA : AW ws [] ps ways) (h0 : ∀ x ∈ ways.flatten, 0 ≤ x) (hM : ∀ x ∈ ways.flatten, x < (M : Int)) : ∀ i, i ≤ ps.length → ∃ st, runSteps ws M (wrOf ps) ps.length RS.start (runTo ways i) = some st ∧
    (∀ x : Int, 0 ≤ x → x ∉ (ways.take i).flatten → st.dia x.toNat = []) ∧ (∀ y z, y ∉ (ways.take i).flatten → st.box (y, z) = []) ∧ (∀ j < i, ∀ w, ways[j]? = some w → ∀ x ∈ w, st.dia x.toNat = [((j : Nat) : Int)]) ∧ (∀ x k, k ∈ st.dia x → k < ((i : Nat) : Int))
  | 0, _ => ⟨RS.start, rfl, fun _ _ _ => rfl, fun _ _ _ => rfl, fun j hj => absurd hj (Nat.not_lt_zero _), fun x k hk => by cases hk⟩
  | i + 1, hi => by
    obtain ⟨st, r1, r2, r3, r4, r5⟩ := run_all hA h0 hM i (by omega)
    have hp := List.getElem?_eq_getElem (show i < ps.length by omega)
    generalize ps[i] = p at hp
    obtain ⟨w, hw, f⟩ := hA.at hp
    rw [List.nil_append] at f
    have hwm := List.mem_of_getElem? hw
    have hwf : ∀ x ∈ w, x ∈ ways.flatten := fun x hx => List.mem_flatten.mpr ⟨w, hwm, hx⟩
    have htk : (ways.take (i + 1)).flatten = (ways.take i).flatten ++ w := by
      rw [List.take_add_one, hw, List.flatten_append]
      simp
    cases hwc : w with
    | nil => rw [hwc] at f; cases f.1.1
    | cons a r =>
      have hap : a = p.1 := by
        have := f.1.1
        rw [hwc] at this
        exact Option.some.inj this
      have ha0 : 0 ≤ a := h0 a (hwf a (by rw [hwc]; simp))
      have haM := hM a (hwf a (by rw [hwc]; simp))
      have hnd : (a :: r).Nodup := by rw [← hwc]; exact f.1.2.1
      have hnt : ∀ x ∈ a :: r, x ∉ (ways.take i).flatten := by rw [← hwc]; exact f.1.2.2.1
      have hch : chainIn ws (a :: r) = true := by rw [← hwc]; exact f.1.2.2.2
      have h0w : ∀ x ∈ a :: r, 0 ≤ x := fun x hx => h0 x (hwf x (by rw [hwc]; exact hx))
      have har := (List.nodup_cons.mp hnd).1
      have hwr : wrOf ps i = a.toNat := by
        unfold wrOf
        rw [List.getD_eq_getElem?_getD, hp, hap]
        rfl
      have han : ((a.toNat : Nat) : Int) = a := by omega
      have hstep : st.step ws M (wrOf ps) (.put i) = some (st.write ws a.toNat (i : Nat)) := by
        rw [step_put, hwr, if_neg]
        intro z
        rw [List.any_eq_true] at z
        obtain ⟨b, hb, hb2⟩ := z
        obtain ⟨x, hx, rfl⟩ := List.mem_map.mp hb
        have := r5 x _ (of_decide_eq_true hb2)
        omega
      have hdia : ∀ x : Nat, (st.write ws a.toNat (i : Nat)).dia x = if x = a.toNat then st.dia x ++ [(i : Int)] else st.dia x := fun x => rfl
      have hbox : ∀ y z : Int, (st.write ws a.toNat (i : Nat)).box (y, z) = if y = a ∧ (y, z) ∈ ws then st.box (y, z) ++ [(i : Int)] else st.box (y, z) := fun y z => by
        unfold RS.write
        simp only [han]
      obtain ⟨st', k1, k2, k3, k4⟩ := run_way (ws := ws) (m := M) (n := ps.length) (wr := wrOf ps) (i : Int) r a (st.write ws a.toNat (i : Nat)) h0w hnd hch (fun z hz => by
        rw [hbox, if_pos ⟨rfl, hz⟩, r3 a z (hnt a (by simp))]
        rfl) (fun x hx => by
        rw [hdia, if_neg (toNat_ne (h0w x (by simp [hx])) ha0 (fun e => har (by rw [← e]; exact hx)))]
        exact r2 x (h0w x (by simp [hx])) (hnt x (by simp [hx]))) (fun y hy z => by
        rw [hbox, if_neg (fun e => har (by rw [← e.1]; exact hy))]
        exact r3 y z (hnt y (by simp [hy])))
      have hgd : ways.getD i [] = a :: r := by rw [List.getD_eq_getElem?_getD, hw, hwc]; rfl
      have hda : st'.dia a.toNat = [(i : Int)] := by
        rw [k3 _ (fun y hy => toNat_ne (h0w y (by simp [hy])) ha0 (fun e => har (by rw [← e]; exact hy))), hdia, if_pos rfl, r2 a ha0 (hnt a (by simp))]
        rfl
      have hout : ∀ x : Nat, (∀ y ∈ a :: r, y.toNat ≠ x) → st'.dia x = st.dia x := fun x hx => by
        rw [k3 x (fun y hy => hx y (by simp [hy])), hdia, if_neg (fun e => hx a (by simp) e.symm)]
      refine ⟨st', ?_, fun x hx hn => ?_, fun y z hy => ?_, fun j hj w' hw' x hx => ?_, fun x k hk => ?_⟩
      · rw [runTo_succ, run_app, r1]
        simp only
        rw [run_cons, hgd]
        have : stepOf ps.length (putT (i : Nat)) = some (.put i) := by
          unfold stepOf putT
          have : (0 : Int) ≤ (i : Int) ∧ (i : Int) < (ps.length : Int) := by omega
          simp [this]
        rw [this]
        simp only [hstep]
        exact k1
      · rw [htk, hwc] at hn
        rw [hout _ (fun y hy => toNat_ne (h0w y hy) hx (fun e => hn (List.mem_append_right _ (by rw [← e]; exact hy))))]
        exact r2 x hx fun z => hn (List.mem_append_left _ z)
      · rw [htk, hwc] at hy
        rw [k4 y z (fun e => hy (List.mem_append_right _ e)), hbox, if_neg (fun e => hy (List.mem_append_right _ (by rw [e.1]; simp)))]
        exact r3 y z fun e => hy (List.mem_append_left _ e)
      · by_cases hji : j = i
        · subst hji
          rw [hw] at hw'
          cases hw'
          rw [hwc] at hx
          rcases List.mem_cons.mp hx with e | e
          · rw [e]; exact hda
          · exact k2 x e
        · have hjl : j < i := by omega
          have hxt : x ∈ (ways.take i).flatten := List.mem_flatten.mpr ⟨w', List.mem_of_getElem? (by rw [List.getElem?_take, if_pos hjl]; exact hw'), hx⟩
          have hx0 : 0 ≤ x := h0 x (List.mem_flatten.mpr ⟨w', List.mem_of_getElem? hw', hx⟩)
          rw [hout _ (fun y hy => toNat_ne (h0w y hy) hx0 (fun e => hnt y hy (by rw [e]; exact hxt)))]
          exact r4 j hjl w' hw' x hx
      · by_cases hex : ∃ y ∈ a :: r, y.toNat = x
        · obtain ⟨y, hy, e⟩ := hex
          subst e
          rcases List.mem_cons.mp hy with z | z
          · rw [z, hda, List.mem_singleton] at hk; omega
          · rw [k2 y z, List.mem_singleton] at hk; omega
        · rw [hout x fun y hy e => hex ⟨y, hy, e⟩] at hk
          have := r5 x k hk
          omega
theorem first_right {ws ps : List (Int × Int)} {M : Nat} {ways : List (List Int)} (hok : WebOk (M : Nat) ws) (hv : Ps (M : Nat) ps) (hA : AW ws [] ps ways) : sightRight (M : Nat) ws ps (.lst (runTo ways ways.length)) = true := by
  have hrow := AW.row hok.wok (tk := []) ⟨.nil, fun x hx => by cases hx⟩ (fun p hp => by have := hv.within p hp; omega) hA
  rw [List.nil_append] at hrow
  obtain ⟨st, r1, _, _, r4, _⟩ := run_all hA (fun x hx => (hrow.2 x hx).1) (fun x hx => (hrow.2 x hx).2) ps.length (Nat.le_refl _)
  unfold sightRight
  have hM : (((M : Nat) : Int)).toNat = M := by omega
  rw [hA.len, hM]
  show (true && match runSteps ws M (wrOf ps) ps.length RS.start (runTo ways ps.length) with
    | none => false
    | some st => seen ps st) = true
  rw [r1]
  show seen ps st = true
  unfold seen
  rw [List.all_eq_true]
  intro k hk
  have hkl := List.mem_range.mp hk
  have hp := List.getElem?_eq_getElem hkl
  obtain ⟨w, hw, f⟩ := hA.at hp
  have hg : ps.getD k (0, 0) = ps[k] := by rw [List.getD_eq_getElem?_getD, hp]; rfl
  rw [hg]
  have h1 : ps[k].1 ∈ w := List.mem_of_mem_head? (by rw [f.1.1]; rfl)
  have h2 : ps[k].2 ∈ w := List.mem_of_mem_getLast? (by rw [f.2]; rfl)
  rw [r4 k hkl w hw _ h1, r4 k hkl w hw _ h2]
  simp
end GD

/-! ## Webs made; flags; ways apart are right -/
namespace GD
open PySem L2 Evl G SQ
theorem units0 {k : Nat} {A : Around} (hr : Room k A) : A.units < cLine := by have := hr.un; omega
theorem nums_int (ns : List Int) : nums (ns.map GD.T.int) = ns := by
  induction ns with
  | nil => rfl
  | cons a b ih => rw [List.map_cons]; unfold nums; rw [ih]
theorem flatW_rows (ways : List (List Int)) : flatW (ways.map iT) = ways.flatten := by
  induction ways with
  | nil => rfl
  | cons a b ih =>
    unfold flatW at *
    rw [List.map_cons, List.flatMap_cons, ih, List.flatten_cons]
    congr 1
    exact nums_int a
theorem ways_right {ws ps : List (Int × Int)} {m : Int} {ways : List (List Int)} (hok : WebOk m ws) (hv : Ps m ps) (hA : AW ws [] ps ways) : waysRight m ws ps (wysT ways) = true := by
  have hrow := AW.row hok.wok (tk := []) ⟨.nil, fun x hx => by cases hx⟩ (fun p hp => by have := hv.within p hp; omega) hA
  rw [List.nil_append] at hrow
  unfold waysRight
  simp only [Bool.and_eq_true, decide_eq_true_eq]
  refine ⟨rfl, ?_, ?_, ?_⟩
  · show (ways.map iT).length = _
    rw [List.length_map, hA.len]
  · rw [List.all_eq_true]
    rintro ⟨p, t⟩ hpt
    obtain ⟨i, hi⟩ := List.mem_iff_getElem?.mp hpt
    obtain ⟨h1, h2⟩ := List.getElem?_zip_eq_some.mp hi
    obtain ⟨w, hw, f⟩ := hA.at h1
    have h2' : (ways.map iT)[i]? = some t := h2
    rw [List.getElem?_map, hw] at h2'
    obtain rfl := Option.some.inj h2'
    have hin : ∀ x ∈ w, 0 ≤ x ∧ x < m := fun x hx => hrow.2 x (List.mem_flatten.mpr ⟨w, List.mem_of_getElem? hw, hx⟩)
    unfold lawWay
    simp only [Bool.and_eq_true, Bool.not_eq_true', decide_eq_false_iff_not]
    refine ⟨rfl, ?_, ?_, ?_, ?_⟩
    · rw [List.all_eq_true]
      intro x hx
      obtain ⟨a, ha, rfl⟩ := List.mem_map.mp (show x ∈ w.map GD.T.int from hx)
      have := hin a ha
      unfold within
      simp
      omega
    · show ¬ (w.map GD.T.int).length = 0
      rw [List.length_map]
      intro z
      rw [List.length_eq_zero_iff] at z
      rw [z] at f
      cases f.1.1
    · show endsAt p (nums (w.map GD.T.int)) = true
      rw [nums_int]
      exact decide_eq_true ⟨f.1.1, f.2⟩
    · show chainIn ws (nums (w.map GD.T.int)) = true
      rw [nums_int]
      exact f.1.2.2.2
  · show (flatW (ways.map iT)).Nodup
    rw [flatW_rows]
    exact hrow.1
def spFlag : Sp := fun vs H Q _ => ∃ a b, vs = [.bl a, .bl b] ∧ ∀ H', Ex H H' → Q (.bl (decide (a = b))) H'
def spKeep (K : PySem.W.Frag) : Sp := fun vs H Q _ => ∃ p dx m wa, vs = [.ref p, .int m, .ref wa] ∧ H p = some (.ins (He.ga K "Web") dx []) ∧
  ∀ H', H' = upd (upd H p (.ins (He.ga K "Web") dx (putF "machines" (.int m) []))) p (.ins (He.ga K "Web") dx (webF m wa)) → Q .non H'
def spWebI (K : PySem.W.Frag) : Sp := fun vs H Q _ => ∃ F p dx m wa ws, vs = [.ref p, .int m, .ref wa] ∧ Ex F H ∧ F p = none ∧ H p = some (.ins (He.ga K "Web") dx []) ∧ Rp F (.tup (List.map pT ws)) (.ref wa) ∧ WebOk m ws ∧
  ∀ H', Gw (fun a => a = p) F H F H' → H' p = some (.ins (He.ga K "Web") dx (webF m wa)) → Q .non H'
theorem wp_ok {m : Int} {w : Int × Int} (h : Wok m w) : isWP m (pT w) = true := by
  unfold Wok at h
  unfold isWP isPair pT
  simp [isU, items, within, nums]
  omega
theorem plt_lex {p q : Int × Int} (h : plt p q) : HT.lexLt [p.1, p.2] [q.1, q.2] = true := by
  unfold plt at h
  rw [HT.lexLt_cons, HT.lexLt_cons]
  rcases h with h | ⟨h1, h2⟩
  · rw [if_neg (by omega)]; simpa using h
  · rw [if_pos h1, if_neg (by omega)]; simpa using h2
section
variable {P : Program} {w : World} {K : PySem.W.Frag} {mg : Str → Option Value} {base : Heap}
theorem rv_ltT {F : Hp} {a b : Addr} {ns ms : List Int} (h : SqT K F a (ns.map V.int)) (hb : SqT K F b (ms.map V.int)) : RV (rLtT K) (.ref a) (.ref b) F (.bl (HT.lexLt ns ms)) := fun H1 e _ q =>
  ⟨a, b, ns, ms, rfl, rfl, ex_t e h, ex_t e hb, q H1 (Ex.refl H1)⟩
theorem ok_L_flag (T : TX K mg) : FnOk P w K mg base CX0 1 (a_L_flag K) (fdOf K (a_L_flag K)) ["_law_told", "_law_due"] spFlag := by
  refine T.f_L_flag.ok sc_L_flag (fun vs H Q E ⟨a, b, e, _⟩ => by rw [e]; rfl) (fun cdv A outer s H vs Q E hr ⟨a, b, e, q⟩ => ?_)
  subst e
  refine ⟨_, PSs.nox (pss_one (ps_ret (pe_and (pe_callB call_isi (by rfl) T.z_isinstance (by decide +kernel) (pa_cons (pv 0) (pa_cons (pe_bltn (v := .ty "bool") (by rfl) T.z_bool (by decide +kernel) rfl) pa_nil))) (pe_one (pe_cmpR op_eq (pv 0) (pv 1) (nomark _)))))), ?_⟩
  refine (ev_is (ev_andV (b := decide (a = b)) (ev_isi (t := .bl a) (F := H) (ev_var rfl) rfl (kit_b _)) fun _ => ev_is (ev_op (x := .bl a) (y := .bl b) (ev_var rfl) (ev_var rfl) (rv_eq rfl)) ?_) ?_) H (Ex.refl H) _ q
  · cases a <;> cases b <;> rfl
  · cases a <;> cases b <;> rfl
theorem ok_Web_keep (T : TX K mg) : FnOk P w K mg base CX0 1 (a_Web_keep K) (fdOf K (a_Web_keep K)) ["self", "machines", "wires"] (spKeep K) := by
  refine T.f_Web_keep.ok sc_Web_keep (fun vs H Q E ⟨p, dx, m, wa, e, _⟩ => by rw [e]; rfl) (fun cdv A outer s H vs Q E hr ⟨p, dx, m, wa, e, hp, q⟩ => ?_)
  subst e
  refine ⟨_, PSs.nox (pss_cons (ps_fld (pv 0) (pv 1) rfl) (
    pss_one (ps_fld (pv 0) (pv 2) rfl))), ?_⟩
  have l1 := len_putF "machines" (.int m) []
  exact ⟨_, rfl, _, rfl, p, _, dx, [], rfl, hp, T.cl_Web, T.n_Web_machines, by decide, _, rfl, _, rfl, p, _, dx, _, rfl, upd_same, T.cl_Web, T.n_Web_wires, by simp at l1; omega, q _ rfl⟩
theorem ok_Web_init (T : TX K mg) : FnOk P w K mg base CX0 4 (a_Web_init K) (fdOf K (a_Web_init K)) ["self", "machines", "wires"] (spWebI K) := by
  have G_is_within := ok_is_within (P := P) (w := w) (base := base) T
  have G_is_wire_pair := ok_is_wire_pair (P := P) (w := w) (base := base) T
  have G_Web_keep := ok_Web_keep (P := P) (w := w) (base := base) T
  obtain ⟨t7, h_MOST_MACHINES⟩ := T.i_MOST_MACHINES
  refine T.f_Web_init.ok sc_Web_init (fun vs H Q E ⟨F, p, dx, m, wa, ws, e, _⟩ => by rw [e]; rfl) (fun cdv A outer s H vs Q E hr ⟨F, p, dx, m, wa, ws, e, hF, fp, hp, hw, hok, q⟩ => ?_)
  subst e
  refine ⟨_, PSs.nox (pss_cons (ps_if (pt_not (pt_val (pe_call G_is_within (hr.mono (by decide)) rfl T.g_is_within T.f_is_within.kp T.b_is_within .nil pass0 (pa_cons (pv 1) (pa_cons pe_int (pa_cons (pe_glob (v := .int 7) rfl h_MOST_MACHINES ⟨_, rfl⟩) pa_nil)))))) (pss_one ps_never) pss_nil) (
    pss_cons (ps_if (pt_not (pt_val (pe_callB call_isi (by rfl) T.z_isinstance (by decide +kernel) (pa_cons (pv 2) (pa_cons (pe_bltn (v := .ty "tuple") (by rfl) T.z_tuple (by decide +kernel) rfl) pa_nil))))) (pss_one ps_never) pss_nil) (
    pss_cons (ps_for PassesOwn.never rfl (pi_E rfl T.z_enumerate (pa_cons (pv 2) pa_nil)) (pg_tup rfl (pgs_cons (pg_name (i := 3) sc_Web_init.nd rfl (.inl rfl)) (pgs_cons (pg_name (i := 4) sc_Web_init.nd rfl (.inl rfl)) pgs_nil))) (pss_one (ps_if (PW.pt (pw_or (pt_not (pt_val (pe_call G_is_wire_pair (hr.mono (by decide)) rfl T.g_is_wire_pair T.f_is_wire_pair.kp T.b_is_wire_pair .nil pass0 (pa_cons (pv 1) (pa_cons (pv 4) pa_nil))))) (pw_or1 (PW.pt (pw_and (pt_cmpR op_gt (pv 3) pe_int (nomark _)) (pw_and1 (pt_not (pt_cmpR (op_ltT (units0 hr)) (pe_ix ix_tup (pv 2) (pe_op op_sub (pv 3) pe_int) (fun _ _ => rfl)) (pv 4) (nomark _))))))))) (pss_one ps_never) pss_nil))) (
    pss_one (ps_expr (pe_meth (pv 0) T.cl_Web T.m_Web_keep G_Web_keep (hr.mono (by decide)) T.b_Web_keep .nil pass0 (pa_cons (pv 1) (pa_cons (pv 2) pa_nil)))))))), ?_⟩
  have hw0 := hw
  obtain ⟨_, xs, h0, w1, w2, w3⟩ := hw0
  cases h0
  have hlo := hok.lo
  have hhi := hok.hi
  refine q_when (b := false) (et_is (et_not (et_test (ev_call (ea_cons (ev_var rfl) (ea_cons ev_c (ea_cons ev_c ea_nil))) (svWithin (F := H) (t := .int m) rfl)))) (by unfold within; simp; omega)) (fun hb => by cases hb) (fun _ H1 e1 => ?_)
  refine q_when (b := false) (et_is (EvT.mono (hF.trans e1) (et_not (et_test (ev_isi (ev_var rfl) hw (kit_u _))))) rfl) (fun hb => by cases hb) (fun _ H2 e2 => ?_)
  have e12 := e1.trans e2
  have hF2 := hF.trans e12
  refine q_forW (J := JE K false wa) (n := xs.length) (Gd := fun H => Sq false K H wa xs) walk_E (evi_E (ea_cons (ev_var rfl) ea_nil) (st_of (hF2 _ _ w1)))
    (fun i σ1 H1 => ∃ o1 o2, σ1 = [some (.ref p), some (.int m), some (.ref wa), o1, o2] ∧ Ex H2 H1)
    (fun H4 e4 => ⟨_, _, rfl, e4⟩) (fun i σ1 H1 _ ⟨_, _, _, g⟩ => st_of (g _ _ (hF2 _ _ w1))) (fun i x σ1 Hc Hd hi hp y => ?_) (fun σ1 H4 ⟨o1, o2, e, e4⟩ => ?_)
  · obtain ⟨o1, o2, rfl, e4⟩ := hp
    have ey := ypair_ex y
    obtain ⟨T0, x0, y0, rfl, y1, y2, y3, y4⟩ := y
    obtain ⟨pp, ab, k1, rfl, k2⟩ := rps_pT w3 y4
    cases y3
    have ed := e4.trans ey
    have hFd := hF2.trans ed
    refine ⟨T0, _, rfl, st_of (by rw [y2]; exact upd_same), rfl, _, _, rfl, _, _, rfl, rfl, ?_⟩
    show tIfS _ _ _ _ [some (.ref p), some (.int m), some (.ref wa), some (.int (i : Int)), some (.ref ab)] Hd
    refine s_when (b := !isWP m (pT pp) || (decide ((i : Int) > 0) && !decide (0 < i))) (et_or (et_not (et_test (ev_call (ea_cons (ev_var rfl) (ea_cons (ev_var rfl) ea_nil)) (svT2 (f := isWP) (rp_pT (hFd _ _ k2)))))) fun _ => et_and (et_test (ev_op (ev_var rfl) ev_c rv_I0)) fun hpos => ?_) (fun hb => ?_) (fun _ H6 e6 => ⟨_, _, rfl, ed.trans e6⟩)
    · have hpos' : 0 < i := by have := of_decide_eq_true hpos; omega
      obtain ⟨j, rfl⟩ : ∃ j, i = j + 1 := ⟨i - 1, by omega⟩
      have hjx : j < xs.length := by omega
      obtain ⟨qq, bb, z1, z2, z3⟩ := rps_pT w3 (List.getElem?_eq_getElem hjx)
      have hsr := List.pairwise_iff_getElem.mp hok.srt
      obtain ⟨l1, e1'⟩ := List.getElem?_eq_some_iff.mp z1
      obtain ⟨l2, e2'⟩ := List.getElem?_eq_some_iff.mp k1
      have hlt := hsr j (j + 1) l1 l2 (by omega)
      rw [e1', e2'] at hlt
      refine et_not (et_is (et_test (ev_op (x := .ref bb) (ev_op (ev_var rfl) (ev_op (x := .int ((j + 1 : Nat) : Int)) (y := .int 1) (ev_var rfl) ev_c rv_I0) (rv_ixT (st_of (hFd _ _ w1)) ?_)) (ev_var rfl) (rv_ltT (ns := [qq.1, qq.2]) (ms := [pp.1, pp.2]) (st_of (hFd _ _ z3)) (st_of (hFd _ _ k2))))) ?_)
      · rw [show (((j + 1 : Nat) : Int) - 1) = (j : Int) by omega]
        exact atI_nat (by rw [← z2]; exact List.getElem?_eq_getElem hjx)
      · rw [plt_lex hlt]
        simp
    · rw [wp_ok (hok.wok pp (List.mem_of_getElem? k1))] at hb
      by_cases h : 0 < i <;> simp [h] at hb
  · subst e
    have e24 := e12.trans e4
    have hp4 := e24 _ _ hp
    refine ⟨_, rfl, p, dx, _, rfl, hp4, rfl, _, rfl, _, rfl, p, dx, m, wa, rfl, hp4, fun H' eH => ?_⟩
    subst eH
    exact q _ ((((Gw.refl (M := fun a => a = p) hF).ext e24).mut fp (.inr rfl)).mut fp (.inr rfl)) upd_same
end
end GD

/-! ## For the law: small things -/
namespace GD
open PySem L2 Evl G SQ
theorem goods_it8 {k : Bool} {ts : List T} (h : ∀ x ∈ ts, It8 x) : Goods (kT k ts) := goods_of fun x hx xs e _ y hy => by
  obtain ⟨ys, e2, _, hf⟩ := h x hx
  rw [e] at e2
  cases e2
  exact hf y hy
theorem it8_iT {ns : List Int} (h : ns.length ≤ 8) : It8 (iT ns) := ⟨ns.map GD.T.int, rfl, by rw [List.length_map]; exact h, fun y hy => by
  obtain ⟨a, _, rfl⟩ := List.mem_map.mp hy
  rfl⟩
theorem it8_pT (p : Int × Int) : It8 (pT p) := ⟨_, rfl, by show 2 ≤ 8; decide, fun y hy => by
  rcases List.mem_cons.mp hy with z | z
  · rw [z]; rfl
  · rw [List.mem_singleton.mp z]; rfl⟩
theorem it8_putT (k : Int) : It8 (putT k) := ⟨_, rfl, by show 2 ≤ 8; decide, fun y hy => by
  rcases List.mem_cons.mp hy with z | z
  · rw [z]; rfl
  · rw [List.mem_singleton.mp z]; rfl⟩
theorem it8_comeT (a b : Int) : It8 (comeT a b) := ⟨_, rfl, by show 3 ≤ 8; decide, fun y hy => by
  rcases List.mem_cons.mp hy with z | z
  · rw [z]; rfl
  · rcases List.mem_cons.mp z with z | z
    · rw [z]; rfl
    · rw [List.mem_singleton.mp z]; rfl⟩
theorem it8_run (ways : List (List Int)) (i : Nat) : ∀ x ∈ runTo ways i, It8 x := fun x hx => by
  unfold runTo at hx
  obtain ⟨k, _, h⟩ := List.mem_flatMap.mp hx
  rcases List.mem_cons.mp h with z | z
  · rw [z]; exact it8_putT _
  · unfold comes at z
    obtain ⟨j, _, rfl⟩ := List.mem_map.mp z
    exact it8_comeT _ _
theorem it8_ways {ways : List (List Int)} (h : ways.flatten.length ≤ 7) : ∀ x ∈ ways.map iT, It8 x := fun x hx => by
  obtain ⟨w, hw, rfl⟩ := List.mem_map.mp hx
  refine it8_iT ?_
  obtain ⟨as, bs, rfl⟩ := List.append_of_mem hw
  rw [List.flatten_append, List.length_append, List.flatten_cons, List.length_append] at h
  omega
section
variable {K : PySem.W.Frag} {σ : L2.St} {F F' H : Hp} {ta tb te : TE} {v : V} {tt : TT}
theorem ev_notN (ha : Ev ta σ F v) : Ev (tNotN ta) σ F (.bl (!decide (v = .non))) := fun H1 e _ q => ha H1 e _ fun H2 e2 => q H2 e2
theorem EvG.imp {P P' : Hp → V → Prop} (h : EvG te σ F P) (i : ∀ F' v, P F' v → P' F' v) : EvG te σ F P' := fun F1 H1 e1 e2 Q q => h F1 H1 e1 e2 Q fun v F2 H2 g p => q v F2 H2 g (i _ _ p)
theorem eg_if {b : Bool} {P : Hp → V → Prop} (ht : EvT tt σ F b) (h1 : b = true → EvG ta σ F P) (h2 : b = false → EvG tb σ F P) : EvG (tIf tt ta tb) σ F P := fun F1 H1 e1 e2 Q q =>
  ht H1 (e1.trans e2) _ fun H2 e3 => by
    cases b with
    | true =>
      show (if (true : Bool) = true then _ else _)
      rw [if_pos rfl]
      exact h1 rfl F1 H2 e1 (e2.trans e3) Q fun v F2 H3 g p => q v F2 H3 (((Gw.refl e2).ext e3).trans g) p
    | false =>
      show (if (false : Bool) = true then _ else _)
      rw [if_neg Bool.false_ne_true]
      exact h2 rfl F1 H2 e1 (e2.trans e3) Q fun v F2 H3 g p => q v F2 H3 (((Gw.refl e2).ext e3).trans g) p
theorem q_asgG {P : Hp → V → Prop} {i : Nat} {tz : TS} {Dn : Ends} (h : EvG te σ F P) (e : Ex F H) (k : ∀ v F2 H2, Gw Mn F H F2 H2 → P F2 v → tz Dn (σ.set i (some v)) H2) : tSeq (tAsg te (gName i)) tz Dn σ H := h F H (Ex.refl F) e _ k
/-- a new list of trees, from now on kept -/
theorem eg_lst {ts : List T} (h : EvN te σ F ts) (hz : ts.length ≤ 60) : EvG te σ F fun F2 v => Rp F2 (.lst ts) v := fun F1 H1 e1 e2 Q q =>
  h F1 H1 e1 e2 _ fun D us F2 H2 g f d hD hr => q (.ref D) _ H2 (g.freeze d hD f) (.lst_i upd_same (by rw [← hr.len]; exact hz) (hr.mono (Ex.new f) _ _))
/-- tuple(t) of a tuple is that tuple -/
theorem ev_tupT {ab : Addr} {us : List V} (h : Ev ta σ F (.ref ab)) (hx : F ab = some (.tup us)) : Ev (tCB (fun xs H Q => ∃ p ys, xs = [.ref p] ∧ ((SqL K H p ys ∧ ∀ l, H l = none → Q (.ref l) (upd H l (.tup ys))) ∨ (SqT K H p ys ∧ Q (.ref p) H))) (tCons ta tNil)) σ F (.ref ab) := fun H1 e _ q =>
  h H1 e _ fun H2 e2 => ⟨ab, us, rfl, .inr ⟨st_of ((e.trans e2) _ _ hx), q H2 e2⟩⟩
theorem nPar {R : V → V → Hp → Prop} {t : TA} {i j : Nat} {tz : TS} {D : Ends} (h : ∀ Q : List V → Hp → Prop, (∀ x y H1, R x y H1 → Q [x, y] H1) → t σ H Q) (hR : ∀ x y H1, R x y H1 → tz D ((σ.set i (some x)).set j (some y)) H1) : tSeq (tPar i j t) tz D σ H := h _ fun x y H1 r => ⟨x, y, rfl, hR x y H1 r⟩
theorem nC {Q : VK} (h : Q v H) : tC v σ H Q := h
end
theorem svRight' {F : Hp} {wv v u : V} {t : T} {m : Int} {ws ps : List (Int × Int)} (hw : Rp F (.tup (ws.map pT)) wv) (hP : Prs F v ps) (hl : ps.length ≤ 4) (h : Rp F t u) : SpV spRight [.int m, wv, v, u] F (.bl (waysRight m ws ps t)) := fun H1 e _ q _ => ⟨F, wv, v, u, t, m, ws, ps, rfl, e, hw, hP, hl, h, q⟩
theorem svSightR {F : Hp} {wv v u : V} {t : T} {M : Nat} {ws ps : List (Int × Int)} (hw : Rp F (.tup (ws.map pT)) wv) (hP : Prs F v ps) (hv : Ps (M : Nat) ps) (hok : WebOk (M : Nat) ws) (h : Rp F t u) (hg : Goods t) : SpV spSightR [.int (M : Nat), wv, v, u] F (.bl (sightRight (M : Nat) ws ps t)) := fun H1 e _ q _ => ⟨F, wv, v, u, t, M, ws, ps, rfl, e, hw, hP, hv, hok, h, hg, q⟩
theorem svWays {K : PySem.W.Frag} {F : Hp} {web v u : V} {t : T} {m : Int} {ws ps : List (Int × Int)} (hW : Wb K F web m ws) (hP : Prs F v ps) (hv : Ps m ps) (h : Rp F t u) : SpV (spWays K) [web, v, u] F (.bl (isWaysApart m ws ps t)) := fun H1 e _ q _ => ⟨F, web, v, u, t, m, ws, ps, rfl, e, hW, hP, hv, h, q⟩
theorem svIsFS {K : PySem.W.Frag} {F : Hp} {web v u : V} {t : T} {M : Nat} {ws ps : List (Int × Int)} (hW : Wb K F web (M : Nat) ws) (hP : Prs F v ps) (hv : Ps (M : Nat) ps) (hok : WebOk (M : Nat) ws) (h : Rp F t u) : SpV (spIsFS K) [web, v, u] F (.bl (sightRight (M : Nat) ws ps t)) := fun H1 e _ q _ => ⟨F, web, v, u, t, M, ws, ps, rfl, e, hW, hP, hv, hok, h, q⟩
theorem svFlag {F : Hp} (a b : Bool) : SpV spFlag [.bl a, .bl b] F (.bl (decide (a = b))) := fun H1 _ _ q _ => ⟨a, b, rfl, q⟩
theorem spDraw_i {F H : Hp} {h : Addr} {m : Int} {Q : VK} {E : XK} (e : Ex F H) (g : HdAt F H h) (h0 : 0 < m) (h1 : m < 1000) (q : ∀ d H', 0 ≤ d → d < m → Gw (At h) F H F H' → HdAt F H' h → Q (.int d) H') : spDraw [.ref h, .int m] H Q E := ⟨F, h, m, rfl, e, g, h0, h1, q⟩
end GD

/-! ## The law -/
namespace GD
open PySem L2 Evl G SQ
section
variable {K : PySem.W.Frag} {σ : L2.St} {H : Hp} {tl : TE} {g : TG} {tu tz : TS} {DD : Ends}
theorem s_forNew {Sx : Addr → List V → Hp → Prop} (hl : ∀ Q : VK, (∀ D xs H1, H1 D = some (.lst xs) → Sx D xs H1 → Q (.ref D) H1) → tl σ H Q)
    (hb : ∀ D xs H1, H1 D = some (.lst xs) → Sx D xs H1 → ∃ Pv : Nat → L2.St → Hp → Prop, Pv 0 σ H1 ∧ (∀ i σ' H', Pv i σ' H' → H' D = some (.lst xs)) ∧ (∀ i x σ1 H2, xs[i]? = some x → Pv i σ1 H2 → g x σ1 H2 fun σ2 H3 => tu { DD with nx := Pv (i + 1), ct := Pv (i + 1), bk := DD.nx } σ2 H3) ∧ (∀ σ' H', Pv xs.length σ' H' → DD.nx σ' H')) : tFor (iSq K tl) g tu DD σ H :=
  hl _ fun D xs H1 hD hS => by
    obtain ⟨Pv, p0, pG, ps, pe⟩ := hb D xs H1 hD hS
    exact ⟨true, D, xs, rfl, sq_of hD, for_it (walk_sq (K := K) (k := true) (a := D) (xs := xs)) Pv p0 (fun i σ' H' _ h => sq_of (pG i σ' H' h)) (fun i x σ1 Ha Hb hi hp y => by
      obtain ⟨rfl, hy⟩ := y
      exact ps i x σ1 _ hy hp) pe⟩
theorem q_forNew {Sx : Addr → List V → Hp → Prop} (hl : ∀ Q : VK, (∀ D xs H1, H1 D = some (.lst xs) → Sx D xs H1 → Q (.ref D) H1) → tl σ H Q)
    (hb : ∀ D xs H1, H1 D = some (.lst xs) → Sx D xs H1 → ∃ Pv : Nat → L2.St → Hp → Prop, Pv 0 σ H1 ∧ (∀ i σ' H', Pv i σ' H' → H' D = some (.lst xs)) ∧ (∀ i x σ1 H2, xs[i]? = some x → Pv i σ1 H2 → g x σ1 H2 fun σ2 H3 => tu { DD with nx := Pv (i + 1), ct := Pv (i + 1), bk := tz DD } σ2 H3) ∧ (∀ σ' H', Pv xs.length σ' H' → tz DD σ' H')) : tSeq (tFor (iSq K tl) g tu) tz DD σ H :=
  s_forNew (DD := { DD with nx := tz DD }) hl hb
end
def spLaw (K : PySem.W.Frag) : Sp := fun vs H Q _ => ∃ F a ns, vs = [.ref a] ∧ Ex F H ∧ SqL K F a (List.map V.int ns) ∧ ∀ H', Q (.bl true) H'
section
variable {P : Program} {w : World} {K : PySem.W.Frag} {mg : Str → Option Value} {base : Heap}
theorem ok_law (T : TX K mg) : FnOk P w K mg base CX0 9 (a_law K) (fdOf K (a_law K)) ["_law_script"] (spLaw K) := by
  have G_L_hand := ok_L_hand (P := P) (w := w) (base := base) T
  have G_L_shape := ok_L_shape (P := P) (w := w) (base := base) T
  have G_Web_init := ok_Web_init (P := P) (w := w) (base := base) T
  have G_L_sights := ok_L_sights (P := P) (w := w) (base := base) T
  have G_L_draw := ok_L_draw (P := P) (w := w) (base := base) T
  have G_L_some_ways := ok_L_some_ways (P := P) (w := w) (base := base) T
  have G_ways_apart := ok_ways_apart (P := P) (w := w) (base := base) T
  have G_first_sights := ok_first_sights (P := P) (w := w) (base := base) T
  have G_L_ways_right := ok_L_ways_right (P := P) (w := w) (base := base) T
  have G_L_sight_right := ok_L_sight_right (P := P) (w := w) (base := base) T
  have G_L_bent := ok_L_bent (P := P) (w := w) (base := base) T
  have G_L_flag := ok_L_flag (P := P) (w := w) (base := base) T
  have G_is_ways_apart := ok_is_ways_apart (P := P) (w := w) (base := base) T
  have G_is_first_sights := ok_is_first_sights (P := P) (w := w) (base := base) T
  refine T.f_law.ok sc_law (fun vs H Q E ⟨F, a, ns, e, _⟩ => by rw [e]; rfl) (fun cdv A outer s H vs Q E hr ⟨F, a, ns, e, hF, hs, q⟩ => ?_)
  subst e
  refine ⟨_, PSs.nox (pss_cons (ps_asg (pe_call G_L_hand (hr.mono (by decide)) rfl T.g_L_hand T.f_L_hand.kp T.b_L_hand .nil pass0 (pa_cons (pv 0) pa_nil)) (pg_name (i := 1) sc_law.nd rfl (.inl rfl))) (
    pss_cons (ps_for PassesOwn.never rfl (pi_range1 rfl T.z_range (pa_cons pe_int pa_nil)) (pg_name (i := 2) sc_law.nd rfl (.inl rfl)) (pss_cons (ps_asg (pe_call G_L_shape (hr.mono (by decide)) rfl T.g_L_shape T.f_L_shape.kp T.b_L_shape .nil pass0 (pa_cons (pv 1) pa_nil)) (pg_tup rfl (pgs_cons (pg_name (i := 3) sc_law.nd rfl (.inl rfl)) (pgs_cons (pg_name (i := 4) sc_law.nd rfl (.inl rfl)) pgs_nil)))) (pss_cons (ps_asg (pe_make T.mk_Web G_Web_init (hr.mono (by decide)) rfl T.g_Web T.b_Web_init .nil pass0 (pa_cons (pv 3) (pa_cons (pv 4) pa_nil))) (pg_name (i := 5) sc_law.nd rfl (.inl rfl))) (pss_cons (ps_asg (pe_call G_L_sights (hr.mono (by decide)) rfl T.g_L_sights T.f_L_sights.kp T.b_L_sights .nil pass0 (pa_cons (pv 1) (pa_cons (pv 3) (pa_cons (pe_op op_add pe_int (pe_call G_L_draw (hr.mono (by decide)) rfl T.g_L_draw T.f_L_draw.kp T.b_L_draw .nil pass0 (pa_cons (pv 1) (pa_cons pe_int pa_nil)))) pa_nil)))) (pg_name (i := 6) sc_law.nd rfl (.inl rfl))) (pss_cons (ps_asg (pe_call G_L_some_ways (hr.mono (by decide)) rfl T.g_L_some_ways T.f_L_some_ways.kp T.b_L_some_ways .nil pass0 (pa_cons (pv 4) (pa_cons (pv 6) pa_nil))) (pg_name (i := 7) sc_law.nd rfl (.inl rfl))) (pss_cons (ps_par (i := 8) (j := 9) (by rfl) sc_law.nd rfl rfl (by decide) rfl rfl (pa_cons (pe_call G_ways_apart (hr.mono (by decide)) rfl T.g_ways_apart T.f_ways_apart.kp T.b_ways_apart .nil pass0 (pa_cons (pv 5) (pa_cons (pv 6) pa_nil))) (pa_cons (pe_call G_first_sights (hr.mono (by decide)) rfl T.g_first_sights T.f_first_sights.kp T.b_first_sights .nil pass0 (pa_cons (pv 5) (pa_cons (pe_callTy call_tuple_of (by rfl) T.z_tuple (by decide +kernel) (pa_cons (pv 6) pa_nil)) pa_nil))) pa_nil)) (by rfl)) (pss_cons (ps_if (PW.pt (pw_or (pt_cmpR op_ne (pe_cmp (pc_notN (pv 8)) rfl) (pv 7) (nomark _)) (pw_or1 (pt_cmpR op_ne (pe_cmp (pc_notN (pv 9)) rfl) (pv 7) (nomark _))))) (pss_one (ps_ret pe_bl)) pss_nil) (pss_cons (ps_if (PW.pt (pw_and (pt_val (pv 7)) (pw_and1 (pt_not (pt_val (pe_call G_L_ways_right (hr.mono (by decide)) rfl T.g_L_ways_right T.f_L_ways_right.kp T.b_L_ways_right .nil pass0 (pa_cons (pv 3) (pa_cons (pv 4) (pa_cons (pv 6) (pa_cons (pv 8) pa_nil)))))))))) (pss_one (ps_ret pe_bl)) pss_nil) (pss_cons (ps_if (PW.pt (pw_and (pt_val (pv 7)) (pw_and1 (pt_not (pt_val (pe_call G_L_sight_right (hr.mono (by decide)) rfl T.g_L_sight_right T.f_L_sight_right.kp T.b_L_sight_right .nil pass0 (pa_cons (pv 3) (pa_cons (pv 4) (pa_cons (pv 6) (pa_cons (pv 9) pa_nil)))))))))) (pss_one (ps_ret pe_bl)) pss_nil) (pss_cons (ps_asg (pe_ifExp (pt_val (pv 7)) (pv 8) (pe_callTy call_tuple_of (by rfl) T.z_tuple (by decide +kernel) (pa_cons (pe_lc (own := [("_law_pair", 12)]) (g := (gName 12)) (tt := tYes) rfl sc_law.nd (pi_sq (pv 6)) (blkOk_by (own := [("_law_pair", 12)]) (N := N_law) (sc := defScope s_law) (by decide +kernel)) (fun _ _ _ _ _ => (pg_name (i := 12) sc_law.nd rfl (.inl rfl))) (fun _ _ _ _ _ => pts_nil) (fun _ _ _ _ _ => (pe_callTy (tupOf_K (K := K)) (by rfl) T.z_tuple (by decide +kernel) (pa_cons (pv 12) pa_nil)))) pa_nil))) (pg_name (i := 10) sc_law.nd rfl (.inl rfl))) (pss_cons (ps_for PassesOwn.never rfl (pi_sq (pe_lst (pa_cons (pv 10) (pa_cons (pe_call G_L_bent (hr.mono (by decide)) rfl T.g_L_bent T.f_L_bent.kp T.b_L_bent .nil pass0 (pa_cons (pv 1) (pa_cons (pv 10) (pa_cons (pv 3) pa_nil)))) (pa_cons pe_non pa_nil))))) (pg_name (i := 11) sc_law.nd rfl (.inl rfl)) (pss_one (ps_if (pt_not (pt_val (pe_call G_L_flag (hr.mono (by decide)) rfl T.g_L_flag T.f_L_flag.kp T.b_L_flag .nil pass0 (pa_cons (pe_call G_is_ways_apart (hr.mono (by decide)) rfl T.g_is_ways_apart T.f_is_ways_apart.kp T.b_is_ways_apart .nil pass0 (pa_cons (pv 5) (pa_cons (pv 6) (pa_cons (pv 11) pa_nil)))) (pa_cons (pe_call G_L_ways_right (hr.mono (by decide)) rfl T.g_L_ways_right T.f_L_ways_right.kp T.b_L_ways_right .nil pass0 (pa_cons (pv 3) (pa_cons (pv 4) (pa_cons (pv 6) (pa_cons (pv 11) pa_nil))))) pa_nil))))) (pss_one (ps_ret pe_bl)) pss_nil))) (pss_cons (ps_asg (pe_ifExp (pt_val (pv 7)) (pv 9) (pe_lc (own := [("_law_put", 13)]) (g := (gName 13)) (tt := tYes) rfl sc_law.nd (pi_range1 rfl T.z_range (pa_cons (pe_callB call_len_seq (by rfl) T.z_len PySem.boot_len (pa_cons (pv 6) pa_nil)) pa_nil)) (blkOk_by (own := [("_law_put", 13)]) (N := N_law) (sc := defScope s_law) (by decide +kernel)) (fun _ _ _ _ _ => (pg_name (i := 13) sc_law.nd rfl (.inl rfl))) (fun _ _ _ _ _ => pts_nil) (fun _ _ _ _ _ => (pe_tup (pa_cons pe_str (pa_cons (pv 13) pa_nil)))))) (pg_name (i := 10) sc_law.nd rfl (.inl rfl))) (pss_one (ps_for PassesOwn.never rfl (pi_sq (pe_lst (pa_cons (pv 10) (pa_cons (pe_callTy call_tuple_of (by rfl) T.z_tuple (by decide +kernel) (pa_cons (pv 10) pa_nil)) (pa_cons (pe_call G_L_bent (hr.mono (by decide)) rfl T.g_L_bent T.f_L_bent.kp T.b_L_bent .nil pass0 (pa_cons (pv 1) (pa_cons (pv 10) (pa_cons (pv 3) pa_nil)))) (pa_cons (pe_call G_L_bent (hr.mono (by decide)) rfl T.g_L_bent T.f_L_bent.kp T.b_L_bent .nil pass0 (pa_cons (pv 1) (pa_cons (pv 10) (pa_cons (pv 3) pa_nil)))) pa_nil)))))) (pg_name (i := 11) sc_law.nd rfl (.inl rfl)) (pss_one (ps_if (pt_not (pt_val (pe_call G_L_flag (hr.mono (by decide)) rfl T.g_L_flag T.f_L_flag.kp T.b_L_flag .nil pass0 (pa_cons (pe_call G_is_first_sights (hr.mono (by decide)) rfl T.g_is_first_sights T.f_is_first_sights.kp T.b_is_first_sights .nil pass0 (pa_cons (pv 5) (pa_cons (pv 6) (pa_cons (pv 11) pa_nil)))) (pa_cons (pe_call G_L_sight_right (hr.mono (by decide)) rfl T.g_L_sight_right T.f_L_sight_right.kp T.b_L_sight_right .nil pass0 (pa_cons (pv 3) (pa_cons (pv 4) (pa_cons (pv 6) (pa_cons (pv 11) pa_nil))))) pa_nil))))) (pss_one (ps_ret pe_bl)) pss_nil)))))))))))))))) (
    pss_one (ps_ret pe_bl)))), ?_⟩
  refine nAsg (nCall (nCons (nVar rfl ⟨F, a, ns, rfl, hF, hs, fun F1 H1 h g1 hh1 => gN ?_⟩)))
  try dsimp only
  show tSeq _ _ _ [some (.ref a), some (.ref h), none, none, none, none, none, none, none, none, none, none, none, none] H1
  refine q_forW (n := 3) (walk_range (lo := 0)) (evi_r1 (n := 3) (F := H1) (ea_cons ev_c ea_nil) (by decide) (by decide))
    (fun i σ' H' => ∃ F' o2 o3 o4 o5 o6 o7 o8 o9 o10 o11, σ' = [some (.ref a), some (.ref h), o2, o3, o4, o5, o6, o7, o8, o9, o10, o11, none, none] ∧ Ex F' H' ∧ HdAt F' H' h)
    (fun H2 e2 => ⟨F1, _, _, _, _, _, _, _, _, _, _, rfl, g1.le.trans e2, hh1.ext e2⟩) (fun _ _ _ _ _ => trivial) (fun i x σ1 Ha Hb hi hp y => ?_) (fun σ' H' _ => s_ret ev_c fun H2 _ => q H2)
  obtain ⟨rfl, rfl⟩ := y
  obtain ⟨F2, o2, o3, o4, o5, o6, o7, o8, o9, o10, o11, rfl, hF2, hh2⟩ := hp
  clear hF hs g1 hh1
  refine gN ?_
  try dsimp only
  generalize (V.int (0 + (i : Int))) = vi
  show tSeq _ _ _ [some (.ref a), some (.ref h), some vi, o3, o4, o5, o6, o7, o8, o9, o10, o11, none, none] _
  refine nAsg (nCall (nCons (nVar rfl ⟨F2, h, rfl, hF2, hh2, fun F3 H3 r m ws g3 hh3 hWT hok => ?_⟩)))
  obtain ⟨ta, wa, rfl, hta, hw3⟩ := hWT
  obtain ⟨M, rfl⟩ : ∃ M : Nat, m = M := ⟨m.toNat, by have := hok.lo; omega⟩
  refine ⟨ta, _, rfl, st_of (g3.le _ _ hta), rfl, _, _, rfl, _, _, rfl, rfl, ?_⟩
  show tSeq _ _ _ [some (.ref a), some (.ref h), some vi, some (.int (M : Nat)), some (.ref wa), o5, o6, o7, o8, o9, o10, o11, none, none] H3
  refine nAsg ?_
  refine (show EvA _ [some (.ref a), some (.ref h), some vi, some (.int (M : Nat)), some (.ref wa), o5, o6, o7, o8, o9, o10, o11, none, none] F3 [.int (M : Nat), .ref wa] from ea_cons (ev_var rfl) (ea_cons (ev_var rfl) ea_nil)) H3 g3.le _ fun H4 e4 x dx hx hdx hne => ?_
  have hx2 : upd H4 dx (.own x) x = none := by rw [upd_ne hne.symm]; exact hx
  have eA : Ex H4 (upd (upd H4 dx (.own x)) x (.ins (He.ga K "Web") dx [])) := (Ex.new hdx).trans (Ex.new hx2)
  have eB := e4.trans eA
  have hxH := fresh_back e4 hx
  refine ⟨F3, x, dx, (M : Nat), wa, ws, rfl, g3.le.trans eB, fresh_back g3.le hxH, upd_same, hw3, hok, fun H5 g5 hx5 => ⟨rfl, gN ?_⟩⟩
  try dsimp only
  show tSeq _ _ _ [some (.ref a), some (.ref h), some vi, some (.int (M : Nat)), some (.ref wa), some (.ref x), o6, o7, o8, o9, o10, o11, none, none] H5
  have gA : Gw Mn F3 H3 F3 H5 := g5.narrow eB fun b z => by rw [z]; exact hxH
  have f3x := fresh_back g3.le hxH
  have gB := gA.freeze hxH hx5 f3x
  have hW5 : Wb K (upd F3 x (.ins (He.ga K "Web") dx (webF (M : Nat) wa))) (.ref x) (M : Nat) ws := by
    obtain ⟨_, xs, h0, w1, w2, w3⟩ := hw3
    cases h0
    have eF := Ex.new (o := .ins (He.ga K "Web") dx (webF (M : Nat) wa)) f3x
    exact ⟨x, dx, wa, xs, rfl, upd_same, eF _ _ w1, w2, w3.mono eF _ _⟩
  have hh5 := hh3.gw gB
  have hw5 := hw3.mono gB.fle _ _
  generalize upd F3 x (.ins (He.ga K "Web") dx (webF (M : Nat) wa)) = F5 at *
  have hle5 := gB.le
  have hlo := hok.lo
  have hhi := hok.hi
  refine nAsg (nCall (nCons (nVar rfl (nCons (nVar rfl (nCons (nOp (nC (nCall (nCons (nVar rfl (nCons (nC ⟨F5, h, 4, rfl, hle5, hh5, by decide, by decide, fun d H6 hd0 hd1 g6 hh6 => ⟨1, d, rfl, rfl, ?_⟩⟩)))))))))))))
  refine ⟨F5, h, (M : Nat), 1 + d, rfl, g6.le, hh6, hlo, hhi, by omega, by omega, fun F7 H7 v ps g7 hh7 hps hv => gN ?_⟩
  try dsimp only
  show tSeq _ _ _ [some (.ref a), some (.ref h), some vi, some (.int (M : Nat)), some (.ref wa), some (.ref x), some v, o7, o8, o9, o10, o11, none, none] H7
  have hw7 := hw5.mono g7.fle _ _
  have hW7 := hW5.mono g7.fle
  have hP7 : Prs F7 v ps := ⟨true, hps⟩
  refine nAsg (nCall (nCons (nVar rfl (nCons (nVar rfl ⟨F7, .ref wa, v, (M : Nat), ws, ps, rfl, g7.le, hw7, hP7, hv, hok, fun H8 b e8 hb => gN ?_⟩)))))
  try dsimp only
  show tSeq _ _ _ [some (.ref a), some (.ref h), some vi, some (.int (M : Nat)), some (.ref wa), some (.ref x), some v, some (.bl b), o8, o9, o10, o11, none, none] H8
  have hh8 := hh7.ext e8
  have hle8 := g7.le.trans e8
  clear gB gA hh5 hh6 g6 hh7 g5 hx5 g3 hh3 hta hw3
  refine nPar (R := fun wv rv H9 => ∃ F9, Ex F7 F9 ∧ Ex F9 H9 ∧ HdAt F9 H9 h ∧ ((b = false ∧ wv = .non ∧ rv = .non) ∨ (b = true ∧ wv ≠ .non ∧ rv ≠ .non ∧ ∃ ways ways2, AW ws [] ps ways ∧ AW ws [] ps ways2 ∧ Rp F9 (wysT ways) wv ∧ Rp F9 (.lst (runTo ways2 ways2.length)) rv))) (fun QQ hQ => ?_) (fun wv rv H9 ⟨F9, hF9, hle9, hh9, hcase⟩ => ?_)
  · have second : ∀ F9 H9 wv, Ex F7 F9 → Ex F9 H9 → HdAt F9 H9 h → (∀ rv F10 H10, Gw Mn F9 H9 F10 H10 → (((¬ ∃ r, AW ws [] ps r) ∧ rv = .non) ∨ (rv ≠ .non ∧ ∃ ways2, AW ws [] ps ways2 ∧ Rp F10 (.lst (runTo ways2 ways2.length)) rv)) → QQ [wv, rv] H10) → tCons (tCall (spApart K fun ways => GD.T.lst (runTo ways ways.length)) [] E0 (tCons (tVar 5) (tCons (tCB (fun xs H Q => ∃ p ys, xs = [.ref p] ∧ ((SqL K H p ys ∧ ∀ l, H l = none → Q (.ref l) (upd H l (.tup ys))) ∨ (SqT K H p ys ∧ Q (.ref p) H))) (tCons (tVar 6) tNil)) tNil))) tNil [some (.ref a), some (.ref h), some vi, some (.int (M : Nat)), some (.ref wa), some (.ref x), some v, some (.bl b), o8, o9, o10, o11, none, none] H9 (fun vs H2 => QQ (wv :: vs) H2) := fun F9 H9 wv e79 e99 hh9 k => by
      obtain ⟨pa, pvs, rfl, p1, p2, p3⟩ := hps
      refine nCons (nCall (nCons (nVar rfl (nCons (nCB (nCons (nVar rfl ⟨pa, pvs, rfl, .inl ⟨sq_of (e99 _ _ (e79 _ _ p1)), fun l hl => ?_⟩⟩)))))))
      have gL := (Gw.refl (M := Mn) e99).alloc (o := .tup pvs) hl
      have hP10 : Prs (upd F9 l (.tup pvs)) (.ref l) ps := ⟨false, .tup_i upd_same p2 ((p3.mono e79 _ _).mono gL.fle _ _)⟩
      refine ⟨upd F9 l (.tup pvs), .ref x, .ref l, (M : Nat), ws, ps, rfl, gL.le, (hW7.mono e79).mono gL.fle, hP10, hv, hok, fun F10 H10 g hno => k _ _ _ (gL.trans g) (.inl ⟨hno, rfl⟩), fun F10 H10 r ways g hr hrn hA => k _ _ _ (gL.trans g) (.inr ⟨hrn, ways, hA, hr⟩)⟩
    refine nCons (nCall (nCons (nVar rfl (nCons (nVar rfl ⟨F7, .ref x, v, (M : Nat), ws, ps, rfl, hle8, hW7, hP7, hv, hok, fun F9 H9 g hno => ?_, fun F9 H9 r ways g hr hrn hA => ?_⟩)))))
    · have hbf : b = false := by
        cases b with
        | false => rfl
        | true => exact absurd (hb.mp rfl) hno
      refine second F9 H9 _ g.fle g.le (hh8.gw g) fun rv F10 H10 g2 hc => hQ _ _ _ ⟨F10, (g.trans g2).fle, g2.le, (hh8.gw g).gw g2, .inl ⟨hbf, rfl, ?_⟩⟩
      rcases hc with ⟨_, hc⟩ | ⟨_, w2, hA, _⟩
      · exact hc
      · exact absurd ⟨w2, hA⟩ hno
    · have hbt : b = true := hb.mpr ⟨ways, hA⟩
      refine second F9 H9 _ g.fle g.le (hh8.gw g) fun rv F10 H10 g2 hc => hQ _ _ _ ⟨F10, (g.trans g2).fle, g2.le, (hh8.gw g).gw g2, .inr ⟨hbt, hrn, ?_⟩⟩
      rcases hc with ⟨hno, _⟩ | ⟨hrn2, w2, hA2, hr2⟩
      · exact absurd ⟨ways, hA⟩ hno
      · exact ⟨hrn2, ways, w2, hA, hA2, hr.mono g2.fle _ _, hr2⟩
  try dsimp only
  show tSeq _ _ _ [some (.ref a), some (.ref h), some vi, some (.int (M : Nat)), some (.ref wa), some (.ref x), some v, some (.bl b), some wv, some rv, o10, o11, none, none] H9
  have hw9 := hw7.mono hF9 _ _
  have hW9 := hW7.mono hF9
  have hps9 := hps.mono hF9 _ _
  have hP9 : Prs F9 v ps := ⟨true, hps9⟩
  clear hle8 hh8 e8 hw7 hW7 hP7 hps hF9
  have hn1 : (!decide (wv = V.non)) = b := by
    rcases hcase with ⟨rfl, rfl, _⟩ | ⟨rfl, z, _⟩
    · rfl
    · simp [z]
  have hn2 : (!decide (rv = V.non)) = b := by
    rcases hcase with ⟨rfl, _, rfl⟩ | ⟨rfl, _, z, _⟩
    · rfl
    · simp [z]
  have hne : ∀ c d : Bool, c = d → (!decide (V.bl c = V.bl d)) = false := fun c d e => by rw [e]; simp
  refine q_when (b := false || false) (EvT.mono hle9 (et_or (et_is (et_test (ev_op (ev_notN (ev_var rfl)) (ev_var rfl) (rv_ne rfl))) (hne _ _ hn1)) fun _ => et_is (et_test (ev_op (ev_notN (ev_var rfl)) (ev_var rfl) (rv_ne rfl))) (hne _ _ hn2))) (fun z => by cases z) (fun _ H10 e10 => ?_)
  have hle10 := hle9.trans e10
  have hh10 := hh9.ext e10
  have hp4 := hv.hi
  refine q_when (b := b && false) (EvT.mono hle10 (et_and (et_test (ev_var rfl)) fun hbt => ?_)) (fun z => by rw [Bool.and_false] at z; cases z) (fun _ H11 e11 => ?_)
  · rcases hcase with ⟨rfl, _⟩ | ⟨_, _, _, ways, _, hA, _, hrw, _⟩
    · cases hbt
    · exact et_is (et_not (et_test (ev_call (ea_cons (ev_var rfl) (ea_cons (ev_var rfl) (ea_cons (ev_var rfl) (ea_cons (ev_var rfl) ea_nil)))) (svRight' hw9 hP9 hp4 hrw)))) (by rw [ways_right hok hv hA]; rfl)
  have hle11 := hle10.trans e11
  have hh11 := hh10.ext e11
  refine q_when (b := b && false) (EvT.mono hle11 (et_and (et_test (ev_var rfl)) fun hbt => ?_)) (fun z => by rw [Bool.and_false] at z; cases z) (fun _ H12 e12 => ?_)
  · rcases hcase with ⟨rfl, _⟩ | ⟨_, _, _, _, ways2, _, hA2, _, hrr⟩
    · cases hbt
    · exact et_is (et_not (et_test (ev_call (ea_cons (ev_var rfl) (ea_cons (ev_var rfl) (ea_cons (ev_var rfl) (ea_cons (ev_var rfl) ea_nil)))) (svSightR hw9 hP9 hv hok hrr (goods_it8 (k := true) (it8_run _ _)))))) (by rw [first_right hok hv hA2]; rfl)
  have hle12 := hle11.trans e12
  have hh12 := hh11.ext e12
  clear hle10 hle11 hh10 hh11 hh9 hle9 e10 e11 e12 hn1 hn2 hne
  have hpsl : ∀ {F : Hp} {u : V}, Rp F (.lst (ps.map pT)) u → ∃ pa pvs, u = .ref pa ∧ F pa = some (.lst pvs) ∧ Rps F (ps.map pT) pvs ∧ pvs.length = ps.length := fun h => by
    obtain ⟨pa, pvs, e, p1, p2, p3⟩ := h
    exact ⟨pa, pvs, e, p1, p3, by rw [← p3.len, List.length_map]⟩
  have hg1 : EvG _ [some (.ref a), some (.ref h), some vi, some (.int (M : Nat)), some (.ref wa), some (.ref x), some v, some (.bl b), some wv, some rv, o10, o11, none, none] F9 (fun F2 u => ∃ ts, Rp F2 (.tup ts) u ∧ ts.length ≤ 40 ∧ ∀ x ∈ ts, It8 x) :=
    eg_if (tt := tTest (tVar 7)) (ta := tVar 8) (tb := tCB (fun xs H Q => ∃ p ys, xs = [.ref p] ∧ ((SqL K H p ys ∧ ∀ l, H l = none → Q (.ref l) (upd H l (.tup ys))) ∨ (SqT K H p ys ∧ Q (.ref p) H))) (tCons (tLc (iSq K (tVar 6)) (gName 12) tYes (tCB (fun xs H Q => ∃ p ys, xs = [.ref p] ∧ ((SqL K H p ys ∧ ∀ l, H l = none → Q (.ref l) (upd H l (.tup ys))) ∨ (SqT K H p ys ∧ Q (.ref p) H))) (tCons (tVar 12) tNil)) [12]) tNil)) (b := b) (et_test (ev_var rfl)) (fun hbt => by
      rcases hcase with ⟨rfl, _⟩ | ⟨_, _, _, ways, _, hA, _, hrw, _⟩
      · cases hbt
      · have h7 := AW.flen hok hv hA
        exact fun F1 H1 e1 e2 Q q => nVar rfl (q wv F1 H1 (Gw.refl e2) ⟨ways.map iT, hrw.mono e1 _ _, by rw [List.length_map, hA.len]; omega, it8_ways h7⟩)) (fun _ => by
      obtain ⟨pa, pvs, rfl, p1, p3, pl⟩ := hpsl hps9
      refine (eg_tupOf (en_lcN (F := F9) (σ := [some (.ref a), some (.ref h), some vi, some (.int (M : Nat)), some (.ref wa), some (.ref x), some (.ref pa), some (.bl b), some wv, some rv, o10, o11, none, none]) (vs := [12]) (j := 12) (walk_sq (K := K) (k := true) (a := pa) (xs := pvs)) (evi_sq (K := K) (tl := tVar 6) (ev_var rfl) (sq_of p1)) (fun H e => ex_sq (k := true) e (sq_of p1)) (fun i H x H' _ y => by rw [y.1]; exact Ex.refl H) (fun _ => rfl) (by omega) (fun i => pT (ps.getD i (0, 0))) (fun i y Ha Hb hi e yy => by
        obtain ⟨rfl, hy⟩ := yy
        obtain ⟨pp, ab, k1, rfl, k2⟩ := rps_pT p3 hy
        have hg : ps.getD i (0, 0) = pp := by rw [List.getD_eq_getElem?_getD, k1]; rfl
        rw [hg]
        exact eg_val (ev_tupT (ev_var rfl) k2) (rp_pT k2))) (by rw [List.length_map, List.length_range]; omega)).imp fun F' u hu => ⟨_, hu, by rw [List.length_map, List.length_range]; omega, fun z hz => by
        obtain ⟨i, _, rfl⟩ := List.mem_map.mp hz
        exact it8_pT _⟩)
  refine q_asgG hg1 hle12 fun u1 F13 H13 g13 hu1 => ?_
  obtain ⟨ts1, hts1, hl1, hi1⟩ := hu1
  try dsimp only
  show tSeq _ _ _ [some (.ref a), some (.ref h), some vi, some (.int (M : Nat)), some (.ref wa), some (.ref x), some v, some (.bl b), some wv, some rv, some u1, o11, none, none] H13
  have hh13 := hh12.gw g13
  refine q_forNew (Sx := fun D xs H15 => ∃ F14 u2 t2, xs = [u1, u2, V.non] ∧ Ex F14 H15 ∧ HdAt F14 H15 h ∧ Ex F13 F14 ∧ Rp F14 t2 u2) (fun QQ hQ => ?_) (fun D xs H15 hD ⟨F14, u2, t2, exs, hle14, hh14, e14, ht2⟩ => ⟨fun i σ' H' => ∃ o11', σ' = [some (.ref a), some (.ref h), some vi, some (.int (M : Nat)), some (.ref wa), some (.ref x), some v, some (.bl b), some wv, some rv, some u1, o11', none, none] ∧ Ex H15 H', ⟨_, rfl, Ex.refl _⟩, fun i σ' H' ⟨_, _, e⟩ => e _ _ hD, fun i y σ1 H2 hy hp => ?_, fun σ' H' hp => ?_⟩)
  · refine nLst (nCons (nVar rfl (nCons (nCall (nCons (nVar rfl (nCons (nVar rfl (nCons (nVar rfl ⟨F13, h, false, ts1, u1, (M : Nat), rfl, g13.le, hh13, hts1, hl1, hi1, hlo, hhi, fun F14 H14 u2 t2 g14 hh14 ht2 _ => nCons (nC ⟨by show 3 ≤ sizeLine; decide, fun D hD => ?_⟩)⟩))))))))))
    exact hQ D _ _ upd_same ⟨F14, u2, t2, rfl, g14.le.trans (Ex.new hD), hh14.new hD, g14.fle, ht2⟩
  · subst exs
    obtain ⟨o11', rfl, e2⟩ := hp
    have hrps : Rps F14 [.tup ts1, t2, .non] [u1, u2, V.non] := ⟨_, _, rfl, hts1.mono e14 _ _, _, _, rfl, ht2, _, _, rfl, rfl, rfl⟩
    obtain ⟨t, _, ht⟩ := hrps.at hy
    have e914 : Ex F9 F14 := g13.fle.trans e14
    refine gN ?_
    show tIfS _ _ _ _ [some (.ref a), some (.ref h), some vi, some (.int (M : Nat)), some (.ref wa), some (.ref x), some v, some (.bl b), some wv, some rv, some u1, some y, none, none] H2
    refine s_when (b := false) (EvT.mono (hle14.trans e2) (et_is (et_not (et_test (ev_call (ea_cons (ev_call (ea_cons (ev_var rfl) (ea_cons (ev_var rfl) (ea_cons (ev_var rfl) ea_nil))) (svWays (hW9.mono e914) (hP9.mono e914) hv ht)) (ea_cons (ev_call (ea_cons (ev_var rfl) (ea_cons (ev_var rfl) (ea_cons (ev_var rfl) (ea_cons (ev_var rfl) ea_nil)))) (svRight' (hw9.mono e914 _ _) (hP9.mono e914) hp4 ht)) ea_nil)) (svFlag _ _)))) (by rw [ways_judges]; simp))) (fun z => by cases z) (fun _ H3 e3 => ⟨_, rfl, e2.trans e3⟩)
  subst exs
  obtain ⟨o11', rfl, e15⟩ := hp
  have hle16 := hle14.trans e15
  have hh16 := hh14.ext e15
  have e914 : Ex F9 F14 := g13.fle.trans e14
  have hg2 : EvG _ [some (.ref a), some (.ref h), some vi, some (.int (M : Nat)), some (.ref wa), some (.ref x), some v, some (.bl b), some wv, some rv, some u1, o11', none, none] F14 (fun F2 u => ∃ ts, Rp F2 (.lst ts) u ∧ ts.length ≤ 40 ∧ ∀ x ∈ ts, It8 x) :=
    eg_if (tt := tTest (tVar 7)) (ta := tVar 9) (tb := tLc (iRng1 (tCons (tCB (rLenS K) (tCons (tVar 6) tNil)) tNil)) (gName 13) tYes (tTup (tCons (tC (.str "put")) (tCons (tVar 13) tNil))) [13]) (b := b) (et_test (ev_var rfl)) (fun hbt => by
      rcases hcase with ⟨rfl, _⟩ | ⟨_, _, _, _, ways2, _, hA2, _, hrr⟩
      · cases hbt
      · have h7 := AW.flen hok hv hA2
        have hrl := run_len (ways := ways2) (AW.ne hA2) ways2.length (Nat.le_refl _)
        rw [List.take_length] at hrl
        exact fun F1 H1 e1 e2 Q q => nVar rfl (q rv F1 H1 (Gw.refl e2) ⟨_, hrr.mono (e914.trans e1) _ _, by omega, it8_run _ _⟩)) (fun _ => by
      obtain ⟨pa, pvs, rfl, p1, p3, pl⟩ := hpsl (hps9.mono e914 _ _)
      refine (eg_lst (en_lcN (F := F14) (σ := [some (.ref a), some (.ref h), some vi, some (.int (M : Nat)), some (.ref wa), some (.ref x), some (.ref pa), some (.bl b), some wv, some rv, some u1, o11', none, none]) (vs := [13]) (j := 13) (walk_range (lo := 0) (n := pvs.length)) (evi_r1 (n := (pvs.length : Nat)) (ea_cons (ev_lenSq (K := K) (k := true) (ev_var rfl) (sq_of p1)) ea_nil) (by omega) (by omega)) (fun _ _ => trivial) (fun i H x H' _ y => by rw [y.1]; exact Ex.refl H) (fun _ => rfl) (by omega) (fun i => putT (i : Nat)) (fun i y Ha Hb hi e yy => by
        obtain ⟨rfl, rfl⟩ := yy
        exact eg_tup (ea_cons ev_c (ea_cons (ev_var rfl) ea_nil)) ⟨_, _, rfl, rfl, _, _, rfl, (show V.int (0 + (i : Int)) = V.int (i : Int) by rw [Int.zero_add]), rfl⟩ (by show 2 ≤ 60; decide))) (by rw [List.length_map, List.length_range]; omega)).imp fun F' u hu => ⟨_, hu, by rw [List.length_map, List.length_range]; omega, fun z hz => by
        obtain ⟨i, _, rfl⟩ := List.mem_map.mp hz
        exact it8_putT _⟩)
  refine q_asgG hg2 hle16 fun u5 F17 H17 g17 hu5 => ?_
  obtain ⟨ts2, hts2, hl2, hi2⟩ := hu5
  try dsimp only
  show tFor _ _ _ _ [some (.ref a), some (.ref h), some vi, some (.int (M : Nat)), some (.ref wa), some (.ref x), some v, some (.bl b), some wv, some rv, some u5, o11', none, none] H17
  have hh17 := hh16.gw g17
  have hG2 : ∀ k, Goods (kT k ts2) := fun k => goods_it8 hi2
  refine s_forNew (Sx := fun D xs H18 => ∃ F18 l u3 u4 t3 t4, xs = [u5, .ref l, u3, u4] ∧ Ex F18 H18 ∧ HdAt F18 H18 h ∧ Ex F17 F18 ∧ Rp F18 (.tup ts2) (.ref l) ∧ Rp F18 t3 u3 ∧ Goods t3 ∧ Rp F18 t4 u4 ∧ Goods t4) (fun QQ hQ => ?_) (fun D xs H18 hD ⟨F18, l, u3, u4, t3, t4, exs, hle18, hh18, e18, hl18, ht3, hg3, ht4, hg4⟩ => ⟨fun i σ' H' => ∃ o11', σ' = [some (.ref a), some (.ref h), some vi, some (.int (M : Nat)), some (.ref wa), some (.ref x), some v, some (.bl b), some wv, some rv, some u5, o11', none, none] ∧ Ex H18 H', ⟨_, rfl, Ex.refl _⟩, fun i σ' H' ⟨_, _, e⟩ => e _ _ hD, fun i y σ1 H2 hy hp => ?_, fun σ' H' hp => ?_⟩)
  · have hts2' := hts2
    obtain ⟨ra, rvs, rfl, r1, r2, r3⟩ := hts2'
    refine nLst (nCons (nVar rfl (nCons (nCB (nCons (nVar rfl ⟨ra, rvs, rfl, .inl ⟨sq_of (g17.le _ _ r1), fun l hl => ?_⟩⟩))))))
    have gL := (Gw.refl (M := Mn) g17.le).alloc (o := .tup rvs) hl
    have hhL := hh17.gw gL
    have hl0 : Rp (upd F17 l (.tup rvs)) (.tup ts2) (.ref l) := .tup_i upd_same r2 (r3.mono gL.fle _ _)
    refine nCons (nCall (nCons (nVar rfl (nCons (nVar rfl (nCons (nVar rfl ⟨_, h, true, ts2, .ref ra, (M : Nat), rfl, gL.le, hhL, hts2.mono gL.fle _ _, hl2, hi2, hlo, hhi, fun F19 H19 u3 t3 g19 hh19 ht3 hg3 => ?_⟩)))))))
    refine nCons (nCall (nCons (nVar rfl (nCons (nVar rfl (nCons (nVar rfl ⟨F19, h, true, ts2, .ref ra, (M : Nat), rfl, g19.le, hh19, (hts2.mono gL.fle _ _).mono g19.fle _ _, hl2, hi2, hlo, hhi, fun F20 H20 u4 t4 g20 hh20 ht4 hg4 => ⟨by show 4 ≤ sizeLine; decide, fun D hD => ?_⟩⟩)))))))
    exact hQ D _ _ upd_same ⟨F20, l, u3, u4, t3, t4, rfl, g20.le.trans (Ex.new hD), hh20.new hD, gL.fle.trans (g19.fle.trans g20.fle), (hl0.mono g19.fle _ _).mono g20.fle _ _, ht3.mono g20.fle _ _, hg3 rfl, ht4, hg4 rfl⟩
  · subst exs
    obtain ⟨o11', rfl, e2⟩ := hp
    have e918 : Ex F9 F18 := e914.trans (g17.fle.trans e18)
    obtain ⟨t, ht, hgt⟩ : ∃ t, Rp F18 t y ∧ Goods t := by
      match i, hy with
      | 0, hy => cases hy; exact ⟨_, hts2.mono e18 _ _, hG2 true⟩
      | 1, hy => cases hy; exact ⟨_, hl18, hG2 false⟩
      | 2, hy => cases hy; exact ⟨_, ht3, hg3⟩
      | 3, hy => cases hy; exact ⟨_, ht4, hg4⟩
      | j + 4, hy => simp at hy
    refine gN ?_
    show tIfS _ _ _ _ [some (.ref a), some (.ref h), some vi, some (.int (M : Nat)), some (.ref wa), some (.ref x), some v, some (.bl b), some wv, some rv, some u5, some y, none, none] H2
    refine s_when (b := false) (EvT.mono (hle18.trans e2) (et_is (et_not (et_test (ev_call (ea_cons (ev_call (ea_cons (ev_var rfl) (ea_cons (ev_var rfl) (ea_cons (ev_var rfl) ea_nil))) (svIsFS (hW9.mono e918) (hP9.mono e918) hv hok ht)) (ea_cons (ev_call (ea_cons (ev_var rfl) (ea_cons (ev_var rfl) (ea_cons (ev_var rfl) (ea_cons (ev_var rfl) ea_nil)))) (svSightR (hw9.mono e918 _ _) (hP9.mono e918) hv hok ht hgt)) ea_nil)) (svFlag _ _)))) (by simp))) (fun z => by cases z) (fun _ H3 e3 => ⟨_, rfl, e2.trans e3⟩)
  · obtain ⟨o11', rfl, e2⟩ := hp
    exact ⟨F18, _, _, _, _, _, _, _, _, _, _, rfl, hle18.trans e2, hh18.ext e2⟩
end
end GD

namespace G
open PySem PySem.Spec PyProof.Rows L2
abbrev R : PySem.W.OpenRow := PySem.W.OpenLaw.row PySem.Challenge.rw_growalong_k22_whole_first_sights_and_way
abbrev hk : PySem.W.Hook := He.hookD 5 fa fn
def ob (s : PySem.W.SharedT) : He.AlD := He.obsDG 5 fa fn (HandSHeadRun.getT s)
theorem ob_eq (s : PySem.W.SharedT) : ob s = hk.obs s.abs := He.obsDG_eq (HandSHeadRun.getT_eq s)
def loose : List PySem.Str := (["GrowError", "BadWeb", "NoSights", "is_integer", "is_within", "is_listed", "is_pair", "is_row", "are_unlike", "MOST_MACHINES", "is_wire_pair", "Web", "outs", "MOST_STEPS", "Wires", "first_bad", "is_steps", "leads_to", "MOST_SIGHTS", "are_sights", "check_sights", "ways_between", "ways_behind"] : List PySem.Str) ++ (["ways_apart", "first_sights", "is_way", "is_ways_apart", "is_first_sights", "_law_draw", "_law_both", "_law_wires", "_law_web", "_law_deep", "_law_hand", "_law_shuffled", "_law_sights", "_law_ways", "_law_some_ways", "_law_whole", "_law_ways_right", "_law_floor", "_law_write", "_law_step", "_law_sight_right", "_law_flag", "_law_shape", "_law_bent"] : List PySem.Str)
theorem run (w : World) : HandSHeadRun.RunEq R (PySem.W.view R.prog [53]) hk ob 3000 loose w := by
  intro os
  kernel_rfl
end G

/-! ## The head -/
namespace GD
open PySem L2 Evl G SQ
theorem facts {P : Program} {w : World} {K : PySem.W.Frag} {h : Heap} {mg : Str → Option Value} {f : Addr} (X : K.In h) (Gn : h.Ns mainGlobals mg) (hfa : mg ("law" : Str) = some (.ref f)) (c : He.SaysD G.fa G.fn K) :
    ∃ fd : FuncData, (∀ (s : Shared) (v : Value), BindsTo s fd ⟨[v], []⟩ [("_law_script", v)]) ∧ ∀ base : Heap, K.In base → base.Ns mainGlobals mg → FnOk P w K mg base CX0 9 f fd ["_law_script"] (GD.spLaw K) := by
  have T : TX K mg := ⟨c, h, X, Gn⟩
  have e := hfa.symm.trans T.g_law
  cases e
  have b := FunD.bindsA (ps := ["_law_script"]) T.f_law fun _ _ _ _ _ _ us hl => match us, hl with | [_], _ => rfl
  exact ⟨_, fun s v => b s [v] rfl, fun base _ _ => ok_law T⟩
end GD
open PySem PySem.W PySem.Calls PyProof.Rows
theorem PySem.Challenge.cw_growalong_k22_whole_first_sights_and_way_holds : PySem.Challenge.rw_growalong_k22_whole_first_sights_and_way.Holds := by
  w_on; o_law
  refine HandSHeadRun.head_any (r := G.R) (q := view G.R.prog [53]) (H := G.hk) (ob := G.ob) (M := 3000) (loose := G.loose) (d := HandSHeadRun.topDef G.R.prog 53) (kwd := []) G.ob_eq
    (by kernel_rfl) (fun s => by kernel_rfl) G.run (by kernel_rfl) (by kernel_rfl) (by kernel_rfl) (by rfl) (by first | assumption | decide +kernel) (by decide +kernel) ⟨rfl, rfl, rfl, rfl, rfl, by decide +kernel⟩ ?hw ?hc
  case hw => w_witness2
  case hc =>
    refine L2.walk_ofE (l := PySem.Challenge.rw_growalong_k22_whole_first_sights_and_way) (n := 63) (k := 9) (x := "_law_script") (CX := L2.CX0) rfl (by decide) (by kernel_rfl) ⟨rfl, by decide, by decide⟩ ?F (fun _ _ _ _ z => z)
    intro w mg fadr h Y Gn hmg0
    obtain ⟨K, KX, c⟩ := Y
    have hmg : mg ("law" : PySem.Str) = some (.ref fadr) := by
      have e : (HandSHeadRun.topDef G.R.prog 53).name = ("law" : PySem.Str) := by kernel_rfl
      rw [← e]
      exact hmg0
    obtain ⟨fd, hb, hF⟩ := GD.facts (P := (PySem.Challenge.rw_growalong_k22_whole_first_sights_and_way).prog) (w := w) KX Gn hmg c
    exact ⟨K, fd, GD.spLaw K, KX, hb, fun H a ns hl _ hS => ⟨H, a, ns, rfl, (fun _ _ z => z), hS, fun _ => rfl⟩, hF⟩

