import PyProof.Rows.All
import Wide.All
import OpenK.AllK
import Wide.FinOn
import HandS.ForMost
import HandS.ForExc
import HandS.Defaults
import HandS.Property
import HandS.IsInst
import HandS.Codes
import HandS.HeadHook4
import PySem.Challenge.RW_roomdials_k71_whole_attempts
import KE.KExcInit
import HandS.HeadWalk
import KE.KStateDown
import Lean
import HandS.Head0
import HandS.Head1
import HandS.Head2
import HandS.OwnEq
import HandS.Conv
import HandS.Style
import HandS.Flow
import HandS.Star
import HandS.Walk
import HandS.More
import HandS.SetKeys
import KE.KDictList
import KE.SortData
import KE.KRevSl
import HandS.DictComp
import HandS.Deep
import PyProof.EnumMake
import PyProof.Draws
import KE.GoesMore
import PyProof.InstNe
import HandS.NoneIn
import KE.KParD
import HandS.MakeKw
import HandS.ExcInit
import HandS.TryMany
import HandS.Finally
import HandS.Lambda
import HandS.Small
import HandS.Strs
import PyProof.ReprRoads
import HandS.RaiseOp
import HandS.NestedK
set_option Elab.async false
set_option linter.all false
set_option maxRecDepth 100000
set_option maxHeartbeats 0
/-! Printed by gen_head.py: the places of the program's statements. -/
namespace RD
open PySem PySem.Spec PyProof.Rows L2
def top (i : Nat) : Stmt := PySem.Challenge.pw_roomdials_k71_whole_attempts.main.body.getD i (.Pass ⟨0, 0, 0, 0⟩)
abbrev s_gcd_of : Stmt := top 16
abbrev s_joined_rooms : Stmt := top 17
abbrev s_steps_from : Stmt := top 18
abbrev s_reached_from : Stmt := top 19
abbrev s_level_corridor : Stmt := top 20
abbrev s_sides_of : Stmt := top 21
abbrev s_odd_ring_of : Stmt := top 22
abbrev s_on_rings : Stmt := top 23
abbrev s_bridges_of : Stmt := top 24
abbrev s_is_name : Stmt := top 29
abbrev s_is_integer : Stmt := top 30
abbrev s_is_between : Stmt := top 31
abbrev s_wrong_place : Stmt := top 32
abbrev s_pair_of : Stmt := top 36
abbrev s_trace_along : Stmt := top 46
abbrev s_begin : Stmt := top 50
abbrev s_draw : Stmt := top 51
abbrev s_pick : Stmt := top 52
abbrev s_shuffled : Stmt := top 53
abbrev s_names : Stmt := top 54
abbrev s_pair : Stmt := top 55
abbrev s_drawn : Stmt := top 56
abbrev s_built : Stmt := top 57
abbrev s_near : Stmt := top 58
abbrev s_wandered : Stmt := top 59
abbrev s_left : Stmt := top 60
abbrev s_sizes : Stmt := top 61
abbrev s_traced : Stmt := top 62
abbrev s_go : Stmt := top 63
abbrev s_shown : Stmt := top 64
abbrev s_is_house : Stmt := top 65
abbrev s_cut_calls : Stmt := top 66
abbrev s_log_due : Stmt := top 67
abbrev s_deeds : Stmt := top 68
abbrev s_done : Stmt := top 69
abbrev s_noted : Stmt := top 70
abbrev s_attempted : Stmt := top 71
abbrev s_tried : Stmt := top 72
abbrev s_scene : Stmt := top 73
abbrev s_logged : Stmt := top 74
abbrev s_law : Stmt := top 75
abbrev sInvalidWalk_init : Stmt := inClass (top 10) 0
abbrev sNothingToUndo_init : Stmt := inClass (top 14) 0
abbrev sWalk_init : Stmt := inClass (top 33) 0
abbrev sWalk_len : Stmt := inClass (top 33) 8
abbrev sBuilding_init : Stmt := inClass (top 40) 3
abbrev sBuilding_prepare : Stmt := inClass (top 40) 4
abbrev sBuilding_sorted_pairs : Stmt := inClass (top 40) 5
abbrev sBuilding_check_connected : Stmt := inClass (top 40) 6
abbrev sBuilding_neighbours : Stmt := inClass (top 40) 16
abbrev sBuilding_contains : Stmt := inClass (top 40) 22
abbrev sBuilding_getitem : Stmt := inClass (top 40) 23
abbrev sBuilding_eq : Stmt := inClass (top 40) 24
abbrev sTrace_init : Stmt := inClass (top 44) 0
abbrev sTrace_found_balance : Stmt := inClass (top 44) 7
abbrev sTrace_eq : Stmt := inClass (top 44) 14
abbrev sHouse_init : Stmt := inClass (top 47) 0
abbrev sHouse_go : Stmt := inClass (top 47) 7
abbrev sHouse_undo : Stmt := inClass (top 47) 8
abbrev sHouse_attempt : Stmt := inClass (top 47) 9
abbrev sWalk_rooms : Stmt := inClass (top 33) 2
abbrev sBuilding_rooms : Stmt := inClass (top 40) 10
abbrev sBuilding_sides : Stmt := inClass (top 40) 12
abbrev sHouse_building : Stmt := inClass (top 47) 1
abbrev sHouse_place : Stmt := inClass (top 47) 2
abbrev sHouse_step_count : Stmt := inClass (top 47) 3
abbrev sHouse_dials : Stmt := inClass (top 47) 4
abbrev sHouse_walk : Stmt := inClass (top 47) 5
abbrev sHouse_trace : Stmt := inClass (top 47) 6
abbrev sLoggedHouse_log : Stmt := inClass (top 48) 0
end RD

/-! Printed by gen_head.py: what the head tells, by names. -/
namespace RD
open PySem PySem.Spec PyProof.Rows L2
def exB : List Value := [.type "Exception", .type "BaseException", .type "object"]
/-- the getter of a property -/
def gAd (K : PySem.W.Frag) (p : Addr) : Addr := match PySem.W.recIn K p "property" with
  | some (.ref g :: _) => g
  | _ => 0
def fnWa (K : PySem.W.Frag) (f : Addr) : He.FnW := match K.lookup f with
  | some ⟨_, _, .func fd, _⟩ => some (fd.name, fd.qualname, fd.params, fd.body, fd.scope, fd.globals, fd.closure, fd.builtins)
  | _ => none
def okA (K : PySem.W.Frag) (f : Addr) (d : He.DefD) : Bool := PySem.W.keepIn K (.ref f) && (match K.lookup f with
  | some ⟨_, _, .func fd, _⟩ => PySem.W.codeIn K fd.code d.qual && (He.dflB K fd.defaults (d.dvs K) && He.kwdB K fd.kwdefaults (d.kws K))
  | _ => false)
theorem funA {K : PySem.W.Frag} {f : Addr} {d : He.DefD} (e : fnWa K f = d.val) (c : okA K f d = true) : ∃ fd, FunD K d.name d.qual d.params d.body d.scope (d.dvs K) (d.kws K) f fd := by
  obtain ⟨kp, c2⟩ := He.ba c
  unfold fnWa at e
  cases q : K.lookup f with
  | none => rw [q] at c2; cases c2
  | some o =>
    obtain ⟨oc, od, dt, osl⟩ := o
    rw [q] at c2 e
    cases dt with
    | func fd =>
      obtain ⟨n1, n2, n3, n4, n5, n6, n7, n8, n9, n10, n11, n12, n13, n14, n15⟩ := fd
      have e' : (some (n1, n2, n3, n4, n5, n6, n7, n15) : He.FnW) = d.val := e
      simp only [He.DefD.val, Option.some.injEq, Prod.mk.injEq] at e'
      obtain ⟨a1, a2, a3, a4, a5, a6, a7, a8⟩ := e'
      subst a1 a2 a3 a4 a5 a6 a7 a8
      obtain ⟨k1, k2⟩ := He.ba (show (PySem.W.codeIn K n13 d.qual && (He.dflB K n8 (d.dvs K) && He.kwdB K n9 (d.kws K))) = true from c2)
      obtain ⟨k3, k4⟩ := He.ba k2
      exact ⟨_, ⟨oc, od, n8, n9, n10, n11, n12, n13, n14, osl, rfl, q, k1, He.dflB_ok k3, He.kwdB_ok k4⟩, kp⟩
    | _ => cases c2
def d_gcd_of : He.DefD := ⟨("gcd_of", none), "gcd_of", "gcd_of", defArgs s_gcd_of, defBody s_gcd_of, defScope s_gcd_of, [], []⟩
def d_joined_rooms : He.DefD := ⟨("joined_rooms", none), "joined_rooms", "joined_rooms", defArgs s_joined_rooms, defBody s_joined_rooms, defScope s_joined_rooms, [], []⟩
def d_steps_from : He.DefD := ⟨("steps_from", none), "steps_from", "steps_from", defArgs s_steps_from, defBody s_steps_from, defScope s_steps_from, [.adr (He.dflAt ("steps_from", none) 0)], []⟩
def d_reached_from : He.DefD := ⟨("reached_from", none), "reached_from", "reached_from", defArgs s_reached_from, defBody s_reached_from, defScope s_reached_from, [.adr (He.dflAt ("reached_from", none) 0)], []⟩
def d_level_corridor : He.DefD := ⟨("level_corridor", none), "level_corridor", "level_corridor", defArgs s_level_corridor, defBody s_level_corridor, defScope s_level_corridor, [], []⟩
def d_sides_of : He.DefD := ⟨("sides_of", none), "sides_of", "sides_of", defArgs s_sides_of, defBody s_sides_of, defScope s_sides_of, [], []⟩
def d_odd_ring_of : He.DefD := ⟨("odd_ring_of", none), "odd_ring_of", "odd_ring_of", defArgs s_odd_ring_of, defBody s_odd_ring_of, defScope s_odd_ring_of, [], []⟩
def d_on_rings : He.DefD := ⟨("on_rings", none), "on_rings", "on_rings", defArgs s_on_rings, defBody s_on_rings, defScope s_on_rings, [], []⟩
def d_bridges_of : He.DefD := ⟨("bridges_of", none), "bridges_of", "bridges_of", defArgs s_bridges_of, defBody s_bridges_of, defScope s_bridges_of, [], []⟩
def d_is_name : He.DefD := ⟨("is_name", none), "is_name", "is_name", defArgs s_is_name, defBody s_is_name, defScope s_is_name, [], []⟩
def d_is_integer : He.DefD := ⟨("is_integer", none), "is_integer", "is_integer", defArgs s_is_integer, defBody s_is_integer, defScope s_is_integer, [], []⟩
def d_is_between : He.DefD := ⟨("is_between", none), "is_between", "is_between", defArgs s_is_between, defBody s_is_between, defScope s_is_between, [], []⟩
def d_wrong_place : He.DefD := ⟨("wrong_place", none), "wrong_place", "wrong_place", defArgs s_wrong_place, defBody s_wrong_place, defScope s_wrong_place, [], []⟩
def d_pair_of : He.DefD := ⟨("pair_of", none), "pair_of", "pair_of", defArgs s_pair_of, defBody s_pair_of, defScope s_pair_of, [], []⟩
def d_trace_along : He.DefD := ⟨("trace_along", none), "trace_along", "trace_along", defArgs s_trace_along, defBody s_trace_along, defScope s_trace_along, [], []⟩
def d_begin : He.DefD := ⟨("_law_begin", none), "_law_begin", "_law_begin", defArgs s_begin, defBody s_begin, defScope s_begin, [], []⟩
def d_draw : He.DefD := ⟨("_law_draw", none), "_law_draw", "_law_draw", defArgs s_draw, defBody s_draw, defScope s_draw, [], []⟩
def d_pick : He.DefD := ⟨("_law_pick", none), "_law_pick", "_law_pick", defArgs s_pick, defBody s_pick, defScope s_pick, [], []⟩
def d_shuffled : He.DefD := ⟨("_law_shuffled", none), "_law_shuffled", "_law_shuffled", defArgs s_shuffled, defBody s_shuffled, defScope s_shuffled, [], []⟩
def d_names : He.DefD := ⟨("_law_names", none), "_law_names", "_law_names", defArgs s_names, defBody s_names, defScope s_names, [], []⟩
def d_pair : He.DefD := ⟨("_law_pair", none), "_law_pair", "_law_pair", defArgs s_pair, defBody s_pair, defScope s_pair, [], []⟩
def d_drawn : He.DefD := ⟨("_law_drawn", none), "_law_drawn", "_law_drawn", defArgs s_drawn, defBody s_drawn, defScope s_drawn, [], []⟩
def d_built : He.DefD := ⟨("_law_built", none), "_law_built", "_law_built", defArgs s_built, defBody s_built, defScope s_built, [], []⟩
def d_near : He.DefD := ⟨("_law_near", none), "_law_near", "_law_near", defArgs s_near, defBody s_near, defScope s_near, [], []⟩
def d_wandered : He.DefD := ⟨("_law_wandered", none), "_law_wandered", "_law_wandered", defArgs s_wandered, defBody s_wandered, defScope s_wandered, [], []⟩
def d_left : He.DefD := ⟨("_law_left", none), "_law_left", "_law_left", defArgs s_left, defBody s_left, defScope s_left, [], []⟩
def d_sizes : He.DefD := ⟨("_law_sizes", none), "_law_sizes", "_law_sizes", defArgs s_sizes, defBody s_sizes, defScope s_sizes, [], []⟩
def d_traced : He.DefD := ⟨("_law_traced", none), "_law_traced", "_law_traced", defArgs s_traced, defBody s_traced, defScope s_traced, [], []⟩
def d_go : He.DefD := ⟨("_law_go", none), "_law_go", "_law_go", defArgs s_go, defBody s_go, defScope s_go, [], []⟩
def d_shown : He.DefD := ⟨("_law_shown", none), "_law_shown", "_law_shown", defArgs s_shown, defBody s_shown, defScope s_shown, [], []⟩
def d_is_house : He.DefD := ⟨("_law_is_house", none), "_law_is_house", "_law_is_house", defArgs s_is_house, defBody s_is_house, defScope s_is_house, [], []⟩
def d_cut_calls : He.DefD := ⟨("_law_cut_calls", none), "_law_cut_calls", "_law_cut_calls", defArgs s_cut_calls, defBody s_cut_calls, defScope s_cut_calls, [], []⟩
def d_log_due : He.DefD := ⟨("_law_log_due", none), "_law_log_due", "_law_log_due", defArgs s_log_due, defBody s_log_due, defScope s_log_due, [], []⟩
def d_deeds : He.DefD := ⟨("_law_deeds", none), "_law_deeds", "_law_deeds", defArgs s_deeds, defBody s_deeds, defScope s_deeds, [], []⟩
def d_done : He.DefD := ⟨("_law_done", none), "_law_done", "_law_done", defArgs s_done, defBody s_done, defScope s_done, [], []⟩
def d_noted : He.DefD := ⟨("_law_noted", none), "_law_noted", "_law_noted", defArgs s_noted, defBody s_noted, defScope s_noted, [], []⟩
def d_attempted : He.DefD := ⟨("_law_attempted", none), "_law_attempted", "_law_attempted", defArgs s_attempted, defBody s_attempted, defScope s_attempted, [], []⟩
def d_tried : He.DefD := ⟨("_law_tried", none), "_law_tried", "_law_tried", defArgs s_tried, defBody s_tried, defScope s_tried, [], []⟩
def d_scene : He.DefD := ⟨("_law_scene", none), "_law_scene", "_law_scene", defArgs s_scene, defBody s_scene, defScope s_scene, [], []⟩
def d_logged : He.DefD := ⟨("_law_logged", none), "_law_logged", "_law_logged", defArgs s_logged, defBody s_logged, defScope s_logged, [], []⟩
def d_law : He.DefD := ⟨("law", none), "law", "law", defArgs s_law, defBody s_law, defScope s_law, [], []⟩
def dInvalidWalk_init : He.DefD := ⟨("InvalidWalk", some "__init__"), "__init__", "InvalidWalk.__init__", defArgs sInvalidWalk_init, defBody sInvalidWalk_init, defScope sInvalidWalk_init, [], []⟩
def dNothingToUndo_init : He.DefD := ⟨("NothingToUndo", some "__init__"), "__init__", "NothingToUndo.__init__", defArgs sNothingToUndo_init, defBody sNothingToUndo_init, defScope sNothingToUndo_init, [], []⟩
def dWalk_init : He.DefD := ⟨("Walk", some "__init__"), "__init__", "Walk.__init__", defArgs sWalk_init, defBody sWalk_init, defScope sWalk_init, [], []⟩
def dWalk_len : He.DefD := ⟨("Walk", some "__len__"), "__len__", "Walk.__len__", defArgs sWalk_len, defBody sWalk_len, defScope sWalk_len, [], []⟩
def dBuilding_init : He.DefD := ⟨("Building", some "__init__"), "__init__", "Building.__init__", defArgs sBuilding_init, defBody sBuilding_init, defScope sBuilding_init, [], []⟩
def dBuilding_prepare : He.DefD := ⟨("Building", some "prepare"), "prepare", "Building.prepare", defArgs sBuilding_prepare, defBody sBuilding_prepare, defScope sBuilding_prepare, [], []⟩
def dBuilding_sorted_pairs : He.DefD := ⟨("Building", some "sorted_pairs"), "sorted_pairs", "Building.sorted_pairs", defArgs sBuilding_sorted_pairs, defBody sBuilding_sorted_pairs, defScope sBuilding_sorted_pairs, [], []⟩
def dBuilding_check_connected : He.DefD := ⟨("Building", some "check_connected"), "check_connected", "Building.check_connected", defArgs sBuilding_check_connected, defBody sBuilding_check_connected, defScope sBuilding_check_connected, [], []⟩
def dBuilding_neighbours : He.DefD := ⟨("Building", some "neighbours"), "neighbours", "Building.neighbours", defArgs sBuilding_neighbours, defBody sBuilding_neighbours, defScope sBuilding_neighbours, [], []⟩
def dBuilding_contains : He.DefD := ⟨("Building", some "__contains__"), "__contains__", "Building.__contains__", defArgs sBuilding_contains, defBody sBuilding_contains, defScope sBuilding_contains, [], []⟩
def dBuilding_getitem : He.DefD := ⟨("Building", some "__getitem__"), "__getitem__", "Building.__getitem__", defArgs sBuilding_getitem, defBody sBuilding_getitem, defScope sBuilding_getitem, [], []⟩
def dBuilding_eq : He.DefD := ⟨("Building", some "__eq__"), "__eq__", "Building.__eq__", defArgs sBuilding_eq, defBody sBuilding_eq, defScope sBuilding_eq, [], []⟩
def dTrace_init : He.DefD := ⟨("Trace", some "__init__"), "__init__", "Trace.__init__", defArgs sTrace_init, defBody sTrace_init, defScope sTrace_init, [], []⟩
def dTrace_found_balance : He.DefD := ⟨("Trace", some "found_balance"), "found_balance", "Trace.found_balance", defArgs sTrace_found_balance, defBody sTrace_found_balance, defScope sTrace_found_balance, [], []⟩
def dTrace_eq : He.DefD := ⟨("Trace", some "__eq__"), "__eq__", "Trace.__eq__", defArgs sTrace_eq, defBody sTrace_eq, defScope sTrace_eq, [], []⟩
def dHouse_init : He.DefD := ⟨("LoggedHouse", some "__init__"), "__init__", "House.__init__", defArgs sHouse_init, defBody sHouse_init, defScope sHouse_init, [], []⟩
def dHouse_go : He.DefD := ⟨("LoggedHouse", some "go"), "go", "House.go", defArgs sHouse_go, defBody sHouse_go, defScope sHouse_go, [], []⟩
def dHouse_undo : He.DefD := ⟨("LoggedHouse", some "undo"), "undo", "House.undo", defArgs sHouse_undo, defBody sHouse_undo, defScope sHouse_undo, [], [("count", .int 1)]⟩
def dHouse_attempt : He.DefD := ⟨("LoggedHouse", some "attempt"), "attempt", "House.attempt", defArgs sHouse_attempt, defBody sHouse_attempt, defScope sHouse_attempt, [], []⟩
def dWalk_rooms : He.DefD := ⟨("Walk", some "rooms"), "rooms", "Walk.rooms", defArgs sWalk_rooms, defBody sWalk_rooms, defScope sWalk_rooms, [], []⟩
def dBuilding_rooms : He.DefD := ⟨("Building", some "rooms"), "rooms", "Building.rooms", defArgs sBuilding_rooms, defBody sBuilding_rooms, defScope sBuilding_rooms, [], []⟩
def dBuilding_sides : He.DefD := ⟨("Building", some "sides"), "sides", "Building.sides", defArgs sBuilding_sides, defBody sBuilding_sides, defScope sBuilding_sides, [], []⟩
def dHouse_building : He.DefD := ⟨("LoggedHouse", some "building"), "building", "House.building", defArgs sHouse_building, defBody sHouse_building, defScope sHouse_building, [], []⟩
def dHouse_place : He.DefD := ⟨("LoggedHouse", some "place"), "place", "House.place", defArgs sHouse_place, defBody sHouse_place, defScope sHouse_place, [], []⟩
def dHouse_step_count : He.DefD := ⟨("LoggedHouse", some "step_count"), "step_count", "House.step_count", defArgs sHouse_step_count, defBody sHouse_step_count, defScope sHouse_step_count, [], []⟩
def dHouse_dials : He.DefD := ⟨("LoggedHouse", some "dials"), "dials", "House.dials", defArgs sHouse_dials, defBody sHouse_dials, defScope sHouse_dials, [], []⟩
def dHouse_walk : He.DefD := ⟨("LoggedHouse", some "walk"), "walk", "House.walk", defArgs sHouse_walk, defBody sHouse_walk, defScope sHouse_walk, [], []⟩
def dHouse_trace : He.DefD := ⟨("LoggedHouse", some "trace"), "trace", "House.trace", defArgs sHouse_trace, defBody sHouse_trace, defScope sHouse_trace, [], []⟩
def dLoggedHouse_log : He.DefD := ⟨("LoggedHouse", some "log"), "log", "LoggedHouse.log", defArgs sLoggedHouse_log, defBody sLoggedHouse_log, defScope sLoggedHouse_log, [], []⟩
def fn : List He.DefD := [d_gcd_of, d_joined_rooms, d_steps_from, d_reached_from, d_level_corridor, d_sides_of, d_odd_ring_of, d_on_rings, d_bridges_of, d_is_name, d_is_integer, d_is_between, d_wrong_place, d_pair_of, d_trace_along, d_begin, d_draw, d_pick, d_shuffled, d_names, d_pair, d_drawn, d_built, d_near, d_wandered, d_left, d_sizes, d_traced, d_go, d_shown, d_is_house, d_cut_calls, d_log_due, d_deeds, d_done, d_noted, d_attempted, d_tried, d_scene, d_logged, d_law, dInvalidWalk_init, dNothingToUndo_init, dWalk_init, dWalk_len, dBuilding_init, dBuilding_prepare, dBuilding_sorted_pairs, dBuilding_check_connected, dBuilding_neighbours, dBuilding_contains, dBuilding_getitem, dBuilding_eq, dTrace_init, dTrace_found_balance, dTrace_eq, dHouse_init, dHouse_go, dHouse_undo, dHouse_attempt]
def gts : List (Str × Str × He.DefD) := [("Walk", "rooms", dWalk_rooms), ("Building", "rooms", dBuilding_rooms), ("Building", "sides", dBuilding_sides), ("LoggedHouse", "building", dHouse_building), ("LoggedHouse", "place", dHouse_place), ("LoggedHouse", "step_count", dHouse_step_count), ("LoggedHouse", "dials", dHouse_dials), ("LoggedHouse", "walk", dHouse_walk), ("LoggedHouse", "trace", dHouse_trace), ("LoggedHouse", "log", dLoggedHouse_log)]
def fa : List He.Fa := [.glo "gcd_of",
  .glo "joined_rooms",
  .glo "steps_from",
  .glo "reached_from",
  .glo "level_corridor",
  .glo "sides_of",
  .glo "odd_ring_of",
  .glo "on_rings",
  .glo "bridges_of",
  .glo "is_name",
  .glo "is_integer",
  .glo "is_between",
  .glo "wrong_place",
  .glo "pair_of",
  .glo "trace_along",
  .glo "_law_begin",
  .glo "_law_draw",
  .glo "_law_pick",
  .glo "_law_shuffled",
  .glo "_law_names",
  .glo "_law_pair",
  .glo "_law_drawn",
  .glo "_law_built",
  .glo "_law_near",
  .glo "_law_wandered",
  .glo "_law_left",
  .glo "_law_sizes",
  .glo "_law_traced",
  .glo "_law_go",
  .glo "_law_shown",
  .glo "_law_is_house",
  .glo "_law_cut_calls",
  .glo "_law_log_due",
  .glo "_law_deeds",
  .glo "_law_done",
  .glo "_law_noted",
  .glo "_law_attempted",
  .glo "_law_tried",
  .glo "_law_scene",
  .glo "_law_logged",
  .glo "law",
  .glo "Walk",
  .glo "Building",
  .glo "Trace",
  .glo "LoggedHouse",
  .glo "InvalidWalk",
  .glo "NothingToUndo",
  .glo "RoomdialsError",
  .free "abs",
  .free "sorted",
  .free "min",
  .free "list",
  .free "tuple",
  .free "isinstance",
  .free "len",
  .free "all",
  .free "enumerate",
  .free "int",
  .free "sum",
  .free "dict",
  .free "range",
  .free "repr",
  .free "zip",
  .free "KeyError",
  .free "str",
  .free "bool",
  .int "MOST" 10001,
  .int "LONGEST_NAME" 8,
  .int "MOST_SIZE_buildings" 1000000000,
  .int "LARGEST" 1000000000,
  .str "LETTERS" "abcdefghijklmnopqrstuvwxyz",
  .cls "Walk",
  .mkr "Walk",
  .cls "Building",
  .mkr "Building",
  .cls "Trace",
  .mkr "Trace",
  .cls "LoggedHouse",
  .mkr "LoggedHouse",
  .meth "Walk" "__len__",
  .meth "Building" "prepare",
  .meth "Building" "sorted_pairs",
  .meth "Building" "check_connected",
  .meth "Building" "neighbours",
  .meth "Building" "__contains__",
  .meth "Building" "__getitem__",
  .meth "Building" "__eq__",
  .meth "Trace" "found_balance",
  .meth "Trace" "__eq__",
  .meth "LoggedHouse" "go",
  .meth "LoggedHouse" "undo",
  .meth "LoggedHouse" "attempt",
  .noat "Walk" "own_rooms",
  .noat "Walk" "entered",
  .noat "Walk" "key",
  .noat "Building" "sizes",
  .noat "Building" "pairs",
  .noat "Building" "near",
  .noat "Building" "own_sides",
  .noat "Building" "own_ring",
  .noat "Building" "own_bridges",
  .noat "Trace" "own_building",
  .noat "Trace" "own_first",
  .noat "Trace" "own_last",
  .noat "Trace" "own_changes",
  .noat "Trace" "key",
  .noat "Trace" "own_balance",
  .noat "Trace" "own_gcd",
  .noat "LoggedHouse" "plan",
  .noat "LoggedHouse" "shown",
  .noat "LoggedHouse" "visited",
  .noat "LoggedHouse" "calls"]
def exl (K : PySem.W.Frag) : List Bool := [decide (PySem.W.findIn K (.ref (He.ga K "Walk")) "rooms" = some (some (.ref (He.ma K (He.ga K "Walk") "rooms")))),
  decide (PySem.W.specialIn K (.ref (He.ma K (He.ga K "Walk") "rooms")) "__get__" = some (some (.builtin "property.__get__"))),
  decide (PySem.W.takesIn K (.ref (He.ma K (He.ga K "Walk") "rooms")) = some true),
  decide (((PySem.W.recIn K (He.ma K (He.ga K "Walk") "rooms") "property").bind List.head?) = some (.ref (gAd K (He.ma K (He.ga K "Walk") "rooms")))),
  decide (PySem.W.findIn K (.ref (He.ga K "Building")) "rooms" = some (some (.ref (He.ma K (He.ga K "Building") "rooms")))),
  decide (PySem.W.specialIn K (.ref (He.ma K (He.ga K "Building") "rooms")) "__get__" = some (some (.builtin "property.__get__"))),
  decide (PySem.W.takesIn K (.ref (He.ma K (He.ga K "Building") "rooms")) = some true),
  decide (((PySem.W.recIn K (He.ma K (He.ga K "Building") "rooms") "property").bind List.head?) = some (.ref (gAd K (He.ma K (He.ga K "Building") "rooms")))),
  decide (PySem.W.findIn K (.ref (He.ga K "Building")) "sides" = some (some (.ref (He.ma K (He.ga K "Building") "sides")))),
  decide (PySem.W.specialIn K (.ref (He.ma K (He.ga K "Building") "sides")) "__get__" = some (some (.builtin "property.__get__"))),
  decide (PySem.W.takesIn K (.ref (He.ma K (He.ga K "Building") "sides")) = some true),
  decide (((PySem.W.recIn K (He.ma K (He.ga K "Building") "sides") "property").bind List.head?) = some (.ref (gAd K (He.ma K (He.ga K "Building") "sides")))),
  decide (PySem.W.findIn K (.ref (He.ga K "LoggedHouse")) "building" = some (some (.ref (He.ma K (He.ga K "LoggedHouse") "building")))),
  decide (PySem.W.specialIn K (.ref (He.ma K (He.ga K "LoggedHouse") "building")) "__get__" = some (some (.builtin "property.__get__"))),
  decide (PySem.W.takesIn K (.ref (He.ma K (He.ga K "LoggedHouse") "building")) = some true),
  decide (((PySem.W.recIn K (He.ma K (He.ga K "LoggedHouse") "building") "property").bind List.head?) = some (.ref (gAd K (He.ma K (He.ga K "LoggedHouse") "building")))),
  decide (PySem.W.findIn K (.ref (He.ga K "LoggedHouse")) "place" = some (some (.ref (He.ma K (He.ga K "LoggedHouse") "place")))),
  decide (PySem.W.specialIn K (.ref (He.ma K (He.ga K "LoggedHouse") "place")) "__get__" = some (some (.builtin "property.__get__"))),
  decide (PySem.W.takesIn K (.ref (He.ma K (He.ga K "LoggedHouse") "place")) = some true),
  decide (((PySem.W.recIn K (He.ma K (He.ga K "LoggedHouse") "place") "property").bind List.head?) = some (.ref (gAd K (He.ma K (He.ga K "LoggedHouse") "place")))),
  decide (PySem.W.findIn K (.ref (He.ga K "LoggedHouse")) "step_count" = some (some (.ref (He.ma K (He.ga K "LoggedHouse") "step_count")))),
  decide (PySem.W.specialIn K (.ref (He.ma K (He.ga K "LoggedHouse") "step_count")) "__get__" = some (some (.builtin "property.__get__"))),
  decide (PySem.W.takesIn K (.ref (He.ma K (He.ga K "LoggedHouse") "step_count")) = some true),
  decide (((PySem.W.recIn K (He.ma K (He.ga K "LoggedHouse") "step_count") "property").bind List.head?) = some (.ref (gAd K (He.ma K (He.ga K "LoggedHouse") "step_count")))),
  decide (PySem.W.findIn K (.ref (He.ga K "LoggedHouse")) "dials" = some (some (.ref (He.ma K (He.ga K "LoggedHouse") "dials")))),
  decide (PySem.W.specialIn K (.ref (He.ma K (He.ga K "LoggedHouse") "dials")) "__get__" = some (some (.builtin "property.__get__"))),
  decide (PySem.W.takesIn K (.ref (He.ma K (He.ga K "LoggedHouse") "dials")) = some true),
  decide (((PySem.W.recIn K (He.ma K (He.ga K "LoggedHouse") "dials") "property").bind List.head?) = some (.ref (gAd K (He.ma K (He.ga K "LoggedHouse") "dials")))),
  decide (PySem.W.findIn K (.ref (He.ga K "LoggedHouse")) "walk" = some (some (.ref (He.ma K (He.ga K "LoggedHouse") "walk")))),
  decide (PySem.W.specialIn K (.ref (He.ma K (He.ga K "LoggedHouse") "walk")) "__get__" = some (some (.builtin "property.__get__"))),
  decide (PySem.W.takesIn K (.ref (He.ma K (He.ga K "LoggedHouse") "walk")) = some true),
  decide (((PySem.W.recIn K (He.ma K (He.ga K "LoggedHouse") "walk") "property").bind List.head?) = some (.ref (gAd K (He.ma K (He.ga K "LoggedHouse") "walk")))),
  decide (PySem.W.findIn K (.ref (He.ga K "LoggedHouse")) "trace" = some (some (.ref (He.ma K (He.ga K "LoggedHouse") "trace")))),
  decide (PySem.W.specialIn K (.ref (He.ma K (He.ga K "LoggedHouse") "trace")) "__get__" = some (some (.builtin "property.__get__"))),
  decide (PySem.W.takesIn K (.ref (He.ma K (He.ga K "LoggedHouse") "trace")) = some true),
  decide (((PySem.W.recIn K (He.ma K (He.ga K "LoggedHouse") "trace") "property").bind List.head?) = some (.ref (gAd K (He.ma K (He.ga K "LoggedHouse") "trace")))),
  decide (PySem.W.findIn K (.ref (He.ga K "LoggedHouse")) "log" = some (some (.ref (He.ma K (He.ga K "LoggedHouse") "log")))),
  decide (PySem.W.specialIn K (.ref (He.ma K (He.ga K "LoggedHouse") "log")) "__get__" = some (some (.builtin "property.__get__"))),
  decide (PySem.W.takesIn K (.ref (He.ma K (He.ga K "LoggedHouse") "log")) = some true),
  decide (((PySem.W.recIn K (He.ma K (He.ga K "LoggedHouse") "log") "property").bind List.head?) = some (.ref (gAd K (He.ma K (He.ga K "LoggedHouse") "log")))),
  decide (PySem.W.findIn K (.ref (He.ga K "Walk")) "__class__" = some (some (.builtin "object.__class__"))),
  decide (PySem.W.mroIn K (He.ga K "Walk") (.type "object") = some true),
  decide (PySem.W.kitOne K (.ref (He.ga K "Walk")) (.ref (He.ga K "Walk")) = some true),
  decide (PySem.W.findIn K (.ref (He.ga K "Building")) "__class__" = some (some (.builtin "object.__class__"))),
  decide (PySem.W.mroIn K (He.ga K "Building") (.type "object") = some true),
  decide (PySem.W.kitOne K (.ref (He.ga K "Building")) (.ref (He.ga K "Building")) = some true),
  decide (PySem.W.findIn K (.ref (He.ga K "Trace")) "__class__" = some (some (.builtin "object.__class__"))),
  decide (PySem.W.mroIn K (He.ga K "Trace") (.type "object") = some true),
  decide (PySem.W.kitOne K (.ref (He.ga K "Trace")) (.ref (He.ga K "Trace")) = some true),
  decide (PySem.W.findIn K (.ref (He.ga K "LoggedHouse")) "__class__" = some (some (.builtin "object.__class__"))),
  decide (PySem.W.mroIn K (He.ga K "LoggedHouse") (.type "object") = some true),
  decide (PySem.W.kitOne K (.ref (He.ga K "LoggedHouse")) (.ref (He.ga K "LoggedHouse")) = some true),
  decide (PySem.W.specialIn K (.builtin "object.__class__") "__get__" = some (some (.builtin "getset_descriptor.__get__"))),
  decide (PySem.W.takesIn K (.builtin "object.__class__") = some true),
  decide (PySem.W.findIn K (.ref (He.ga K "InvalidWalk")) "__init__" = some (some (.ref (He.ma K (He.ga K "InvalidWalk") "__init__")))),
  decide (PySem.W.isFn K (.ref (He.ma K (He.ga K "InvalidWalk") "__init__")) = true),
  decide (PySem.W.excInitIn K (He.ga K "InvalidWalk") exB "Exception.__new__" = true),
  decide (PySem.W.excOver K (He.ga K "InvalidWalk") exB = true),
  decide (PySem.W.keepIn K (.ref (He.ga K "InvalidWalk")) = true),
  decide (PySem.W.subIn K (.ref (He.ga K "InvalidWalk")) (.type "BaseException") = some true),
  decide (PySem.W.typeIn K (.ref (He.ga K "InvalidWalk")) = some (.type "type")),
  decide (PySem.W.findIn K (.ref (He.ga K "InvalidWalk")) "__setattr__" = some (some (.builtin "object.__setattr__"))),
  decide (PySem.W.findIn K (.ref (He.ga K "NothingToUndo")) "__init__" = some (some (.ref (He.ma K (He.ga K "NothingToUndo") "__init__")))),
  decide (PySem.W.isFn K (.ref (He.ma K (He.ga K "NothingToUndo") "__init__")) = true),
  decide (PySem.W.excInitIn K (He.ga K "NothingToUndo") exB "Exception.__new__" = true),
  decide (PySem.W.excOver K (He.ga K "NothingToUndo") exB = true),
  decide (PySem.W.keepIn K (.ref (He.ga K "NothingToUndo")) = true),
  decide (PySem.W.subIn K (.ref (He.ga K "NothingToUndo")) (.type "BaseException") = some true),
  decide (PySem.W.typeIn K (.ref (He.ga K "NothingToUndo")) = some (.type "type")),
  decide (PySem.W.findIn K (.ref (He.ga K "NothingToUndo")) "__setattr__" = some (some (.builtin "object.__setattr__"))),
  decide (PySem.W.findIn K (.ref (He.ga K "InvalidWalk")) "index" = some none),
  decide (PySem.W.exmOne K (.ref (He.ga K "InvalidWalk")) (.ref (He.ga K "InvalidWalk")) = some true),
  decide (PySem.W.exmOne K (.ref (He.ga K "NothingToUndo")) (.ref (He.ga K "InvalidWalk")) = some false),
  decide (PySem.W.exmOne K (.ref (He.ga K "NothingToUndo")) (.ref (He.ga K "NothingToUndo")) = some true),
  decide (PySem.W.exmOne K (.type "KeyError") (.ref (He.ga K "InvalidWalk")) = some false),
  decide (PySem.W.exmOne K (.type "KeyError") (.ref (He.ga K "NothingToUndo")) = some false),
  decide (PySem.W.exmOne K (.type "KeyError") (.type "KeyError") = some true),
  decide (PySem.W.keepIn K (.ref (He.ga K "RoomdialsError")) = true),
  decide ((match PySem.W.findCls K (.ref (He.ga K "RoomdialsError")) (.type "type") "__init__" with | some (.val (.builtin n)) => n == "Exception.__init__" | _ => false) = true),
  decide (PySem.W.readsIn K (He.ga K "RoomdialsError") (.type "type") = true),
  decide (PySem.W.specialIn K (.ref (He.ga K "RoomdialsError")) "__getattribute__" = some (some (.builtin "type.__getattribute__"))),
  decide ((PySem.W.clsIn K (He.ga K "InvalidWalk")).any (fun cd => cd.hasDict) = true),
  decide (PySem.W.takerIn K (He.ga K "InvalidWalk") "index" = some none),
  decide ((match PySem.W.findIn K (.ref (He.ga K "Building")) "MOST_ROOMS" with | some (some (.int 24 _)) => true | _ => false) = true),
  decide ((match PySem.W.findIn K (.ref (He.ga K "Building")) "MOST_CORRIDORS" with | some (some (.int 40 _)) => true | _ => false) = true),
  decide ((match PySem.W.findIn K (.ref (He.ga K "Building")) "MOST_ROOMS" with | some (some u) => decide (PySem.W.specialIn K u "__get__" = some none) | _ => false) = true),
  decide ((match PySem.W.findIn K (.ref (He.ga K "Building")) "MOST_CORRIDORS" with | some (some u) => decide (PySem.W.specialIn K u "__get__" = some none) | _ => false) = true),
  decide ((match K.lookup (He.dflAt ("steps_from", none) 0 K) with | some ⟨.type c, _, .seq its _, _⟩ => decide (c = "tuple") && its.isEmpty | _ => false) = true),
  decide ((match K.lookup (He.dflAt ("reached_from", none) 0 K) with | some ⟨.type c, _, .seq its _, _⟩ => decide (c = "tuple") && its.isEmpty | _ => false) = true),
  decide (PySem.W.noSeq K (He.ga K "Building") = true),
  decide (PySem.W.noSeq K (He.ga K "Walk") = true),
  decide (PySem.W.findIn K (.ref (He.ga K "Building")) "__ne__" = some (some (.builtin "object.__ne__")))]
def ex (K : PySem.W.Frag) : Bool := (exl K).all id
abbrev AlY : Type := He.AlT × (Bool × List He.FnW)
def gtA (K : PySem.W.Frag) (q : Str × Str × He.DefD) : Addr := gAd K (He.ma K (He.ga K q.1) q.2.1)
/-- what the law's walk leans on -/
structure Says (w : World) (K : PySem.W.Frag) (mg : Str → Option Value) : Prop where
  at_ : ∃ h : Heap, K.In h ∧ h.Ns mainGlobals mg
  d : He.SaysD fa fn K
  ex : ex K = true
  gt : gts.all (fun q => okA K (gtA K q) q.2.2) = true
  gv : gts.map (fun q => fnWa K (gtA K q)) = gts.map fun q => q.2.2.val
section
variable {w : World} {K : PySem.W.Frag} {mg : Str → Option Value}
theorem Says.x (T : Says w K mg) (i : Nat) {b : Bool} (h : (exl K)[i]? = some b := by rfl) : b = true := List.all_eq_true.mp T.ex b (List.mem_of_getElem? h)
theorem Says.getter (T : Says w K mg) (i : Nat) {q : Str × Str × He.DefD} (h : gts[i]? = some q := by rfl) : ∃ fd, FunD K q.2.2.name q.2.2.qual q.2.2.params q.2.2.body q.2.2.scope (q.2.2.dvs K) (q.2.2.kws K) (gtA K q) fd := by
  have e2 : (gts.map fun q => fnWa K (gtA K q))[i]? = (gts.map fun q => q.2.2.val)[i]? := by rw [T.gv]
  rw [List.getElem?_map, List.getElem?_map, h] at e2
  exact funA (Option.some.inj e2) (List.all_eq_true.mp T.gt q (List.mem_of_getElem? h))
theorem Says.g_gcd_of (T : Says w K mg) : mg "gcd_of" = some (.ref (He.ga K "gcd_of")) := by
  obtain ⟨h, X, G⟩ := T.at_
  exact He.glo_ok X G (T.d.fact 0 (f := .glo "gcd_of") rfl)
theorem Says.g_joined_rooms (T : Says w K mg) : mg "joined_rooms" = some (.ref (He.ga K "joined_rooms")) := by
  obtain ⟨h, X, G⟩ := T.at_
  exact He.glo_ok X G (T.d.fact 1 (f := .glo "joined_rooms") rfl)
theorem Says.g_steps_from (T : Says w K mg) : mg "steps_from" = some (.ref (He.ga K "steps_from")) := by
  obtain ⟨h, X, G⟩ := T.at_
  exact He.glo_ok X G (T.d.fact 2 (f := .glo "steps_from") rfl)
theorem Says.g_reached_from (T : Says w K mg) : mg "reached_from" = some (.ref (He.ga K "reached_from")) := by
  obtain ⟨h, X, G⟩ := T.at_
  exact He.glo_ok X G (T.d.fact 3 (f := .glo "reached_from") rfl)
theorem Says.g_level_corridor (T : Says w K mg) : mg "level_corridor" = some (.ref (He.ga K "level_corridor")) := by
  obtain ⟨h, X, G⟩ := T.at_
  exact He.glo_ok X G (T.d.fact 4 (f := .glo "level_corridor") rfl)
theorem Says.g_sides_of (T : Says w K mg) : mg "sides_of" = some (.ref (He.ga K "sides_of")) := by
  obtain ⟨h, X, G⟩ := T.at_
  exact He.glo_ok X G (T.d.fact 5 (f := .glo "sides_of") rfl)
theorem Says.g_odd_ring_of (T : Says w K mg) : mg "odd_ring_of" = some (.ref (He.ga K "odd_ring_of")) := by
  obtain ⟨h, X, G⟩ := T.at_
  exact He.glo_ok X G (T.d.fact 6 (f := .glo "odd_ring_of") rfl)
theorem Says.g_on_rings (T : Says w K mg) : mg "on_rings" = some (.ref (He.ga K "on_rings")) := by
  obtain ⟨h, X, G⟩ := T.at_
  exact He.glo_ok X G (T.d.fact 7 (f := .glo "on_rings") rfl)
theorem Says.g_bridges_of (T : Says w K mg) : mg "bridges_of" = some (.ref (He.ga K "bridges_of")) := by
  obtain ⟨h, X, G⟩ := T.at_
  exact He.glo_ok X G (T.d.fact 8 (f := .glo "bridges_of") rfl)
theorem Says.g_is_name (T : Says w K mg) : mg "is_name" = some (.ref (He.ga K "is_name")) := by
  obtain ⟨h, X, G⟩ := T.at_
  exact He.glo_ok X G (T.d.fact 9 (f := .glo "is_name") rfl)
theorem Says.g_is_integer (T : Says w K mg) : mg "is_integer" = some (.ref (He.ga K "is_integer")) := by
  obtain ⟨h, X, G⟩ := T.at_
  exact He.glo_ok X G (T.d.fact 10 (f := .glo "is_integer") rfl)
theorem Says.g_is_between (T : Says w K mg) : mg "is_between" = some (.ref (He.ga K "is_between")) := by
  obtain ⟨h, X, G⟩ := T.at_
  exact He.glo_ok X G (T.d.fact 11 (f := .glo "is_between") rfl)
theorem Says.g_wrong_place (T : Says w K mg) : mg "wrong_place" = some (.ref (He.ga K "wrong_place")) := by
  obtain ⟨h, X, G⟩ := T.at_
  exact He.glo_ok X G (T.d.fact 12 (f := .glo "wrong_place") rfl)
theorem Says.g_pair_of (T : Says w K mg) : mg "pair_of" = some (.ref (He.ga K "pair_of")) := by
  obtain ⟨h, X, G⟩ := T.at_
  exact He.glo_ok X G (T.d.fact 13 (f := .glo "pair_of") rfl)
theorem Says.g_trace_along (T : Says w K mg) : mg "trace_along" = some (.ref (He.ga K "trace_along")) := by
  obtain ⟨h, X, G⟩ := T.at_
  exact He.glo_ok X G (T.d.fact 14 (f := .glo "trace_along") rfl)
theorem Says.g_begin (T : Says w K mg) : mg "_law_begin" = some (.ref (He.ga K "_law_begin")) := by
  obtain ⟨h, X, G⟩ := T.at_
  exact He.glo_ok X G (T.d.fact 15 (f := .glo "_law_begin") rfl)
theorem Says.g_draw (T : Says w K mg) : mg "_law_draw" = some (.ref (He.ga K "_law_draw")) := by
  obtain ⟨h, X, G⟩ := T.at_
  exact He.glo_ok X G (T.d.fact 16 (f := .glo "_law_draw") rfl)
theorem Says.g_pick (T : Says w K mg) : mg "_law_pick" = some (.ref (He.ga K "_law_pick")) := by
  obtain ⟨h, X, G⟩ := T.at_
  exact He.glo_ok X G (T.d.fact 17 (f := .glo "_law_pick") rfl)
theorem Says.g_shuffled (T : Says w K mg) : mg "_law_shuffled" = some (.ref (He.ga K "_law_shuffled")) := by
  obtain ⟨h, X, G⟩ := T.at_
  exact He.glo_ok X G (T.d.fact 18 (f := .glo "_law_shuffled") rfl)
theorem Says.g_names (T : Says w K mg) : mg "_law_names" = some (.ref (He.ga K "_law_names")) := by
  obtain ⟨h, X, G⟩ := T.at_
  exact He.glo_ok X G (T.d.fact 19 (f := .glo "_law_names") rfl)
theorem Says.g_pair (T : Says w K mg) : mg "_law_pair" = some (.ref (He.ga K "_law_pair")) := by
  obtain ⟨h, X, G⟩ := T.at_
  exact He.glo_ok X G (T.d.fact 20 (f := .glo "_law_pair") rfl)
theorem Says.g_drawn (T : Says w K mg) : mg "_law_drawn" = some (.ref (He.ga K "_law_drawn")) := by
  obtain ⟨h, X, G⟩ := T.at_
  exact He.glo_ok X G (T.d.fact 21 (f := .glo "_law_drawn") rfl)
theorem Says.g_built (T : Says w K mg) : mg "_law_built" = some (.ref (He.ga K "_law_built")) := by
  obtain ⟨h, X, G⟩ := T.at_
  exact He.glo_ok X G (T.d.fact 22 (f := .glo "_law_built") rfl)
theorem Says.g_near (T : Says w K mg) : mg "_law_near" = some (.ref (He.ga K "_law_near")) := by
  obtain ⟨h, X, G⟩ := T.at_
  exact He.glo_ok X G (T.d.fact 23 (f := .glo "_law_near") rfl)
theorem Says.g_wandered (T : Says w K mg) : mg "_law_wandered" = some (.ref (He.ga K "_law_wandered")) := by
  obtain ⟨h, X, G⟩ := T.at_
  exact He.glo_ok X G (T.d.fact 24 (f := .glo "_law_wandered") rfl)
theorem Says.g_left (T : Says w K mg) : mg "_law_left" = some (.ref (He.ga K "_law_left")) := by
  obtain ⟨h, X, G⟩ := T.at_
  exact He.glo_ok X G (T.d.fact 25 (f := .glo "_law_left") rfl)
theorem Says.g_sizes (T : Says w K mg) : mg "_law_sizes" = some (.ref (He.ga K "_law_sizes")) := by
  obtain ⟨h, X, G⟩ := T.at_
  exact He.glo_ok X G (T.d.fact 26 (f := .glo "_law_sizes") rfl)
theorem Says.g_traced (T : Says w K mg) : mg "_law_traced" = some (.ref (He.ga K "_law_traced")) := by
  obtain ⟨h, X, G⟩ := T.at_
  exact He.glo_ok X G (T.d.fact 27 (f := .glo "_law_traced") rfl)
theorem Says.g_go (T : Says w K mg) : mg "_law_go" = some (.ref (He.ga K "_law_go")) := by
  obtain ⟨h, X, G⟩ := T.at_
  exact He.glo_ok X G (T.d.fact 28 (f := .glo "_law_go") rfl)
theorem Says.g_shown (T : Says w K mg) : mg "_law_shown" = some (.ref (He.ga K "_law_shown")) := by
  obtain ⟨h, X, G⟩ := T.at_
  exact He.glo_ok X G (T.d.fact 29 (f := .glo "_law_shown") rfl)
theorem Says.g_is_house (T : Says w K mg) : mg "_law_is_house" = some (.ref (He.ga K "_law_is_house")) := by
  obtain ⟨h, X, G⟩ := T.at_
  exact He.glo_ok X G (T.d.fact 30 (f := .glo "_law_is_house") rfl)
theorem Says.g_cut_calls (T : Says w K mg) : mg "_law_cut_calls" = some (.ref (He.ga K "_law_cut_calls")) := by
  obtain ⟨h, X, G⟩ := T.at_
  exact He.glo_ok X G (T.d.fact 31 (f := .glo "_law_cut_calls") rfl)
theorem Says.g_log_due (T : Says w K mg) : mg "_law_log_due" = some (.ref (He.ga K "_law_log_due")) := by
  obtain ⟨h, X, G⟩ := T.at_
  exact He.glo_ok X G (T.d.fact 32 (f := .glo "_law_log_due") rfl)
theorem Says.g_deeds (T : Says w K mg) : mg "_law_deeds" = some (.ref (He.ga K "_law_deeds")) := by
  obtain ⟨h, X, G⟩ := T.at_
  exact He.glo_ok X G (T.d.fact 33 (f := .glo "_law_deeds") rfl)
theorem Says.g_done (T : Says w K mg) : mg "_law_done" = some (.ref (He.ga K "_law_done")) := by
  obtain ⟨h, X, G⟩ := T.at_
  exact He.glo_ok X G (T.d.fact 34 (f := .glo "_law_done") rfl)
theorem Says.g_noted (T : Says w K mg) : mg "_law_noted" = some (.ref (He.ga K "_law_noted")) := by
  obtain ⟨h, X, G⟩ := T.at_
  exact He.glo_ok X G (T.d.fact 35 (f := .glo "_law_noted") rfl)
theorem Says.g_attempted (T : Says w K mg) : mg "_law_attempted" = some (.ref (He.ga K "_law_attempted")) := by
  obtain ⟨h, X, G⟩ := T.at_
  exact He.glo_ok X G (T.d.fact 36 (f := .glo "_law_attempted") rfl)
theorem Says.g_tried (T : Says w K mg) : mg "_law_tried" = some (.ref (He.ga K "_law_tried")) := by
  obtain ⟨h, X, G⟩ := T.at_
  exact He.glo_ok X G (T.d.fact 37 (f := .glo "_law_tried") rfl)
theorem Says.g_scene (T : Says w K mg) : mg "_law_scene" = some (.ref (He.ga K "_law_scene")) := by
  obtain ⟨h, X, G⟩ := T.at_
  exact He.glo_ok X G (T.d.fact 38 (f := .glo "_law_scene") rfl)
theorem Says.g_logged (T : Says w K mg) : mg "_law_logged" = some (.ref (He.ga K "_law_logged")) := by
  obtain ⟨h, X, G⟩ := T.at_
  exact He.glo_ok X G (T.d.fact 39 (f := .glo "_law_logged") rfl)
theorem Says.g_law (T : Says w K mg) : mg "law" = some (.ref (He.ga K "law")) := by
  obtain ⟨h, X, G⟩ := T.at_
  exact He.glo_ok X G (T.d.fact 40 (f := .glo "law") rfl)
theorem Says.g_Walk (T : Says w K mg) : mg "Walk" = some (.ref (He.ga K "Walk")) := by
  obtain ⟨h, X, G⟩ := T.at_
  exact He.glo_ok X G (T.d.fact 41 (f := .glo "Walk") rfl)
theorem Says.g_Building (T : Says w K mg) : mg "Building" = some (.ref (He.ga K "Building")) := by
  obtain ⟨h, X, G⟩ := T.at_
  exact He.glo_ok X G (T.d.fact 42 (f := .glo "Building") rfl)
theorem Says.g_Trace (T : Says w K mg) : mg "Trace" = some (.ref (He.ga K "Trace")) := by
  obtain ⟨h, X, G⟩ := T.at_
  exact He.glo_ok X G (T.d.fact 43 (f := .glo "Trace") rfl)
theorem Says.g_LoggedHouse (T : Says w K mg) : mg "LoggedHouse" = some (.ref (He.ga K "LoggedHouse")) := by
  obtain ⟨h, X, G⟩ := T.at_
  exact He.glo_ok X G (T.d.fact 44 (f := .glo "LoggedHouse") rfl)
theorem Says.g_InvalidWalk (T : Says w K mg) : mg "InvalidWalk" = some (.ref (He.ga K "InvalidWalk")) := by
  obtain ⟨h, X, G⟩ := T.at_
  exact He.glo_ok X G (T.d.fact 45 (f := .glo "InvalidWalk") rfl)
theorem Says.g_NothingToUndo (T : Says w K mg) : mg "NothingToUndo" = some (.ref (He.ga K "NothingToUndo")) := by
  obtain ⟨h, X, G⟩ := T.at_
  exact He.glo_ok X G (T.d.fact 46 (f := .glo "NothingToUndo") rfl)
theorem Says.g_RoomdialsError (T : Says w K mg) : mg "RoomdialsError" = some (.ref (He.ga K "RoomdialsError")) := by
  obtain ⟨h, X, G⟩ := T.at_
  exact He.glo_ok X G (T.d.fact 47 (f := .glo "RoomdialsError") rfl)
theorem Says.z_abs (T : Says w K mg) : mg "abs" = none := by
  obtain ⟨h, X, G⟩ := T.at_
  exact He.free_ok X G (T.d.fact 48 (f := .free "abs") rfl)
theorem Says.z_sorted (T : Says w K mg) : mg "sorted" = none := by
  obtain ⟨h, X, G⟩ := T.at_
  exact He.free_ok X G (T.d.fact 49 (f := .free "sorted") rfl)
theorem Says.z_min (T : Says w K mg) : mg "min" = none := by
  obtain ⟨h, X, G⟩ := T.at_
  exact He.free_ok X G (T.d.fact 50 (f := .free "min") rfl)
theorem Says.z_list (T : Says w K mg) : mg "list" = none := by
  obtain ⟨h, X, G⟩ := T.at_
  exact He.free_ok X G (T.d.fact 51 (f := .free "list") rfl)
theorem Says.z_tuple (T : Says w K mg) : mg "tuple" = none := by
  obtain ⟨h, X, G⟩ := T.at_
  exact He.free_ok X G (T.d.fact 52 (f := .free "tuple") rfl)
theorem Says.z_isinstance (T : Says w K mg) : mg "isinstance" = none := by
  obtain ⟨h, X, G⟩ := T.at_
  exact He.free_ok X G (T.d.fact 53 (f := .free "isinstance") rfl)
theorem Says.z_len (T : Says w K mg) : mg "len" = none := by
  obtain ⟨h, X, G⟩ := T.at_
  exact He.free_ok X G (T.d.fact 54 (f := .free "len") rfl)
theorem Says.z_all (T : Says w K mg) : mg "all" = none := by
  obtain ⟨h, X, G⟩ := T.at_
  exact He.free_ok X G (T.d.fact 55 (f := .free "all") rfl)
theorem Says.z_enumerate (T : Says w K mg) : mg "enumerate" = none := by
  obtain ⟨h, X, G⟩ := T.at_
  exact He.free_ok X G (T.d.fact 56 (f := .free "enumerate") rfl)
theorem Says.z_int (T : Says w K mg) : mg "int" = none := by
  obtain ⟨h, X, G⟩ := T.at_
  exact He.free_ok X G (T.d.fact 57 (f := .free "int") rfl)
theorem Says.z_sum (T : Says w K mg) : mg "sum" = none := by
  obtain ⟨h, X, G⟩ := T.at_
  exact He.free_ok X G (T.d.fact 58 (f := .free "sum") rfl)
theorem Says.z_dict (T : Says w K mg) : mg "dict" = none := by
  obtain ⟨h, X, G⟩ := T.at_
  exact He.free_ok X G (T.d.fact 59 (f := .free "dict") rfl)
theorem Says.z_range (T : Says w K mg) : mg "range" = none := by
  obtain ⟨h, X, G⟩ := T.at_
  exact He.free_ok X G (T.d.fact 60 (f := .free "range") rfl)
theorem Says.z_repr (T : Says w K mg) : mg "repr" = none := by
  obtain ⟨h, X, G⟩ := T.at_
  exact He.free_ok X G (T.d.fact 61 (f := .free "repr") rfl)
theorem Says.z_zip (T : Says w K mg) : mg "zip" = none := by
  obtain ⟨h, X, G⟩ := T.at_
  exact He.free_ok X G (T.d.fact 62 (f := .free "zip") rfl)
theorem Says.z_KeyError (T : Says w K mg) : mg "KeyError" = none := by
  obtain ⟨h, X, G⟩ := T.at_
  exact He.free_ok X G (T.d.fact 63 (f := .free "KeyError") rfl)
theorem Says.z_str (T : Says w K mg) : mg "str" = none := by
  obtain ⟨h, X, G⟩ := T.at_
  exact He.free_ok X G (T.d.fact 64 (f := .free "str") rfl)
theorem Says.z_bool (T : Says w K mg) : mg "bool" = none := by
  obtain ⟨h, X, G⟩ := T.at_
  exact He.free_ok X G (T.d.fact 65 (f := .free "bool") rfl)
theorem Says.i_MOST (T : Says w K mg) : ∃ t, mg "MOST" = some (.int 10001 t) := by
  obtain ⟨h, X, G⟩ := T.at_
  exact He.int_ok X G (T.d.fact 66 (f := .int "MOST" 10001) rfl)
theorem Says.i_LONGEST_NAME (T : Says w K mg) : ∃ t, mg "LONGEST_NAME" = some (.int 8 t) := by
  obtain ⟨h, X, G⟩ := T.at_
  exact He.int_ok X G (T.d.fact 67 (f := .int "LONGEST_NAME" 8) rfl)
theorem Says.i_MOST_SIZE_buildings (T : Says w K mg) : ∃ t, mg "MOST_SIZE_buildings" = some (.int 1000000000 t) := by
  obtain ⟨h, X, G⟩ := T.at_
  exact He.int_ok X G (T.d.fact 68 (f := .int "MOST_SIZE_buildings" 1000000000) rfl)
theorem Says.i_LARGEST (T : Says w K mg) : ∃ t, mg "LARGEST" = some (.int 1000000000 t) := by
  obtain ⟨h, X, G⟩ := T.at_
  exact He.int_ok X G (T.d.fact 69 (f := .int "LARGEST" 1000000000) rfl)
theorem Says.i_LETTERS (T : Says w K mg) : ∃ t, mg "LETTERS" = some (.str "abcdefghijklmnopqrstuvwxyz" t) := by
  obtain ⟨h, X, G⟩ := T.at_
  exact He.str_ok X G (T.d.fact 70 (f := .str "LETTERS" "abcdefghijklmnopqrstuvwxyz") rfl)
theorem Says.cl_Walk (T : Says w K mg) : Cls K (He.ga K "Walk") := by
  obtain ⟨h, X, G⟩ := T.at_
  exact He.cls_ok (T.d.fact 71 (f := .cls "Walk") rfl)
theorem Says.mk_Walk (T : Says w K mg) : Mk K (He.ga K "Walk") (He.ma K (He.ga K "Walk") "__init__") := by
  obtain ⟨h, X, G⟩ := T.at_
  exact He.mkr_ok (T.d.fact 72 (f := .mkr "Walk") rfl)
theorem Says.cl_Building (T : Says w K mg) : Cls K (He.ga K "Building") := by
  obtain ⟨h, X, G⟩ := T.at_
  exact He.cls_ok (T.d.fact 73 (f := .cls "Building") rfl)
theorem Says.mk_Building (T : Says w K mg) : Mk K (He.ga K "Building") (He.ma K (He.ga K "Building") "__init__") := by
  obtain ⟨h, X, G⟩ := T.at_
  exact He.mkr_ok (T.d.fact 74 (f := .mkr "Building") rfl)
theorem Says.cl_Trace (T : Says w K mg) : Cls K (He.ga K "Trace") := by
  obtain ⟨h, X, G⟩ := T.at_
  exact He.cls_ok (T.d.fact 75 (f := .cls "Trace") rfl)
theorem Says.mk_Trace (T : Says w K mg) : Mk K (He.ga K "Trace") (He.ma K (He.ga K "Trace") "__init__") := by
  obtain ⟨h, X, G⟩ := T.at_
  exact He.mkr_ok (T.d.fact 76 (f := .mkr "Trace") rfl)
theorem Says.cl_LoggedHouse (T : Says w K mg) : Cls K (He.ga K "LoggedHouse") := by
  obtain ⟨h, X, G⟩ := T.at_
  exact He.cls_ok (T.d.fact 77 (f := .cls "LoggedHouse") rfl)
theorem Says.mk_LoggedHouse (T : Says w K mg) : Mk K (He.ga K "LoggedHouse") (He.ma K (He.ga K "LoggedHouse") "__init__") := by
  obtain ⟨h, X, G⟩ := T.at_
  exact He.mkr_ok (T.d.fact 78 (f := .mkr "LoggedHouse") rfl)
theorem Says.mWalk_len (T : Says w K mg) : Meth K (He.ga K "Walk") "__len__" (He.ma K (He.ga K "Walk") "__len__") := by
  obtain ⟨h, X, G⟩ := T.at_
  exact He.meth_ok (T.d.fact 79 (f := .meth "Walk" "__len__") rfl)
theorem Says.mBuilding_prepare (T : Says w K mg) : Meth K (He.ga K "Building") "prepare" (He.ma K (He.ga K "Building") "prepare") := by
  obtain ⟨h, X, G⟩ := T.at_
  exact He.meth_ok (T.d.fact 80 (f := .meth "Building" "prepare") rfl)
theorem Says.mBuilding_sorted_pairs (T : Says w K mg) : Meth K (He.ga K "Building") "sorted_pairs" (He.ma K (He.ga K "Building") "sorted_pairs") := by
  obtain ⟨h, X, G⟩ := T.at_
  exact He.meth_ok (T.d.fact 81 (f := .meth "Building" "sorted_pairs") rfl)
theorem Says.mBuilding_check_connected (T : Says w K mg) : Meth K (He.ga K "Building") "check_connected" (He.ma K (He.ga K "Building") "check_connected") := by
  obtain ⟨h, X, G⟩ := T.at_
  exact He.meth_ok (T.d.fact 82 (f := .meth "Building" "check_connected") rfl)
theorem Says.mBuilding_neighbours (T : Says w K mg) : Meth K (He.ga K "Building") "neighbours" (He.ma K (He.ga K "Building") "neighbours") := by
  obtain ⟨h, X, G⟩ := T.at_
  exact He.meth_ok (T.d.fact 83 (f := .meth "Building" "neighbours") rfl)
theorem Says.mBuilding_contains (T : Says w K mg) : Meth K (He.ga K "Building") "__contains__" (He.ma K (He.ga K "Building") "__contains__") := by
  obtain ⟨h, X, G⟩ := T.at_
  exact He.meth_ok (T.d.fact 84 (f := .meth "Building" "__contains__") rfl)
theorem Says.mBuilding_getitem (T : Says w K mg) : Meth K (He.ga K "Building") "__getitem__" (He.ma K (He.ga K "Building") "__getitem__") := by
  obtain ⟨h, X, G⟩ := T.at_
  exact He.meth_ok (T.d.fact 85 (f := .meth "Building" "__getitem__") rfl)
theorem Says.mBuilding_eq (T : Says w K mg) : Meth K (He.ga K "Building") "__eq__" (He.ma K (He.ga K "Building") "__eq__") := by
  obtain ⟨h, X, G⟩ := T.at_
  exact He.meth_ok (T.d.fact 86 (f := .meth "Building" "__eq__") rfl)
theorem Says.mTrace_found_balance (T : Says w K mg) : Meth K (He.ga K "Trace") "found_balance" (He.ma K (He.ga K "Trace") "found_balance") := by
  obtain ⟨h, X, G⟩ := T.at_
  exact He.meth_ok (T.d.fact 87 (f := .meth "Trace" "found_balance") rfl)
theorem Says.mTrace_eq (T : Says w K mg) : Meth K (He.ga K "Trace") "__eq__" (He.ma K (He.ga K "Trace") "__eq__") := by
  obtain ⟨h, X, G⟩ := T.at_
  exact He.meth_ok (T.d.fact 88 (f := .meth "Trace" "__eq__") rfl)
theorem Says.mHouse_go (T : Says w K mg) : Meth K (He.ga K "LoggedHouse") "go" (He.ma K (He.ga K "LoggedHouse") "go") := by
  obtain ⟨h, X, G⟩ := T.at_
  exact He.meth_ok (T.d.fact 89 (f := .meth "LoggedHouse" "go") rfl)
theorem Says.mHouse_undo (T : Says w K mg) : Meth K (He.ga K "LoggedHouse") "undo" (He.ma K (He.ga K "LoggedHouse") "undo") := by
  obtain ⟨h, X, G⟩ := T.at_
  exact He.meth_ok (T.d.fact 90 (f := .meth "LoggedHouse" "undo") rfl)
theorem Says.mHouse_attempt (T : Says w K mg) : Meth K (He.ga K "LoggedHouse") "attempt" (He.ma K (He.ga K "LoggedHouse") "attempt") := by
  obtain ⟨h, X, G⟩ := T.at_
  exact He.meth_ok (T.d.fact 91 (f := .meth "LoggedHouse" "attempt") rfl)
theorem Says.naWalk_own_rooms (T : Says w K mg) : NoAttr K (He.ga K "Walk") "own_rooms" := by
  obtain ⟨h, X, G⟩ := T.at_
  exact He.noat_ok (T.d.fact 92 (f := .noat "Walk" "own_rooms") rfl)
theorem Says.naWalk_entered (T : Says w K mg) : NoAttr K (He.ga K "Walk") "entered" := by
  obtain ⟨h, X, G⟩ := T.at_
  exact He.noat_ok (T.d.fact 93 (f := .noat "Walk" "entered") rfl)
theorem Says.naWalk_key (T : Says w K mg) : NoAttr K (He.ga K "Walk") "key" := by
  obtain ⟨h, X, G⟩ := T.at_
  exact He.noat_ok (T.d.fact 94 (f := .noat "Walk" "key") rfl)
theorem Says.naBuilding_sizes (T : Says w K mg) : NoAttr K (He.ga K "Building") "sizes" := by
  obtain ⟨h, X, G⟩ := T.at_
  exact He.noat_ok (T.d.fact 95 (f := .noat "Building" "sizes") rfl)
theorem Says.naBuilding_pairs (T : Says w K mg) : NoAttr K (He.ga K "Building") "pairs" := by
  obtain ⟨h, X, G⟩ := T.at_
  exact He.noat_ok (T.d.fact 96 (f := .noat "Building" "pairs") rfl)
theorem Says.naBuilding_near (T : Says w K mg) : NoAttr K (He.ga K "Building") "near" := by
  obtain ⟨h, X, G⟩ := T.at_
  exact He.noat_ok (T.d.fact 97 (f := .noat "Building" "near") rfl)
theorem Says.naBuilding_own_sides (T : Says w K mg) : NoAttr K (He.ga K "Building") "own_sides" := by
  obtain ⟨h, X, G⟩ := T.at_
  exact He.noat_ok (T.d.fact 98 (f := .noat "Building" "own_sides") rfl)
theorem Says.naBuilding_own_ring (T : Says w K mg) : NoAttr K (He.ga K "Building") "own_ring" := by
  obtain ⟨h, X, G⟩ := T.at_
  exact He.noat_ok (T.d.fact 99 (f := .noat "Building" "own_ring") rfl)
theorem Says.naBuilding_own_bridges (T : Says w K mg) : NoAttr K (He.ga K "Building") "own_bridges" := by
  obtain ⟨h, X, G⟩ := T.at_
  exact He.noat_ok (T.d.fact 100 (f := .noat "Building" "own_bridges") rfl)
theorem Says.naTrace_own_building (T : Says w K mg) : NoAttr K (He.ga K "Trace") "own_building" := by
  obtain ⟨h, X, G⟩ := T.at_
  exact He.noat_ok (T.d.fact 101 (f := .noat "Trace" "own_building") rfl)
theorem Says.naTrace_own_first (T : Says w K mg) : NoAttr K (He.ga K "Trace") "own_first" := by
  obtain ⟨h, X, G⟩ := T.at_
  exact He.noat_ok (T.d.fact 102 (f := .noat "Trace" "own_first") rfl)
theorem Says.naTrace_own_last (T : Says w K mg) : NoAttr K (He.ga K "Trace") "own_last" := by
  obtain ⟨h, X, G⟩ := T.at_
  exact He.noat_ok (T.d.fact 103 (f := .noat "Trace" "own_last") rfl)
theorem Says.naTrace_own_changes (T : Says w K mg) : NoAttr K (He.ga K "Trace") "own_changes" := by
  obtain ⟨h, X, G⟩ := T.at_
  exact He.noat_ok (T.d.fact 104 (f := .noat "Trace" "own_changes") rfl)
theorem Says.naTrace_key (T : Says w K mg) : NoAttr K (He.ga K "Trace") "key" := by
  obtain ⟨h, X, G⟩ := T.at_
  exact He.noat_ok (T.d.fact 105 (f := .noat "Trace" "key") rfl)
theorem Says.naTrace_own_balance (T : Says w K mg) : NoAttr K (He.ga K "Trace") "own_balance" := by
  obtain ⟨h, X, G⟩ := T.at_
  exact He.noat_ok (T.d.fact 106 (f := .noat "Trace" "own_balance") rfl)
theorem Says.naTrace_own_gcd (T : Says w K mg) : NoAttr K (He.ga K "Trace") "own_gcd" := by
  obtain ⟨h, X, G⟩ := T.at_
  exact He.noat_ok (T.d.fact 107 (f := .noat "Trace" "own_gcd") rfl)
theorem Says.naLoggedHouse_plan (T : Says w K mg) : NoAttr K (He.ga K "LoggedHouse") "plan" := by
  obtain ⟨h, X, G⟩ := T.at_
  exact He.noat_ok (T.d.fact 108 (f := .noat "LoggedHouse" "plan") rfl)
theorem Says.naLoggedHouse_shown (T : Says w K mg) : NoAttr K (He.ga K "LoggedHouse") "shown" := by
  obtain ⟨h, X, G⟩ := T.at_
  exact He.noat_ok (T.d.fact 109 (f := .noat "LoggedHouse" "shown") rfl)
theorem Says.naLoggedHouse_visited (T : Says w K mg) : NoAttr K (He.ga K "LoggedHouse") "visited" := by
  obtain ⟨h, X, G⟩ := T.at_
  exact He.noat_ok (T.d.fact 110 (f := .noat "LoggedHouse" "visited") rfl)
theorem Says.naLoggedHouse_calls (T : Says w K mg) : NoAttr K (He.ga K "LoggedHouse") "calls" := by
  obtain ⟨h, X, G⟩ := T.at_
  exact He.noat_ok (T.d.fact 111 (f := .noat "LoggedHouse" "calls") rfl)
theorem Says.pWalk_rooms_at (T : Says w K mg) : PySem.W.findIn K (.ref (He.ga K "Walk")) "rooms" = some (some (.ref (He.ma K (He.ga K "Walk") "rooms"))) := of_decide_eq_true (T.x 0)
theorem Says.pWalk_rooms_get (T : Says w K mg) : PySem.W.specialIn K (.ref (He.ma K (He.ga K "Walk") "rooms")) "__get__" = some (some (.builtin "property.__get__")) := of_decide_eq_true (T.x 1)
theorem Says.pWalk_rooms_tak (T : Says w K mg) : PySem.W.takesIn K (.ref (He.ma K (He.ga K "Walk") "rooms")) = some true := of_decide_eq_true (T.x 2)
theorem Says.pWalk_rooms_rec (T : Says w K mg) : ((PySem.W.recIn K (He.ma K (He.ga K "Walk") "rooms") "property").bind List.head?) = some (.ref (gAd K (He.ma K (He.ga K "Walk") "rooms"))) := of_decide_eq_true (T.x 3)
theorem Says.pBuilding_rooms_at (T : Says w K mg) : PySem.W.findIn K (.ref (He.ga K "Building")) "rooms" = some (some (.ref (He.ma K (He.ga K "Building") "rooms"))) := of_decide_eq_true (T.x 4)
theorem Says.pBuilding_rooms_get (T : Says w K mg) : PySem.W.specialIn K (.ref (He.ma K (He.ga K "Building") "rooms")) "__get__" = some (some (.builtin "property.__get__")) := of_decide_eq_true (T.x 5)
theorem Says.pBuilding_rooms_tak (T : Says w K mg) : PySem.W.takesIn K (.ref (He.ma K (He.ga K "Building") "rooms")) = some true := of_decide_eq_true (T.x 6)
theorem Says.pBuilding_rooms_rec (T : Says w K mg) : ((PySem.W.recIn K (He.ma K (He.ga K "Building") "rooms") "property").bind List.head?) = some (.ref (gAd K (He.ma K (He.ga K "Building") "rooms"))) := of_decide_eq_true (T.x 7)
theorem Says.pBuilding_sides_at (T : Says w K mg) : PySem.W.findIn K (.ref (He.ga K "Building")) "sides" = some (some (.ref (He.ma K (He.ga K "Building") "sides"))) := of_decide_eq_true (T.x 8)
theorem Says.pBuilding_sides_get (T : Says w K mg) : PySem.W.specialIn K (.ref (He.ma K (He.ga K "Building") "sides")) "__get__" = some (some (.builtin "property.__get__")) := of_decide_eq_true (T.x 9)
theorem Says.pBuilding_sides_tak (T : Says w K mg) : PySem.W.takesIn K (.ref (He.ma K (He.ga K "Building") "sides")) = some true := of_decide_eq_true (T.x 10)
theorem Says.pBuilding_sides_rec (T : Says w K mg) : ((PySem.W.recIn K (He.ma K (He.ga K "Building") "sides") "property").bind List.head?) = some (.ref (gAd K (He.ma K (He.ga K "Building") "sides"))) := of_decide_eq_true (T.x 11)
theorem Says.pHouse_building_at (T : Says w K mg) : PySem.W.findIn K (.ref (He.ga K "LoggedHouse")) "building" = some (some (.ref (He.ma K (He.ga K "LoggedHouse") "building"))) := of_decide_eq_true (T.x 12)
theorem Says.pHouse_building_get (T : Says w K mg) : PySem.W.specialIn K (.ref (He.ma K (He.ga K "LoggedHouse") "building")) "__get__" = some (some (.builtin "property.__get__")) := of_decide_eq_true (T.x 13)
theorem Says.pHouse_building_tak (T : Says w K mg) : PySem.W.takesIn K (.ref (He.ma K (He.ga K "LoggedHouse") "building")) = some true := of_decide_eq_true (T.x 14)
theorem Says.pHouse_building_rec (T : Says w K mg) : ((PySem.W.recIn K (He.ma K (He.ga K "LoggedHouse") "building") "property").bind List.head?) = some (.ref (gAd K (He.ma K (He.ga K "LoggedHouse") "building"))) := of_decide_eq_true (T.x 15)
theorem Says.pHouse_place_at (T : Says w K mg) : PySem.W.findIn K (.ref (He.ga K "LoggedHouse")) "place" = some (some (.ref (He.ma K (He.ga K "LoggedHouse") "place"))) := of_decide_eq_true (T.x 16)
theorem Says.pHouse_place_get (T : Says w K mg) : PySem.W.specialIn K (.ref (He.ma K (He.ga K "LoggedHouse") "place")) "__get__" = some (some (.builtin "property.__get__")) := of_decide_eq_true (T.x 17)
theorem Says.pHouse_place_tak (T : Says w K mg) : PySem.W.takesIn K (.ref (He.ma K (He.ga K "LoggedHouse") "place")) = some true := of_decide_eq_true (T.x 18)
theorem Says.pHouse_place_rec (T : Says w K mg) : ((PySem.W.recIn K (He.ma K (He.ga K "LoggedHouse") "place") "property").bind List.head?) = some (.ref (gAd K (He.ma K (He.ga K "LoggedHouse") "place"))) := of_decide_eq_true (T.x 19)
theorem Says.pHouse_step_count_at (T : Says w K mg) : PySem.W.findIn K (.ref (He.ga K "LoggedHouse")) "step_count" = some (some (.ref (He.ma K (He.ga K "LoggedHouse") "step_count"))) := of_decide_eq_true (T.x 20)
theorem Says.pHouse_step_count_get (T : Says w K mg) : PySem.W.specialIn K (.ref (He.ma K (He.ga K "LoggedHouse") "step_count")) "__get__" = some (some (.builtin "property.__get__")) := of_decide_eq_true (T.x 21)
theorem Says.pHouse_step_count_tak (T : Says w K mg) : PySem.W.takesIn K (.ref (He.ma K (He.ga K "LoggedHouse") "step_count")) = some true := of_decide_eq_true (T.x 22)
theorem Says.pHouse_step_count_rec (T : Says w K mg) : ((PySem.W.recIn K (He.ma K (He.ga K "LoggedHouse") "step_count") "property").bind List.head?) = some (.ref (gAd K (He.ma K (He.ga K "LoggedHouse") "step_count"))) := of_decide_eq_true (T.x 23)
theorem Says.pHouse_dials_at (T : Says w K mg) : PySem.W.findIn K (.ref (He.ga K "LoggedHouse")) "dials" = some (some (.ref (He.ma K (He.ga K "LoggedHouse") "dials"))) := of_decide_eq_true (T.x 24)
theorem Says.pHouse_dials_get (T : Says w K mg) : PySem.W.specialIn K (.ref (He.ma K (He.ga K "LoggedHouse") "dials")) "__get__" = some (some (.builtin "property.__get__")) := of_decide_eq_true (T.x 25)
theorem Says.pHouse_dials_tak (T : Says w K mg) : PySem.W.takesIn K (.ref (He.ma K (He.ga K "LoggedHouse") "dials")) = some true := of_decide_eq_true (T.x 26)
theorem Says.pHouse_dials_rec (T : Says w K mg) : ((PySem.W.recIn K (He.ma K (He.ga K "LoggedHouse") "dials") "property").bind List.head?) = some (.ref (gAd K (He.ma K (He.ga K "LoggedHouse") "dials"))) := of_decide_eq_true (T.x 27)
theorem Says.pHouse_walk_at (T : Says w K mg) : PySem.W.findIn K (.ref (He.ga K "LoggedHouse")) "walk" = some (some (.ref (He.ma K (He.ga K "LoggedHouse") "walk"))) := of_decide_eq_true (T.x 28)
theorem Says.pHouse_walk_get (T : Says w K mg) : PySem.W.specialIn K (.ref (He.ma K (He.ga K "LoggedHouse") "walk")) "__get__" = some (some (.builtin "property.__get__")) := of_decide_eq_true (T.x 29)
theorem Says.pHouse_walk_tak (T : Says w K mg) : PySem.W.takesIn K (.ref (He.ma K (He.ga K "LoggedHouse") "walk")) = some true := of_decide_eq_true (T.x 30)
theorem Says.pHouse_walk_rec (T : Says w K mg) : ((PySem.W.recIn K (He.ma K (He.ga K "LoggedHouse") "walk") "property").bind List.head?) = some (.ref (gAd K (He.ma K (He.ga K "LoggedHouse") "walk"))) := of_decide_eq_true (T.x 31)
theorem Says.pHouse_trace_at (T : Says w K mg) : PySem.W.findIn K (.ref (He.ga K "LoggedHouse")) "trace" = some (some (.ref (He.ma K (He.ga K "LoggedHouse") "trace"))) := of_decide_eq_true (T.x 32)
theorem Says.pHouse_trace_get (T : Says w K mg) : PySem.W.specialIn K (.ref (He.ma K (He.ga K "LoggedHouse") "trace")) "__get__" = some (some (.builtin "property.__get__")) := of_decide_eq_true (T.x 33)
theorem Says.pHouse_trace_tak (T : Says w K mg) : PySem.W.takesIn K (.ref (He.ma K (He.ga K "LoggedHouse") "trace")) = some true := of_decide_eq_true (T.x 34)
theorem Says.pHouse_trace_rec (T : Says w K mg) : ((PySem.W.recIn K (He.ma K (He.ga K "LoggedHouse") "trace") "property").bind List.head?) = some (.ref (gAd K (He.ma K (He.ga K "LoggedHouse") "trace"))) := of_decide_eq_true (T.x 35)
theorem Says.pLoggedHouse_log_at (T : Says w K mg) : PySem.W.findIn K (.ref (He.ga K "LoggedHouse")) "log" = some (some (.ref (He.ma K (He.ga K "LoggedHouse") "log"))) := of_decide_eq_true (T.x 36)
theorem Says.pLoggedHouse_log_get (T : Says w K mg) : PySem.W.specialIn K (.ref (He.ma K (He.ga K "LoggedHouse") "log")) "__get__" = some (some (.builtin "property.__get__")) := of_decide_eq_true (T.x 37)
theorem Says.pLoggedHouse_log_tak (T : Says w K mg) : PySem.W.takesIn K (.ref (He.ma K (He.ga K "LoggedHouse") "log")) = some true := of_decide_eq_true (T.x 38)
theorem Says.pLoggedHouse_log_rec (T : Says w K mg) : ((PySem.W.recIn K (He.ma K (He.ga K "LoggedHouse") "log") "property").bind List.head?) = some (.ref (gAd K (He.ma K (He.ga K "LoggedHouse") "log"))) := of_decide_eq_true (T.x 39)
theorem Says.kWalk_class (T : Says w K mg) : PySem.W.findIn K (.ref (He.ga K "Walk")) "__class__" = some (some (.builtin "object.__class__")) := of_decide_eq_true (T.x 40)
theorem Says.kWalk_mro (T : Says w K mg) : PySem.W.mroIn K (He.ga K "Walk") (.type "object") = some true := of_decide_eq_true (T.x 41)
theorem Says.kWalk_kit (T : Says w K mg) : PySem.W.kitOne K (.ref (He.ga K "Walk")) (.ref (He.ga K "Walk")) = some true := of_decide_eq_true (T.x 42)
theorem Says.kBuilding_class (T : Says w K mg) : PySem.W.findIn K (.ref (He.ga K "Building")) "__class__" = some (some (.builtin "object.__class__")) := of_decide_eq_true (T.x 43)
theorem Says.kBuilding_mro (T : Says w K mg) : PySem.W.mroIn K (He.ga K "Building") (.type "object") = some true := of_decide_eq_true (T.x 44)
theorem Says.kBuilding_kit (T : Says w K mg) : PySem.W.kitOne K (.ref (He.ga K "Building")) (.ref (He.ga K "Building")) = some true := of_decide_eq_true (T.x 45)
theorem Says.kTrace_class (T : Says w K mg) : PySem.W.findIn K (.ref (He.ga K "Trace")) "__class__" = some (some (.builtin "object.__class__")) := of_decide_eq_true (T.x 46)
theorem Says.kTrace_mro (T : Says w K mg) : PySem.W.mroIn K (He.ga K "Trace") (.type "object") = some true := of_decide_eq_true (T.x 47)
theorem Says.kTrace_kit (T : Says w K mg) : PySem.W.kitOne K (.ref (He.ga K "Trace")) (.ref (He.ga K "Trace")) = some true := of_decide_eq_true (T.x 48)
theorem Says.kLoggedHouse_class (T : Says w K mg) : PySem.W.findIn K (.ref (He.ga K "LoggedHouse")) "__class__" = some (some (.builtin "object.__class__")) := of_decide_eq_true (T.x 49)
theorem Says.kLoggedHouse_mro (T : Says w K mg) : PySem.W.mroIn K (He.ga K "LoggedHouse") (.type "object") = some true := of_decide_eq_true (T.x 50)
theorem Says.kLoggedHouse_kit (T : Says w K mg) : PySem.W.kitOne K (.ref (He.ga K "LoggedHouse")) (.ref (He.ga K "LoggedHouse")) = some true := of_decide_eq_true (T.x 51)
theorem Says.k_class_get (T : Says w K mg) : PySem.W.specialIn K (.builtin "object.__class__") "__get__" = some (some (.builtin "getset_descriptor.__get__")) := of_decide_eq_true (T.x 52)
theorem Says.k_class_tak (T : Says w K mg) : PySem.W.takesIn K (.builtin "object.__class__") = some true := of_decide_eq_true (T.x 53)
theorem Says.eInvalidWalk_init (T : Says w K mg) : PySem.W.findIn K (.ref (He.ga K "InvalidWalk")) "__init__" = some (some (.ref (He.ma K (He.ga K "InvalidWalk") "__init__"))) := of_decide_eq_true (T.x 54)
theorem Says.eInvalidWalk_fn (T : Says w K mg) : PySem.W.isFn K (.ref (He.ma K (He.ga K "InvalidWalk") "__init__")) = true := of_decide_eq_true (T.x 55)
theorem Says.eInvalidWalk_new (T : Says w K mg) : PySem.W.excInitIn K (He.ga K "InvalidWalk") exB "Exception.__new__" = true := of_decide_eq_true (T.x 56)
theorem Says.eInvalidWalk_over (T : Says w K mg) : PySem.W.excOver K (He.ga K "InvalidWalk") exB = true := of_decide_eq_true (T.x 57)
theorem Says.eInvalidWalk_keep (T : Says w K mg) : PySem.W.keepIn K (.ref (He.ga K "InvalidWalk")) = true := of_decide_eq_true (T.x 58)
theorem Says.eInvalidWalk_sub (T : Says w K mg) : PySem.W.subIn K (.ref (He.ga K "InvalidWalk")) (.type "BaseException") = some true := of_decide_eq_true (T.x 59)
theorem Says.eInvalidWalk_typ (T : Says w K mg) : PySem.W.typeIn K (.ref (He.ga K "InvalidWalk")) = some (.type "type") := of_decide_eq_true (T.x 60)
theorem Says.eInvalidWalk_sa (T : Says w K mg) : PySem.W.findIn K (.ref (He.ga K "InvalidWalk")) "__setattr__" = some (some (.builtin "object.__setattr__")) := of_decide_eq_true (T.x 61)
theorem Says.eNothingToUndo_init (T : Says w K mg) : PySem.W.findIn K (.ref (He.ga K "NothingToUndo")) "__init__" = some (some (.ref (He.ma K (He.ga K "NothingToUndo") "__init__"))) := of_decide_eq_true (T.x 62)
theorem Says.eNothingToUndo_fn (T : Says w K mg) : PySem.W.isFn K (.ref (He.ma K (He.ga K "NothingToUndo") "__init__")) = true := of_decide_eq_true (T.x 63)
theorem Says.eNothingToUndo_new (T : Says w K mg) : PySem.W.excInitIn K (He.ga K "NothingToUndo") exB "Exception.__new__" = true := of_decide_eq_true (T.x 64)
theorem Says.eNothingToUndo_over (T : Says w K mg) : PySem.W.excOver K (He.ga K "NothingToUndo") exB = true := of_decide_eq_true (T.x 65)
theorem Says.eNothingToUndo_keep (T : Says w K mg) : PySem.W.keepIn K (.ref (He.ga K "NothingToUndo")) = true := of_decide_eq_true (T.x 66)
theorem Says.eNothingToUndo_sub (T : Says w K mg) : PySem.W.subIn K (.ref (He.ga K "NothingToUndo")) (.type "BaseException") = some true := of_decide_eq_true (T.x 67)
theorem Says.eNothingToUndo_typ (T : Says w K mg) : PySem.W.typeIn K (.ref (He.ga K "NothingToUndo")) = some (.type "type") := of_decide_eq_true (T.x 68)
theorem Says.eNothingToUndo_sa (T : Says w K mg) : PySem.W.findIn K (.ref (He.ga K "NothingToUndo")) "__setattr__" = some (some (.builtin "object.__setattr__")) := of_decide_eq_true (T.x 69)
theorem Says.eInvalidWalk_index (T : Says w K mg) : PySem.W.findIn K (.ref (He.ga K "InvalidWalk")) "index" = some none := of_decide_eq_true (T.x 70)
theorem Says.xInvalidWalk_InvalidWalk (T : Says w K mg) : PySem.W.exmOne K (.ref (He.ga K "InvalidWalk")) (.ref (He.ga K "InvalidWalk")) = some true := of_decide_eq_true (T.x 71)
theorem Says.xNothingToUndo_InvalidWalk (T : Says w K mg) : PySem.W.exmOne K (.ref (He.ga K "NothingToUndo")) (.ref (He.ga K "InvalidWalk")) = some false := of_decide_eq_true (T.x 72)
theorem Says.xNothingToUndo_NothingToUndo (T : Says w K mg) : PySem.W.exmOne K (.ref (He.ga K "NothingToUndo")) (.ref (He.ga K "NothingToUndo")) = some true := of_decide_eq_true (T.x 73)
theorem Says.xKey_InvalidWalk (T : Says w K mg) : PySem.W.exmOne K (.type "KeyError") (.ref (He.ga K "InvalidWalk")) = some false := of_decide_eq_true (T.x 74)
theorem Says.xKey_NothingToUndo (T : Says w K mg) : PySem.W.exmOne K (.type "KeyError") (.ref (He.ga K "NothingToUndo")) = some false := of_decide_eq_true (T.x 75)
theorem Says.xKey_Key (T : Says w K mg) : PySem.W.exmOne K (.type "KeyError") (.type "KeyError") = some true := of_decide_eq_true (T.x 76)
theorem Says.eRd_keep (T : Says w K mg) : PySem.W.keepIn K (.ref (He.ga K "RoomdialsError")) = true := of_decide_eq_true (T.x 77)
theorem Says.eRd_find (T : Says w K mg) : (match PySem.W.findCls K (.ref (He.ga K "RoomdialsError")) (.type "type") "__init__" with | some (.val (.builtin n)) => n == "Exception.__init__" | _ => false) = true := of_decide_eq_true (T.x 78)
theorem Says.eRd_reads (T : Says w K mg) : PySem.W.readsIn K (He.ga K "RoomdialsError") (.type "type") = true := of_decide_eq_true (T.x 79)
theorem Says.eRd_ga (T : Says w K mg) : PySem.W.specialIn K (.ref (He.ga K "RoomdialsError")) "__getattribute__" = some (some (.builtin "type.__getattribute__")) := of_decide_eq_true (T.x 80)
theorem Says.eInvalidWalk_dict (T : Says w K mg) : (PySem.W.clsIn K (He.ga K "InvalidWalk")).any (fun cd => cd.hasDict) = true := of_decide_eq_true (T.x 81)
theorem Says.eInvalidWalk_tak (T : Says w K mg) : PySem.W.takerIn K (He.ga K "InvalidWalk") "index" = some none := of_decide_eq_true (T.x 82)
theorem Says.cMOST_ROOMS (T : Says w K mg) : (match PySem.W.findIn K (.ref (He.ga K "Building")) "MOST_ROOMS" with | some (some (.int 24 _)) => true | _ => false) = true := of_decide_eq_true (T.x 83)
theorem Says.cMOST_CORRIDORS (T : Says w K mg) : (match PySem.W.findIn K (.ref (He.ga K "Building")) "MOST_CORRIDORS" with | some (some (.int 40 _)) => true | _ => false) = true := of_decide_eq_true (T.x 84)
theorem Says.cIntGet (T : Says w K mg) : (match PySem.W.findIn K (.ref (He.ga K "Building")) "MOST_ROOMS" with | some (some u) => decide (PySem.W.specialIn K u "__get__" = some none) | _ => false) = true := of_decide_eq_true (T.x 85)
theorem Says.cIntGet2 (T : Says w K mg) : (match PySem.W.findIn K (.ref (He.ga K "Building")) "MOST_CORRIDORS" with | some (some u) => decide (PySem.W.specialIn K u "__get__" = some none) | _ => false) = true := of_decide_eq_true (T.x 86)
theorem Says.t_steps_from (T : Says w K mg) : (match K.lookup (He.dflAt ("steps_from", none) 0 K) with | some ⟨.type c, _, .seq its _, _⟩ => decide (c = "tuple") && its.isEmpty | _ => false) = true := of_decide_eq_true (T.x 87)
theorem Says.t_reached_from (T : Says w K mg) : (match K.lookup (He.dflAt ("reached_from", none) 0 K) with | some ⟨.type c, _, .seq its _, _⟩ => decide (c = "tuple") && its.isEmpty | _ => false) = true := of_decide_eq_true (T.x 88)
theorem Says.sBuilding_noseq (T : Says w K mg) : PySem.W.noSeq K (He.ga K "Building") = true := of_decide_eq_true (T.x 89)
theorem Says.sWalk_noseq (T : Says w K mg) : PySem.W.noSeq K (He.ga K "Walk") = true := of_decide_eq_true (T.x 90)
theorem Says.kBuilding_ne (T : Says w K mg) : PySem.W.findIn K (.ref (He.ga K "Building")) "__ne__" = some (some (.builtin "object.__ne__")) := of_decide_eq_true (T.x 91)
theorem Says.d_gcd_of (T : Says w K mg) : ∃ fd, FunD K "gcd_of" "gcd_of" (defArgs s_gcd_of) (defBody s_gcd_of) (defScope s_gcd_of) [] [] (He.ga K "gcd_of") fd := T.d.def_ 0 rfl
theorem Says.d_joined_rooms (T : Says w K mg) : ∃ fd, FunD K "joined_rooms" "joined_rooms" (defArgs s_joined_rooms) (defBody s_joined_rooms) (defScope s_joined_rooms) [] [] (He.ga K "joined_rooms") fd := T.d.def_ 1 rfl
theorem Says.d_steps_from (T : Says w K mg) : ∃ fd, FunD K "steps_from" "steps_from" (defArgs s_steps_from) (defBody s_steps_from) (defScope s_steps_from) [.ref (He.dflAt ("steps_from", none) 0 K)] [] (He.ga K "steps_from") fd := T.d.def_ 2 rfl
theorem Says.d_reached_from (T : Says w K mg) : ∃ fd, FunD K "reached_from" "reached_from" (defArgs s_reached_from) (defBody s_reached_from) (defScope s_reached_from) [.ref (He.dflAt ("reached_from", none) 0 K)] [] (He.ga K "reached_from") fd := T.d.def_ 3 rfl
theorem Says.d_level_corridor (T : Says w K mg) : ∃ fd, FunD K "level_corridor" "level_corridor" (defArgs s_level_corridor) (defBody s_level_corridor) (defScope s_level_corridor) [] [] (He.ga K "level_corridor") fd := T.d.def_ 4 rfl
theorem Says.d_sides_of (T : Says w K mg) : ∃ fd, FunD K "sides_of" "sides_of" (defArgs s_sides_of) (defBody s_sides_of) (defScope s_sides_of) [] [] (He.ga K "sides_of") fd := T.d.def_ 5 rfl
theorem Says.d_odd_ring_of (T : Says w K mg) : ∃ fd, FunD K "odd_ring_of" "odd_ring_of" (defArgs s_odd_ring_of) (defBody s_odd_ring_of) (defScope s_odd_ring_of) [] [] (He.ga K "odd_ring_of") fd := T.d.def_ 6 rfl
theorem Says.d_on_rings (T : Says w K mg) : ∃ fd, FunD K "on_rings" "on_rings" (defArgs s_on_rings) (defBody s_on_rings) (defScope s_on_rings) [] [] (He.ga K "on_rings") fd := T.d.def_ 7 rfl
theorem Says.d_bridges_of (T : Says w K mg) : ∃ fd, FunD K "bridges_of" "bridges_of" (defArgs s_bridges_of) (defBody s_bridges_of) (defScope s_bridges_of) [] [] (He.ga K "bridges_of") fd := T.d.def_ 8 rfl
theorem Says.d_is_name (T : Says w K mg) : ∃ fd, FunD K "is_name" "is_name" (defArgs s_is_name) (defBody s_is_name) (defScope s_is_name) [] [] (He.ga K "is_name") fd := T.d.def_ 9 rfl
theorem Says.d_is_integer (T : Says w K mg) : ∃ fd, FunD K "is_integer" "is_integer" (defArgs s_is_integer) (defBody s_is_integer) (defScope s_is_integer) [] [] (He.ga K "is_integer") fd := T.d.def_ 10 rfl
theorem Says.d_is_between (T : Says w K mg) : ∃ fd, FunD K "is_between" "is_between" (defArgs s_is_between) (defBody s_is_between) (defScope s_is_between) [] [] (He.ga K "is_between") fd := T.d.def_ 11 rfl
theorem Says.d_wrong_place (T : Says w K mg) : ∃ fd, FunD K "wrong_place" "wrong_place" (defArgs s_wrong_place) (defBody s_wrong_place) (defScope s_wrong_place) [] [] (He.ga K "wrong_place") fd := T.d.def_ 12 rfl
theorem Says.d_pair_of (T : Says w K mg) : ∃ fd, FunD K "pair_of" "pair_of" (defArgs s_pair_of) (defBody s_pair_of) (defScope s_pair_of) [] [] (He.ga K "pair_of") fd := T.d.def_ 13 rfl
theorem Says.d_trace_along (T : Says w K mg) : ∃ fd, FunD K "trace_along" "trace_along" (defArgs s_trace_along) (defBody s_trace_along) (defScope s_trace_along) [] [] (He.ga K "trace_along") fd := T.d.def_ 14 rfl
theorem Says.d_begin (T : Says w K mg) : ∃ fd, FunD K "_law_begin" "_law_begin" (defArgs s_begin) (defBody s_begin) (defScope s_begin) [] [] (He.ga K "_law_begin") fd := T.d.def_ 15 rfl
theorem Says.d_draw (T : Says w K mg) : ∃ fd, FunD K "_law_draw" "_law_draw" (defArgs s_draw) (defBody s_draw) (defScope s_draw) [] [] (He.ga K "_law_draw") fd := T.d.def_ 16 rfl
theorem Says.d_pick (T : Says w K mg) : ∃ fd, FunD K "_law_pick" "_law_pick" (defArgs s_pick) (defBody s_pick) (defScope s_pick) [] [] (He.ga K "_law_pick") fd := T.d.def_ 17 rfl
theorem Says.d_shuffled (T : Says w K mg) : ∃ fd, FunD K "_law_shuffled" "_law_shuffled" (defArgs s_shuffled) (defBody s_shuffled) (defScope s_shuffled) [] [] (He.ga K "_law_shuffled") fd := T.d.def_ 18 rfl
theorem Says.d_names (T : Says w K mg) : ∃ fd, FunD K "_law_names" "_law_names" (defArgs s_names) (defBody s_names) (defScope s_names) [] [] (He.ga K "_law_names") fd := T.d.def_ 19 rfl
theorem Says.d_pair (T : Says w K mg) : ∃ fd, FunD K "_law_pair" "_law_pair" (defArgs s_pair) (defBody s_pair) (defScope s_pair) [] [] (He.ga K "_law_pair") fd := T.d.def_ 20 rfl
theorem Says.d_drawn (T : Says w K mg) : ∃ fd, FunD K "_law_drawn" "_law_drawn" (defArgs s_drawn) (defBody s_drawn) (defScope s_drawn) [] [] (He.ga K "_law_drawn") fd := T.d.def_ 21 rfl
theorem Says.d_built (T : Says w K mg) : ∃ fd, FunD K "_law_built" "_law_built" (defArgs s_built) (defBody s_built) (defScope s_built) [] [] (He.ga K "_law_built") fd := T.d.def_ 22 rfl
theorem Says.d_near (T : Says w K mg) : ∃ fd, FunD K "_law_near" "_law_near" (defArgs s_near) (defBody s_near) (defScope s_near) [] [] (He.ga K "_law_near") fd := T.d.def_ 23 rfl
theorem Says.d_wandered (T : Says w K mg) : ∃ fd, FunD K "_law_wandered" "_law_wandered" (defArgs s_wandered) (defBody s_wandered) (defScope s_wandered) [] [] (He.ga K "_law_wandered") fd := T.d.def_ 24 rfl
theorem Says.d_left (T : Says w K mg) : ∃ fd, FunD K "_law_left" "_law_left" (defArgs s_left) (defBody s_left) (defScope s_left) [] [] (He.ga K "_law_left") fd := T.d.def_ 25 rfl
theorem Says.d_sizes (T : Says w K mg) : ∃ fd, FunD K "_law_sizes" "_law_sizes" (defArgs s_sizes) (defBody s_sizes) (defScope s_sizes) [] [] (He.ga K "_law_sizes") fd := T.d.def_ 26 rfl
theorem Says.d_traced (T : Says w K mg) : ∃ fd, FunD K "_law_traced" "_law_traced" (defArgs s_traced) (defBody s_traced) (defScope s_traced) [] [] (He.ga K "_law_traced") fd := T.d.def_ 27 rfl
theorem Says.d_go (T : Says w K mg) : ∃ fd, FunD K "_law_go" "_law_go" (defArgs s_go) (defBody s_go) (defScope s_go) [] [] (He.ga K "_law_go") fd := T.d.def_ 28 rfl
theorem Says.d_shown (T : Says w K mg) : ∃ fd, FunD K "_law_shown" "_law_shown" (defArgs s_shown) (defBody s_shown) (defScope s_shown) [] [] (He.ga K "_law_shown") fd := T.d.def_ 29 rfl
theorem Says.d_is_house (T : Says w K mg) : ∃ fd, FunD K "_law_is_house" "_law_is_house" (defArgs s_is_house) (defBody s_is_house) (defScope s_is_house) [] [] (He.ga K "_law_is_house") fd := T.d.def_ 30 rfl
theorem Says.d_cut_calls (T : Says w K mg) : ∃ fd, FunD K "_law_cut_calls" "_law_cut_calls" (defArgs s_cut_calls) (defBody s_cut_calls) (defScope s_cut_calls) [] [] (He.ga K "_law_cut_calls") fd := T.d.def_ 31 rfl
theorem Says.d_log_due (T : Says w K mg) : ∃ fd, FunD K "_law_log_due" "_law_log_due" (defArgs s_log_due) (defBody s_log_due) (defScope s_log_due) [] [] (He.ga K "_law_log_due") fd := T.d.def_ 32 rfl
theorem Says.d_deeds (T : Says w K mg) : ∃ fd, FunD K "_law_deeds" "_law_deeds" (defArgs s_deeds) (defBody s_deeds) (defScope s_deeds) [] [] (He.ga K "_law_deeds") fd := T.d.def_ 33 rfl
theorem Says.d_done (T : Says w K mg) : ∃ fd, FunD K "_law_done" "_law_done" (defArgs s_done) (defBody s_done) (defScope s_done) [] [] (He.ga K "_law_done") fd := T.d.def_ 34 rfl
theorem Says.d_noted (T : Says w K mg) : ∃ fd, FunD K "_law_noted" "_law_noted" (defArgs s_noted) (defBody s_noted) (defScope s_noted) [] [] (He.ga K "_law_noted") fd := T.d.def_ 35 rfl
theorem Says.d_attempted (T : Says w K mg) : ∃ fd, FunD K "_law_attempted" "_law_attempted" (defArgs s_attempted) (defBody s_attempted) (defScope s_attempted) [] [] (He.ga K "_law_attempted") fd := T.d.def_ 36 rfl
theorem Says.d_tried (T : Says w K mg) : ∃ fd, FunD K "_law_tried" "_law_tried" (defArgs s_tried) (defBody s_tried) (defScope s_tried) [] [] (He.ga K "_law_tried") fd := T.d.def_ 37 rfl
theorem Says.d_scene (T : Says w K mg) : ∃ fd, FunD K "_law_scene" "_law_scene" (defArgs s_scene) (defBody s_scene) (defScope s_scene) [] [] (He.ga K "_law_scene") fd := T.d.def_ 38 rfl
theorem Says.d_logged (T : Says w K mg) : ∃ fd, FunD K "_law_logged" "_law_logged" (defArgs s_logged) (defBody s_logged) (defScope s_logged) [] [] (He.ga K "_law_logged") fd := T.d.def_ 39 rfl
theorem Says.d_law (T : Says w K mg) : ∃ fd, FunD K "law" "law" (defArgs s_law) (defBody s_law) (defScope s_law) [] [] (He.ga K "law") fd := T.d.def_ 40 rfl
theorem Says.dInvalidWalk_init (T : Says w K mg) : ∃ fd, FunD K "__init__" "InvalidWalk.__init__" (defArgs sInvalidWalk_init) (defBody sInvalidWalk_init) (defScope sInvalidWalk_init) [] [] (He.ma K (He.ga K "InvalidWalk") "__init__") fd := T.d.def_ 41 rfl
theorem Says.dNothingToUndo_init (T : Says w K mg) : ∃ fd, FunD K "__init__" "NothingToUndo.__init__" (defArgs sNothingToUndo_init) (defBody sNothingToUndo_init) (defScope sNothingToUndo_init) [] [] (He.ma K (He.ga K "NothingToUndo") "__init__") fd := T.d.def_ 42 rfl
theorem Says.dWalk_init (T : Says w K mg) : ∃ fd, FunD K "__init__" "Walk.__init__" (defArgs sWalk_init) (defBody sWalk_init) (defScope sWalk_init) [] [] (He.ma K (He.ga K "Walk") "__init__") fd := T.d.def_ 43 rfl
theorem Says.dWalk_len (T : Says w K mg) : ∃ fd, FunD K "__len__" "Walk.__len__" (defArgs sWalk_len) (defBody sWalk_len) (defScope sWalk_len) [] [] (He.ma K (He.ga K "Walk") "__len__") fd := T.d.def_ 44 rfl
theorem Says.dBuilding_init (T : Says w K mg) : ∃ fd, FunD K "__init__" "Building.__init__" (defArgs sBuilding_init) (defBody sBuilding_init) (defScope sBuilding_init) [] [] (He.ma K (He.ga K "Building") "__init__") fd := T.d.def_ 45 rfl
theorem Says.dBuilding_prepare (T : Says w K mg) : ∃ fd, FunD K "prepare" "Building.prepare" (defArgs sBuilding_prepare) (defBody sBuilding_prepare) (defScope sBuilding_prepare) [] [] (He.ma K (He.ga K "Building") "prepare") fd := T.d.def_ 46 rfl
theorem Says.dBuilding_sorted_pairs (T : Says w K mg) : ∃ fd, FunD K "sorted_pairs" "Building.sorted_pairs" (defArgs sBuilding_sorted_pairs) (defBody sBuilding_sorted_pairs) (defScope sBuilding_sorted_pairs) [] [] (He.ma K (He.ga K "Building") "sorted_pairs") fd := T.d.def_ 47 rfl
theorem Says.dBuilding_check_connected (T : Says w K mg) : ∃ fd, FunD K "check_connected" "Building.check_connected" (defArgs sBuilding_check_connected) (defBody sBuilding_check_connected) (defScope sBuilding_check_connected) [] [] (He.ma K (He.ga K "Building") "check_connected") fd := T.d.def_ 48 rfl
theorem Says.dBuilding_neighbours (T : Says w K mg) : ∃ fd, FunD K "neighbours" "Building.neighbours" (defArgs sBuilding_neighbours) (defBody sBuilding_neighbours) (defScope sBuilding_neighbours) [] [] (He.ma K (He.ga K "Building") "neighbours") fd := T.d.def_ 49 rfl
theorem Says.dBuilding_contains (T : Says w K mg) : ∃ fd, FunD K "__contains__" "Building.__contains__" (defArgs sBuilding_contains) (defBody sBuilding_contains) (defScope sBuilding_contains) [] [] (He.ma K (He.ga K "Building") "__contains__") fd := T.d.def_ 50 rfl
theorem Says.dBuilding_getitem (T : Says w K mg) : ∃ fd, FunD K "__getitem__" "Building.__getitem__" (defArgs sBuilding_getitem) (defBody sBuilding_getitem) (defScope sBuilding_getitem) [] [] (He.ma K (He.ga K "Building") "__getitem__") fd := T.d.def_ 51 rfl
theorem Says.dBuilding_eq (T : Says w K mg) : ∃ fd, FunD K "__eq__" "Building.__eq__" (defArgs sBuilding_eq) (defBody sBuilding_eq) (defScope sBuilding_eq) [] [] (He.ma K (He.ga K "Building") "__eq__") fd := T.d.def_ 52 rfl
theorem Says.dTrace_init (T : Says w K mg) : ∃ fd, FunD K "__init__" "Trace.__init__" (defArgs sTrace_init) (defBody sTrace_init) (defScope sTrace_init) [] [] (He.ma K (He.ga K "Trace") "__init__") fd := T.d.def_ 53 rfl
theorem Says.dTrace_found_balance (T : Says w K mg) : ∃ fd, FunD K "found_balance" "Trace.found_balance" (defArgs sTrace_found_balance) (defBody sTrace_found_balance) (defScope sTrace_found_balance) [] [] (He.ma K (He.ga K "Trace") "found_balance") fd := T.d.def_ 54 rfl
theorem Says.dTrace_eq (T : Says w K mg) : ∃ fd, FunD K "__eq__" "Trace.__eq__" (defArgs sTrace_eq) (defBody sTrace_eq) (defScope sTrace_eq) [] [] (He.ma K (He.ga K "Trace") "__eq__") fd := T.d.def_ 55 rfl
theorem Says.dHouse_init (T : Says w K mg) : ∃ fd, FunD K "__init__" "House.__init__" (defArgs sHouse_init) (defBody sHouse_init) (defScope sHouse_init) [] [] (He.ma K (He.ga K "LoggedHouse") "__init__") fd := T.d.def_ 56 rfl
theorem Says.dHouse_go (T : Says w K mg) : ∃ fd, FunD K "go" "House.go" (defArgs sHouse_go) (defBody sHouse_go) (defScope sHouse_go) [] [] (He.ma K (He.ga K "LoggedHouse") "go") fd := T.d.def_ 57 rfl
theorem Says.dHouse_undo (T : Says w K mg) : ∃ fd, FunD K "undo" "House.undo" (defArgs sHouse_undo) (defBody sHouse_undo) (defScope sHouse_undo) [] [("count", .int 1)] (He.ma K (He.ga K "LoggedHouse") "undo") fd := T.d.def_ 58 rfl
theorem Says.dHouse_attempt (T : Says w K mg) : ∃ fd, FunD K "attempt" "House.attempt" (defArgs sHouse_attempt) (defBody sHouse_attempt) (defScope sHouse_attempt) [] [] (He.ma K (He.ga K "LoggedHouse") "attempt") fd := T.d.def_ 59 rfl
theorem Says.dWalk_rooms (T : Says w K mg) : ∃ fd, FunD K "rooms" "Walk.rooms" (defArgs sWalk_rooms) (defBody sWalk_rooms) (defScope sWalk_rooms) [] [] (gAd K (He.ma K (He.ga K "Walk") "rooms")) fd := T.getter 0 rfl
theorem Says.pWalk_rooms (T : Says w K mg) : PropOf K (He.ga K "Walk") "rooms" (He.ma K (He.ga K "Walk") "rooms") (gAd K (He.ma K (He.ga K "Walk") "rooms")) := by
  refine ⟨T.pWalk_rooms_at, T.pWalk_rooms_get, T.pWalk_rooms_tak, ?_⟩
  have e := T.pWalk_rooms_rec
  cases q : PySem.W.recIn K (He.ma K (He.ga K "Walk") "rooms") "property" with
  | none => rw [q] at e; cases e
  | some l => cases l with
    | nil => rw [q] at e; cases e
    | cons a r => rw [q] at e; exact ⟨r, by rw [Option.some.inj e]⟩
theorem Says.dBuilding_rooms (T : Says w K mg) : ∃ fd, FunD K "rooms" "Building.rooms" (defArgs sBuilding_rooms) (defBody sBuilding_rooms) (defScope sBuilding_rooms) [] [] (gAd K (He.ma K (He.ga K "Building") "rooms")) fd := T.getter 1 rfl
theorem Says.pBuilding_rooms (T : Says w K mg) : PropOf K (He.ga K "Building") "rooms" (He.ma K (He.ga K "Building") "rooms") (gAd K (He.ma K (He.ga K "Building") "rooms")) := by
  refine ⟨T.pBuilding_rooms_at, T.pBuilding_rooms_get, T.pBuilding_rooms_tak, ?_⟩
  have e := T.pBuilding_rooms_rec
  cases q : PySem.W.recIn K (He.ma K (He.ga K "Building") "rooms") "property" with
  | none => rw [q] at e; cases e
  | some l => cases l with
    | nil => rw [q] at e; cases e
    | cons a r => rw [q] at e; exact ⟨r, by rw [Option.some.inj e]⟩
theorem Says.dBuilding_sides (T : Says w K mg) : ∃ fd, FunD K "sides" "Building.sides" (defArgs sBuilding_sides) (defBody sBuilding_sides) (defScope sBuilding_sides) [] [] (gAd K (He.ma K (He.ga K "Building") "sides")) fd := T.getter 2 rfl
theorem Says.pBuilding_sides (T : Says w K mg) : PropOf K (He.ga K "Building") "sides" (He.ma K (He.ga K "Building") "sides") (gAd K (He.ma K (He.ga K "Building") "sides")) := by
  refine ⟨T.pBuilding_sides_at, T.pBuilding_sides_get, T.pBuilding_sides_tak, ?_⟩
  have e := T.pBuilding_sides_rec
  cases q : PySem.W.recIn K (He.ma K (He.ga K "Building") "sides") "property" with
  | none => rw [q] at e; cases e
  | some l => cases l with
    | nil => rw [q] at e; cases e
    | cons a r => rw [q] at e; exact ⟨r, by rw [Option.some.inj e]⟩
theorem Says.dHouse_building (T : Says w K mg) : ∃ fd, FunD K "building" "House.building" (defArgs sHouse_building) (defBody sHouse_building) (defScope sHouse_building) [] [] (gAd K (He.ma K (He.ga K "LoggedHouse") "building")) fd := T.getter 3 rfl
theorem Says.pHouse_building (T : Says w K mg) : PropOf K (He.ga K "LoggedHouse") "building" (He.ma K (He.ga K "LoggedHouse") "building") (gAd K (He.ma K (He.ga K "LoggedHouse") "building")) := by
  refine ⟨T.pHouse_building_at, T.pHouse_building_get, T.pHouse_building_tak, ?_⟩
  have e := T.pHouse_building_rec
  cases q : PySem.W.recIn K (He.ma K (He.ga K "LoggedHouse") "building") "property" with
  | none => rw [q] at e; cases e
  | some l => cases l with
    | nil => rw [q] at e; cases e
    | cons a r => rw [q] at e; exact ⟨r, by rw [Option.some.inj e]⟩
theorem Says.dHouse_place (T : Says w K mg) : ∃ fd, FunD K "place" "House.place" (defArgs sHouse_place) (defBody sHouse_place) (defScope sHouse_place) [] [] (gAd K (He.ma K (He.ga K "LoggedHouse") "place")) fd := T.getter 4 rfl
theorem Says.pHouse_place (T : Says w K mg) : PropOf K (He.ga K "LoggedHouse") "place" (He.ma K (He.ga K "LoggedHouse") "place") (gAd K (He.ma K (He.ga K "LoggedHouse") "place")) := by
  refine ⟨T.pHouse_place_at, T.pHouse_place_get, T.pHouse_place_tak, ?_⟩
  have e := T.pHouse_place_rec
  cases q : PySem.W.recIn K (He.ma K (He.ga K "LoggedHouse") "place") "property" with
  | none => rw [q] at e; cases e
  | some l => cases l with
    | nil => rw [q] at e; cases e
    | cons a r => rw [q] at e; exact ⟨r, by rw [Option.some.inj e]⟩
theorem Says.dHouse_step_count (T : Says w K mg) : ∃ fd, FunD K "step_count" "House.step_count" (defArgs sHouse_step_count) (defBody sHouse_step_count) (defScope sHouse_step_count) [] [] (gAd K (He.ma K (He.ga K "LoggedHouse") "step_count")) fd := T.getter 5 rfl
theorem Says.pHouse_step_count (T : Says w K mg) : PropOf K (He.ga K "LoggedHouse") "step_count" (He.ma K (He.ga K "LoggedHouse") "step_count") (gAd K (He.ma K (He.ga K "LoggedHouse") "step_count")) := by
  refine ⟨T.pHouse_step_count_at, T.pHouse_step_count_get, T.pHouse_step_count_tak, ?_⟩
  have e := T.pHouse_step_count_rec
  cases q : PySem.W.recIn K (He.ma K (He.ga K "LoggedHouse") "step_count") "property" with
  | none => rw [q] at e; cases e
  | some l => cases l with
    | nil => rw [q] at e; cases e
    | cons a r => rw [q] at e; exact ⟨r, by rw [Option.some.inj e]⟩
theorem Says.dHouse_dials (T : Says w K mg) : ∃ fd, FunD K "dials" "House.dials" (defArgs sHouse_dials) (defBody sHouse_dials) (defScope sHouse_dials) [] [] (gAd K (He.ma K (He.ga K "LoggedHouse") "dials")) fd := T.getter 6 rfl
theorem Says.pHouse_dials (T : Says w K mg) : PropOf K (He.ga K "LoggedHouse") "dials" (He.ma K (He.ga K "LoggedHouse") "dials") (gAd K (He.ma K (He.ga K "LoggedHouse") "dials")) := by
  refine ⟨T.pHouse_dials_at, T.pHouse_dials_get, T.pHouse_dials_tak, ?_⟩
  have e := T.pHouse_dials_rec
  cases q : PySem.W.recIn K (He.ma K (He.ga K "LoggedHouse") "dials") "property" with
  | none => rw [q] at e; cases e
  | some l => cases l with
    | nil => rw [q] at e; cases e
    | cons a r => rw [q] at e; exact ⟨r, by rw [Option.some.inj e]⟩
theorem Says.dHouse_walk (T : Says w K mg) : ∃ fd, FunD K "walk" "House.walk" (defArgs sHouse_walk) (defBody sHouse_walk) (defScope sHouse_walk) [] [] (gAd K (He.ma K (He.ga K "LoggedHouse") "walk")) fd := T.getter 7 rfl
theorem Says.pHouse_walk (T : Says w K mg) : PropOf K (He.ga K "LoggedHouse") "walk" (He.ma K (He.ga K "LoggedHouse") "walk") (gAd K (He.ma K (He.ga K "LoggedHouse") "walk")) := by
  refine ⟨T.pHouse_walk_at, T.pHouse_walk_get, T.pHouse_walk_tak, ?_⟩
  have e := T.pHouse_walk_rec
  cases q : PySem.W.recIn K (He.ma K (He.ga K "LoggedHouse") "walk") "property" with
  | none => rw [q] at e; cases e
  | some l => cases l with
    | nil => rw [q] at e; cases e
    | cons a r => rw [q] at e; exact ⟨r, by rw [Option.some.inj e]⟩
theorem Says.dHouse_trace (T : Says w K mg) : ∃ fd, FunD K "trace" "House.trace" (defArgs sHouse_trace) (defBody sHouse_trace) (defScope sHouse_trace) [] [] (gAd K (He.ma K (He.ga K "LoggedHouse") "trace")) fd := T.getter 8 rfl
theorem Says.pHouse_trace (T : Says w K mg) : PropOf K (He.ga K "LoggedHouse") "trace" (He.ma K (He.ga K "LoggedHouse") "trace") (gAd K (He.ma K (He.ga K "LoggedHouse") "trace")) := by
  refine ⟨T.pHouse_trace_at, T.pHouse_trace_get, T.pHouse_trace_tak, ?_⟩
  have e := T.pHouse_trace_rec
  cases q : PySem.W.recIn K (He.ma K (He.ga K "LoggedHouse") "trace") "property" with
  | none => rw [q] at e; cases e
  | some l => cases l with
    | nil => rw [q] at e; cases e
    | cons a r => rw [q] at e; exact ⟨r, by rw [Option.some.inj e]⟩
theorem Says.dLoggedHouse_log (T : Says w K mg) : ∃ fd, FunD K "log" "LoggedHouse.log" (defArgs sLoggedHouse_log) (defBody sLoggedHouse_log) (defScope sLoggedHouse_log) [] [] (gAd K (He.ma K (He.ga K "LoggedHouse") "log")) fd := T.getter 9 rfl
theorem Says.pLoggedHouse_log (T : Says w K mg) : PropOf K (He.ga K "LoggedHouse") "log" (He.ma K (He.ga K "LoggedHouse") "log") (gAd K (He.ma K (He.ga K "LoggedHouse") "log")) := by
  refine ⟨T.pLoggedHouse_log_at, T.pLoggedHouse_log_get, T.pLoggedHouse_log_tak, ?_⟩
  have e := T.pLoggedHouse_log_rec
  cases q : PySem.W.recIn K (He.ma K (He.ga K "LoggedHouse") "log") "property" with
  | none => rw [q] at e; cases e
  | some l => cases l with
    | nil => rw [q] at e; cases e
    | cons a r => rw [q] at e; exact ⟨r, by rw [Option.some.inj e]⟩
end
end RD

/-! Printed by gen_head.py: the head's run. -/
namespace RD
open PySem PySem.Spec PyProof.Rows L2
def loose0 : List Str := ["_wall", "RoomdialsError", "InvalidName", "InvalidSize", "InvalidCorridor", "TooLarge", "NotConnected", "InvalidText", "UnknownRoom", "InvalidWalk", "NotJoined", "InvalidChange", "OutOfRange", "NothingToUndo", "gcd_of", "joined_rooms", "steps_from", "reached_from", "level_corridor", "sides_of", "odd_ring_of", "on_rings", "bridges_of", "LETTERS", "LONGEST_NAME", "MOST", "is_name", "is_integer", "is_between", "wrong_place"]
def loose1 : List Str := ["Walk", "MOST_SIZE_buildings", "pair_of", "size_in", "is_room_line", "is_corridor_line", "Building", "LARGEST", "change_in", "Trace", "trace_along", "House", "LoggedHouse", "_law_begin", "_law_draw", "_law_pick", "_law_shuffled", "_law_names", "_law_pair", "_law_drawn", "_law_built", "_law_near", "_law_wandered", "_law_left", "_law_sizes", "_law_traced", "_law_go", "_law_shown", "_law_is_house", "_law_cut_calls"]
def loose2 : List Str := ["_law_log_due", "_law_deeds", "_law_done", "_law_noted", "_law_attempted", "_law_tried", "_law_scene", "_law_logged"]
def loose : List Str := loose0 ++ loose1 ++ loose2
/-! the Hook: HandS.HeadHook4's, over a shorter part of the heap -/
def edge1 (o : Obj) : List Addr := match o.data with
  | .dict es _ => es.toList.flatMap fun e => He.refV e.val
  | .func fd => He.refV fd.code ++ He.refV fd.defaults ++ He.refV fd.kwdefaults
  | .cls cd => [cd.ns]
  | .fields vs => He.refV (vs.toList.getD 0 .none)
  | .seq its _ => its.toList.flatMap He.refV
  | _ => []
def nextA (g : Addr → Option Obj) (as : List Addr) : List Addr := as.flatMap fun a => match g a with
  | some o => edge1 o
  | none => []
def isPropO (o : Obj) : Bool := match o.cls with
  | .type n => n == "property"
  | _ => false
def isClsO (o : Obj) : Bool := match o.data with
  | .cls _ => true
  | _ => false
def isFnO (o : Obj) : Bool := match o.data with
  | .func _ => true
  | _ => false
def isSeqO (o : Obj) : Bool := match o.data with
  | .seq _ _ => true
  | _ => false
def pick (g : Addr → Option Obj) (p : Obj → Bool) (as : List Addr) : List Addr := as.filter fun a => match g a with
  | some o => p o
  | none => false
def forceL {α : Type} (l : List Addr) (k : List Addr → α) : α := match l with
  | [] => k []
  | a :: r => forceL r fun r' => match a with
    | 0 => k (0 :: r')
    | n + 1 => k ((n + 1) :: r')
theorem forceL_eq {α : Type} : ∀ (l : List Addr) (k : List Addr → α), forceL l k = k l
  | [], _ => rfl
  | a :: r, k => by
    unfold forceL
    rw [forceL_eq r]
    cases a <;> rfl
def asR (g : Addr → Option Obj) : List Addr :=
  let g1 := pick g (fun o => isClsO o || isFnO o) (nextA g [mainGlobals])
  let ns := nextA g (pick g isClsO g1)
  let m := pick g (fun o => isFnO o || isPropO o) (nextA g ns)
  let gt := pick g isFnO (nextA g (pick g isPropO m))
  let f := pick g isFnO g1 ++ pick g isFnO m ++ gt
  let cd := nextA g f
  mainGlobals :: cStatics :: (g1 ++ ns ++ m ++ gt ++ cd ++ nextA g (pick g isSeqO cd))
def tfY : List He.Defn := [("_law_done", none), ("_law_attempted", none), ("law", none)]
/-- the three tables are three -/
def disB (K : PySem.W.Frag) : Bool := decide ((He.cT K ("_law_done", none)).2 ≠ (He.cT K ("_law_attempted", none)).2) && (decide ((He.cT K ("_law_done", none)).2 ≠ (He.cT K ("law", none)).2) && decide ((He.cT K ("_law_attempted", none)).2 ≠ (He.cT K ("law", none)).2))
def obs1 (g : Addr → Option Obj) (as : List Addr) : He.AlT := He.obsT fa fn [] (He.frT g as)
def obs2 (g : Addr → Option Obj) (as : List Addr) : Bool × List He.FnW := ((ex (He.frT g as) && (disB (He.frT g as) && He.tabsB g tfY (He.frT g as))) && gts.all fun q => okA (He.frT g as) (gtA (He.frT g as) q) q.2.2, gts.map fun q => fnWa (He.frT g as) (gtA (He.frT g as) q))
def obsK (g : Addr → Option Obj) (as : List Addr) : AlY := (obs1 g as, obs2 g as)
def obsY (g : Addr → Option Obj) : AlY := forceL (asR g) (obsK g)
def valY (w : World) : AlY := (He.valT fn [] w, true, gts.map fun q => q.2.2.val)
/-- what is told at the head's heap -/
structure SaysY (w : World) (h : Heap) (K : PySem.W.Frag) : Prop where
  d : He.SaysD fa fn K
  ex : ex K = true
  gt : gts.all (fun q => okA K (gtA K q) q.2.2) = true
  gv : gts.map (fun q => fnWa K (gtA K q)) = gts.map fun q => q.2.2.val
  dis : disB K = true
  hd : ∀ p ∈ tfY, PySem.W.codeHdIn K (He.cT K p).1 (He.cT K p).2 = true
  out : ∀ p ∈ tfY, K.lookup (He.cT K p).2 = none
  empty : ∀ p ∈ tfY, h.get? (He.cT K p).2 = some { cls := .none, data := .fields #[] }
theorem saysY_of {w : World} {h : Heap} (e : obsY h.get? = valY w) : SaysY w h (He.frT h.get? (asR h.get?)) := by
  unfold obsY at e
  rw [forceL_eq] at e
  have e1 : He.obsT fa fn [] (He.frT h.get? (asR h.get?)) = He.valT fn [] w := congrArg (fun z : AlY => z.1) e
  have e2 : ((ex (He.frT h.get? (asR h.get?)) && (disB (He.frT h.get? (asR h.get?)) && He.tabsB h.get? tfY (He.frT h.get? (asR h.get?)))) && gts.all fun q => okA (He.frT h.get? (asR h.get?)) (gtA (He.frT h.get? (asR h.get?)) q) q.2.2) = true := congrArg (fun z : AlY => z.2.1) e
  have e3 : gts.map (fun q => fnWa (He.frT h.get? (asR h.get?)) (gtA (He.frT h.get? (asR h.get?)) q)) = gts.map fun q => q.2.2.val := congrArg (fun z : AlY => z.2.2) e
  obtain ⟨h12, h4⟩ := He.ba e2
  obtain ⟨h1, h52⟩ := He.ba h12
  obtain ⟨h5, h2⟩ := He.ba h52
  have key : ∀ p ∈ tfY, PySem.W.codeHdIn (He.frT h.get? (asR h.get?)) (He.cT (He.frT h.get? (asR h.get?)) p).1 (He.cT (He.frT h.get? (asR h.get?)) p).2 = true ∧ ∃ o, h.get? (He.cT (He.frT h.get? (asR h.get?)) p).2 = some o ∧ He.emptyTab o = true := fun p hp => by
    obtain ⟨k3, k4⟩ := He.ba (List.all_eq_true.mp h2 p hp)
    refine ⟨k3, ?_⟩
    cases q : h.get? (He.cT (He.frT h.get? (asR h.get?)) p).2 with
    | none => rw [q] at k4; cases k4
    | some o => rw [q] at k4; exact ⟨o, rfl, k4⟩
  exact ⟨He.SaysT.d (w := w) e1, h1, h4, e3, h5, fun p hp => (key p hp).1, fun p hp => by
    obtain ⟨_, o, q, z⟩ := key p hp
    exact He.frT_none q z, fun p hp => by
    obtain ⟨_, o, q, z⟩ := key p hp
    rw [q, He.emptyTab_eq z]⟩
def hk : PySem.W.Hook where
  α := AlY
  obs := fun s => obsY s.heap.get?
  val := fun w => valY w
  says := fun w h => ∃ K : PySem.W.Frag, K.In h ∧ SaysY w h K
  of := fun _ _ e => ⟨_, He.frT_in, saysY_of e⟩
  keeps := fun _ _ _ ⟨K, hK, c⟩ k => ⟨K, PySem.W.Frag.In.keeps hK k, ⟨c.d, c.ex, c.gt, c.gv, c.dis, c.hd, c.out, fun p hp => k _ _ (c.empty p hp)⟩⟩
abbrev R : PySem.W.OpenRow := PySem.W.OpenLaw.row PySem.Challenge.rw_roomdials_k71_whole_attempts
def ob (s : PySem.W.SharedT) : AlY := obsY (HandSHeadRun.getT s)
theorem ob_eq (s : PySem.W.SharedT) : ob s = hk.obs s.abs := by
  have e : HandSHeadRun.getT s = s.abs.heap.get? := funext (HandSHeadRun.getT_eq s)
  show obsY (HandSHeadRun.getT s) = obsY s.abs.heap.get?
  rw [e]
/-! the run thrice: whether the facts hold; the machine's end and what stands in the functions; the rest -/
def oA (g : Addr → Option Obj) (as : List Addr) : Bool := (fa.all fun f => f.ok (He.frT g as)) && fn.all fun d => d.ok (He.frT g as)
def oB (g : Addr → Option Obj) (as : List Addr) : List He.FnW := fn.map fun d => He.fnW (He.frT g as) d.at_
def obA (s : PySem.W.SharedT) : Bool := forceL (asR (HandSHeadRun.getT s)) (oA (HandSHeadRun.getT s))
def obB (s : PySem.W.SharedT) : List He.FnW := forceL (asR (HandSHeadRun.getT s)) (oB (HandSHeadRun.getT s))
def obC (s : PySem.W.SharedT) : Bool × List He.FnW := forceL (asR (HandSHeadRun.getT s)) (obs2 (HandSHeadRun.getT s))
theorem ob_three (s : PySem.W.SharedT) : ob s = (((obA s, obB s), []), obC s) := by
  unfold ob obsY obA obB obC obsK obs1 oA oB
  rw [forceL_eq, forceL_eq, forceL_eq, forceL_eq]
  rfl
noncomputable abbrev endY (w : World) (os : OsState) : Option PySem.W.SharedT := HandSHeadRun.endF (HandSHeadRun.stepQ (HandSHeadRun.denQ HandSHeadRun.tabQ) R.prog w) 20000 R.prog w os
theorem run1 (w : World) (os : OsState) : (endY w os).map (fun s => obA s) = some true := by
  kernel_rfl
theorem run2 (w : World) (os : OsState) : (endY w os).map (fun s => (HandSHeadRun.looksF R.prog (PySem.W.boot_heap w.params) s.abs, HandSHeadRun.seenQ (PySem.W.view R.prog [75]) loose (importedModules R.prog.main.body) (fun s => PySem.W.xlAt (PySem.W.view R.prog [75]) [] s && PySem.W.recOk R.toRowW.records s) s.abs, obB s)) = some (true, PySem.W.openGood (PySem.W.view R.prog [75]) loose, fn.map He.DefD.val) := by
  kernel_rfl
theorem run3 (w : World) (os : OsState) : (endY w os).map (fun s => obC s) = some (true, gts.map fun q => q.2.2.val) := by
  kernel_rfl
theorem run_all {α β γ δ ε ζ θ : Type} {e : Option α} {f : α → β} {g : α → γ} {hA : α → δ} {hB : α → ε} {hC : α → ζ} {h : α → ((δ × ε) × List θ) × ζ} (t : ∀ s, h s = (((hA s, hB s), []), hC s)) {x : β} {y : γ} {zA : δ} {zB : ε} {zC : ζ}
    (a : e.map (fun s => hA s) = some zA) (b : e.map (fun s => (f s, g s, hB s)) = some (x, y, zB)) (c : e.map (fun s => hC s) = some zC) : e.map (fun s => (f s, g s, h s)) = some (x, y, ((zA, zB), []), zC) := by
  cases e with
  | none => cases a
  | some s =>
    have a1 : hA s = zA := Option.some.inj a
    have b1 := Option.some.inj b
    have c1 : hC s = zC := Option.some.inj c
    have b2 : f s = x := congrArg (fun q => q.1) b1
    have b3 : g s = y := congrArg (fun q => q.2.1) b1
    have b4 : hB s = zB := congrArg (fun q => q.2.2) b1
    show some (f s, g s, h s) = some (x, y, ((zA, zB), []), zC)
    rw [b2, b3, t, a1, b4, c1]
theorem run (w : World) : HandSHeadRun.RunEq R (PySem.W.view R.prog [75]) hk ob 20000 loose w := by
  intro os
  have z1 := run1 w os
  have z2 := run2 w os
  have z3 := run3 w os
  unfold endY at z1 z2 z3
  revert z1 z2 z3
  generalize HandSHeadRun.endF (HandSHeadRun.stepQ (HandSHeadRun.denQ HandSHeadRun.tabQ) R.prog w) 20000 R.prog w os = e
  intro z1 z2 z3
  exact run_all ob_three z1 z2 z3
end RD

/-! RDBase: packages of defs, rules for special methods, frames of heaps. -/
namespace RD
open PySem PySem.Spec PyProof.Rows L2

/-! ### packages -/
section
variable {P : Program} {w : World} {K : PySem.W.Frag} {mg : Str → Option Value} {base : Heap}
/-- the form of a body's proof -/
abbrev Body (P : Program) (w : World) (K : PySem.W.Frag) (mg : Str → Option Value) (base : Heap) (q : Str) (st : Stmt) (N : List Str) (k : Nat) (f : Addr) (sp : Sp) : Prop :=
  ∀ (cdv : Value) (A : Around) (outer : List Env) (s : Shared) (H : Hp) (vs : List V) (Q : VK) (E : XK), Room k (A.deeper (envOfC q (defScope st) s.heap.objs.size f cdv)) → sp vs H Q E →
    ∃ t, PSs (cxOf CX0 P w K mg base N q (defScope st) f cdv A outer s H E).nox (defBody st) t ∧ t { nx := fun _ H' => Q .non H', rt := Q } (start N vs) H
abbrev Plain (x q : Str) (st : Stmt) (ps : List Str) : Prop := ∀ (kV doc pm : Value) (an : Option Addr) (cdv ct : Value) (us : List Value), us.length = ps.length →
  bindArgs (PySem.W.fnOf x q (defArgs st) (defBody st) (defScope st) .none kV doc pm an cdv ct) ⟨us, []⟩ = pure (ps.zip us)
theorem fnok_of {x q : Str} {st : Stmt} {f : Addr} {fd : FuncData} {N ps : List Str} {k : Nat} {sp : Sp} {dvs : List V} {kws : List (Str × V)} (F : FunD K x q (defArgs st) (defBody st) (defScope st) dvs kws f fd) (S : FnScope N ps (defScope st))
    (len : ∀ vs H Q E, sp vs H Q E → vs.length = ps.length) (hb : Body P w K mg base q st N k f sp) : FnOk P w K mg base CX0 (k + 1) f fd ps sp :=
  F.ok S len fun cdv A outer s H vs Q E hr h => by
    obtain ⟨t, h1, h2⟩ := hb cdv A outer s H vs Q E hr h
    exact ⟨t, h1.nox, h2⟩
theorem cal_of {x : Str} {st : Stmt} {f : Addr} {N ps : List Str} {k : Nat} {sp : Sp} (F : ∃ fd, FunD K x x (defArgs st) (defBody st) (defScope st) [] [] f fd) (g : mg x = some (.ref f)) (S : FnScope N ps (defScope st))
    (len : ∀ vs H Q E, sp vs H Q E → vs.length = ps.length) (b : Plain x x st ps) (hb : Body P w K mg base x st N k f sp) : C8.Cal P w K mg base (k + 1) x sp [] := by
  obtain ⟨fd, F⟩ := F
  exact ⟨f, fd, ps, [], fnok_of F S len hb, g, F.kp, FunD.bindsN F b, .nil⟩
/-- .. with defaults: n arguments are given, the defaults behind the j-th stand in -/
theorem calD_of {x : Str} {st : Stmt} {f : Addr} {N ps : List Str} {k : Nat} {sp : Sp} {dvs : List V} (F : ∃ fd, FunD K x x (defArgs st) (defBody st) (defScope st) dvs [] f fd) (g : mg x = some (.ref f)) (S : FnScope N ps (defScope st))
    (len : ∀ vs H Q E, sp vs H Q E → vs.length = ps.length) (n j : Nat) (hd : dvs ≠ []) (hn : n + (dvs.length - j) = ps.length)
    (h : ∀ (T : Addr) (kV doc pm : Value) (an : Option Addr) (cdv ct : Value) (us its : List Value), us.length = n → its.length = dvs.length →
      ∃ k, bindArgs (PySem.W.fnOf x x (defArgs st) (defBody st) (defScope st) (.ref T) kV doc pm an cdv ct) ⟨us, []⟩ = seqItems? (.ref T) >>= k ∧ k (some its.toArray) = pure (ps.zip (us ++ its.drop j)))
    (hb : Body P w K mg base x st N k f sp) : C8.Cal P w K mg base (k + 1) x sp (dvs.drop j) := by
  obtain ⟨fd, F⟩ := F
  obtain ⟨ds, d, b⟩ := FunD.binds1 F n j hd hn h
  exact ⟨f, fd, ps, ds, fnok_of F S len hb, g, F.kp, b, d⟩
theorem met_of {m q : Str} {st : Stmt} {C f : Addr} {N ps : List Str} {k : Nat} {sp : Sp} (F : ∃ fd, FunD K m q (defArgs st) (defBody st) (defScope st) [] [] f fd) (c : Cls K C) (me : Meth K C m f) (S : FnScope N ps (defScope st))
    (len : ∀ vs H Q E, sp vs H Q E → vs.length = ps.length) (b : Plain m q st ps) (hb : Body P w K mg base q st N k f sp) : C8.Met P w K mg base (k + 1) C m sp [] := by
  obtain ⟨fd, F⟩ := F
  exact ⟨f, fd, ps, [], c, me, fnok_of F S len hb, FunD.bindsN F b, .nil⟩
theorem mak_of {x q : Str} {st : Stmt} {C f : Addr} {N ps : List Str} {k : Nat} {sp : Sp} (F : ∃ fd, FunD K "__init__" q (defArgs st) (defBody st) (defScope st) [] [] f fd) (M : Mk K C f) (g : mg x = some (.ref C)) (S : FnScope N ps (defScope st))
    (len : ∀ vs H Q E, sp vs H Q E → vs.length = ps.length) (b : Plain "__init__" q st ps) (hb : Body P w K mg base q st N k f sp) : C8.Mak P w K mg base (k + 1) x C sp [] := by
  obtain ⟨fd, F⟩ := F
  exact ⟨f, fd, ps, [], M, fnok_of F S len hb, g, FunD.bindsN F b, .nil⟩
/-- a property of the class at C -/
structure Prp (P : Program) (w : World) (K : PySem.W.Frag) (mg : Str → Option Value) (base : Heap) (k : Nat) (C : Addr) (f : Str) (sp : Sp) : Prop where
  ex : ∃ (p g : Addr) (fd : FuncData), Cls K C ∧ PropOf K C f p g ∧ FnOk P w K mg base CX0 k g fd ["self"] sp ∧ Binds K fd ["self"] []
theorem prp_of {m q : Str} {st : Stmt} {C p g : Addr} {N : List Str} {k : Nat} {sp : Sp} (F : ∃ fd, FunD K m q (defArgs st) (defBody st) (defScope st) [] [] g fd) (c : Cls K C) (po : PropOf K C m p g) (S : FnScope N ["self"] (defScope st))
    (len : ∀ vs H Q E, sp vs H Q E → vs.length = ["self"].length) (b : Plain m q st ["self"]) (hb : Body P w K mg base q st N k g sp) : Prp P w K mg base (k + 1) C m sp := by
  obtain ⟨fd, F⟩ := F
  exact ⟨p, g, fd, c, po, fnok_of F S len hb, FunD.bindsN F b⟩
end
section
variable {X : Cx} {k j : Nat} {C : Addr} {f : Str} {sp : Sp} {ta : TE} {e : Expr} {pos : Pos}
theorem pe_pp (c : Prp X.prog X.w X.K X.mg X.base k C f sp) (hr : Room j X.A) (hk : k + 1 ≤ j) (he : PE X e ta) (hab : attributeBase e f X.env (eval e X.env) = eval e X.env := by rfl) :
    PE X (.Attribute e f pos) (tProp C sp [] E0 ta) := by
  obtain ⟨p, g, fd, hc, hp, F, b⟩ := c.ex
  exact pe_prop he hc hp F (hr.mono hk) b .nil pass0 hab

/-! ### special methods -/
section
variable {pins : List (Addr × Obj)} {σ : L2.St} {H : Hp} {s : Shared} {Q : VK} {us : List Value} {vs : List V}
/-- a def's call one frame of a builtin deeper -/
theorem run_in1 {g : Addr} {fd : FuncData} {ps : List Str} (F : FnOk X.prog X.w X.K X.mg X.base CX0 k g fd ps sp) (hr : Room (k + 1) X.A) (hb : Binds X.K fd ps []) (I : Inv X pins σ H s) (r : Vals vs us) (h : sp vs H Q E0) :
    wpAny (model X.prog X.w) X.A.in1 (call (.ref g) us) (EP X pins σ Q) X.xe s := by
  have hl : (us ++ []).length = ps.length := by rw [List.append_nil, ← r.length]; exact F.len _ _ _ _ h
  have hbt := hb s us I.kIn hl
  rw [List.append_nil] at hbt
  refine wpAny_call (codeAny_mono (F.run X.A.in1 X.stack s H ⟨us, []⟩ us vs Q E0 hr.in1 I.env0.in1 hbt r h) fun r s' hq => ?_)
  cases r with
  | error e => exact False.elim hq
  | ok fl => cases fl with
    | ret u => exact I.after hq
    | next => exact False.elim hq
    | brk => exact False.elim hq
    | cont => exact False.elim hq
/-- what a special method is told of its object -/
def rSpec (C : Addr) (sp : Sp) (args : List V) : V → Hp → VK → Prop := fun y H Q => ∃ a dx fs, y = .ref a ∧ H a = some (.ins C dx fs) ∧ sp (.ref a :: args) H Q E0
end
theorem op_inM (c : C8.Met X.prog X.w X.K X.mg X.base k C "__contains__" sp []) (hr : Room j X.A) (hk : k ≤ j) :
    OpR X (compareOp .In) (fun x y H Q => rSpec C sp [x] y H fun v H' => ∃ b, v = .bl b ∧ Q (.bl b) H') := by
  intro pins s σ H x y v u Q I rx ry hq
  obtain ⟨f, fd, ps, ds, hc, me, F, b, d⟩ := c.ex
  obtain ⟨a, dx, fs, rfl, ha, hs⟩ := hq
  cases d
  cases ry
  obtain ⟨mA, O, _⟩ := ins_get I.hok ha
  obtain ⟨od, J, _⟩ := O.look
  obtain ⟨m, hF⟩ := I.fr
  refine PySem.W.in_K hF I.ok.mod.kin J me.at_ me.fn (thn (run_fn (vs := [.ref a, x]) F (hr.mono hk) b .nil pass0 I (.cons rfl (.cons rx .nil)) hs) fun r s' z => ?_)
  obtain ⟨v', H', I', rv, c, rfl, q⟩ := z
  cases rv
  exact wpAny_truthy_bool ⟨.bl c, H', I', rfl, q⟩
theorem op_notInM (c : C8.Met X.prog X.w X.K X.mg X.base k C "__contains__" sp []) (hr : Room j X.A) (hk : k ≤ j) :
    OpR X (compareOp .NotIn) (fun x y H Q => rSpec C sp [x] y H fun v H' => ∃ b, v = .bl b ∧ Q (.bl (!b)) H') := by
  intro pins s σ H x y v u Q I rx ry hq
  obtain ⟨f, fd, ps, ds, hc, me, F, b, d⟩ := c.ex
  obtain ⟨a, dx, fs, rfl, ha, hs⟩ := hq
  cases d
  cases ry
  obtain ⟨mA, O, _⟩ := ins_get I.hok ha
  obtain ⟨od, J, _⟩ := O.look
  obtain ⟨m, hF⟩ := I.fr
  refine PySem.W.notIn_K hF I.ok.mod.kin J me.at_ me.fn (thn (run_fn (vs := [.ref a, x]) F (hr.mono hk) b .nil pass0 I (.cons rfl (.cons rx .nil)) hs) fun r s' z => ?_)
  obtain ⟨v', H', I', rv, c, rfl, q⟩ := z
  cases rv
  exact wpAny_truthy_bool ⟨.bl (!c), H', I', rfl, q⟩
/-- a[b], a an instance with the text's own __getitem__ -/
theorem pe_subM {a b : Expr} {tb : TE} (c : C8.Met X.prog X.w X.K X.mg X.base k C "__getitem__" sp []) (hfn : ∀ f, Meth X.K C "__getitem__" f → PySem.W.fnIn X.K f = true) (hr : Room j X.A) (hk : k + 1 ≤ j) (ha : PE X a ta) (hb : PE X b tb)
    (hsl : ∀ x i, subscripted b true (.ref x) i = runValue (.builtin "lifetime.subscript" ⟨[.ref x, i], []⟩) := by intro _ _; with_unfolding_all rfl) :
    PE X (.Subscript a b pos) (tOp (fun x y H Q => rSpec C sp [y] x H Q) ta tb) := by
  refine ⟨fun pins s σ H Q I h => ?_⟩
  refine Subscript_ (binT ha hb I h fun v u s2 x y H2 I2 rx ry q => ?_)
  obtain ⟨f, fd, ps, ds, hc, me, F, b', d⟩ := c.ex
  obtain ⟨o, dx, fs, rfl, ho, hs⟩ := q
  cases d
  cases rx
  obtain ⟨mA, O, _⟩ := ins_get I2.hok ho
  obtain ⟨od, J, _⟩ := O.look
  obtain ⟨m, hF⟩ := I2.fr
  exact PySem.W.sub_K hF I2.ok.mod.kin J me.at_ (hfn f me) me.fn (run_in1 (vs := [.ref o, y]) F (hr.mono hk) b' I2 (.cons rfl (.cons ry .nil)) hs) (hsl _ _)
/-- len(o), o an instance with the text's own __len__ -/
theorem call_lenM (c : C8.Met X.prog X.w X.K X.mg X.base k C "__len__" sp []) (hr : Room j X.A) (hk : k + 1 ≤ j) :
    CallR X (.builtin "len") (fun xs H Q => ∃ y, xs = [y] ∧ rSpec C sp [] y H fun v H' => ∃ n : Nat, v = .int n ∧ n < 2 ^ 63 ∧ Q (.int n) H') := by
  intro pins s σ H xs us Q I r h
  obtain ⟨f, fd, ps, ds, hc, me, F, b', d⟩ := c.ex
  obtain ⟨y, rfl, o, dx, fs, rfl, ho, hs⟩ := h
  obtain ⟨u, rfl, ru⟩ := vals1 r
  cases d
  cases ru
  obtain ⟨mA, O, _⟩ := ins_get I.hok ho
  obtain ⟨od, J, _⟩ := O.look
  obtain ⟨m, hF⟩ := I.fr
  have z := run_in1 (us := [Value.ref o]) (vs := [.ref o]) F (hr.mono hk) b' I (.cons rfl .nil) hs
  refine PySem.W.len_K (Q := EP X pins σ Q) hF I.ok.mod.kin J me.at_ me.fn (thn z fun v s' z => ?_)
  obtain ⟨v', H', I', rv, n, rfl, hn, q⟩ := z
  obtain ⟨t, rfl⟩ := rv
  exact ⟨⟨Int.natCast_nonneg n, by omega⟩, ⟨.int n, H', I'.tok _, ⟨_, rfl⟩, q⟩⟩
/-- a built-in class as a value -/
theorem pe_ty {x : Str} {n : String} (hm : X.mg x = none) (hg : Gl X x) (hv : bootBuiltins x = some (.type n) := by decide +kernel) (hn : x ≠ "__name__" := by decide) (hd : (x == ("__debug__" : Str)) = false := by decide) : PE X (.Name x pos) (tC (.ty n)) :=
  pe_bltn hg hm hv rfl hn hd
/-- a module's constant -/
theorem pe_gi {x : Str} {i : Int} (h : ∃ t, X.mg x = some (.int i t)) (hg : Gl X x) (hd : (x == ("__debug__" : Str)) = false := by decide) : PE X (.Name x pos) (tC (.int i)) := by
  obtain ⟨t, h⟩ := h
  exact pe_glob hg h ⟨_, rfl⟩ hd
theorem pe_gs {x z : Str} (h : ∃ t, X.mg x = some (.str z t)) (hg : Gl X x) (hd : (x == ("__debug__" : Str)) = false := by decide) : PE X (.Name x pos) (tC (.str z)) := by
  obtain ⟨t, h⟩ := h
  exact pe_glob hg h ⟨_, rfl⟩ hd
end
/-- x(*y), x a def with plain parameters -/
theorem pe_star1 {X : Cx} {k j : Nat} {x : Str} {sp : Sp} {e : Expr} {te : TE} {p pos q : Pos} (c : C8.Cal X.prog X.w X.K X.mg X.base k x sp []) (hr : Room j X.A) (hk : k ≤ j) (hg : Gl X x) (he : PE X e te) (hd : (x == ("__debug__" : Str)) = false := by decide)
    (hst : starEach [.Starred e q] X.env = [(true, eval e X.env)] := by rfl) :
    PE X (.Call (.Name x p) [.Starred e q] [] pos) (fun σ H Q => te σ H fun y H1 => ∃ a xs, y = V.ref a ∧ (SqT X.K H1 a xs ∨ SqL X.K H1 a xs) ∧ sp xs H1 Q E0) := by
  obtain ⟨f, fd, ps, ds, F, hm, kp, b, d⟩ := c.ex
  refine StX.pe_callS1 ((F.raw b d).imp fun vs H Q E h => ?_) (hr.mono hk) kp hg hm pass0 he hd hst
  rw [List.append_nil]
  exact h
theorem hu0 {X : Cx} {k : Nat} (hr : Room k X.A) : X.A.units < cLine := by have := hr.un; omega
theorem hu65 {X : Cx} {k : Nat} (hr : Room k X.A) : X.A.units + 65 < cLine := by have := hr.un; omega
theorem fnIn_of {K : PySem.W.Frag} {x q : Str} {pr : Arguments} {bo : List Stmt} {sc : Scope} {dvs : List V} {kws : List (Str × V)} {f : Addr} (F : ∃ fd, FunD K x q pr bo sc dvs kws f fd) : PySem.W.fnIn K f = true := by
  obtain ⟨fd, F⟩ := F
  obtain ⟨oc, od, dV, kV, doc, pm, an, cdv, ct, osl, _, lk, _⟩ := F.ex
  unfold PySem.W.fnIn
  rw [lk]
theorem meth_inj {K : PySem.W.Frag} {C f g : Addr} {m : Str} (a : Meth K C m f) (b : Meth K C m g) : f = g := by
  have e := a.at_.symm.trans b.at_
  injection e with e
  injection e with e
  injection e

/-! ### frames -/
/-- all but the objects of M stand as they stood -/
def Frm (M : List Addr) (H H' : Hp) : Prop := ∀ b o, H b = some o → b ∉ M → H' b = some o
theorem Frm.refl (M : List Addr) (H : Hp) : Frm M H H := fun _ _ h _ => h
theorem Frm.trans {M : List Addr} {H H1 H2 : Hp} (a : Frm M H H1) (b : Frm M H1 H2) : Frm M H H2 := fun c o h n => b c o (a c o h n) n
theorem Frm.of {M : List Addr} {H H' : Hp} (e : Same H H') : Frm M H H' := fun b o h _ => e b o h
theorem Frm.sub {M M' : List Addr} {H H' : Hp} (e : Frm M H H') (s : ∀ a ∈ M, a ∈ M') : Frm M' H H' := fun b o h n => e b o h fun z => n (s b z)
theorem Frm.nil {H H' : Hp} (e : Frm [] H H') : Same H H' := fun b o h => e b o h (by simp)
theorem _root_.L2.Same.new {H : Hp} {p : Addr} {o : HO} (h : H p = none) : Same H (upd H p o) := fun b u e => by rw [upd_ne (ne_of_none e h)]; exact e
theorem _root_.L2.Same.then_ {H H1 : Hp} {p : Addr} {o : HO} (a : Same H H1) (h : H1 p = none) : Same H (upd H1 p o) := a.trans (Same.new h)
theorem Frm.put {M : List Addr} {H H1 : Hp} {p : Addr} {o : HO} (a : Frm M H H1) (h : p ∈ M) : Frm M H (upd H1 p o) := fun b u e n => by
  have hb : b ≠ p := fun z => n (by rw [z]; exact h)
  rw [upd_ne hb]
  exact a b u e n
theorem Frm.then_ {M : List Addr} {H H1 : Hp} {p : Addr} {o : HO} (a : Frm M H H1) (h : H1 p = none) : Frm M H (upd H1 p o) := a.trans (Frm.of (Same.new h))
/-- an object that was new may change -/
theorem _root_.L2.Same.mut {H H1 : Hp} {p : Addr} {o : HO} (a : Same H H1) (h : H p = none) : Same H (upd H1 p o) := fun b u e => by
  rw [upd_ne (ne_of_none e h)]
  exact a b u e
theorem Frm.mut {M : List Addr} {H H1 : Hp} {p : Addr} {o : HO} (a : Frm M H H1) (h : H p = none) : Frm M H (upd H1 p o) := fun b u e n => by
  rw [upd_ne (ne_of_none e h)]
  exact a b u e n
theorem Frm.free {M : List Addr} {H H' : Hp} (e : Frm M H H') {l : Addr} (h : H' l = none) (n : l ∉ M) : H l = none := by
  cases q : H l with
  | none => rfl
  | some o => rw [e l o q n] at h; cases h
/-- the heap without the objects of M -/
def cut (M : List Addr) (H : Hp) : Hp := fun b => if b ∈ M then none else H b
theorem cut_same {M : List Addr} {H : Hp} : Same (cut M H) H := fun b o h => by
  unfold cut at h
  split at h
  · cases h
  · exact h
theorem cut_some {M : List Addr} {H : Hp} {b : Addr} {o : HO} (h : H b = some o) (n : b ∉ M) : cut M H b = some o := by
  unfold cut
  rw [if_neg n]
  exact h
theorem cut_out {M : List Addr} {H : Hp} {b : Addr} {o : HO} (h : cut M H b = some o) : b ∉ M := fun z => by
  unfold cut at h
  rw [if_pos z] at h
  cases h
theorem Frm.cut {M : List Addr} {H H' : Hp} (e : Frm M H H') : Same (RD.cut M H) (RD.cut M H') := fun b o h => cut_some (e b o (cut_same b o h) (cut_out h)) (cut_out h)
theorem Frm.of_cut {M : List Addr} {H H' : Hp} (e : Same (RD.cut M H) H') : Frm M H H' := fun b o h n => e b o (cut_some h n)
/-! ### a thing that is read: tracked or frozen -/
theorem rd_mono {H H' : Hp} {a : Addr} {u : HO} (h : Rd H a u) (e : Same H H') : Rd H' a u := h.elim (fun h => .inl (e _ _ h)) (fun ⟨o, h⟩ => .inr ⟨o, e _ _ h⟩)
theorem rd_get {H : Hp} {a : Addr} {u : HO} (h : Rd H a u) : ∃ o, H a = some o ∧ (o = u ∨ ∃ ob, o = .frz ob u) := h.elim (fun h => ⟨_, h, .inl rfl⟩) (fun ⟨o, h⟩ => ⟨_, h, .inr ⟨o, rfl⟩⟩)
theorem rd_ne {H : Hp} {a b : Addr} {u o : HO} (h : Rd H a u) (h2 : H b = some o) (n : o ≠ u) (n2 : ∀ ob, o ≠ .frz ob u) : a ≠ b := fun z => by
  obtain ⟨o', h1, h3⟩ := rd_get h
  rw [z, h2] at h1
  cases h1
  rcases h3 with h3 | ⟨ob, h3⟩
  · exact n h3
  · exact n2 ob h3
theorem rd_none {H : Hp} {a b : Addr} {u : HO} (h : Rd H a u) (h2 : H b = none) : a ≠ b := fun z => by
  obtain ⟨o', h1, _⟩ := rd_get h
  rw [z, h2] at h1
  cases h1
theorem rd_upd {H : Hp} {a b : Addr} {u o : HO} (h : Rd H a u) (n : a ≠ b) : Rd (upd H b o) a u := h.elim (fun h => .inl (by rw [upd_ne n]; exact h)) (fun ⟨ob, h⟩ => .inr ⟨ob, by rw [upd_ne n]; exact h⟩)
theorem rd_cut {H : Hp} {a : Addr} {u : HO} {M : List Addr} (h : Rd H a u) (n : a ∉ M) : Rd (cut M H) a u := h.elim (fun h => .inl (cut_some h n)) (fun ⟨ob, h⟩ => .inr ⟨ob, cut_some h n⟩)
theorem rd_frm {H H' : Hp} {a : Addr} {u : HO} {M : List Addr} (h : Rd H a u) (e : Frm M H H') (n : a ∉ M) : Rd H' a u := h.elim (fun h => .inl (e _ _ h n)) (fun ⟨ob, h⟩ => .inr ⟨ob, e _ _ h n⟩)
end RD

/-! RDRules: further rules by values: a dict collected (a star, tuple(d)), min of texts, list.count. -/
namespace RD
open PySem PySem.Spec PyProof.Rows L2

/-! ### a dict's keys collected -/
section
variable {prog : Program} {w : World} {A : Around} {E : Value → Shared → Prop} {s : Shared} {T : String} {r d : Addr} {n : Nat} {P : Nat → Value → Prop} {OK : Heap → Prop}
theorem collect_src {Q : List Value → Shared → Prop} (K : PySem.W.KdlSrc prog w T r d n P OK) (hh : A.handled = none) (hok : OK s.heap) (hn : n ≤ sizeLine)
    (hQ : ∀ h' tk acc, (∀ b o, s.heap.get? b = some o → h'.get? b = some o) → ItemsOf P acc n → Q acc.toList { s with heap := h', toks := tk }) :
    wpAny (model prog w) A (collect (.ref r)) Q E s := by
  obtain ⟨hr, hd⟩ := K.there _ hok
  have old : ∀ b o, s.heap.get? b = some o → (s.heap.push { cls := .type "list", data := .seq ([] : List Value).toArray }).get? b = some o := fun b o e => Heap.get?_push_of_some _ e
  unfold collect
  refine wpAny_bind (wpAny_runValue (codeAny_builtin F.entry_proto_collect ?_))
  rw [Around.under_plainId F.plain_proto_collect _]
  show wpAny _ A.in1 (newList [] >>= fun l => again (.builtin "list.__iadd__" ⟨[l, .ref r], []⟩)) _ _ s
  refine wpAny_bind (wpAny_newObj_type ?_)
  refine wpAny_pure ⟨plainId_quiet F.plain_list_iadd _, codeAny_builtin F.entry_list_iadd ?_⟩
  rw [Around.under_plainId F.plain_list_iadd _]
  show wpAny _ A.in1 (Builtin.List.listExtendWith (.ref s.heap.objs.size) (.ref r) (.ref s.heap.objs.size)) _ _ _
  refine PySem.W.kdl_extend (R := fun r s' => match r with
    | .ok (.ret v) => wpAny (model prog w) A ((match v with
      | .ref a => (load a >>= fun o => match o.data with
        | .seq xs _ => pure xs.toList
        | _ => unsupported "internal:collect")
      | _ => unsupported "internal:collect") : Sem (List Value)) Q E s'
    | .ok _ => False
    | .error e => E e s') (A := A) (s := { s with heap := s.heap.push { cls := .type "list", data := .seq ([] : List Value).toArray } }) K hh (K.keep _ _ hok fun b _ o e => old b o e) s.heap.objs.size (Nat.ne_of_gt hr) (Nat.ne_of_gt hd) (.ref s.heap.objs.size) 0
    (Heap.get?_push_size _ rfl) (fun h' tk acc c' hk hS hacc => ?_) hn
  show wpAny _ A (load s.heap.objs.size >>= _) _ _ _
  refine wpAny_bind (wpAny_load hS (wpAny_pure ?_))
  exact hQ h' tk acc (fun b o e => hk b o (Nat.ne_of_lt (Heap.lt_size e)) (old b o e)) hacc
end
section
variable {X : Cx} {pins : List (Addr × Obj)} {σ : L2.St} {H : Hp} {s : Shared}
/-- a dict's keys, as values -/
def keysV (kvs : List (Key × V)) : List V := kvs.map fun kv => kV kv.1
theorem collect_dict {A : Around} {E : Value → Shared → Prop} {a : Addr} {kvs : List (Key × V)} {Q : List Value → Shared → Prop} (hh : A.handled = none) (I : Inv X pins σ H s) (h : Rd H a (.dK kvs))
    (hQ : ∀ us s', Inv X pins σ H s' → Vals (keysV kvs) us → Q us s') : wpAny (model X.prog X.w) A (collect (.ref a)) Q E s := by
  obtain ⟨z, lo, vs, rel, dd⟩ := dk_rd I.hok h
  obtain ⟨ep, hat⟩ := dd.dictAt
  have ek : keysV kvs = vs.map fun p => kV p.1 := by
    have e := congrArg (List.map kV) rel.keys
    rw [List.map_map, List.map_map] at e
    exact e
  refine collect_src (PySem.W.kdl_dict (knd := mixKind X.prog X.w) (kvs := vs) (ep := ep) lo) hh hat (by rw [← rel.length]; exact z) fun h' tk acc hk hacc => ?_
  refine hQ _ _ (I.kept (t' := tk) hk) ?_
  rw [ek]
  exact keys_at (by rw [Array.length_toList]; exact hacc.1) fun j v e => hacc.2 j v (by rw [← Array.getElem?_toList]; exact e)
/-- *d in an argument list or a display -/
def tStarD (te : TE) (t : TA) : TA := fun σ H Q => te σ H fun x H1 => ∃ a kvs, x = V.ref a ∧ Rd H1 a (.dK kvs) ∧ t σ H1 fun ys H2 => Q (keysV kvs ++ ys) H2
theorem pa_starD {e : Expr} {es : List Expr} {te : TE} {t : TA} {p : Pos} (hc : X.calm = true) (he : PE X e te) (hr : PA X es t) (hs : starEach (.Starred e p :: es) X.env = (true, eval e X.env) :: starEach es X.env := by rfl) : PA X (.Starred e p :: es) (tStarD te t) := by
  refine ⟨fun pos pins s σ H Q I h => ?_⟩
  refine PySem.W.items_star (thn (he.run pins s σ H _ I h) fun v s1 ⟨y, H1, I1, ry, a, kvs, ey, hx, q⟩ => ?_) hs
  subst ey
  obtain rfl : v = Value.ref a := ry
  obtain ⟨_, _, vs, _, dd⟩ := dk_rd I1.hok hx
  have z : wpAny (model X.prog X.w) X.A (collect (.ref a)) (fun us s2 => wpAny (model X.prog X.w) X.A (spliced (backTo pos (starEach es X.env))) (fun vs s3 => AP X pins σ Q (us ++ vs) s3) X.xe s2) X.xe s1 :=
    collect_dict (I1.ok.hd hc) I1 hx fun us s2 I2 rv => thn (hr.run pos pins s2 σ H1 _ I2 q) fun ws s3 ⟨ys, H3, I3, r3, q3⟩ => ⟨keysV kvs ++ ys, H3, I3, rv.append r3, q3⟩
  unfold PySem.W.StarOf notIterableAtAll
  exact wpAny_bind (wpAny_specialOf dd.typeIs F.slot_dict_iter.lookup (wpAny_pure ⟨rfl, z⟩))
/-- tuple(d): its keys -/
theorem call_tupleD (hc : X.calm = true) : CallR X (.type "tuple") (fun xs H Q => ∃ (a : Addr) (kvs : List (Key × V)), xs = [.ref a] ∧ Rd H a (.dK kvs) ∧ ∀ p, H p = none → Q (.ref p) (upd H p (.tup (keysV kvs)))) := by
  intro pins s σ H xs us Q I r q
  obtain ⟨a, kvs, rfl, hd, q⟩ := q
  obtain ⟨u, rfl, rx⟩ := vals1 r
  cases rx
  obtain ⟨hz, _, vs, _, dd⟩ := dk_rd I.hok hd
  have hT : s.TypeIs (.ref a) "dict" := dd.typeIs
  refine callType_codes (Q₁ := fun obj s₁ => s₁.TypeIs obj "tuple" ∧ EP X pins σ Q obj s₁) F.called_tuple (F.typeCall_tuple_1 _) F.entry_object_init ?_ fun obj s₁ h₁ => ?_
  · refine codeAny_of_tree ?_
    show wpAny _ X.A.in1.in1 (do checkBuiltinCall "tuple.__new__" ⟨[.type "tuple", .ref a], []⟩; again (.builtin "tuple.__new__" ⟨[.type "tuple", .ref a], []⟩)) _ _ s
    refine wpAny_bind (wpAny_of_eq (F.newCall_tuple_1 _) (wpAny_pure ⟨plainId_quiet F.plain_tuple_new _, codeAny_builtin F.entry_tuple_new ?_⟩))
    rw [Around.under_plainId F.plain_tuple_new _]
    have hsub := sub_tuple_self
    have hinit := init_tuple_lookup
    have hmh := madeHere_tuple
    have hcol : ∀ {Q' : List Value → Shared → Prop} {E' : Value → Shared → Prop}, (∀ us s', Inv X pins σ H s' → Vals (keysV kvs) us → Q' us s') → wpAny (model X.prog X.w) X.A.in1.in1 (collect (.ref a)) Q' E' s := fun {Q' E'} h => collect_dict (I.ok.hd hc) I hd h
    obtain ⟨hp, g, dr, tk, os⟩ := s
    wp_walk using wpAny_typeOf hT, hcol
    intro us s' I' rv
    show wpAny _ _ (Builtin.Tuple.tupleExact us.toArray >>= fun v => ret v) _ _ _
    unfold Builtin.Tuple.tupleExact
    have hl : (keysV kvs).length ≤ sizeLine := by unfold keysV; rw [List.length_map]; exact hz
    refine wpAny_bind (wpAny_newObj_type ?_ (by show us.toArray.size ≤ sizeLine; rw [List.size_toArray, ← rv.length]; exact hl))
    refine wpAny_pure ?_
    refine ⟨⟨_, Heap.get?_push_size _ rfl, rfl⟩, .ref s'.heap.objs.size, _, I'.laid (t' := s'.toks) (o := .tup (keysV kvs)) (fun b ob e => Heap.get?_push_of_some _ e) (Nat.le_refl _) ⟨hl, us, rv, IsTup.new _ _⟩, rfl, q _ (I'.hok.fresh (Nat.le_refl _))⟩
  · exact ⟨h₁.1, F.args_object_init_2 obj _, object_init_meets F.called_tuple.init.lookup F.called_tuple.made (by decide) X.prog X.w X.A.in1 _ s₁ ⟨h₁.1, rfl, h₁.2⟩⟩

/-! ### min of texts: one of them -/
theorem CmpOf.strs_lt {prog : Program} {w : World} {A : Around} {P : Nat → Value → Prop} (val : Nat → Str) (hval : ∀ i v, P i v → ∃ t, v = .str (val i) t) :
    CmpOf prog w A .Lt P (fun i j => decide ((val i).cps.toList < (val j).cps.toList)) := fun i j vi vj s Q E hi hj h => by
  obtain ⟨t, rfl⟩ := hval i vi hi
  obtain ⟨u, rfl⟩ := hval j vj hj
  exact PyProof.Rows.lt_str h
theorem argBest_le (bt : Nat → Nat → Bool) : ∀ k, argBest bt k ≤ k
  | 0 => Nat.le_refl _
  | k + 1 => by
    unfold argBest
    split
    · exact Nat.le_refl _
    · exact Nat.le_succ_of_le (argBest_le bt k)
def rMinS (K : PySem.W.Frag) : List V → Hp → VK → Prop := fun vs H Q => ∃ (a : Addr) (xs : List Str), vs = [V.ref a] ∧ SqL K H a (xs.map V.str) ∧ xs ≠ [] ∧ ∀ m, m ∈ xs → Q (.str m) H
theorem cr_minS (hc : X.calm = true) : CallR X (.builtin "min") (rMinS X.K) := by
  intro pins s σ H vs us Q I r h
  obtain ⟨a, xs, rfl, hs, hne, q⟩ := h
  obtain ⟨u, rfl, ru⟩ := vals1 r
  cases ru
  obtain ⟨its, rv, hl, hz⟩ := I.list hs
  have hlt : a < s.heap.objs.size := by obtain ⟨_, _, e, _⟩ := hl; exact Heap.lt_size e
  have hlen := rv.length
  rw [List.length_map] at hlen
  have hpos : 0 < its.toArray.size := by rw [List.size_toArray, ← hlen]; exact List.length_pos_iff.mpr hne
  have hval : ∀ (i : Nat) (v : Value), its.toArray[i]? = some v → ∃ t, v = Value.str (xs.getD i Str.empty) t := fun i v hv => by
    have hv' : its[i]? = some v := by simpa using hv
    have hi : i < xs.length := by rw [hlen]; exact (List.getElem?_eq_some_iff.mp hv').1
    obtain ⟨u, hu, ru⟩ := rv.get (i := i) (x := .str xs[i]) (by rw [List.getElem?_map, List.getElem?_eq_getElem hi]; rfl)
    rw [hv'] at hu
    obtain ⟨t, e⟩ := ru
    refine ⟨t, ?_⟩
    rw [Option.some.inj hu, e, List.getD_eq_getElem?_getD, List.getElem?_eq_getElem hi]
    rfl
  have hli : s.heap.IsList a its.toArray := hl.isList
  refine call_min_walk (wpAny_pyIter_list hli ?_)
  refine ⟨_, _, _, _, _, _, _, rfl, Walks.list (A := X.A.in1) (I.ok.hd hc) s.heap.objs.size a (Nat.ne_of_lt hlt) its.toArray, ⟨⟨_, Heap.get?_push_size _ rfl, rfl, rfl⟩, hli.push _⟩, fun b hb => ?_, hpos, CmpOf.strs_lt (fun i => xs.getD i Str.empty) hval, fun v h' tk hP hk => ?_⟩
  · show b < (s.heap.push _).objs.size
    rw [Heap.size_push]
    rcases List.mem_cons.mp hb with e | hb
    · rw [e]; exact Nat.lt_succ_self _
    · rw [List.mem_singleton.mp hb]; exact Nat.lt_succ_of_lt hlt
  · obtain ⟨t, rfl⟩ := hval _ v hP
    refine ⟨.str _, H, I.kept (t' := tk) fun b u e => hk b u (fun hmem => ?_) (Heap.get?_push_of_some _ e), ⟨t, rfl⟩, q _ ?_⟩
    · have e1 : b = s.heap.objs.size := List.mem_singleton.mp hmem
      have e2 := Heap.lt_size e
      rw [e1] at e2
      exact absurd e2 (Nat.lt_irrefl _)
    · have hb := Nat.lt_of_lt_of_eq (Array.getElem?_eq_some_iff.mp hP).1 (show its.toArray.size = xs.length by rw [List.size_toArray, hlen])
      rw [List.getD_eq_getElem?_getD, List.getElem?_eq_getElem hb]
      exact List.getElem_mem hb
/-- .. of a dict's keys -/
def rMinDS : List V → Hp → VK → Prop := fun vs H Q => ∃ (a : Addr) (kvs : List (Key × V)) (xs : List Str), vs = [V.ref a] ∧ Rd H a (.dK kvs) ∧ kvs.map (·.1) = xs.map Sum.inr ∧ xs ≠ [] ∧ ∀ m, m ∈ xs → Q (.str m) H
theorem cr_minDS (hc : X.calm = true) : CallR X (.builtin "min") rMinDS := by
  intro pins s σ H vs us Q I r h
  obtain ⟨a, kvs, xs, rfl, ha, hv, hne, q⟩ := h
  obtain ⟨u, rfl, ru⟩ := vals1 r
  cases ru
  obtain ⟨_, lo, vs, rel, dof⟩ := dk_rd I.hok ha
  obtain ⟨ep, dat⟩ := dof.dictAt
  obtain ⟨ob, es, ho, _⟩ := id dat
  have hlt : a < s.heap.objs.size := Heap.lt_size ho
  have hkeys : vs.map (·.1) = xs.map Sum.inr := (KV.keys rel).symm.trans hv
  have hlv : vs.length = xs.length := by
    have e1 := congrArg List.length hkeys
    rw [List.length_map, List.length_map] at e1
    exact e1
  have hlen : 0 < vs.length := by rw [hlv]; exact List.length_pos_iff.mpr hne
  have hval : ∀ (i : Nat) (v : Value), (∃ k x, vs[i]? = some (k, x) ∧ (mixKind X.prog X.w).is k v = true) → ∃ t, v = Value.str (xs.getD i Str.empty) t := fun i v ⟨k, x, hk, hkey⟩ => by
    have e1 : (vs.map (·.1))[i]? = some k := by rw [List.getElem?_map, hk] <;> rfl
    rw [hkeys, List.getElem?_map] at e1
    obtain ⟨j, hj, e2⟩ := Option.map_eq_some_iff.mp e1
    subst e2
    have hi : Value.isStrOf j v = true := hkey
    obtain ⟨t, e3⟩ := Value.isStrOf_shape (x := j) (v := v) hi
    refine ⟨t, ?_⟩
    rw [e3, List.getD_eq_getElem?_getD, hj] <;> rfl
  refine call_min_walk (wpAny_pyIter_dict (knd := mixKind X.prog X.w) lo dat ?_)
  refine ⟨_, _, _, _, _, _, _, rfl, Walks.dictKeys (knd := mixKind X.prog X.w) (A := X.A.in1) (I.ok.hd hc) s.heap.objs.size a (Nat.ne_of_lt hlt) vs ep,
    ⟨⟨_, Heap.get?_push_size _ rfl, rfl, rfl⟩, dat.keep fun b u e => Heap.get?_push_of_some _ e⟩, fun b hb => ?_, hlen, CmpOf.strs_lt (fun i => xs.getD i Str.empty) hval, fun v h' tk hP hk => ?_⟩
  · show b < (s.heap.push _).objs.size
    rw [Heap.size_push]
    rcases List.mem_cons.mp hb with e | hb
    · rw [e]; exact Nat.lt_succ_self _
    · rw [List.mem_singleton.mp hb]; exact Nat.lt_succ_of_lt hlt
  · obtain ⟨t, e3⟩ := hval _ v hP
    refine ⟨.str _, H, I.kept (t' := tk) fun b u e => hk b u (fun hmem => ?_) (Heap.get?_push_of_some _ e), ⟨t, e3⟩, q _ ?_⟩
    · have e1 : b = s.heap.objs.size := List.mem_singleton.mp hmem
      have e2 := Heap.lt_size e
      rw [e1] at e2
      exact absurd e2 (Nat.lt_irrefl _)
    · have hb := argBest_le (fun i j => decide ((xs.getD i Str.empty).cps.toList < (xs.getD j Str.empty).cps.toList)) (vs.length - 1)
      have hb2 : argBest (fun i j => decide ((xs.getD i Str.empty).cps.toList < (xs.getD j Str.empty).cps.toList)) (vs.length - 1) < xs.length := by omega
      rw [List.getD_eq_getElem?_getD, List.getElem?_eq_getElem hb2]
      exact List.getElem_mem hb2

/-! ### list.count of flat items -/
def rCntF (K : PySem.W.Frag) : V → List V → Hp → VK → Prop := fun x xs H Q => ∃ (p : Addr) (ys : List V) (y : V), x = .ref p ∧ xs = [y] ∧ SqL K H p ys ∧ flatV y = true ∧ ys.all flatV = true ∧ Q (.int ((ys.countP fun z => eqV z y : Nat) : Int)) H
/-- values, as a count sees them -/
def eqW (y : V) (u : Value) : Bool := match absV u with
  | some z => eqV z y
  | none => false
theorem eqW_of {y z : V} {u : Value} (r : RelV z u) : eqW y u = eqV z y := by unfold eqW; rw [r.abs]
theorem countW {y : V} {ys : List V} {us : List Value} (r : Vals ys us) : us.countP (eqW y) = ys.countP fun z => eqV z y := by
  induction r with
  | nil => rfl
  | cons h t ih => rw [List.countP_cons, List.countP_cons, ih, eqW_of h]
theorem mt_countF : MtR X "list.count" (rCntF X.K) := by
  intro pins s σ H x xs v us Q I rx rxs h
  obtain ⟨p, ys, y, rfl, rfl, hs, fy, fs, q⟩ := h
  cases rx
  obtain ⟨u, rfl, ru⟩ := vals1 rxs
  obtain ⟨its, rv, ⟨⟨cls, dd, data, sl⟩, n, ho, hc, hdn, hd⟩, hlen⟩ := I.list hs
  simp only at hc hd
  subst hc hd
  refine call_meets PySem.F.slot_list_count ⟨_, ho, rfl⟩ PySem.F.entry_list_count (PySem.F.args_list_count_2 _ _) (SeqAt.list_countAt p its.toArray n dd sl u (eqW y)) ⟨ho, fun z hz => ?_, ?_⟩
  · have hz' : z ∈ its := by simpa using hz
    obtain ⟨i, hi, e⟩ := List.mem_iff_getElem.mp hz'
    have hi' : i < ys.length := by rw [rv.length]; exact hi
    obtain ⟨z2, e2, r2⟩ := rv.get (List.getElem?_eq_getElem hi')
    rw [List.getElem?_eq_getElem hi, e] at e2
    rw [Option.some.inj e2]
    have ez : eqW y z2 = eqV ys[i] y := by unfold eqW; rw [r2.abs]
    rw [ez]
    exact eqAt_V r2 ru (List.all_eq_true.mp fs _ (List.getElem_mem hi')) fy
  · refine ⟨.int _, H, I.tok _, ⟨s.toks, ?_⟩, q⟩
    have e := countW (y := y) rv
    show Value.int ((its.toArray.toList.countP (eqW y) : Nat) : Int) s.toks = _
    rw [show its.toArray.toList = its from by simp, e]
/-! ### sorted of pairs of texts: some order of them -/
abbrev Cor := Str × Str
def prV (p : Cor) : List V := [.str p.1, .str p.2]
def encP (q : Addr × Cor) : PyData := .tuple [.str q.2.1, .str q.2.2]
def rSortedC (K : PySem.W.Frag) : List V → Hp → VK → Prop := fun vs H Q => ∃ (a : Addr) (L : List (Addr × Cor)), vs = [V.ref a] ∧ SqL K H a (L.map fun q => V.ref q.1) ∧ (∀ q ∈ L, Rd H q.1 (.tup (prV q.2))) ∧
  ∀ (L' : List (Addr × Cor)) (p : Addr), L'.Perm L → H p = none → Q (.ref p) (upd H p (.lst (L'.map fun q => V.ref q.1)))
theorem each_refs {L : List (Addr × Cor)} : ∀ {us : List Value}, Vals (L.map fun q => V.ref q.1) us → PySem.W.EachIs (fun (v : Value) (q : Addr × Cor) => v = .ref q.1) us L := by
  induction L with
  | nil => intro us r; cases r; exact .nil
  | cons q L ih =>
    intro us r
    cases r with
    | cons h t => exact .cons h (ih t)
theorem refs_each {L : List (Addr × Cor)} : ∀ {us : List Value}, PySem.W.EachIs (fun (v : Value) (q : Addr × Cor) => v = .ref q.1) us L → Vals (L.map fun q => V.ref q.1) us := by
  induction L with
  | nil => intro us r; cases r; exact .nil
  | cons q L ih =>
    intro us r
    cases r with
    | cons h t => exact .cons h (ih t)
theorem each_reads {h : Heap} {L : List (Addr × Cor)} (hL : ∀ q ∈ L, ∃ as, Reads h (.ref q.1) (encP q) as) : ∀ {us : List Value}, PySem.W.EachIs (fun (v : Value) (q : Addr × Cor) => v = .ref q.1) us L → PySem.W.EachIs (fun v b => ∃ as, Reads h v (encP b) as) us L := by
  induction L with
  | nil => intro us r; cases r; exact .nil
  | cons q L ih =>
    intro us r
    cases r with
    | cons e t => exact .cons (by rw [e]; exact hL q (List.mem_cons_self ..)) (ih (fun x hx => hL x (List.mem_cons_of_mem _ hx)) t)
theorem cr_sortedC {k : Nat} (hr : Room k X.A) : CallR X (.builtin "sorted") (rSortedC X.K) := by
  intro pins s σ H vs us Q I r h
  obtain ⟨a, L, rfl, hs, ht, q⟩ := h
  obtain ⟨u, rfl, ru⟩ := vals1 r
  cases ru
  obtain ⟨its, rv, hl, hz⟩ := I.list hs
  rw [List.length_map] at hz
  have e := each_refs rv
  refine PySem.W.sorted_data (enc := encP) hl.isList e (each_reads (fun x hx => ?_) e) (.of fun b b' => by simp [encP, PySem.W.alike, PySem.W.alikeAll]) (.tuples fun b => ⟨_, _, rfl⟩) hz (fun b _ => ?_) fun out ho he => ?_
  · obtain ⟨us, r2, ⟨o, e1, e2, n, e3⟩, _⟩ := I.tuple (.inl (ht x hx))
    obtain ⟨u1, u2, rfl, ⟨t1, rfl⟩, t2, rfl⟩ := vals2 r2
    exact ⟨_, .tuple e1 e2 e3 (.cons (.str _ _) (.cons (.str _ _) .nil))⟩
  · have := hr.units
    show X.A.units + 2 + PyData.depth (.tuple [.str b.2.1, .str b.2.2]) < cLine
    have e : PyData.depth (.tuple [.str b.2.1, .str b.2.2]) ≤ 3 := by simp [PyData.depth, PyData.depthAll]
    omega
  · obtain ⟨ep, he'⟩ := PyProof.Rows.sortedAll_at s.heap its out.toArray
    have hp : (L.mergeSort (PySem.W.dataLe false encP)).Perm L := List.mergeSort_perm _ _
    have hlen : ((L.mergeSort (PySem.W.dataLe false encP)).map fun q => V.ref q.1).length ≤ sizeLine := by rw [List.length_map, hp.length_eq]; exact hz
    exact ⟨.ref _, upd H (s.heap.objs.size + 1) (.lst ((L.mergeSort (PySem.W.dataLe false encP)).map fun q => V.ref q.1)), I.laid (t' := s.toks) (fun _ _ => PyProof.Rows.sortedAll_old) (Nat.le_succ _) ⟨hlen, out, ep, refs_each he, he'⟩, rfl, q _ _ hp (I.hok.fresh (Nat.le_succ _))⟩

/-! ### xs[-2::-1]: some list -/
theorem bounds_m2 (n : Nat) : sliceBounds (some (-2)) none (some (-1)) n = ((((n - 1 : Nat) : Int) - 1), -1, -1) := by
  simp only [sliceBounds, Option.getD_some]
  have h1 : ¬ ((-1 : Int) > 0) := by decide
  simp only [h1, if_false, show ((-2 : Int) < 0) = True from by simp, if_true]
  congr 1
  omega
theorem vals_pick {xs : List V} {us : List Value} (r : Vals xs us) (L : List Nat) : Vals (L.filterMap (xs[·]?)) (L.filterMap (us[·]?)) := by
  induction L with
  | nil => exact .nil
  | cons i L ih =>
    rw [List.filterMap_cons, List.filterMap_cons]
    cases e : xs[i]? with
    | none => rw [r.none_of e]; exact ih
    | some x =>
      obtain ⟨u, hu, ru⟩ := r.get e
      rw [hu]
      exact .cons ru ih
def tRev2 (K : PySem.W.Frag) (te : TE) : TE := fun σ H Q => te σ H fun x H1 => ∃ a xs, x = .ref a ∧ SqL K H1 a xs ∧ ∀ p (ys : List V), H1 p = none → ys.length ≤ xs.length → Q (.ref p) (upd H1 p (.lst ys))
theorem pe_rev2 {e : Expr} {te : TE} {k k' : Nat} {p1 p2 p3 q1 q2 pos : Pos} (he : PE X e te) :
    PE X (.Subscript e (.Slice (some (.UnaryOp .USub (.Constant (.int 2) k' q1) q2)) none (some (.UnaryOp .USub (.Constant (.int 1) k p1) p2)) p3) pos) (tRev2 X.K te) := by
  refine ⟨fun pins s σ H Q I h => ?_⟩
  refine Subscript_ (thn (he.run pins s σ H _ I h) fun v s1 ⟨x, H1, I1, r1, q0⟩ => ?_)
  obtain ⟨a, xs, ex, hx, q⟩ := q0
  subst ex
  cases r1
  have hlo : PO X (some (.UnaryOp .USub (.Constant (.int 2) k' q1) q2)) (tPart (tUn (rU fun i => .int (-i)) (tC (.int 2)))) := po_some (pe_un un_neg pe_int)
  have hst : PO X (some (.UnaryOp .USub (.Constant (.int 1) k p1) p2)) (tPart (tUn (rU fun i => .int (-i)) (tC (.int 1)))) := po_some (pe_un un_neg pe_int)
  refine wpAny_Slice (thn (hlo.run pins s1 σ H1 (fun o H2 => o = some (-2) ∧ H2 = H1) I1 ⟨2, rfl, -2, rfl, rfl, rfl⟩) fun vl s2 ⟨l, H2, I2, pl, el, e2⟩ => ?_)
  subst el e2
  refine thn (po_none.run pins s2 σ H2 (fun o H3 => o = none ∧ H3 = H2) I2 ⟨rfl, rfl⟩) fun vu s3 ⟨u, H3, I3, pu, eu, e3⟩ => ?_
  subst eu e3
  refine thn (hst.run pins s3 σ H3 (fun o H4 => o = some (-1) ∧ H4 = H3) I3 ⟨1, rfl, -1, rfl, rfl, rfl⟩) fun vs s4 ⟨o, H4, I4, ps, eo, e4⟩ => ?_
  subst eo e4
  have I5 : Inv X pins σ H4 { s4 with heap := s4.heap.push { cls := .type "slice", data := .fields #[vl, vu, vs] } } := I4.kept (t' := s4.toks) fun b ob q => Heap.get?_push_of_some _ q
  obtain ⟨its, r, ht, hz⟩ := I5.list hx
  have hlen := r.length
  show wpAny (model X.prog X.w) X.A (subscriptTail e (.Slice (some (.UnaryOp .USub (.Constant (.int 2) k' q1) q2)) none (some (.UnaryOp .USub (.Constant (.int 1) k p1) p2)) p3) (.ref a) (.ref s4.heap.objs.size)) (EP X pins σ Q) X.xe { s4 with heap := s4.heap.push { cls := .type "slice", data := .fields #[vl, vu, vs] } }
  refine tail_any (ops := [.ref a, .ref s4.heap.objs.size]) ht.isList.typeIs (PySem.slot_list_getitem.lookup) ?_ (by with_unfolding_all rfl)
  refine wpAny_getItem_list_slice ht.isList (Heap.IsSliceOf.new _ vl vu vs) pl pu ps (by decide) ?_ (by rw [List.size_toArray]; omega)
  have ek : slicePick its.toArray (some (-2)) none (some (-1)) = (((List.range (its.length - 1)).map fun k => its.length - 1 - 1 - k).filterMap (its[·]?)).toArray := by
    unfold slicePick
    rw [bounds_m2, List.size_toArray]
    show ((sliceRange (((its.length - 1 : Nat) : Int) - 1) (-1) (-1)).filterMap (its.toArray[·]?)).toArray = _
    rw [PySem.W.krv_sliceRange]
    simp
  rw [ek]
  have rp := vals_pick r ((List.range (its.length - 1)).map fun k => its.length - 1 - 1 - k)
  have hl2 : (((List.range (its.length - 1)).map fun k => its.length - 1 - 1 - k).filterMap (xs[·]?)).length ≤ xs.length := by
    refine Nat.le_trans (List.length_filterMap_le _ _) ?_
    rw [List.length_map, List.length_range]
    omega
  exact ⟨.ref _, _, I5.laid (t' := s4.toks) (o := .lst (((List.range (its.length - 1)).map fun k => its.length - 1 - 1 - k).filterMap (xs[·]?))) (fun b ob q => Heap.get?_push_of_some _ q) (Nat.le_refl _) ⟨Nat.le_trans hl2 hz, _, 0, rp, Heap.get?_push_size _ rfl⟩, rfl, q _ _ (I5.hok.fresh (Nat.le_refl _)) hl2⟩
/-! ### d == {} -/
def rEqD0 : R2 := fun x y H Q => ∃ (a b : Addr) (ks : List (Key × V)), x = .ref a ∧ y = .ref b ∧ H a = some (.dK ks) ∧ H b = some (.dK []) ∧ Q (.bl (decide (ks = []))) H
theorem op_eq_dict0 (hu : X.A.units < cLine) : OpR X (compareOp .Eq) rEqD0 := by
  intro pins s σ H x y v u Q I rx ry h
  obtain ⟨a, b, ks, rfl, rfl, ea, eb, q⟩ := h
  obtain rfl : v = Value.ref a := rx
  obtain rfl : u = Value.ref b := ry
  obtain ⟨_, ya, va, ra, da⟩ := (show ObjOk X.prog X.w H s.heap a (.dK ks) from I.hok a _ ea)
  obtain ⟨_, yb, vb, rb, db⟩ := (show ObjOk X.prog X.w H s.heap b (.dK []) from I.hok b _ eb)
  have hb : vb = [] := List.length_eq_zero_iff.mp (rb.length.symm.trans rfl)
  subst hb
  have hl : ks.length = va.length := ra.length
  refine PySem.W.keq_eq (knd := mixKind X.prog X.w) (r := true) ya yb da db hu (fun e => ?_) (fin_bl I q ?_)
  · have : va = [] := List.length_eq_zero_iff.mp (by simpa using e)
    subst this
    exact .nil
  · cases ks with
    | nil => have : va.length = 0 := hl.symm; simp [this]
    | cons k r => have : va.length = r.length + 1 := hl.symm; simp [this]
end
end RD

/-! RDGraph: corridors, levels; plain Lean. -/
namespace RD
theorem ite2 {b : Bool} {A B : Prop} (h1 : b = true → A) (h2 : b = false → B) : if b = true then A else B := by
  cases b
  · exact h2 rfl
  · exact h1 rfl
theorem ite2d {p : Prop} [Decidable p] {A B : Prop} (h1 : p → A) (h2 : ¬p → B) : if decide p = true then A else B := by
  by_cases c : p
  · rw [if_pos (decide_eq_true c)]; exact h1 c
  · rw [if_neg (by simpa using c)]; exact h2 c
theorem ite2n {p : Prop} [Decidable p] {A B : Prop} (h1 : ¬p → A) (h2 : p → B) : if (!decide p) = true then A else B := by
  by_cases c : p
  · rw [if_neg (by simpa using c)]; exact h2 c
  · rw [if_pos (by simpa using c)]; exact h1 c
section
variable {α : Type} [DecidableEq α]
/-- both ways of a list of pairs -/
def both (E : List (α × α)) : List (α × α) := E.flatMap fun p => [(p.1, p.2), (p.2, p.1)]
def adj (E : List (α × α)) (a b : α) : Prop := (a, b) ∈ E ∨ (b, a) ∈ E
theorem mem_both {E : List (α × α)} {a b : α} : (a, b) ∈ both E ↔ adj E a b := by
  unfold both adj
  rw [List.mem_flatMap]
  constructor
  · rintro ⟨⟨x, y⟩, hp, h⟩
    simp only [List.mem_cons, Prod.mk.injEq, List.not_mem_nil, or_false] at h
    rcases h with ⟨rfl, rfl⟩ | ⟨rfl, rfl⟩
    · exact .inl hp
    · exact .inr hp
  · rintro (h | h)
    · exact ⟨(a, b), h, by simp⟩
    · exact ⟨(b, a), h, by simp⟩
theorem adj.symm {E : List (α × α)} {a b : α} (h : adj E a b) : adj E b a := h.elim .inr .inl
/-- the ends of all pairs -/
def ends (E : List (α × α)) : List α := E.flatMap fun p => [p.1, p.2]
theorem mem_ends {E : List (α × α)} {a b : α} (h : adj E a b) : a ∈ ends E ∧ b ∈ ends E := by
  unfold ends
  rw [List.mem_flatMap, List.mem_flatMap]
  rcases h with h | h
  · exact ⟨⟨_, h, by simp⟩, ⟨_, h, by simp⟩⟩
  · exact ⟨⟨_, h, by simp⟩, ⟨_, h, by simp⟩⟩
theorem length_ends (E : List (α × α)) : (ends E).length = 2 * E.length := by
  unfold ends
  induction E with
  | nil => rfl
  | cons p r ih =>
    rw [List.flatMap_cons, List.length_append, ih]
    simp only [List.length_cons, List.length_nil]
    omega
theorem length_both (E : List (α × α)) : (both E).length = 2 * E.length := by
  unfold both
  induction E with
  | nil => rfl
  | cons p r ih =>
    rw [List.flatMap_cons, List.length_append, ih]
    simp only [List.length_cons, List.length_nil]
    omega
/-- different items within a list are no more than it has -/
theorem nodup_le {l U : List α} (hn : l.Nodup) (hs : ∀ x ∈ l, x ∈ U) : l.length ≤ U.length := by
  induction l generalizing U with
  | nil => exact Nat.zero_le _
  | cons a r ih =>
    obtain ⟨h1, h2⟩ := List.nodup_cons.mp hn
    have ha := hs a (List.mem_cons_self ..)
    have q := ih (U := U.erase a) h2 fun x hx => by
      have xa : x ≠ a := fun z => h1 (z ▸ hx)
      exact (List.mem_erase_of_ne xa).mpr (hs x (List.mem_cons_of_mem _ hx))
    have e := List.length_erase_of_mem ha
    have p : 0 < U.length := List.length_pos_of_mem ha
    rw [List.length_cons]
    omega
/-- what a search from a start has found: the rooms, their levels, where one came from -/
structure Lev (E : List (α × α)) (start : α) (ks : List α) (lv : α → Nat) (pa : α → Option α) : Prop where
  st : start ∈ ks
  z : lv start = 0
  zp : pa start = none
  up : ∀ r ∈ ks, r ≠ start → ∃ p ∈ ks, pa r = some p ∧ lv r = lv p + 1 ∧ adj E p r
  nd : ks.Nodup
  lo : ∀ r ∈ ks, lv r < ks.length
theorem Lev.one (E : List (α × α)) (start : α) : Lev E start [start] (fun _ => 0) (fun _ => none) :=
  ⟨by simp, rfl, rfl, fun r hr hn => absurd (by simpa using hr) hn, by simp, by simp⟩
theorem Lev.more {E : List (α × α)} {start : α} {ks : List α} {lv : α → Nat} {pa : α → Option α} (L : Lev E start ks lv pa) {r x : α} (hr : r ∈ ks) (hx : x ∉ ks) (ha : adj E r x) :
    Lev E start (ks ++ [x]) (fun y => if y = x then lv r + 1 else lv y) (fun y => if y = x then some r else pa y) := by
  have ne : ∀ {y}, y ∈ ks → y ≠ x := fun {y} hy z => hx (z ▸ hy)
  refine ⟨List.mem_append_left _ L.st, by rw [if_neg (ne L.st)]; exact L.z, by rw [if_neg (ne L.st)]; exact L.zp, fun y hy hn => ?_, ?_, fun y hy => ?_⟩
  · rcases List.mem_append.mp hy with h | h
    · obtain ⟨p, hp, e1, e2, e3⟩ := L.up y h hn
      exact ⟨p, List.mem_append_left _ hp, by rw [if_neg (ne h)]; exact e1, by rw [if_neg (ne h), if_neg (ne hp)]; exact e2, e3⟩
    · have e : y = x := by simpa using h
      subst e
      exact ⟨r, List.mem_append_left _ hr, by rw [if_pos rfl], by rw [if_pos rfl, if_neg (ne hr)], ha⟩
  · rw [List.nodup_append]
    exact ⟨L.nd, by simp, fun a ha b hb z => hx (by rw [show b = x by simpa using hb] at z; exact z ▸ ha)⟩
  · rw [List.length_append]
    rcases List.mem_append.mp hy with h | h
    · rw [if_neg (ne h)]
      exact Nat.lt_succ_of_lt (L.lo y h)
    · rw [if_pos (by simpa using h)]
      exact Nat.succ_lt_succ (L.lo r hr)
theorem Lev.zero {E : List (α × α)} {start : α} {ks : List α} {lv : α → Nat} {pa : α → Option α} (L : Lev E start ks lv pa) {r : α} (hr : r ∈ ks) (h : lv r = 0) : r = start := by
  by_cases e : r = start
  · exact e
  · obtain ⟨p, _, _, e2, _⟩ := L.up r hr e
    omega
theorem Lev.ends {E : List (α × α)} {start : α} {ks : List α} {lv : α → Nat} {pa : α → Option α} (L : Lev E start ks lv pa) : ∀ r ∈ ks, r ∈ start :: RD.ends E := fun r hr => by
  by_cases e : r = start
  · rw [e]; exact List.mem_cons_self ..
  · obtain ⟨p, _, _, _, a⟩ := L.up r hr e
    exact List.mem_cons_of_mem _ (mem_ends a).2
theorem Lev.few {E : List (α × α)} {start : α} {ks : List α} {lv : α → Nat} {pa : α → Option α} (L : Lev E start ks lv pa) : ks.length ≤ 1 + 2 * E.length := by
  have q := nodup_le L.nd L.ends
  rw [List.length_cons, length_ends] at q
  omega
/-- closed under corridors -/
def Closed (E : List (α × α)) (ks : List α) : Prop := ∀ r ∈ ks, ∀ x, adj E r x → x ∈ ks
/-- every room is reached where each but the first is joined to an earlier one -/
theorem Closed.all {E : List (α × α)} {ks : List α} (c : Closed E ks) {rs : List α} (conn : ∀ (S : α → Prop), (∃ r ∈ rs, S r) → (∀ r x, S r → adj E r x → S x) → ∀ r ∈ rs, S r) (h : ∃ r ∈ rs, r ∈ ks) : ∀ r ∈ rs, r ∈ ks :=
  conn (fun r => r ∈ ks) h fun r x hr ha => c r hr x ha
/-- connected: a set of rooms that has one and is closed has all -/
def Conn (E : List (α × α)) (rs : List α) : Prop := ∀ (S : α → Prop), (∃ r ∈ rs, S r) → (∀ r x, S r → adj E r x → S x) → ∀ r ∈ rs, S r
end
end RD

/-! RDWalks: is_name, is_integer, is_between, pair_of. -/
namespace RD
open PySem PySem.Spec PyProof.Rows L2
def letters : Str := "abcdefghijklmnopqrstuvwxyz"
def isLetter (c : Nat) : Bool := decide (c ∈ letters.cps.toList)
/-- a name of the document -/
def nameB (z : Str) : Bool := decide (1 ≤ z.length) && decide (z.length ≤ 8) && z.cps.toList.all isLetter

section
variable {P : Program} {w : World} {K : PySem.W.Frag} {mg : Str → Option Value} {base : Heap}
def spIsName : Sp := fun vs H Q _ => ∃ x, vs = [x] ∧ ((∃ z : Str, x = .str z ∧ z.length ≤ 1000 ∧ ∀ H', Same H H' → Q (.bl (nameB z)) H') ∨ (x = .non ∧ Q (.bl false) H))
theorem sc_is_name : FnScope ["thing", "letter"] ["thing"] (defScope s_is_name) := ⟨rfl, rfl, rfl, by decide +kernel, rfl, by decide +kernel, by decide +kernel⟩
theorem ok_is_name (T : Says w K mg) : C8.Cal P w K mg base 1 "is_name" spIsName [] := by
  refine cal_of T.d_is_name T.g_is_name sc_is_name (fun vs H Q E h => ?_) (fun _ _ _ _ _ _ us hl => match us, hl with | [_], _ => rfl) (fun cdv A outer s H vs Q E hr h => ?_)
  · obtain ⟨x, rfl, _⟩ := h; rfl
  refine ⟨_, (pss_one (ps_ret (pe_and (pe_callB (id := "isinstance") call_isi (by rfl) T.z_isinstance (by decide +kernel) (pa_cons (pv 0) (pa_cons (pe_ty (n := "str") T.z_str rfl) pa_nil))) (pe_and (pe_chain op_le op_le pe_int (pe_callB (id := "len") call_len_str (by rfl) T.z_len PySem.boot_len (pa_cons (pv 0) pa_nil)) (pe_gi T.i_LONGEST_NAME rfl)) (pe_one (pe_callB (id := "all") (r := rAll K) (cr_all rfl) (by rfl) T.z_all (by decide +kernel) (pa_cons (pe_lc (own := [("letter", 1)]) (g := (gName 1)) (tt := tYes) rfl sc_is_name.nd (pi_str (pv 0)) (blkOk_by (own := [("letter", 1)]) (N := ["thing", "letter"]) (sc := defScope s_is_name) (by decide +kernel)) (fun _ _ _ _ _ => (pg_name (i := 1) sc_is_name.nd rfl (Or.inl rfl))) (fun _ _ _ _ _ => pts_nil) (fun _ _ _ _ _ => (pe_cmpR op_in_sign (pv 1) (pe_gs T.i_LETTERS rfl) (by rfl)))) pa_nil))))))), ?_⟩
  obtain ⟨x, rfl, ⟨z, rfl, hz, k⟩ | ⟨rfl, k⟩⟩ := h
  · refine ⟨_, rfl, .str z, .ty "str", .type "str", .type "str", true, rfl, .ty _, .base (.str z), kit_ty (by decide +kernel), true, rfl, iteT ?_⟩
    refine ⟨_, rfl, z, rfl, Nat.le_trans hz (by decide), _, _, rfl, rfl, _, rfl, ?_⟩
    by_cases h1 : (1 : Int) ≤ (z.length : Int)
    · rw [if_pos (decide_eq_true h1)]
      refine ⟨_, _, rfl, rfl, _, rfl, ?_⟩
      by_cases h2 : (z.length : Int) ≤ 8
      · rw [if_pos (decide_eq_true h2)]
        refine ⟨_, rfl, z, rfl, fun D hD => lc_it walk_str (fun i H' => Same H H' ∧ H' D = some (.lst ((z.cps.toList.take i).map fun c => V.bl (isLetter c)))) ⟨Same.new hD, upd_same⟩ (fun _ _ _ _ => trivial) ?_ ?_⟩
        · rintro i y H1 H1' hi ⟨s1, e1⟩ ⟨rfl, c, hc, rfl⟩
          refine ⟨rfl, ?_⟩
          refine ⟨_, rfl, c, letters, rfl, rfl, _, e1, ?_, s1.mut hD, ?_⟩
          · rw [List.length_map, List.length_take]; exact Nat.lt_of_le_of_lt (Nat.min_le_right _ _) (Nat.lt_of_le_of_lt (show z.cps.toList.length ≤ 1000 from by simpa [Str.length] using hz) (by decide))
          · rw [upd_same, List.take_add_one]
            have e : z.cps.toList[i]? = some c := by simpa using hc
            rw [e, List.map_append]
            rfl
        · rintro H1 ⟨s1, e1⟩
          refine ⟨D, z.cps.toList.map isLetter, rfl, SqL.of ?_, ?_⟩
          · rw [e1, List.map_map]
            rw [show z.cps.size = z.cps.toList.length from by simp, List.take_length]
            rfl
          · have e : nameB z = ((z.cps.toList.map isLetter).all id) := by
              have a1 : 1 ≤ z.length := by omega
              have a2 : z.length ≤ 8 := by omega
              unfold nameB
              rw [decide_eq_true a1, decide_eq_true a2, List.all_map]
              rfl
            rw [← e]
            exact k _ s1
      · rw [if_neg (by simpa using h2)]
        have e : nameB z = false := by
          have a2 : ¬ z.length ≤ 8 := by omega
          unfold nameB
          rw [decide_eq_false a2, Bool.and_false, Bool.false_and]
        rw [e] at k
        exact k _ (Same.refl H)
    · rw [if_neg (by simpa using h1)]
      have e : nameB z = false := by
        have a2 : ¬ 1 ≤ z.length := by omega
        unfold nameB
        rw [decide_eq_false a2, Bool.false_and, Bool.false_and]
      rw [e] at k
      refine ⟨_, rfl, iteF ?_⟩
      exact k _ (Same.refl H)
  · refine ⟨_, rfl, .non, .ty "str", .type "NoneType", .type "str", false, rfl, .ty _, .base .non, kit_ty (by decide +kernel), false, rfl, iteF ?_⟩
    exact k
/-! is_integer, is_between: of ints -/
def spIsInteger : Sp := fun vs H Q _ => ∃ i : Int, vs = [.int i] ∧ Q (.bl true) H
theorem sc_is_integer : FnScope ["thing"] ["thing"] (defScope s_is_integer) := ⟨rfl, rfl, rfl, by decide +kernel, rfl, by decide +kernel, by decide +kernel⟩
theorem ok_is_integer (T : Says w K mg) : C8.Cal P w K mg base 1 "is_integer" spIsInteger [] := by
  refine cal_of T.d_is_integer T.g_is_integer sc_is_integer (fun vs H Q E h => ?_) (fun _ _ _ _ _ _ us hl => match us, hl with | [_], _ => rfl) (fun cdv A outer s H vs Q E hr h => ?_)
  · obtain ⟨x, rfl, _⟩ := h; rfl
  refine ⟨_, (pss_one (ps_ret (pe_and (pe_callB (id := "isinstance") call_isi (by rfl) T.z_isinstance (by decide +kernel) (pa_cons (pv 0) (pa_cons (pe_ty (n := "int") T.z_int rfl) pa_nil))) (pe_one (pe_not (pe_callB (id := "isinstance") call_isi (by rfl) T.z_isinstance (by decide +kernel) (pa_cons (pv 0) (pa_cons (pe_ty (n := "bool") T.z_bool rfl) pa_nil)))))))), ?_⟩
  obtain ⟨i, rfl, k⟩ := h
  refine ⟨_, rfl, .int i, .ty "int", .type "int", .type "int", true, rfl, .ty _, .base (.int i), kit_ty (by decide +kernel), true, rfl, iteT ?_⟩
  exact ⟨_, rfl, .int i, .ty "bool", .type "int", .type "bool", false, rfl, .ty _, .base (.int i), kit_ty (by decide +kernel), false, rfl, k⟩
def spIsBetween : Sp := fun vs H Q _ => ∃ i lo hi : Int, vs = [.int i, .int lo, .int hi] ∧ Q (.bl (decide (lo ≤ i) && decide (i ≤ hi))) H
theorem sc_is_between : FnScope ["thing", "low", "high"] ["thing", "low", "high"] (defScope s_is_between) := ⟨rfl, rfl, rfl, by decide +kernel, rfl, by decide +kernel, by decide +kernel⟩
theorem ok_is_between (T : Says w K mg) : C8.Cal P w K mg base 2 "is_between" spIsBetween [] := by
  refine cal_of T.d_is_between T.g_is_between sc_is_between (fun vs H Q E h => ?_) (fun _ _ _ _ _ _ us hl => match us, hl with | [_, _, _], _ => rfl) (fun cdv A outer s H vs Q E hr h => ?_)
  · obtain ⟨x, y, z, rfl, _⟩ := h; rfl
  refine ⟨_, (pss_one (ps_ret (pe_and (C8.pe_c (ok_is_integer T) hr (by decide) rfl (pa_cons (pv 0) pa_nil)) (pe_one (pe_chain op_le op_le (pv 1) (pv 0) (pv 2)))))), ?_⟩
  obtain ⟨i, lo, hi, rfl, k⟩ := h
  refine ⟨_, rfl, i, rfl, true, rfl, iteT ?_⟩
  refine ⟨_, rfl, _, rfl, _, _, rfl, rfl, _, rfl, ?_⟩
  by_cases h1 : lo ≤ i
  · rw [decide_eq_true h1, Bool.true_and] at k
    rw [if_pos (decide_eq_true h1)]
    exact ⟨_, rfl, _, _, rfl, rfl, k⟩
  · rw [decide_eq_false h1, Bool.false_and] at k
    rw [if_neg (by simpa using h1)]
    exact k
/-- a corridor as it is written -/
def pairS (a b : Str) : Str × Str := if a.cps.toList < b.cps.toList then (a, b) else (b, a)
def spPairOf : Sp := fun vs H Q _ => ∃ a b : Str, vs = [.str a, .str b] ∧ ∀ p, H p = none → Q (.ref p) (upd H p (.tup (prV (pairS a b))))
theorem sc_pair_of : FnScope ["one", "other"] ["one", "other"] (defScope s_pair_of) := ⟨rfl, rfl, rfl, by decide +kernel, rfl, by decide +kernel, by decide +kernel⟩
theorem ok_pair_of (T : Says w K mg) : C8.Cal P w K mg base 1 "pair_of" spPairOf [] := by
  refine cal_of T.d_pair_of T.g_pair_of sc_pair_of (fun vs H Q E h => ?_) (fun _ _ _ _ _ _ us hl => match us, hl with | [_, _], _ => rfl) (fun cdv A outer s H vs Q E hr h => ?_)
  · obtain ⟨x, y, rfl, _⟩ := h; rfl
  refine ⟨_, (pss_one (ps_ret (pe_ifExp (pt_cmpR op_lt_str (pv 0) (pv 1) (nomark _)) (pe_tup (pa_cons (pv 0) (pa_cons (pv 1) pa_nil))) (pe_tup (pa_cons (pv 1) (pa_cons (pv 0) pa_nil)))))), ?_⟩
  obtain ⟨a, b, rfl, k⟩ := h
  refine ⟨_, rfl, _, rfl, _, _, rfl, rfl, _, rfl, ?_⟩
  unfold pairS at k
  by_cases c : a.cps.toList < b.cps.toList
  · rw [if_pos c] at k
    rw [if_pos (decide_eq_true c)]
    exact ⟨_, rfl, _, rfl, by show 2 ≤ sizeLine; decide, k⟩
  · rw [if_neg c] at k
    rw [if_neg (by simpa using c)]
    exact ⟨_, rfl, _, rfl, by show 2 ≤ sizeLine; decide, k⟩
/-- the law's own -/
theorem sc_pair : FnScope ["_law_one", "_law_other"] ["_law_one", "_law_other"] (defScope s_pair) := ⟨rfl, rfl, rfl, by decide +kernel, rfl, by decide +kernel, by decide +kernel⟩
theorem ok_pair (T : Says w K mg) : C8.Cal P w K mg base 1 "_law_pair" spPairOf [] := by
  refine cal_of T.d_pair T.g_pair sc_pair (fun vs H Q E h => ?_) (fun _ _ _ _ _ _ us hl => match us, hl with | [_, _], _ => rfl) (fun cdv A outer s H vs Q E hr h => ?_)
  · obtain ⟨x, y, rfl, _⟩ := h; rfl
  refine ⟨_, (pss_one (ps_ret (pe_ifExp (pt_cmpR op_lt_str (pv 0) (pv 1) (nomark _)) (pe_tup (pa_cons (pv 0) (pa_cons (pv 1) pa_nil))) (pe_tup (pa_cons (pv 1) (pa_cons (pv 0) pa_nil)))))), ?_⟩
  obtain ⟨a, b, rfl, k⟩ := h
  refine ⟨_, rfl, _, rfl, _, _, rfl, rfl, _, rfl, ?_⟩
  unfold pairS at k
  by_cases c : a.cps.toList < b.cps.toList
  · rw [if_pos c] at k
    rw [if_pos (decide_eq_true c)]
    exact ⟨_, rfl, _, rfl, by show 2 ≤ sizeLine; decide, k⟩
  · rw [if_neg c] at k
    rw [if_neg (by simpa using c)]
    exact ⟨_, rfl, _, rfl, by show 2 ≤ sizeLine; decide, k⟩
end
end RD

/-! RDParts: the module parts. -/
namespace RD
open PySem PySem.Spec PyProof.Rows L2
/-- a loop over dict comprehension: as lc_it -/
theorem dc_it {J : It} {n : Nat} {G : Hp → Prop} {Y : Nat → Hp → V → Hp → Prop} (w : Walk J n G Y) {g : TG} {tk tv : TE} {vs : List Nat} {σ : L2.St} {H1 : Hp} {D : Addr} {Qd : Hp → Prop} (Pv : Nat → Hp → Prop) (h0 : Pv 0 (upd H1 D (.dK []))) (hG : ∀ i H, i ≤ n → Pv i H → G H)
    (hs : ∀ i x H H', i < n → Pv i H → Y i H x H' → g x (wipe σ vs) H' fun σ2 H2 => wipe σ2 vs = wipe σ vs ∧ tk σ2 H2 fun y H4 => tv σ2 H4 fun z H5 => ∃ kvs k, y = kV k ∧ H5 D = some (.dK kvs) ∧ kvs.length < sizeLine ∧ Pv (i + 1) (upd H5 D (.dK (putK kvs k z))))
    (hd : ∀ H, Pv n H → Qd H) :
    ∃ W : Nat → Nat → Hp → Prop, (∃ m, W 0 m (upd H1 D (.dK []))) ∧ ∀ i m H, W i m H →
      (J.stop i H ∧ Qd H) ∨ (J.go i H ∧ ∃ Nx : Hp → Prop, (∀ H', Nx H' → ∃ m', m' < m ∧ W (i + 1) m' H') ∧ ∀ x H', J.yld i H x H' → g x (wipe σ vs) H' fun σ2 H2 => wipe σ2 vs = wipe σ vs ∧ tYes σ2 H2 fun b H3 =>
        if b = true then tk σ2 H3 fun y H4 => tv σ2 H4 fun z H5 => ∃ kvs k, y = kV k ∧ H5 D = some (.dK kvs) ∧ kvs.length < sizeLine ∧ Nx (upd H5 D (.dK (putK kvs k z))) else Nx H3) := by
  refine ⟨fun i m H => m = n - i ∧ i ≤ n ∧ Pv i H, ⟨n, by simp, Nat.zero_le _, h0⟩, ?_⟩
  rintro i m H ⟨rfl, hi, p⟩
  have q := hG i H hi p
  by_cases hlt : i < n
  · exact .inr ⟨w.goes i H hlt q, Pv (i + 1), fun H' p' => ⟨n - (i + 1), by omega, rfl, hlt, p'⟩, fun x H' y => hs i x H H' hlt p (w.yields i H x H' hlt q y)⟩
  · have e : i = n := by omega
    subst e
    exact .inl ⟨w.stops H q, hd H p⟩

section
variable {P : Program} {w : World} {K : PySem.W.Frag} {mg : Str → Option Value} {base : Heap}
theorem tyList {K : PySem.W.Frag} {H : Hp} {l : Addr} {xs : List V} (h : H l = some (.lst xs)) : tyV K "list" (.ref l) H := .inl ⟨rfl, _, SqL.of h⟩
theorem mem_val {kvs : List (Key × V)} {k : Key} {v : V} (h : valV kvs k = some v) : (k, v) ∈ kvs := by
  unfold valV at h
  obtain ⟨p, h1, h2⟩ := Option.map_eq_some_iff.mp h
  have e := List.find?_some h1
  have m := List.mem_of_find?_eq_some h1
  obtain ⟨p1, p2⟩ := p
  have e1 : p1 = k := by simpa using e
  cases h2
  rw [← e1]
  exact m
theorem val_mem {kvs : List (Key × V)} {k : Key} {v : V} (hn : (kvs.map (·.1)).Nodup) (h : (k, v) ∈ kvs) : valV kvs k = some v := by
  cases e : valV kvs k with
  | none => exact absurd (List.mem_map_of_mem (f := (·.1)) h) (valV_not e)
  | some u =>
    have m := mem_val e
    have : (k, u) = (k, v) := by
      obtain ⟨i, hi, e1⟩ := List.mem_iff_getElem.mp m
      obtain ⟨j, hj, e2⟩ := List.mem_iff_getElem.mp h
      have hij : i = j := by
        refine (List.getElem_inj (h₀ := by rw [List.length_map]; exact hi) (h₁ := by rw [List.length_map]; exact hj) hn).mp ?_
        rw [List.getElem_map, List.getElem_map, e1, e2]
      subst hij
      rw [← e1, ← e2]
    rw [(Prod.mk.inj this).2]
/-! ### corridors on the heap -/
def cors (L : List (Addr × Cor)) : List Cor := L.map (·.2)
structure CorAt (H : Hp) (a : Addr) (L : List (Addr × Cor)) : Prop where
  at_ : H a = some (.lst (L.map fun q => V.ref q.1))
  each : ∀ q ∈ L, Rd H q.1 (.tup (prV q.2))
  few : L.length ≤ 20
theorem CorAt.mono {H H' : Hp} {a : Addr} {L : List (Addr × Cor)} (c : CorAt H a L) (e : Same H H') : CorAt H' a L := ⟨e _ _ c.at_, fun q hq => rd_mono (c.each q hq) e, c.few⟩
/-- what joined_rooms gives -/
structure Joined (E : List Cor) (d : Addr) (H : Hp) (kvs : List (Key × V)) : Prop where
  at_ : H d = some (.dK kvs)
  ls : ∀ r v, valV kvs (.inr r) = some v → ∃ (l : Addr) (ys : List Str), v = .ref l ∧ H l = some (.lst (ys.map V.str)) ∧ ys.length < 64 ∧ ∀ x, x ∈ ys ↔ adj E r x
  has : ∀ r x, adj E r x → ∃ v, valV kvs (.inr r) = some v
theorem Joined.mono {H H' : Hp} {E : List Cor} {d : Addr} {kvs : List (Key × V)} (j : Joined E d H kvs) (e : Same H H') : Joined E d H' kvs :=
  ⟨e _ _ j.at_, fun r v h => let ⟨l, ys, h1, h2, h3⟩ := j.ls r v h; ⟨l, ys, h1, e _ _ h2, h3⟩, j.has⟩
/-- the dict while it is made -/
structure JD (H0 : Hp) (D : List Cor) (d : Addr) (H : Hp) (kvs : List (Key × V)) : Prop where
  at_ : H d = some (.dK kvs)
  new : H0 d = none
  same : Same H0 H
  nd : (kvs.map (·.1)).Nodup
  ls : ∀ kv ∈ kvs, ∃ (r : Str) (l : Addr) (xs : List Str), kv = (.inr r, V.ref l) ∧ H0 l = none ∧ H l = some (.lst (xs.map V.str)) ∧ xs.length ≤ D.length ∧ ∀ x, x ∈ xs ↔ (r, x) ∈ D
  inj : ∀ k k' l, (k, V.ref l) ∈ kvs → (k', V.ref l) ∈ kvs → k = k'
  has : ∀ r x, (r, x) ∈ D → (.inr r : Key) ∈ kvs.map (·.1)
  len : kvs.length ≤ D.length + 30
theorem JD.nil {H : Hp} {d : Addr} (h : H d = none) : JD H [] d (upd H d (.dK [])) [] :=
  ⟨upd_same, h, Same.new h, by simp, by simp, by simp, by simp, by simp⟩
theorem JD.fresh {H0 H : Hp} {D : List Cor} {d p : Addr} {kvs : List (Key × V)} {o : HO} (J : JD H0 D d H kvs) (h : H p = none) : JD H0 D d (upd H p o) kvs := by
  have ne : ∀ {b u}, H b = some u → b ≠ p := fun e z => by rw [z, h] at e; cases e
  refine ⟨by rw [upd_ne (ne J.at_)]; exact J.at_, J.new, J.same.then_ h, J.nd, fun kv hk => ?_, J.inj, J.has, J.len⟩
  obtain ⟨r, l, xs, e1, e2, e3, e4⟩ := J.ls kv hk
  exact ⟨r, l, xs, e1, e2, by rw [upd_ne (ne e3)]; exact e3, e4⟩
/-- found.setdefault(r, []).append(x): there -/
theorem JD.old {H0 H : Hp} {D : List Cor} {d : Addr} {kvs : List (Key × V)} (J : JD H0 D d H kvs) {r : Str} {v : V} (h : valV kvs (.inr r) = some v) (x : Str) :
    ∃ (l : Addr) (xs : List Str), v = .ref l ∧ H l = some (.lst (xs.map V.str)) ∧ xs.length ≤ D.length ∧ JD H0 (D ++ [(r, x)]) d (upd H l (.lst (xs.map V.str ++ [.str x]))) kvs := by
  obtain ⟨r', l, xs, e1, e2, e3, e4, e5⟩ := J.ls _ (mem_val h)
  obtain ⟨h1, rfl⟩ := Prod.mk.inj e1
  cases h1
  have nd : d ≠ l := fun z => by rw [← z, J.at_] at e3; cases e3
  refine ⟨l, xs, rfl, e3, e4, by rw [upd_ne nd]; exact J.at_, J.new, J.same.mut e2, J.nd, fun kv hk => ?_, J.inj, fun r2 x2 h2 => ?_, by rw [List.length_append]; have := J.len; omega⟩
  · obtain ⟨r2, l2, xs2, f1, f2, f3, f4, f5⟩ := J.ls kv hk
    by_cases c : l2 = l
    · subst c
      have e : (.inr r2 : Key) = .inr r := J.inj _ _ l2 (f1 ▸ hk) (mem_val h)
      cases e
      refine ⟨r, l2, xs ++ [x], f1, f2, by rw [upd_same, List.map_append]; rfl, by simp; omega, fun y => ?_⟩
      rw [List.mem_append, List.mem_append, e5]
      simp
    · refine ⟨r2, l2, xs2, f1, f2, by rw [upd_ne c]; exact f3, by simp; omega, fun y => ?_⟩
      rw [List.mem_append, f5]
      have : r2 ≠ r := fun z => by
        subst z
        have q1 := val_mem J.nd (f1 ▸ hk)
        rw [h] at q1
        cases q1
        exact c rfl
      simp [this]
  · rcases List.mem_append.mp h2 with q | q
    · exact J.has _ _ q
    · have : (r2, x2) = (r, x) := by simpa using q
      cases this
      exact valV_in h
/-- not there -/
theorem JD.add {H0 H : Hp} {D : List Cor} {d p : Addr} {kvs : List (Key × V)} (J : JD H0 D d H kvs) {r : Str} (h : valV kvs (.inr r) = none) (x : Str) (hp : H0 p = none) (hp' : H p = some (.lst [])) (hi : ∀ k, (k, V.ref p) ∉ kvs) :
    JD H0 (D ++ [(r, x)]) d (upd (upd H d (.dK (putK kvs (.inr r) (.ref p)))) p (.lst [.str x])) (putK kvs (.inr r) (.ref p)) := by
  have nd : d ≠ p := fun z => by rw [← z, J.at_] at hp'; cases hp'
  have no : ∀ y, (r, y) ∉ D := fun y z => valV_not h (J.has _ _ z)
  rw [putK_new _ h]
  refine ⟨by rw [upd_ne nd, upd_same], J.new, (J.same.mut J.new).mut hp, ?_, fun kv hk => ?_, fun k k' l h1 h2 => ?_, fun r2 x2 h2 => ?_, by simp; have := J.len; omega⟩
  · rw [List.map_append, List.nodup_append]
    exact ⟨J.nd, by simp, fun a ha b hb z => valV_not h (by rw [show b = Sum.inr r by simpa using hb] at z; exact z ▸ ha)⟩
  · rcases List.mem_append.mp hk with q | q
    · obtain ⟨r2, l2, xs2, f1, f2, f3, f4, f5⟩ := J.ls kv q
      have n1 : l2 ≠ p := fun z => hi (.inr r2) (z ▸ f1 ▸ q)
      have n2 : l2 ≠ d := fun z => by rw [z, J.at_] at f3; cases f3
      refine ⟨r2, l2, xs2, f1, f2, by rw [upd_ne n1, upd_ne n2]; exact f3, by simp; omega, fun y => ?_⟩
      rw [List.mem_append, f5]
      have : r2 ≠ r := fun z => valV_not h (by rw [← z]; exact (by rw [f1] at q; exact List.mem_map_of_mem (f := (·.1)) q))
      simp [this]
    · have e : kv = (.inr r, V.ref p) := by simpa using q
      refine ⟨r, p, [x], e, hp, upd_same, by simp, fun y => ?_⟩
      rw [List.mem_append]
      simp [no y]
  · rcases List.mem_append.mp h1 with q1 | q1 <;> rcases List.mem_append.mp h2 with q2 | q2
    · exact J.inj _ _ _ q1 q2
    · have e2 : k' = Sum.inr r ∧ l = p := by simpa using q2
      obtain ⟨rfl, rfl⟩ := e2
      exact absurd q1 (hi _)
    · have e1 : k = Sum.inr r ∧ l = p := by simpa using q1
      obtain ⟨rfl, rfl⟩ := e1
      exact absurd q2 (hi _)
    · have e1 : k = Sum.inr r ∧ l = p := by simpa using q1
      have e2 : k' = Sum.inr r ∧ l = p := by simpa using q2
      rw [e1.1, e2.1]
  · rw [List.map_append]
    rcases List.mem_append.mp h2 with q | q
    · exact List.mem_append_left _ (J.has _ _ q)
    · have : (r2, x2) = (r, x) := by simpa using q
      cases this
      exact List.mem_append_right _ (by simp)
theorem setd_append {K : PySem.W.Frag} {H0 H : Hp} {D : List Cor} {d : Addr} {kvs : List (Key × V)} {r x : Str} {n i j : Nat} {σ : L2.St} {N : Ends} (J : JD H0 D d H kvs) (hD : D.length ≤ 60) (hn : σ[n]? = some (some (.ref d))) (hi : σ[i]? = some (some (.str r))) (hj : σ[j]? = some (some (.str x)))
    (k : ∀ kvs' H', JD H0 (D ++ [(r, x)]) d H' kvs' → N.nx σ H') : tDrop (tBM K "list" rAppend (tDSetd (tVar n) (tVar i) (tLst tNil)) (tCons (tVar j) tNil)) N σ H := by
  have hs : sizeLine = 16777216 := sizeLine_eq
  have h1 := J.len
  refine ⟨_, hn, d, rfl, .inl ⟨_, .inl J.at_⟩, _, hi, by show 0 ≤ sizeLine; omega, fun p hp => ?_⟩
  have J' := J.fresh (o := .lst []) hp
  refine ⟨kvs, .inr r, J'.at_, rfl, by omega, fun v hv => ?_, fun hv => ?_⟩
  · obtain ⟨l, xs, rfl, h2, h3, J2⟩ := J'.old hv x
    exact ⟨tyList h2, _, hj, l, _, _, rfl, rfl, h2, by rw [List.length_map]; omega, k _ _ J2⟩
  · have nd : d ≠ p := fun z => by rw [← z, J.at_] at hp; cases hp
    have e1 : (upd (upd H p (.lst [])) d (.dK (putK kvs (.inr r) (.ref p)))) p = some (.lst []) := by rw [upd_ne (Ne.symm nd), upd_same]
    have hi' : ∀ k, (k, V.ref p) ∉ kvs := fun k z => by
      obtain ⟨r2, l2, xs2, f1, f2, f3, _⟩ := J.ls _ z
      obtain ⟨_, f1⟩ := Prod.mk.inj f1
      cases f1
      rw [hp] at f3
      cases f3
    exact ⟨tyList e1, _, hj, p, [], _, rfl, rfl, e1, by show 0 < sizeLine; omega, k _ _ (J'.add hv x (J.same.free hp) upd_same hi')⟩
/-- the dict of levels -/
def oV : Option Str → V
  | none => .non
  | some z => .str z
structure Found (E : List Cor) (start : Str) (d : Addr) (H : Hp) (kvs : List (Key × V)) (ks : List Str) (lv : Str → Nat) (pa : Str → Option Str) : Prop where
  at_ : H d = some (.dK kvs)
  keys : kvs.map (·.1) = ks.map Sum.inr
  lev : Lev E start ks lv pa
  ent : ∀ r ∈ ks, ∃ t : Addr, valV kvs (.inr r) = some (.ref t) ∧ H t = some (.tup [.int (lv r : Nat), oV (pa r)])
/-! ### gcd_of: some int -/
def spGcdOf (K : PySem.W.Frag) : Sp := fun vs H Q _ => ∃ (a : Addr) (ns : List Int), vs = [.ref a] ∧ SqL K H a (ns.map V.int) ∧ ∀ g : Int, Q (.int g) H
theorem sc_gcd_of : FnScope ["numbers", "found", "number", "one", "other"] ["numbers"] (defScope s_gcd_of) := ⟨rfl, rfl, rfl, by decide +kernel, rfl, by decide +kernel, by decide +kernel⟩
theorem ok_gcd_of (T : Says w K mg) : C8.Cal P w K mg base 1 "gcd_of" (spGcdOf K) [] := by
  refine cal_of T.d_gcd_of T.g_gcd_of sc_gcd_of (fun vs H Q E h => ?_) (fun _ _ _ _ _ _ us hl => match us, hl with | [_], _ => rfl) (fun cdv A outer s H vs Q E hr h => ?_)
  · obtain ⟨x, y, rfl, _⟩ := h; rfl
  refine ⟨_, (pss_cons (ps_set (i := 1) sc_gcd_of.nd rfl (Or.inl rfl) pe_int)
    (pss_cons (ps_for PassesOwn.never rfl (pi_list (pv 0)) (pg_name (i := 2) sc_gcd_of.nd rfl (Or.inl rfl)) (pss_cons (ps_par (i := 3) (j := 4) (by rfl) sc_gcd_of.nd rfl rfl (by decide) rfl rfl (pa_cons (pe_callB (id := "abs") call_abs (by rfl) T.z_abs (by decide +kernel) (pa_cons (pv 1) pa_nil)) (pa_cons (pe_callB (id := "abs") call_abs (by rfl) T.z_abs (by decide +kernel) (pa_cons (pv 2) pa_nil)) pa_nil)) (by rfl))
    (pss_cons (ps_while PassesOwn.never (pt_cmpR op_ne (pv 4) pe_int (nomark _)) (pss_one (ps_par (i := 3) (j := 4) (by rfl) sc_gcd_of.nd rfl rfl (by decide) rfl rfl (pa_cons (pv 4) (pa_cons (pe_op op_mod (pv 3) (pv 4)) pa_nil)) (by rfl))))
    (pss_one (ps_set (i := 1) sc_gcd_of.nd rfl (Or.inl rfl) (pv 3))))))
    (pss_one (ps_ret (pv 1))))), ?_⟩
  obtain ⟨a, ns, rfl, hs, k⟩ := h
  refine ⟨_, rfl, a, rfl, ⟨_, hs⟩, for_it walk_list (fun i σ H' => H' = H ∧ ∃ (f : Int) (x y z : Option V), σ = [some (.ref a), some (.int f), x, y, z]) ⟨rfl, 0, none, none, none, rfl⟩ (fun i σ H' _ ⟨e, _⟩ => e ▸ hs) ?_ ?_⟩
  · rintro i x σ H1 H1' hi ⟨rfl, f, y1, y2, y3, rfl⟩ ⟨rfl, hx⟩
    obtain ⟨n, hn, rfl⟩ : ∃ n, ns[i]? = some n ∧ x = .int n := by
      rw [List.getElem?_map] at hx
      obtain ⟨n, h1, h2⟩ := Option.map_eq_some_iff.mp hx
      exact ⟨n, h1, h2.symm⟩
    refine ⟨_, rfl, _, rfl, _, rfl, _, rfl, _, _, rfl, ?_⟩
    refine while_by (fun σ H' => H' = H1' ∧ ∃ (f : Int) (x : Option V) (p q : Int), 0 ≤ q ∧ σ = [some (.ref a), some (.int f), x, some (.int p), some (.int q)]) (fun σ _ => match σ with | [_, _, _, _, some (.int q)] => q.toNat | _ => 0) ⟨rfl, f, _, _, _, by split <;> omega, rfl⟩ ?_ ?_
    · rintro σ H2 ⟨rfl, f, x, p, q, hq, rfl⟩
      refine ⟨_, rfl, rfl, _, rfl, ?_⟩
      refine ite2 (fun c => ?_) (fun c => ?_)
      · have c : q ≠ 0 := by simpa using c
        refine ⟨_, rfl, _, rfl, _, rfl, _, _, rfl, rfl, by omega, _, _, rfl, ⟨rfl, f, x, q, p % q, Int.emod_nonneg _ c, rfl⟩, ?_⟩
        have := Int.emod_lt_of_pos p (show 0 < q by omega)
        show (p % q).toNat < q.toNat
        have := Int.emod_nonneg p c
        omega
      · exact ⟨_, rfl, rfl, _, _, _, _, rfl⟩
    · intro σ H2 Q1 Q2 hq h
      obtain ⟨v, e, hsc, b, eb, h⟩ := h
      exact ⟨v, e, hsc, b, eb, hq _ _ h⟩
  · rintro σ H1 ⟨rfl, f, x, y, z, rfl⟩
    exact ⟨_, rfl, k f⟩
/-! ### joined_rooms -/
theorem sc_joined_rooms : FnScope ["corridors", "found", "one", "other", "room", "near"] ["corridors"] (defScope s_joined_rooms) := ⟨rfl, rfl, rfl, by decide +kernel, rfl, by decide +kernel, by decide +kernel⟩
theorem ok_joined_rooms (T : Says w K mg) : C8.Cal P w K mg base 1 "joined_rooms" (fun vs H Q _ => ∃ a L, vs = [.ref a] ∧ CorAt H a L ∧ ∀ d kvs H', Same H H' → Joined (cors L) d H' kvs → Q (.ref d) H') [] := by
  refine cal_of T.d_joined_rooms T.g_joined_rooms sc_joined_rooms (fun vs H Q E h => ?_) (fun _ _ _ _ _ _ us hl => match us, hl with | [_], _ => rfl) (fun cdv A outer s H vs Q E hr h => ?_)
  · obtain ⟨x, y, rfl, _⟩ := h; rfl
  refine ⟨_, (pss_cons (ps_set (i := 1) sc_joined_rooms.nd rfl (Or.inl rfl) pe_dnewK)
    (pss_cons (ps_for PassesOwn.never rfl (pi_list (pv 0)) (pg_tup rfl (pgs_cons (pg_name (i := 2) sc_joined_rooms.nd rfl (Or.inl rfl)) (pgs_cons (pg_name (i := 3) sc_joined_rooms.nd rfl (Or.inl rfl)) pgs_nil))) (pss_cons (ps_expr (pe_bm PySem.F.plainAttrs_list PySem.F.slot_list_append PySem.F.type_list_append mt_append (pe_dsetd (pv 1) (pv 2) (pe_lst pa_nil) ⟨by rfl, by rfl, by rfl, by rfl⟩) (pa_cons (pv 3) pa_nil)))
    (pss_one (ps_expr (pe_bm PySem.F.plainAttrs_list PySem.F.slot_list_append PySem.F.type_list_append mt_append (pe_dsetd (pv 1) (pv 3) (pe_lst pa_nil) ⟨by rfl, by rfl, by rfl, by rfl⟩) (pa_cons (pv 2) pa_nil))))))
    (pss_one (ps_ret (pe_lock (pe_dc (own := [("room", 4), ("near", 5)]) (g := (gTup K 2 (gCons (gName 4) (gCons (gName 5) gNil)))) (tt := tYes) rfl sc_joined_rooms.nd (pi_items (pv 1)) (blkOk_by (own := [("room", 4), ("near", 5)]) (N := ["corridors", "found", "one", "other", "room", "near"]) (sc := defScope s_joined_rooms) (by decide +kernel)) (fun _ _ _ _ _ => (pg_tup rfl (pgs_cons (pg_name (i := 4) sc_joined_rooms.nd rfl (Or.inl rfl)) (pgs_cons (pg_name (i := 5) sc_joined_rooms.nd rfl (Or.inl rfl)) pgs_nil)))) (fun _ _ _ _ _ => pts_nil) (fun _ _ _ _ _ => (pv 4)) (fun _ _ _ _ _ => (pe_callB (id := "sorted") (r := rSortedS K) cr_sortedS (by rfl) T.z_sorted (by decide +kernel) (pa_cons (pv 5) pa_nil))))))))), ?_⟩
  obtain ⟨a, L, rfl, hc, k⟩ := h
  intro d hd
  have J0 := JD.nil hd
  refine ⟨_, rfl, a, rfl, ⟨_, SqL.of (J0.same _ _ hc.at_)⟩, ?_⟩
  refine for_it (walk_list (xs := L.map fun q => V.ref q.1)) (fun i σ H' => ∃ kvs x y, σ = [some (.ref a), some (.ref d), x, y, none, none] ∧ JD H (both (cors (L.take i))) d H' kvs) ⟨[], _, _, rfl, J0⟩ (fun i σ H' _ ⟨_, _, _, _, J⟩ => SqL.of (J.same _ _ hc.at_)) ?_ ?_
  · rintro i x σ H1 H1' hi ⟨kvs, x1, y1, rfl, J⟩ ⟨rfl, hx⟩
    obtain ⟨q, hq, rfl⟩ : ∃ q, L[i]? = some q ∧ x = .ref q.1 := by
      rw [List.getElem?_map] at hx
      obtain ⟨n, h1, h2⟩ := Option.map_eq_some_iff.mp hx
      exact ⟨n, h1, h2.symm⟩
    have ht := hc.each q (List.mem_of_getElem? hq)
    refine ⟨q.1, _, rfl, .inl (rd_mono ht J.same), rfl, _, _, rfl, _, _, rfl, rfl, ?_⟩
    have hl : (both (cors (L.take i))).length ≤ 40 := by
      have := hc.few
      rw [length_both]; unfold cors; rw [List.length_map, List.length_take]; omega
    refine setd_append (r := q.2.1) (x := q.2.2) J (by omega) rfl rfl rfl fun kvs' H2 J2 => ?_
    refine setd_append (r := q.2.2) (x := q.2.1) J2 (by rw [List.length_append]; simp; omega) rfl rfl rfl fun kvs' H2 J3 => ?_
    refine ⟨kvs', _, _, rfl, ?_⟩
    have e : both (cors (L.take (i + 1))) = both (cors (L.take i)) ++ [(q.2.1, q.2.2)] ++ [(q.2.2, q.2.1)] := by
      unfold cors both
      rw [List.take_add_one, hq, List.map_append, List.flatMap_append]
      simp
    rw [e]
    exact J3
  · rintro σ H1 ⟨kvs, x1, y1, rfl, J⟩
    have hD : (both (cors (L.take (L.map fun q => V.ref q.1).length))).length ≤ 40 := by
      have := hc.few
      rw [length_both]; unfold cors; rw [List.length_map, List.length_take, List.length_map]; omega
    have hE : cors (L.take (L.map fun q => V.ref q.1).length) = cors L := by rw [List.length_map, List.take_length]
    rw [hE] at J hD
    have hl := J.len
    have hs : sizeLine = 16777216 := sizeLine_eq
    refine ⟨d, .dK kvs, J.at_, trivial, fun od => ⟨_, rfl, d, od, kvs, rfl, upd_same, fun e he => ?_⟩⟩
    have hed : e ≠ d := fun z => by rw [z, upd_same] at he; cases he
    refine dc_it walk_items (fun i H' => Same (upd H1 d (.frz od (.dK kvs))) H' ∧ ∃ kvs', H' e = some (.dK kvs') ∧ kvs'.map (·.1) = (kvs.take i).map (·.1) ∧
      ∀ kv ∈ kvs', ∃ (r : Str) (l : Addr) (ys : List Str), kv = (.inr r, V.ref l) ∧ H' l = some (.lst (ys.map V.str)) ∧ ys.length < 64 ∧ ∀ x, x ∈ ys ↔ adj (cors L) r x) ⟨Same.new he, [], upd_same, rfl, by simp⟩ (fun i H' _ h => h.1 _ _ upd_same) ?_ ?_
    · rintro i x H2 H2' hi ⟨s1, kvs', e1, e2, e3⟩ ⟨t, x1, x2, rfl, ht, rfl, h1, h2⟩
      obtain ⟨kv, hkv, rfl⟩ := Option.map_eq_some_iff.mp h1
      obtain ⟨kv2, hkv2, rfl⟩ := Option.map_eq_some_iff.mp h2
      obtain rfl : kv = kv2 := Option.some.inj (hkv.symm.trans hkv2)
      obtain ⟨r, l, xs, rfl, f2, f3, f4, f5⟩ := J.ls _ (List.mem_of_getElem? hkv)
      have nld : l ≠ d := fun z => by rw [z, J.at_] at f3; cases f3
      have f6 : (upd H2 t (.tup [kV (.inr r), V.ref l])) l = some (.lst (xs.map V.str)) := (s1.then_ ht) _ _ (by rw [upd_ne nld]; exact f3)
      refine ⟨t, _, rfl, SqT.of upd_same, rfl, _, _, rfl, _, _, rfl, rfl, rfl, _, rfl, _, rfl, l, xs, rfl, SqL.of f6, by omega, fun ys p hp _ hn => ?_⟩
      have f7 : (upd (upd H2 t (.tup [kV (.inr r), V.ref l])) p (.lst (ys.map V.str))) e = some (.dK kvs') := (Same.new hn) _ _ ((Same.new ht) _ _ e1)
      have hlen : kvs'.length = i := by
        have := congrArg List.length e2
        rw [List.length_map, List.length_map, List.length_take] at this
        omega
      have hnew : valV kvs' (.inr r) = none := by
        cases q : valV kvs' (.inr r) with
        | none => rfl
        | some u =>
          have m := valV_in q
          rw [e2] at m
          obtain ⟨j, hj, ej⟩ := List.mem_iff_getElem.mp m
          have hj' : j < i := by rw [List.length_map, List.length_take] at hj; omega
          rw [List.getElem_map, List.getElem_take] at ej
          have ei := (List.getElem?_eq_some_iff.mp hkv).2
          have : j = i := (List.getElem_inj (h₀ := by rw [List.length_map]; omega) (h₁ := by rw [List.length_map]; exact hi) J.nd).mp (by rw [List.getElem_map, List.getElem_map, ej, ei])
          omega
      refine ⟨kvs', .inr r, rfl, f7, by omega, ?_, putK kvs' (.inr r) (.ref p), upd_same, ?_, fun kv hk => ?_⟩
      · exact ((s1.then_ ht).then_ hn).mut he
      · rw [putK_new _ hnew, List.map_append, e2, List.take_add_one, hkv, List.map_append]
        rfl
      · rw [putK_new _ hnew] at hk
        rcases List.mem_append.mp hk with q | q
        · obtain ⟨r2, l2, ys2, g1, g2, g3⟩ := e3 kv q
          have n2 : l2 ≠ e := fun z => by rw [z, e1] at g2; cases g2
          exact ⟨r2, l2, ys2, g1, by rw [upd_ne n2]; exact (Same.new hn) _ _ ((Same.new ht) _ _ g2), g3⟩
        · have hpe : p ≠ e := fun z => by rw [z, (Same.new ht) _ _ e1] at hn; cases hn
          exact ⟨r, p, ys, by simpa using q, by rw [upd_ne hpe, upd_same], by rw [hp.length_eq]; omega, fun y => by rw [hp.mem_iff, f5, mem_both]⟩
    · rintro H2 ⟨s1, kvs', e1, e2, e3⟩
      rw [List.take_length] at e2
      have nd2 : (kvs'.map (·.1)).Nodup := by rw [e2]; exact J.nd
      refine ⟨s1 _ _ upd_same, k e kvs' _ ?_ ⟨by rw [upd_ne hed]; exact e1, fun r v hv => ?_, fun r x hx => ?_⟩⟩
      · intro b o h
        have hb : b ≠ d := ne_of_none h J.new
        rw [upd_ne hb]
        exact s1 _ _ (by rw [upd_ne hb]; exact J.same _ _ h)
      · obtain ⟨r2, l, ys, g1, g2, g3⟩ := e3 _ (mem_val hv)
        obtain ⟨g4, rfl⟩ := Prod.mk.inj g1
        cases g4
        have nl : l ≠ d := fun z => by rw [z, s1 _ _ upd_same] at g2; cases g2
        exact ⟨l, ys, rfl, by rw [upd_ne nl]; exact g2, g3⟩
      · have m := J.has r x (mem_both.mpr hx)
        rw [← e2] at m
        cases q : valV kvs' (.inr r) with
        | none => exact absurd m (valV_not q)
        | some v => exact ⟨v, rfl⟩
/-! ### steps_from -/
theorem Found.mono {H H' : Hp} {E : List Cor} {start : Str} {d : Addr} {kvs : List (Key × V)} {ks : List Str} {lv : Str → Nat} {pa : Str → Option Str} (F : Found E start d H kvs ks lv pa) (e : Same H H') : Found E start d H' kvs ks lv pa :=
  ⟨e _ _ F.at_, F.keys, F.lev, fun r hr => let ⟨t, h1, h2⟩ := F.ent r hr; ⟨t, h1, e _ _ h2⟩⟩
theorem Found.in_ {H : Hp} {E : List Cor} {start : Str} {d : Addr} {kvs : List (Key × V)} {ks : List Str} {lv : Str → Nat} {pa : Str → Option Str} (F : Found E start d H kvs ks lv pa) (x : Str) : (valV kvs (.inr x)).isSome = decide (x ∈ ks) := by
  cases q : valV kvs (.inr x) with
  | none =>
    have : x ∉ ks := fun z => valV_not q (by rw [F.keys]; exact List.mem_map_of_mem z)
    rw [decide_eq_false this]
    rfl
  | some v =>
    have m := valV_in q
    rw [F.keys] at m
    obtain ⟨y, hy, e⟩ := List.mem_map.mp m
    cases e
    rw [decide_eq_true hy]
    rfl
structure SI (Hj : Hp) (E : List Cor) (start : Str) (f wl : Addr) (n : Nat) (H : Hp) (kvs : List (Key × V)) (ks : List Str) (lv : Str → Nat) (pa : Str → Option Str) : Prop where
  same : Same Hj H
  fd : Found E start f H kvs ks lv pa
  wt : H wl = some (.lst (ks.map V.str))
  n0 : n ≤ ks.length
  done : ∀ i, i < n → ∀ r, ks[i]? = some r → ∀ x, adj E r x → x ∈ ks
theorem SI.fresh {Hj H : Hp} {E : List Cor} {start : Str} {f wl p : Addr} {n : Nat} {kvs : List (Key × V)} {ks : List Str} {lv : Str → Nat} {pa : Str → Option Str} {o : HO} (S : SI Hj E start f wl n H kvs ks lv pa) (h : H p = none) : SI Hj E start f wl n (upd H p o) kvs ks lv pa :=
  ⟨S.same.then_ h, S.fd.mono (Same.new h), (Same.new h) _ _ S.wt, S.n0, S.done⟩
theorem SI.add {Hj H : Hp} {E : List Cor} {start : Str} {f wl t : Addr} {n : Nat} {kvs : List (Key × V)} {ks : List Str} {lv : Str → Nat} {pa : Str → Option Str} (S : SI Hj E start f wl n H kvs ks lv pa) (hf : Hj f = none) (hw : Hj wl = none) (ht : H t = none) {r x : Str} (hr : r ∈ ks) (hx : x ∉ ks) (ha : adj E r x) :
    SI Hj E start f wl n (upd (upd (upd H t (.tup [.int ((lv r + 1 : Nat) : Int), .str r])) f (.dK (putK kvs (.inr x) (.ref t)))) wl (.lst (ks.map V.str ++ [.str x]))) (putK kvs (.inr x) (.ref t)) (ks ++ [x]) (fun y => if y = x then lv r + 1 else lv y) (fun y => if y = x then some r else pa y) := by
  have nfw : f ≠ wl := fun z => by have := S.wt; rw [← z, S.fd.at_] at this; cases this
  have ntf : t ≠ f := fun z => by rw [z, S.fd.at_] at ht; cases ht
  have ntw : t ≠ wl := fun z => by rw [z, S.wt] at ht; cases ht
  have hn : valV kvs (.inr x) = none := by
    have := S.fd.in_ x
    rw [decide_eq_false hx] at this
    cases q : valV kvs (.inr x) with
    | none => rfl
    | some v => rw [q] at this; cases this
  refine ⟨((S.same.then_ ht).mut hf).mut hw, ⟨by rw [upd_ne nfw, upd_same], by rw [putK_new _ hn, List.map_append, S.fd.keys, List.map_append]; rfl, S.fd.lev.more hr hx ha, fun y hy => ?_⟩, by rw [upd_same, List.map_append]; rfl, by rw [List.length_append]; exact Nat.le_trans S.n0 (Nat.le_add_right _ _), fun i hi y hy z hz => ?_⟩
  · rcases List.mem_append.mp hy with h | h
    · obtain ⟨u, h1, h2⟩ := S.fd.ent y h
      have nyx : y ≠ x := fun z => hx (z ▸ h)
      have n1 : u ≠ t := fun z => by rw [z, ht] at h2; cases h2
      have n2 : u ≠ f := fun z => by rw [z, S.fd.at_] at h2; cases h2
      have n3 : u ≠ wl := fun z => by rw [z, S.wt] at h2; cases h2
      have nk : (Sum.inr y : Key) ≠ Sum.inr x := fun z => nyx (by cases z; rfl)
      refine ⟨u, by rw [valV_put, if_neg nk]; exact h1, ?_⟩
      rw [upd_ne n3, upd_ne n2, upd_ne n1, if_neg nyx, if_neg nyx]
      exact h2
    · have e : y = x := by simpa using h
      subst e
      refine ⟨t, by rw [valV_put, if_pos rfl], ?_⟩
      rw [upd_ne ntw, upd_ne ntf, upd_same, if_pos rfl, if_pos rfl]
      rfl
  · have h2 : i < ks.length := Nat.lt_of_lt_of_le hi S.n0
    rw [List.getElem?_append_left h2] at hy
    exact List.mem_append_left _ (S.done i hi y hy z hz)
def spSteps (K : PySem.W.Frag) : Sp := fun vs H Q _ => ∃ start a c L, vs = [.str start, .ref a, .ref c] ∧ (∀ H', SqT K H' c []) ∧ CorAt H a L ∧ ∀ d kvs ks lv pa H', Same H H' → Found (cors L) start d H' kvs ks lv pa → Closed (cors L) ks → Q (.ref d) H'
theorem sc_steps_from : FnScope ["start", "corridors", "closed_rooms", "joined", "found", "waiting", "at", "room", "other"] ["start", "corridors", "closed_rooms"] (defScope s_steps_from) := ⟨rfl, rfl, rfl, by decide +kernel, rfl, by decide +kernel, by decide +kernel⟩
theorem body_steps_from (T : Says w K mg) {f : Addr} : Body P w K mg base "steps_from" s_steps_from ["start", "corridors", "closed_rooms", "joined", "found", "waiting", "at", "room", "other"]
 1 f (spSteps K) := by
  intro cdv A outer s H vs Q E hr h
  refine ⟨_, (pss_cons (ps_set (i := 3) sc_steps_from.nd rfl (Or.inl rfl) (C8.pe_c (ok_joined_rooms T) hr (by decide) rfl (pa_cons (pv 1) pa_nil)))
    (pss_cons (ps_set (i := 4) sc_steps_from.nd rfl (Or.inl rfl) (pe_disp (pps_cons (pv 0) (pe_tup (pa_cons pe_int (pa_cons pe_non pa_nil))) pps_nil) (by rfl) (by rfl) (fun z => by cases z) (by decide)))
    (pss_cons (ps_set (i := 5) sc_steps_from.nd rfl (Or.inl rfl) (pe_lst (pa_cons (pv 0) pa_nil)))
    (pss_cons (ps_set (i := 6) sc_steps_from.nd rfl (Or.inl rfl) pe_int)
    (pss_cons (ps_while PassesOwn.never (pt_cmpR op_lt (pv 6) (pe_callB (id := "len") call_len_seq (by rfl) T.z_len PySem.boot_len (pa_cons (pv 5) pa_nil)) (nomark _)) (pss_cons (ps_set (i := 7) sc_steps_from.nd rfl (Or.inl rfl) (pe_ix (r := rIxL K) ix_list (pv 5) (pv 6) (fun _ _ => rfl)))
    (pss_cons (ps_for PassesOwn.never rfl (pi_list (pe_dget2 (hu_of hr) (pv 3) (pv 7) (pe_lst pa_nil) ⟨by rfl, by rfl, by rfl, by rfl⟩)) (pg_name (i := 8) sc_steps_from.nd rfl (Or.inl rfl)) (pss_one (ps_if (PW.pt (pw_and (pt_cmp (pc_dnotin (hu_of hr) (pv 8) (pv 4))) (pw_and1 (pt_cmpR (r := rIn K true) op_notIn_seq (pv 8) (pv 2) (by rfl))))) (pss_cons (ps_dput (hu_of hr) (pv 4) (pv 8) (pe_tup (pa_cons (pe_op op_add (pe_ix (r := rIxT K) ix_tup (pe_dget (hu_of hr) (pv 4) (pv 7) (fun _ _ => rfl)) pe_int (fun _ _ => rfl)) pe_int) (pa_cons (pv 7) pa_nil))) rfl)
    (pss_one (ps_expr (pe_bm PySem.F.plainAttrs_list PySem.F.slot_list_append PySem.F.type_list_append mt_append (pv 5) (pa_cons (pv 8) pa_nil))))) pss_nil)))
    (pss_one (ps_aug (i := 6) sc_steps_from.nd rfl (Or.inl rfl) pe_int ip_add)))))
    (pss_one (ps_ret (pv 4)))))))), ?_⟩
  obtain ⟨start, a, c, L, rfl, hcl, hc, k⟩ := h
  have hsz : sizeLine = 16777216 := sizeLine_eq
  refine ⟨_, rfl, a, L, rfl, hc, fun j jkvs H1 s1 J => ?_⟩
  intro f hf
  refine ⟨_, rfl, by show 2 ≤ sizeLine; omega, fun t ht => ?_⟩
  have ntf : f ≠ t := fun z => by rw [← z, upd_same] at ht; cases ht
  refine ⟨by rw [upd_ne ntf, upd_same], [(.inr start, .ref t)], rfl, by show 1 ≤ 15; decide, ?_⟩
  refine ⟨_, rfl, by show 1 ≤ sizeLine; omega, fun wl hwl => ?_⟩
  have hwl0 : H1 wl = none := by
    cases q : H1 wl with
    | none => rfl
    | some o => rw [((Same.new hf).then_ ht).mut hf _ _ q] at hwl; cases hwl
  have S0 : SI H1 (cors L) start f wl 0 (upd (upd (upd (upd H1 f (.dK [])) t (.tup [.int 0, .non])) f (.dK [(.inr start, .ref t)])) wl (.lst [.str start])) [(.inr start, .ref t)] [start] (fun _ => 0) (fun _ => none) := by
    have hs1 : ∀ o, (upd (upd (upd (upd H1 f (.dK [])) t (.tup [.int 0, .non])) f (.dK [(.inr start, .ref t)])) wl o) f = some (.dK [(.inr start, .ref t)]) := fun o => (Same.new hwl) _ _ upd_same
    refine ⟨((Same.new hf).then_ ht).mut hf |>.then_ hwl, ⟨hs1 _, rfl, Lev.one _ _, fun r hr => ?_⟩, upd_same, Nat.zero_le _, fun i hi => absurd hi (Nat.not_lt_zero _)⟩
    have e : r = start := by simpa using hr
    subst e
    exact ⟨t, valV_pos rfl, (Same.new hwl) _ _ (by rw [upd_ne (Ne.symm ntf), upd_same]; rfl)⟩
  refine while_by (fun σ H' => ∃ (n : Nat) (x y : Option V) (kvs : List (Key × V)) (ks : List Str) (lv : Str → Nat) (pa : Str → Option Str), σ = [some (.str start), some (.ref a), some (.ref c), some (.ref j), some (.ref f), some (.ref wl), some (.int n), x, y] ∧ SI H1 (cors L) start f wl n H' kvs ks lv pa)
    (fun σ _ => match σ with | [_, _, _, _, _, _, some (.int n), _, _] => (42 - n).toNat | _ => 0) ⟨0, none, none, _, _, _, _, rfl, S0⟩ ?_ ?_
  · rintro σ H2 ⟨n, x, y, kvs, ks, lv, pa, rfl, S⟩
    have hk : ks.length ≤ 41 := by
      have := S.fd.lev.few
      have := hc.few
      unfold cors at *
      rw [List.length_map] at *
      omega
    refine ⟨_, rfl, _, rfl, wl, _, rfl, .inl (SqL.of S.wt), ?_⟩
    refine ⟨_, _, rfl, rfl, _, rfl, ite2d (fun hlt => ?_) (fun hge => ?_)⟩
    · have hlt' : n < ks.length := by rw [List.length_map] at hlt; omega
      have hr : ks[n]? = some ks[n] := List.getElem?_eq_getElem hlt'
      generalize ks[n] = room at hr
      refine ⟨_, rfl, _, rfl, wl, _, _, .str room, rfl, rfl, SqL.of S.wt, atI_nat (by rw [List.getElem?_map, hr]; rfl), ?_⟩
      have J2 := J.mono S.same
      refine ⟨_, rfl, j, rfl, .inl ⟨_, .inl J2.at_⟩, _, rfl, by show 0 ≤ sizeLine; omega, fun p hp => ?_⟩
      have S2 := S.fresh (o := .lst []) hp
      obtain ⟨l0, ys, e0, el, hy, nl⟩ : ∃ (l0 : Addr) (ys : List Str), (valV jkvs (.inr room)).getD (.ref p) = .ref l0 ∧ (upd H2 p (.lst [])) l0 = some (.lst (ys.map V.str)) ∧ (∀ x, x ∈ ys ↔ adj (cors L) room x) ∧ l0 ≠ wl := by
        cases q : valV jkvs (.inr room) with
        | none =>
          refine ⟨p, [], rfl, upd_same, fun x => ⟨fun h => by simp at h, fun h => ?_⟩, fun z => by rw [z, S.wt] at hp; cases hp⟩
          obtain ⟨v, hv⟩ := J.has _ _ h
          rw [q] at hv
          cases hv
        | some v =>
          obtain ⟨l, ys, rfl, h1, _, h2⟩ := J.ls _ _ q
          exact ⟨l, ys, rfl, (S.same.then_ hp) _ _ h1, h2, ne_of_none h1 hwl0⟩
      refine ⟨_, DGet.k (k := .inr room) ((Same.new hp) _ _ J2.at_), l0, e0, ⟨_, SqL.of el⟩, ?_⟩
      refine for_it (walk_list (xs := ys.map V.str)) (fun i σ H' => ∃ (y : Option V) (kvs : List (Key × V)) (ks : List Str) (lv : Str → Nat) (pa : Str → Option Str), σ = [some (.str start), some (.ref a), some (.ref c), some (.ref j), some (.ref f), some (.ref wl), some (.int n), some (.str room), y] ∧ SI H1 (cors L) start f wl n H' kvs ks lv pa ∧
        H' l0 = some (.lst (ys.map V.str)) ∧ ks[n]? = some room ∧ ∀ k', k' < i → ∀ z, ys[k']? = some z → z ∈ ks) ⟨y, kvs, ks, lv, pa, rfl, S2, el, hr, fun k' hk' => absurd hk' (Nat.not_lt_zero _)⟩ (fun i σ H' _ ⟨_, _, _, _, _, _, _, h, _⟩ => SqL.of h) ?_ ?_
      · rintro i v σ H3' H3 hi ⟨y, kvs, ks, lv, pa, rfl, S3, h1, h2, h3⟩ ⟨rfl, hv⟩
        obtain ⟨z, hz, rfl⟩ : ∃ z, ys[i]? = some z ∧ v = .str z := by
          rw [List.getElem?_map] at hv
          obtain ⟨n, h1, h2⟩ := Option.map_eq_some_iff.mp hv
          exact ⟨n, h1, h2.symm⟩
        have hk3 : ks.length ≤ 41 := by
          have := S3.fd.lev.few
          have := hc.few
          unfold cors at *
          rw [List.length_map] at *
          omega
        have hkl : kvs.length = ks.length := by
          have := congrArg List.length S3.fd.keys
          rwa [List.length_map, List.length_map] at this
        have next : ∀ ks' : List Str, (∀ x ∈ ks, x ∈ ks') → z ∈ ks' → ∀ k', k' < i + 1 → ∀ x, ys[k']? = some x → x ∈ ks' := fun ks' hs hz' k' hk' x hx => by
          by_cases e : k' < i
          · exact hs x (h3 k' e x hx)
          · have : k' = i := by omega
            rw [this, hz] at hx
            cases hx
            exact hz'
        refine ⟨_, rfl, _, rfl, f, _, rfl, DGet.k (k := .inr z) S3.fd.at_, ?_⟩
        refine ⟨_, rfl, ?_⟩
        rw [S3.fd.in_]
        refine ite2n (fun hnz => ?_) (fun hz' => ?_)
        · have hrm : room ∈ ks := List.mem_of_getElem? h2
          obtain ⟨u, hu, hut⟩ := S3.fd.ent room hrm
          have hg : DGet H3 f (.str room) (some (.ref u)) := by
            have := DGet.k (k := .inr room) S3.fd.at_
            rwa [hu] at this
          refine ⟨_, rfl, _, rfl, c, [], rfl, .inr (hcl _), rfl, rfl, _, rfl, iteT ?_⟩
          refine ⟨_, rfl, _, rfl, f, _, rfl, hg, u, _, 0, _, rfl, rfl, SqT.of hut, rfl, _, _, rfl, rfl, _, rfl, by show 2 ≤ sizeLine; omega, fun t ht => ?_⟩
          have S4 := S3.add hf hwl0 ht hrm hnz ((hy z).mp (List.mem_of_getElem? hz))
          have nfw : f ≠ wl := fun z => by have := S3.wt; rw [← z, S3.fd.at_] at this; cases this
          refine ⟨_, rfl, _, rfl, f, _, rfl, DPut.k (k := .inr z) ((Same.new ht) _ _ S3.fd.at_) (by omega), ?_⟩
          have hw2 : (upd (upd H3 t (.tup [.int ((lv room : Nat) + 1 : Int), .str room])) f (.dK (putK kvs (.inr z) (.ref t)))) wl = some (.lst (ks.map V.str)) := by
            rw [upd_ne (Ne.symm nfw)]
            exact (Same.new ht) _ _ S3.wt
          refine ⟨_, rfl, tyList hw2, _, rfl, wl, _, _, rfl, rfl, hw2, by rw [List.length_map]; omega, ?_⟩
          refine ⟨_, _, _, _, _, rfl, S4, ?_, by rw [List.getElem?_append_left (List.getElem?_eq_some_iff.mp h2).1]; exact h2, next _ (fun x hx => List.mem_append_left _ hx) (List.mem_append_right _ (by simp))⟩
          have n1 : l0 ≠ f := fun z => by rw [z, S3.fd.at_] at h1; cases h1
          rw [upd_ne nl, upd_ne n1]
          exact (Same.new ht) _ _ h1
        · exact ⟨_, _, _, _, _, rfl, S3, h1, h2, next _ (fun x hx => hx) hz'⟩
      · rintro σ H3 ⟨y, kvs, ks, lv, pa, rfl, S3, h1, h2, h3⟩
        refine ⟨_, rfl, _, _, rfl, rfl, ?_⟩
        refine ⟨⟨n + 1, _, _, kvs, ks, lv, pa, rfl, S3.same, S3.fd, S3.wt, (List.getElem?_eq_some_iff.mp h2).1, fun i hi r hr x ha => ?_⟩, ?_⟩
        · by_cases e : i < n
          · exact S3.done i e r hr x ha
          · have : i = n := by omega
            rw [this, h2] at hr
            cases hr
            have m := (hy x).mpr ha
            obtain ⟨q, hq, e⟩ := List.mem_iff_getElem.mp m
            exact h3 q (by rw [List.length_map]; exact hq) x (by rw [List.getElem?_eq_getElem hq, e])
        · show (42 - ((n : Int) + 1)).toNat < (42 - (n : Int)).toNat
          omega
    · refine ⟨_, rfl, ?_⟩
      exact k _ _ _ _ _ _ (s1.trans S.same) S.fd fun r hr x ha => by
        obtain ⟨i, hi, e⟩ := List.mem_iff_getElem.mp hr
        exact S.done i (by rw [List.length_map] at hge; omega) r (by rw [List.getElem?_eq_getElem hi, e]) x ha
  · intro σ H2 Q1 Q2 hq h
    obtain ⟨v, e, v2, e2, l, ys, e3, e4, i, j, e5, e6, b, eb, h⟩ := h
    exact ⟨v, e, v2, e2, l, ys, e3, e4, i, j, e5, e6, b, eb, hq _ _ h⟩
theorem emptyTup {K : PySem.W.Frag} {c : Addr} (h : (match K.lookup c with | some ⟨.type c, _, .seq its _, _⟩ => decide (c = "tuple") && its.isEmpty | _ => false) = true) (H : Hp) : SqT K H c [] := by
  cases q : K.lookup c with
  | none => rw [q] at h; cases h
  | some o =>
    rw [q] at h
    obtain ⟨cls, dd, data, sl⟩ := o
    cases cls with
    | type ty =>
      cases data with
      | seq its n =>
        simp only [Bool.and_eq_true, decide_eq_true_eq] at h
        obtain ⟨h1, h2⟩ := h
        have e : its = #[] := Array.isEmpty_iff.mp h2
        subst h1 e
        exact .inr ⟨_, _, n, q, rfl, rfl, by simp, .nil⟩
      | _ => cases h
    | _ => cases h
theorem lenSteps (K : PySem.W.Frag) : ∀ vs H Q E, spSteps K vs H Q E → vs.length = ["start", "corridors", "closed_rooms"].length := fun vs H Q E h => by
  obtain ⟨x, y, z, t, rfl, _⟩ := h; rfl
theorem ok_steps_from (T : Says w K mg) : C8.Cal P w K mg base 2 "steps_from" (spSteps K) [.ref (He.dflAt ("steps_from", none) 0 K)] :=
  calD_of T.d_steps_from T.g_steps_from sc_steps_from (lenSteps K) 2 0 (by simp) rfl (fun T kV doc pm an cdv ct us its h1 h2 => match us, its, h1, h2 with | [_, _], [_], _, _ => ⟨_, rfl, rfl⟩) (body_steps_from T)
theorem ok_steps_from3 (T : Says w K mg) : C8.Cal P w K mg base 2 "steps_from" (spSteps K) [] :=
  calD_of T.d_steps_from T.g_steps_from sc_steps_from (lenSteps K) 3 1 (by simp) rfl (fun T kV doc pm an cdv ct us its h1 h2 => match us, its, h1, h2 with | [_, _, _], [_], _, _ => ⟨_, rfl, rfl⟩) (body_steps_from T)
/-! ### reached_from: a list closed under corridors -/
theorem sc_reached_from : FnScope ["start", "corridors", "closed_rooms"] ["start", "corridors", "closed_rooms"] (defScope s_reached_from) := ⟨rfl, rfl, rfl, by decide +kernel, rfl, by decide +kernel, by decide +kernel⟩
def spReached (K : PySem.W.Frag) : Sp := fun vs H Q _ => ∃ start a c L, vs = [.str start, .ref a, .ref c] ∧ (∀ H', SqT K H' c []) ∧ CorAt H a L ∧ ∀ (l : Addr) (ks : List Str) H', Same H H' → H' l = some (.lst (ks.map V.str)) → start ∈ ks → Closed (cors L) ks → Q (.ref l) H'
theorem ok_reached_from (T : Says w K mg) : C8.Cal P w K mg base 3 "reached_from" (spReached K) [.ref (He.dflAt ("reached_from", none) 0 K)] := by
  refine calD_of T.d_reached_from T.g_reached_from sc_reached_from (fun vs H Q E h => ?_) 2 0 (by simp) rfl (fun T kV doc pm an cdv ct us its h1 h2 => match us, its, h1, h2 with | [_, _], [_], _, _ => ⟨_, rfl, rfl⟩) (fun cdv A outer s H vs Q E hr h => ?_)
  · obtain ⟨x, y, z, t, rfl, _⟩ := h; rfl
  refine ⟨_, (pss_one (ps_ret (pe_callTy (T := "list") (call_listD rfl) (by rfl) T.z_list (by decide +kernel) (pa_cons (C8.pe_c (ok_steps_from3 T) hr (by decide) rfl (pa_cons (pv 0) (pa_cons (pv 1) (pa_cons (pv 2) pa_nil)))) pa_nil)))), ?_⟩
  obtain ⟨start, a, c, L, rfl, hcl, hc, k⟩ := h
  refine ⟨_, rfl, _, rfl, _, rfl, start, a, c, L, rfl, hcl, hc, fun d kvs ks lv pa H1 s1 F cl => ?_⟩
  refine ⟨d, kvs, rfl, .inl F.at_, fun p hp => k p ks _ (s1.then_ hp) ?_ F.lev.st cl⟩
  rw [upd_same, show kvs.map (fun kv => kV kv.1) = (kvs.map (·.1)).map kV from by rw [List.map_map]; rfl, F.keys, List.map_map]
  rfl
end
end RD

/-! RDRings: sides, rings, bridges. -/
namespace RD
open PySem PySem.Spec PyProof.Rows L2
section
variable {P : Program} {w : World} {K : PySem.W.Frag} {mg : Str → Option Value} {base : Heap}
/-! ### level_corridor -/
theorem Found.get {H : Hp} {E : List Cor} {start : Str} {d : Addr} {kvs : List (Key × V)} {ks : List Str} {lv : Str → Nat} {pa : Str → Option Str} (F : Found E start d H kvs ks lv pa) {r : Str} (hr : r ∈ ks) :
    ∃ t, DGet H d (.str r) (some (.ref t)) ∧ H t = some (.tup [.int (lv r : Nat), oV (pa r)]) := by
  obtain ⟨t, h1, h2⟩ := F.ent r hr
  refine ⟨t, ?_, h2⟩
  have := DGet.k (k := .inr r) F.at_
  rwa [h1] at this
/-- the i-th corridor -/
theorem corAt_get {L : List (Addr × Cor)} {i : Nat} {x : V} (hx : (L.map fun q => V.ref q.1)[i]? = some x) : ∃ q, L[i]? = some q ∧ x = .ref q.1 := by
  rw [List.getElem?_map] at hx
  obtain ⟨n, h1, h2⟩ := Option.map_eq_some_iff.mp hx
  exact ⟨n, h1, h2.symm⟩
theorem cor_mem {L : List (Addr × Cor)} {i : Nat} {q : Addr × Cor} (hq : L[i]? = some q) : q.2 ∈ cors L := List.mem_map_of_mem (List.mem_of_getElem? hq)
theorem sc_level_corridor : FnScope ["levels", "corridors", "one", "other"] ["levels", "corridors"] (defScope s_level_corridor) := ⟨rfl, rfl, rfl, by decide +kernel, rfl, by decide +kernel, by decide +kernel⟩
theorem ok_level_corridor (T : Says w K mg) : C8.Cal P w K mg base 1 "level_corridor" (fun vs H Q _ => ∃ d a L start kvs ks lv pa, vs = [.ref d, .ref a] ∧ CorAt H a L ∧ Found (cors L) start d H kvs ks lv pa ∧ (∀ q ∈ cors L, q.1 ∈ ks ∧ q.2 ∈ ks) ∧ Q .non H ∧
    ∀ q ∈ cors L, lv q.1 = lv q.2 → ∀ p, H p = none → Q (.ref p) (upd H p (.tup (prV q)))) [] := by
  refine cal_of T.d_level_corridor T.g_level_corridor sc_level_corridor (fun vs H Q E h => ?_) (fun _ _ _ _ _ _ us hl => match us, hl with | [_, _], _ => rfl) (fun cdv A outer s H vs Q E hr h => ?_)
  · obtain ⟨_, _, _, _, _, _, _, _, rfl, _⟩ := h; rfl
  refine ⟨_, (pss_cons (ps_for PassesOwn.never rfl (pi_list (pv 1)) (pg_tup rfl (pgs_cons (pg_name (i := 2) sc_level_corridor.nd rfl (Or.inl rfl)) (pgs_cons (pg_name (i := 3) sc_level_corridor.nd rfl (Or.inl rfl)) pgs_nil))) (pss_one (ps_if (pt_cmpR op_eq (pe_ix (r := rIxT K) ix_tup (pe_dget (hu_of hr) (pv 0) (pv 2) (fun _ _ => rfl)) pe_int (fun _ _ => rfl)) (pe_ix (r := rIxT K) ix_tup (pe_dget (hu_of hr) (pv 0) (pv 3) (fun _ _ => rfl)) pe_int (fun _ _ => rfl)) (nomark _)) (pss_one (ps_ret (pe_tup (pa_cons (pv 2) (pa_cons (pv 3) pa_nil))))) pss_nil)))
    (pss_one (ps_ret pe_non))), ?_⟩
  obtain ⟨d, a, L, start, kvs, ks, lv, pa, rfl, hc, F, he, k0, k1⟩ := h
  refine ⟨_, rfl, a, rfl, ⟨_, SqL.of hc.at_⟩, for_it (walk_list (xs := L.map fun q => V.ref q.1)) (fun i σ H' => H' = H ∧ ∃ x y, σ = [some (.ref d), some (.ref a), x, y]) ⟨rfl, _, _, rfl⟩ (fun i σ H' _ ⟨e, _⟩ => by rw [e]; exact SqL.of hc.at_) ?_ ?_⟩
  · rintro i x σ H1 H1' hi ⟨rfl, x1, y1, rfl⟩ ⟨rfl, hx⟩
    obtain ⟨q, hq, rfl⟩ := corAt_get hx
    have ht := hc.each q (List.mem_of_getElem? hq)
    obtain ⟨e1, e2⟩ := he _ (cor_mem hq)
    obtain ⟨t1, g1, f1⟩ := F.get e1
    obtain ⟨t2, g2, f2⟩ := F.get e2
    refine ⟨q.1, _, rfl, .inl ht, rfl, _, _, rfl, _, _, rfl, rfl, ?_⟩
    refine ⟨_, rfl, _, rfl, d, _, rfl, g1, t1, _, 0, _, rfl, rfl, SqT.of f1, rfl, _, rfl, _, rfl, d, _, rfl, g2, t2, _, 0, _, rfl, rfl, SqT.of f2, rfl, rfl, _, rfl, ite2d (fun c => ?_) (fun c => ?_)⟩
    · refine ⟨_, rfl, _, rfl, by show 2 ≤ sizeLine; rw [sizeLine_eq]; omega, k1 _ (cor_mem hq) ?_⟩
      injection c with c
      omega
    · exact ⟨rfl, _, _, rfl⟩
  · rintro σ H1 ⟨rfl, x, y, rfl⟩
    exact k0
/-! ### the plan's graph -/
structure Plan (E : List Cor) (rs : List Str) : Prop where
  ends : ∀ q ∈ E, q.1 ∈ rs ∧ q.2 ∈ rs
  conn : Conn E rs
  ne : rs ≠ []
  few : rs.length ≤ 30
theorem Plan.all {E : List Cor} {rs ks : List Str} (p : Plan E rs) {m : Str} (hm : m ∈ rs) (hk : m ∈ ks) (c : Closed E ks) : ∀ r ∈ rs, r ∈ ks := c.all p.conn ⟨m, hm, hk⟩
/-! ### sides_of -/
theorem Plan.small {E : List Cor} {rs : List Str} (p : Plan E rs) : rs.length < 64 := by have := p.few; omega
def spSides : Sp := fun vs H Q _ => ∃ r a rs L, vs = [.ref r, .ref a] ∧ H r = some (.lst (rs.map V.str)) ∧ CorAt H a L ∧ Plan (cors L) rs ∧ (∀ H', Same H H' → Q .non H') ∧
    ∀ (p l1 l2 : Addr) (xs ys : List Str) H', Same H H' → H' p = some (.tup [.ref l1, .ref l2]) → H' l1 = some (.lst (xs.map V.str)) → H' l2 = some (.lst (ys.map V.str)) → (∀ x ∈ xs, x ∈ rs) → (∀ x ∈ ys, x ∈ rs) → xs.length ≤ 30 → ys.length ≤ 30 → Q (.ref p) H'
theorem side_lc {H : Hp} {E : List Cor} {start : Str} {r a d : Addr} {kvs : List (Key × V)} {ks rs : List Str} {lv : Str → Nat} {pa : Str → Option Str} (F : Found E start d H kvs ks lv pa) (hR : H r = some (.lst (rs.map V.str))) (hf : rs.length ≤ 30) (hall : ∀ x ∈ rs, x ∈ ks) (c : Int) (f x : Option V) {Q : VK}
    (k : ∀ (D : Addr) (xs : List Str) H', Same H H' → H' D = some (.lst (xs.map V.str)) → (∀ x ∈ xs, x ∈ rs) → xs.length ≤ 30 → Q (.ref D) H') :
    tLc (iList K (tCB (rSortedS K) (tCons (tVar 0) tNil))) (gName 4) (tTest (tOp rEq (tOp (rI (fun x j => 0 < j) fun i j => V.int (i % j)) (tOp (rIxT K) (tDGet (tVar 2) (tVar 4)) (tC (V.int 0))) (tC (V.int 2))) (tC (V.int c)))) (tVar 4) [4] [some (.ref r), some (.ref a), some (.ref d), f, x] H Q := by
  refine ⟨_, rfl, r, rs, rfl, SqL.of hR, by omega, fun ys p hp _ hn => ?_⟩
  refine ⟨p, rfl, ⟨_, SqL.of upd_same⟩, fun D hD => ?_⟩
  have hyl : ys.length ≤ 30 := by rw [hp.length_eq]; exact hf
  refine lc_it (walk_list (xs := ys.map V.str)) (fun i H' => Same (upd H p (.lst (ys.map V.str))) H' ∧ ∃ xs : List Str, H' D = some (.lst (xs.map V.str)) ∧ (∀ x ∈ xs, x ∈ rs) ∧ xs.length ≤ i) ⟨Same.new hD, [], upd_same, by simp, by simp⟩ (fun i H' _ h => SqL.of (h.1 _ _ upd_same)) ?_ ?_
  · rintro i v H1 H2 hi ⟨s1, xs, e1, e2, e3⟩ ⟨rfl, hv⟩
    obtain ⟨z, hz, rfl⟩ : ∃ z, ys[i]? = some z ∧ v = .str z := by
      rw [List.getElem?_map] at hv
      obtain ⟨n, h1, h2⟩ := Option.map_eq_some_iff.mp hv
      exact ⟨n, h1, h2.symm⟩
    have hzr : z ∈ rs := hp.mem_iff.mp (List.mem_of_getElem? hz)
    obtain ⟨t, g1, f1⟩ := (F.mono ((Same.new hn).trans s1)).get (hall z hzr)
    refine ⟨rfl, _, rfl, _, rfl, d, _, rfl, g1, t, _, 0, _, rfl, rfl, SqT.of f1, rfl, _, _, rfl, rfl, (show (0 : Int) < 2 by decide), rfl, _, rfl, ite2d (fun _ => ?_) (fun _ => ?_)⟩
    · refine ⟨_, rfl, _, e1, ?_, s1.mut hD, xs ++ [z], ?_, ?_, ?_⟩
      · rw [List.length_map, sizeLine_eq]; rw [List.length_map] at hi; omega
      · rw [upd_same, List.map_append]; rfl
      · intro x hx
        rcases List.mem_append.mp hx with q | q
        · exact e2 x q
        · rw [show x = z by simpa using q]; exact hzr
      · rw [List.length_append]; simp; omega
    · exact ⟨s1, xs, e1, e2, by omega⟩
  · rintro H1 ⟨s1, xs, e1, e2, e3⟩
    rw [List.length_map] at e3
    exact k D xs H1 ((Same.new hn).trans s1) e1 e2 (by omega)
theorem sc_sides_of : FnScope ["rooms", "corridors", "levels", "first", "room"] ["rooms", "corridors"] (defScope s_sides_of) := ⟨rfl, rfl, rfl, by decide +kernel, rfl, by decide +kernel, by decide +kernel⟩
theorem ok_sides_of (T : Says w K mg) : C8.Cal P w K mg base 3 "sides_of" spSides [] := by
  refine cal_of T.d_sides_of T.g_sides_of sc_sides_of (fun vs H Q E h => ?_) (fun _ _ _ _ _ _ us hl => match us, hl with | [_, _], _ => rfl) (fun cdv A outer s H vs Q E hr h => ?_)
  · obtain ⟨_, _, _, _, rfl, _⟩ := h; rfl
  refine ⟨_, (pss_cons (ps_set (i := 2) sc_sides_of.nd rfl (Or.inr rfl) (C8.pe_c (ok_steps_from T) hr (by decide) rfl (pa_cons (pe_callB (id := "min") (cr_minS rfl) (by rfl) T.z_min (by decide +kernel) (pa_cons (pv 0) pa_nil)) (pa_cons (pv 1) pa_nil))))
    (pss_cons (ps_if (pt_cmpR op_notN (C8.pe_c (ok_level_corridor T) hr (by decide) rfl (pa_cons (pv 2) (pa_cons (pv 1) pa_nil))) pe_non (nomark _)) (pss_one (ps_ret pe_non)) pss_nil)
    (pss_cons (ps_setLc (i := 3) (own := [("room", 4)]) (g := (gName 4)) rfl sc_sides_of.nd rfl rfl (sw_true rfl rfl rfl (by decide +kernel)) (pi_list (pe_callB (id := "sorted") (r := rSortedS K) cr_sortedS (by rfl) T.z_sorted (by decide +kernel) (pa_cons (pv 0) pa_nil))) (blkOk_by (own := [("room", 4)]) (N := ["rooms", "corridors", "levels", "first", "room"]) (sc := defScope s_sides_of) (by decide +kernel)) (fun _ _ _ _ _ => (pg_name (i := 4) sc_sides_of.nd rfl (Or.inl rfl))) (fun _ _ _ _ _ => (pts_one (pt_cmpR op_eq (pe_op op_mod (pe_ix (r := rIxT K) ix_tup (pe_dget (hu_of hr) (pv 2) (pv 4) (fun _ _ => rfl)) pe_int (fun _ _ => rfl)) pe_int) pe_int (nomark _)))) (fun _ _ _ _ _ => (pv 4)))
    (pss_one (ps_ret (pe_tup (pa_cons (pv 3) (pa_cons (pe_lc (own := [("room", 4)]) (g := (gName 4)) rfl sc_sides_of.nd (pi_list (pe_callB (id := "sorted") (r := rSortedS K) cr_sortedS (by rfl) T.z_sorted (by decide +kernel) (pa_cons (pv 0) pa_nil))) (blkOk_by (own := [("room", 4)]) (N := ["rooms", "corridors", "levels", "first", "room"]) (sc := defScope s_sides_of) (by decide +kernel)) (fun _ _ _ _ _ => (pg_name (i := 4) sc_sides_of.nd rfl (Or.inl rfl))) (fun _ _ _ _ _ => (pts_one (pt_cmpR op_eq (pe_op op_mod (pe_ix (r := rIxT K) ix_tup (pe_dget (hu_of hr) (pv 2) (pv 4) (fun _ _ => rfl)) pe_int (fun _ _ => rfl)) pe_int) pe_int (nomark _)))) (fun _ _ _ _ _ => (pv 4))) pa_nil)))))))), ?_⟩
  obtain ⟨r, a, rs, L, rfl, hR, hc, hp, k0, k1⟩ := h
  refine ⟨_, rfl, r, rs, rfl, SqL.of hR, hp.ne, fun m hm => ⟨_, rfl, ?_⟩⟩
  refine ⟨m, a, _, L, rfl, emptyTup T.t_steps_from, hc, fun d kvs ks lv pa H1 s1 F cl => ?_⟩
  have hall := hp.all hm F.lev.st cl
  have hends : ∀ q ∈ cors L, q.1 ∈ ks ∧ q.2 ∈ ks := fun q hq => ⟨hall _ (hp.ends q hq).1, hall _ (hp.ends q hq).2⟩
  refine ⟨_, rfl, _, rfl, d, a, L, m, kvs, ks, lv, pa, rfl, hc.mono s1, F, hends, ?_, ?_⟩
  · refine ⟨rfl, _, rfl, iteF ?_⟩
    dsimp only [tNext, tSeq, tAsg]
    refine side_lc (K := K) (a := a) F (s1 _ _ hR) hp.few hall 0 none none fun l1 xs H2 s2 h1 h2 h3 => ?_
    refine ⟨_, rfl, ?_⟩
    dsimp only [tCons, tNil]
    refine side_lc (K := K) (a := a) (F.mono s2) ((s1.trans s2) _ _ hR) hp.few hall 1 (some (.ref l1)) none fun l2 ys H3 s3 h4 h5 h6 => ?_
    refine ⟨by show 2 ≤ sizeLine; rw [sizeLine_eq]; omega, fun p hp' => k1 p l1 l2 xs ys _ (((s1.trans s2).trans s3).then_ hp') upd_same ?_ ?_ h2 h5 h3 h6⟩
    · exact (Same.new hp') _ _ (s3 _ _ h1)
    · exact (Same.new hp') _ _ h4
  · intro q hq hl p hp'
    refine ⟨rfl, _, rfl, iteT ?_⟩
    exact k0 _ (s1.then_ hp')
/-! ### odd_ring_of -/
def spOdd : Sp := fun vs H Q _ => ∃ r a rs L, vs = [.ref r, .ref a] ∧ H r = some (.lst (rs.map V.str)) ∧ CorAt H a L ∧ Plan (cors L) rs ∧ (∀ H', Same H H' → Q .non H') ∧ ∀ (p : Addr) (xs : List V) H', Same H H' → H' p = some (.tup xs) → Q (.ref p) H'
theorem sc_odd_ring_of : FnScope ["rooms", "corridors", "levels", "corridor", "ahead", "behind"] ["rooms", "corridors"] (defScope s_odd_ring_of) := ⟨rfl, rfl, rfl, by decide +kernel, rfl, by decide +kernel, by decide +kernel⟩
theorem ok_odd_ring_of (T : Says w K mg) : C8.Cal P w K mg base 3 "odd_ring_of" spOdd [] := by
  refine cal_of T.d_odd_ring_of T.g_odd_ring_of sc_odd_ring_of (fun vs H Q E h => ?_) (fun _ _ _ _ _ _ us hl => match us, hl with | [_, _], _ => rfl) (fun cdv A outer s H vs Q E hr h => ?_)
  · obtain ⟨_, _, _, _, rfl, _⟩ := h; rfl
  refine ⟨_, (pss_cons (ps_set (i := 2) sc_odd_ring_of.nd rfl (Or.inl rfl) (C8.pe_c (ok_steps_from T) hr (by decide) rfl (pa_cons (pe_callB (id := "min") (cr_minS rfl) (by rfl) T.z_min (by decide +kernel) (pa_cons (pv 0) pa_nil)) (pa_cons (pv 1) pa_nil))))
    (pss_cons (ps_set (i := 3) sc_odd_ring_of.nd rfl (Or.inl rfl) (C8.pe_c (ok_level_corridor T) hr (by decide) rfl (pa_cons (pv 2) (pa_cons (pv 1) pa_nil))))
    (pss_cons (ps_if (pt_cmpR op_isN (pv 3) pe_non (nomark _)) (pss_one (ps_ret pe_non)) pss_nil)
    (pss_cons (ps_par (i := 4) (j := 5) (by rfl) sc_odd_ring_of.nd rfl rfl (by decide) rfl rfl (pa_cons (pe_lst (pa_cons (pe_ix (r := rIxT K) ix_tup (pv 3) pe_int (fun _ _ => rfl)) pa_nil)) (pa_cons (pe_lst (pa_cons (pe_ix (r := rIxT K) ix_tup (pv 3) pe_int (fun _ _ => rfl)) pa_nil)) pa_nil)) (by rfl))
    (pss_cons (ps_while PassesOwn.never (pt_cmpR op_ne (pe_ix (r := rIxL K) ix_list (pv 4) (pe_un un_neg pe_int) (fun _ _ => rfl)) (pe_ix (r := rIxL K) ix_list (pv 5) (pe_un un_neg pe_int) (fun _ _ => rfl)) (nomark _)) (pss_cons (ps_expr (pe_bm PySem.F.plainAttrs_list PySem.F.slot_list_append PySem.F.type_list_append mt_append (pv 4) (pa_cons (pe_ix (r := rIxT K) ix_tup (pe_dget (hu_of hr) (pv 2) (pe_ix (r := rIxL K) ix_list (pv 4) (pe_un un_neg pe_int) (fun _ _ => rfl)) (fun _ _ => rfl)) pe_int (fun _ _ => rfl)) pa_nil)))
    (pss_one (ps_expr (pe_bm PySem.F.plainAttrs_list PySem.F.slot_list_append PySem.F.type_list_append mt_append (pv 5) (pa_cons (pe_ix (r := rIxT K) ix_tup (pe_dget (hu_of hr) (pv 2) (pe_ix (r := rIxL K) ix_list (pv 5) (pe_un un_neg pe_int) (fun _ _ => rfl)) (fun _ _ => rfl)) pe_int (fun _ _ => rfl)) pa_nil))))))
    (pss_one (ps_ret (pe_callTy (T := "tuple") call_tuple_of (by rfl) T.z_tuple (by decide +kernel) (pa_cons (pe_op op_cat (pv 4) (pe_rev2 (pv 5))) pa_nil))))))))), ?_⟩
  obtain ⟨r, a, rs, L, rfl, hR, hc, hp, k0, k1⟩ := h
  refine ⟨_, rfl, r, rs, rfl, SqL.of hR, hp.ne, fun m hm => ⟨_, rfl, ?_⟩⟩
  refine ⟨m, a, _, L, rfl, emptyTup T.t_steps_from, hc, fun d kvs ks lv pa H1 s1 F cl => ?_⟩
  have hall := hp.all hm F.lev.st cl
  have hends : ∀ q ∈ cors L, q.1 ∈ ks ∧ q.2 ∈ ks := fun q hq => ⟨hall _ (hp.ends q hq).1, hall _ (hp.ends q hq).2⟩
  refine ⟨_, rfl, _, rfl, d, a, L, m, kvs, ks, lv, pa, rfl, hc.mono s1, F, hends, ?_, ?_⟩
  · refine ⟨_, rfl, rfl, _, rfl, iteT ?_⟩
    exact k0 _ s1
  · intro q hq hl p hp'
    refine ⟨_, rfl, rfl, _, rfl, iteF ?_⟩
    have hpt : (upd H1 p (.tup (prV q))) p = some (.tup (prV q)) := upd_same
    obtain ⟨e1, e2⟩ := hends q hq
    refine ⟨_, rfl, _, _, 0, _, rfl, rfl, SqT.of hpt, rfl, by show 1 ≤ sizeLine; rw [sizeLine_eq]; omega, fun l1 hl1 => ?_⟩
    refine ⟨_, rfl, _, _, 1, _, rfl, rfl, SqT.of ((Same.new hl1) _ _ hpt), rfl, by show 1 ≤ sizeLine; rw [sizeLine_eq]; omega, fun l2 hl2 => ?_⟩
    refine ⟨_, _, rfl, ?_⟩
    have hn1 : H1 l1 = none := (Same.new hp').free hl1
    have hn2 : H1 l2 = none := ((Same.new hp').then_ hl1).free hl2
    have n12 : l1 ≠ l2 := fun z => by rw [← z, upd_same] at hl2; cases hl2
    have hbig : sizeLine = 16777216 := sizeLine_eq
    have hks : ks.length ≤ 41 := by
      have := F.lev.few
      have := hc.few
      unfold cors at *
      rw [List.length_map] at *
      omega
    have step : ∀ {H2 : Hp} {u : Str}, Same H1 H2 → u ∈ ks → lv u ≠ 0 → ∃ t p', DGet H2 d (.str u) (some (.ref t)) ∧ H2 t = some (.tup [.int (lv u : Nat), .str p']) ∧ p' ∈ ks ∧ lv u = lv p' + 1 := fun {H2 u} s2 hu h0 => by
      have hne : u ≠ m := fun z => h0 (by rw [z]; exact F.lev.z)
      obtain ⟨p', hp1, hp2, hp3, _⟩ := F.lev.up u hu hne
      obtain ⟨t, g1, f1⟩ := (F.mono s2).get hu
      rw [hp2] at f1
      exact ⟨t, p', g1, f1, hp1, hp3⟩
    refine while_by (fun σ H' => ∃ (xs ys : List V) (u v : Str), σ = [some (.ref r), some (.ref a), some (.ref d), some (.ref p), some (.ref l1), some (.ref l2)] ∧ Same H1 H' ∧ H' l1 = some (.lst (xs ++ [.str u])) ∧ H' l2 = some (.lst (ys ++ [.str v])) ∧ u ∈ ks ∧ v ∈ ks ∧ lv u = lv v ∧ xs.length + lv u ≤ 41 ∧ ys.length + lv u ≤ 41)
      (fun σ H' => match H' l1 with | some (.lst zs) => 100 - zs.length | _ => 0) ⟨[], [], q.1, q.2, rfl, ((Same.new hp').then_ hl1).then_ hl2, (Same.new hl2) _ _ upd_same, upd_same, e1, e2, hl, by have := F.lev.lo _ e1; simp; omega, by have := F.lev.lo _ e1; simp; omega⟩ ?_ ?_
    · rintro σ H2 ⟨xs, ys, u, v, rfl, s2, f1, f2, hu, hv, huv, bx, by_⟩
      refine ⟨_, rfl, 1, rfl, l1, _, -1, .str u, rfl, rfl, SqL.of f1, atI_last _ _, _, rfl, 1, rfl, l2, _, -1, .str v, rfl, rfl, SqL.of f2, atI_last _ _, rfl, _, rfl, ite2n (fun hne => ?_) (fun heq => ?_)⟩
      · have h0 : lv u ≠ 0 := fun z => hne (by rw [F.lev.zero hu z, F.lev.zero hv (huv ▸ z)])
        have h0v : lv v ≠ 0 := fun z => h0 (huv ▸ z)
        obtain ⟨t1, p1, g1, x1, hp1, hl1'⟩ := step s2 hu h0
        refine ⟨_, rfl, tyList f1, _, rfl, _, rfl, 1, rfl, l1, _, -1, .str u, rfl, rfl, SqL.of f1, atI_last _ _, d, _, rfl, g1, t1, _, 1, _, rfl, rfl, SqT.of x1, rfl, l1, _, _, rfl, rfl, f1, by simp; omega, ?_⟩
        have f2' : (upd H2 l1 (.lst (xs ++ [.str u] ++ [.str p1]))) l2 = some (.lst (ys ++ [.str v])) := by rw [upd_ne (Ne.symm n12)]; exact f2
        have s3 : Same H1 (upd H2 l1 (.lst (xs ++ [.str u] ++ [.str p1]))) := s2.mut hn1
        obtain ⟨t2, p2, g2, x2, hp2, hl2'⟩ := step s3 hv h0v
        refine ⟨_, rfl, tyList f2', _, rfl, _, rfl, 1, rfl, l2, _, -1, .str v, rfl, rfl, SqL.of f2', atI_last _ _, d, _, rfl, g2, t2, _, 1, _, rfl, rfl, SqT.of x2, rfl, l2, _, _, rfl, rfl, f2', by simp; omega, ?_⟩
        refine ⟨⟨xs ++ [.str u], ys ++ [.str v], p1, p2, rfl, s3.mut hn2, by rw [upd_ne n12, upd_same], upd_same, hp1, hp2, by omega, by simp; omega, by simp; omega⟩, ?_⟩
        rw [upd_ne n12, upd_same, f1]
        simp
        omega
      · refine ⟨_, rfl, _, rfl, l2, _, rfl, SqL.of f2, fun z zs hz hzl => ?_⟩
        have nz1 : z ≠ l1 := fun e => by rw [e, f1] at hz; cases hz
        rw [List.length_append] at hzl
        refine ⟨l1, z, _, zs, rfl, rfl, (Same.new hz) _ _ f1, upd_same, by rw [List.length_append]; simp only [List.length_cons, List.length_nil] at hzl ⊢; omega, fun y hy => ?_⟩
        refine ⟨y, _, rfl, .inl ⟨SqL.of upd_same, fun t ht => k1 t _ _ ((((s1.trans s2).then_ hz).then_ hy).then_ ht) upd_same⟩⟩
    · intro σ H2 Q1 Q2 hq h
      obtain ⟨v1, a1, i1, a2, b1, b2, b3, b4, a3, a4, a5, a6, v2, a7, i2, a8, c1, c2, c3, c4, a9, d1, d2, d3, d4, b, eb, h⟩ := h
      exact ⟨v1, a1, i1, a2, b1, b2, b3, b4, a3, a4, a5, a6, v2, a7, i2, a8, c1, c2, c3, c4, a9, d1, d2, d3, d4, b, eb, hq _ _ h⟩
/-! ### on_rings -/
theorem put_keys {kvs : List (Key × V)} {fs : List Str} (h : kvs.map (·.1) = fs.map Sum.inr) (hn : fs.Nodup) (x : Str) (v : V) :
    ∃ fs' : List Str, (putK kvs (.inr x) v).map (·.1) = fs'.map Sum.inr ∧ fs'.Nodup ∧ ∀ y ∈ fs', y = x ∨ y ∈ fs := by
  cases q : valV kvs (.inr x) with
  | none =>
    have hx : x ∉ fs := fun z => valV_not q (by rw [h]; exact List.mem_map_of_mem z)
    refine ⟨fs ++ [x], by rw [putK_new _ q, List.map_append, h, List.map_append]; rfl, ?_, fun y hy => ?_⟩
    · rw [List.nodup_append]
      exact ⟨hn, by simp, fun a ha b hb z => hx (by rw [show b = x by simpa using hb] at z; exact z ▸ ha)⟩
    · rcases List.mem_append.mp hy with e | e
      · exact .inr e
      · exact .inl (by simpa using e)
  | some u =>
    refine ⟨fs, ?_, hn, fun y hy => .inr hy⟩
    have : (kvs.any fun kv => decide (kv.1 = Sum.inr x)) = true := by rw [valV_any, q] <;> rfl
    unfold putK
    rw [if_pos this, List.map_map, ← h]
    refine List.map_congr_left fun kv _ => ?_
    show (if kv.1 = Sum.inr x then (kv.1, v) else kv).1 = kv.1
    split <;> rfl
theorem sc (o : Option Str) (z : Str) : scal (oV o) (.str z) = true := by cases o <;> rfl
theorem sc_on_rings : FnScope ["levels", "corridors", "found", "one", "other"] ["levels", "corridors"] (defScope s_on_rings) := ⟨rfl, rfl, rfl, by decide +kernel, rfl, by decide +kernel, by decide +kernel⟩
theorem ok_on_rings (T : Says w K mg) : C8.Cal P w K mg base 1 "on_rings" (fun vs H Q _ => ∃ d a L start kvs ks lv pa, vs = [.ref d, .ref a] ∧ CorAt H a L ∧ Found (cors L) start d H kvs ks lv pa ∧ (∀ q ∈ cors L, q.1 ∈ ks ∧ q.2 ∈ ks) ∧
    ∀ f kvs' H', Same H H' → H' f = some (.dK kvs') → Q (.ref f) H') [] := by
  refine cal_of T.d_on_rings T.g_on_rings sc_on_rings (fun vs H Q E h => ?_) (fun _ _ _ _ _ _ us hl => match us, hl with | [_, _], _ => rfl) (fun cdv A outer s H vs Q E hr h => ?_)
  · obtain ⟨_, _, _, _, _, _, _, _, rfl, _⟩ := h; rfl
  refine ⟨_, (pss_cons (ps_set (i := 2) sc_on_rings.nd rfl (Or.inl rfl) pe_dnewK)
    (pss_cons (ps_for PassesOwn.never rfl (pi_list (pv 1)) (pg_tup rfl (pgs_cons (pg_name (i := 3) sc_on_rings.nd rfl (Or.inl rfl)) (pgs_cons (pg_name (i := 4) sc_on_rings.nd rfl (Or.inl rfl)) pgs_nil))) (pss_one (ps_if (PW.pt (pw_and (pt_cmpR op_ne (pe_ix (r := rIxT K) ix_tup (pe_dget (hu_of hr) (pv 0) (pv 3) (fun _ _ => rfl)) pe_int (fun _ _ => rfl)) (pv 4) (nomark _)) (pw_and1 (pt_cmpR op_ne (pe_ix (r := rIxT K) ix_tup (pe_dget (hu_of hr) (pv 0) (pv 4) (fun _ _ => rfl)) pe_int (fun _ _ => rfl)) (pv 3) (nomark _))))) (pss_one (ps_while PassesOwn.never (pt_cmpR op_ne (pv 3) (pv 4) (nomark _)) (pss_cons (ps_if (pt_cmpR op_lt (pe_ix (r := rIxT K) ix_tup (pe_dget (hu_of hr) (pv 0) (pv 3) (fun _ _ => rfl)) pe_int (fun _ _ => rfl)) (pe_ix (r := rIxT K) ix_tup (pe_dget (hu_of hr) (pv 0) (pv 4) (fun _ _ => rfl)) pe_int (fun _ _ => rfl)) (nomark _)) (pss_one (ps_par (i := 3) (j := 4) (by rfl) sc_on_rings.nd rfl rfl (by decide) rfl rfl (pa_cons (pv 4) (pa_cons (pv 3) pa_nil)) (by rfl))) pss_nil)
    (pss_cons (ps_dput (hu_of hr) (pv 2) (pv 3) pe_bl rfl)
    (pss_one (ps_set (i := 3) sc_on_rings.nd rfl (Or.inl rfl) (pe_ix (r := rIxT K) ix_tup (pe_dget (hu_of hr) (pv 0) (pv 3) (fun _ _ => rfl)) pe_int (fun _ _ => rfl)))))))) pss_nil)))
    (pss_one (ps_ret (pv 2))))), ?_⟩
  obtain ⟨d, a, L, start, kvs, ks, lv, pa, rfl, hc, F, he, k⟩ := h
  intro f hf
  have hks : ks.length ≤ 41 := by
    have := F.lev.few
    have := hc.few
    unfold cors at *
    rw [List.length_map] at *
    omega
  have s0 : Same H (upd H f (.dK [])) := Same.new hf
  refine ⟨_, rfl, a, rfl, ⟨_, SqL.of (s0 _ _ hc.at_)⟩, for_it (walk_list (xs := L.map fun q => V.ref q.1)) (fun i σ H' => Same H H' ∧ (∃ x y, σ = [some (.ref d), some (.ref a), some (.ref f), x, y]) ∧ ∃ fk fs, H' f = some (.dK fk) ∧ fk.map (·.1) = fs.map Sum.inr ∧ fs.Nodup ∧ ∀ y ∈ fs, y ∈ ks)
    ⟨s0, ⟨_, _, rfl⟩, [], [], upd_same, rfl, by simp, by simp⟩ (fun i σ H' _ h => SqL.of (h.1 _ _ hc.at_)) ?_ ?_⟩
  · rintro i x σ H1 H1' hi ⟨s1, ⟨x1, y1, rfl⟩, fk, fs, e1, e2, e3, e4⟩ ⟨rfl, hx⟩
    obtain ⟨q, hq, rfl⟩ := corAt_get hx
    have ht := hc.each q (List.mem_of_getElem? hq)
    obtain ⟨m1, m2⟩ := he _ (cor_mem hq)
    obtain ⟨t1, g1, f1⟩ := (F.mono s1).get m1
    obtain ⟨t2, g2, f2⟩ := (F.mono s1).get m2
    refine ⟨q.1, _, rfl, .inl (rd_mono ht s1), rfl, _, _, rfl, _, _, rfl, rfl, ?_⟩
    refine ⟨_, rfl, _, rfl, d, _, rfl, g1, t1, _, 1, _, rfl, rfl, SqT.of f1, rfl, _, rfl, sc _ _, _, rfl, ite2 (fun _ => ?_) (fun _ => iteF ?_)⟩
    · refine ⟨_, rfl, _, rfl, d, _, rfl, g2, t2, _, 1, _, rfl, rfl, SqT.of f2, rfl, _, rfl, sc _ _, _, rfl, ite2 (fun _ => ?_) (fun _ => ?_)⟩
      · refine while_by (fun σ H' => Same H H' ∧ (∃ u v, σ = [some (.ref d), some (.ref a), some (.ref f), some (.str u), some (.str v)] ∧ u ∈ ks ∧ v ∈ ks) ∧ ∃ fk fs, H' f = some (.dK fk) ∧ fk.map (·.1) = fs.map Sum.inr ∧ fs.Nodup ∧ ∀ y ∈ fs, y ∈ ks)
          (fun σ _ => match σ with | [_, _, _, some (.str u), some (.str v)] => lv u + lv v | _ => 0) ⟨s1, ⟨_, _, rfl, m1, m2⟩, fk, fs, e1, e2, e3, e4⟩ ?_ ?_
        · rintro σ H2 ⟨s2, ⟨u, v, rfl, hu, hv⟩, fk, fs, e1, e2, e3, e4⟩
          refine ⟨_, rfl, _, rfl, rfl, _, rfl, ite2n (fun hne => ?_) (fun _ => ⟨s2, ⟨_, _, rfl⟩, fk, fs, e1, e2, e3, e4⟩)⟩
          have hlen : fk.length ≤ 41 := by
            have := congrArg List.length e2
            rw [List.length_map, List.length_map] at this
            have := nodup_le e3 e4
            omega
          have fin : ∀ u v, u ∈ ks → v ∈ ks → u ≠ v → lv v ≤ lv u → ∀ N : Ends, (∀ p', p' ∈ ks → lv u = lv p' + 1 → ∀ H3, Same H H3 → (∃ (fk : List (Key × V)) (fs : List Str), H3 f = some (.dK fk) ∧ fk.map (·.1) = fs.map Sum.inr ∧ fs.Nodup ∧ ∀ y ∈ fs, y ∈ ks) → N.nx [some (.ref d), some (.ref a), some (.ref f), some (.str p'), some (.str v)] H3) →
              tSeq (sDPut (tVar 2) (tVar 3) (tC (.bl true))) (tAsg (tOp (rIxT K) (tDGet (tVar 0) (tVar 3)) (tC (V.int 1))) (gName 3)) N [some (.ref d), some (.ref a), some (.ref f), some (.str u), some (.str v)] H2 := fun u v hu hv hne hle N hN => by
            have h0 : lv u ≠ 0 := fun z => hne (by rw [F.lev.zero hu z, F.lev.zero hv (by omega)])
            have hus : u ≠ start := fun z => h0 (by rw [z]; exact F.lev.z)
            obtain ⟨p', hp1, hp2, hp3, _⟩ := F.lev.up u hu hus
            obtain ⟨fs', q1, q2, q3⟩ := put_keys e2 e3 u (.bl true)
            have s3 : Same H (upd H2 f (.dK (putK fk (.inr u) (.bl true)))) := s2.mut hf
            obtain ⟨t, g, x⟩ := (F.mono s3).get hu
            rw [hp2] at x
            refine ⟨_, rfl, _, rfl, f, _, rfl, DPut.k (k := .inr u) e1 (by rw [sizeLine_eq]; omega), ?_⟩
            refine ⟨_, rfl, _, rfl, d, _, rfl, g, t, _, 1, _, rfl, rfl, SqT.of x, rfl, ?_⟩
            exact hN p' hp1 hp3 _ s3 ⟨_, fs', upd_same, q1, q2, fun y hy => (q3 y hy).elim (fun e => e ▸ hu) (e4 y)⟩
          have hne' : u ≠ v := fun z => hne (by rw [z])
          obtain ⟨t1, g1, x1⟩ := (F.mono s2).get hu
          obtain ⟨t2, g2, x2⟩ := (F.mono s2).get hv
          refine ⟨_, rfl, _, rfl, d, _, rfl, g1, t1, _, 0, _, rfl, rfl, SqT.of x1, rfl, _, rfl, _, rfl, d, _, rfl, g2, t2, _, 0, _, rfl, rfl, SqT.of x2, rfl, _, _, rfl, rfl, _, rfl, ite2d (fun hlt => ?_) (fun hge => ?_)⟩
          · refine ⟨_, rfl, _, rfl, _, _, rfl, fin v u hv hu (Ne.symm hne') (by omega) _ fun p' hp' hl H3 s3 h3 => ⟨⟨s3, ⟨_, _, rfl, hp', hu⟩, h3⟩, ?_⟩⟩
            show lv p' + lv u < lv u + lv v
            omega
          · refine fin u v hu hv hne' (by omega) _ fun p' hp' hl H3 s3 h3 => ⟨⟨s3, ⟨_, _, rfl, hp', hv⟩, h3⟩, ?_⟩
            show lv p' + lv v < lv u + lv v
            omega
        · intro σ H2 Q1 Q2 hq h
          obtain ⟨v1, a1, v2, a2, a3, b, eb, h⟩ := h
          exact ⟨v1, a1, v2, a2, a3, b, eb, hq _ _ h⟩
      · exact ⟨s1, ⟨_, _, rfl⟩, fk, fs, e1, e2, e3, e4⟩
    · exact ⟨s1, ⟨_, _, rfl⟩, fk, fs, e1, e2, e3, e4⟩
  · rintro σ H1 ⟨s1, ⟨x, y, rfl⟩, fk, fs, e1, _⟩
    exact ⟨_, rfl, k f fk _ s1 e1⟩
/-! ### bridges_of -/
def spBridges : Sp := fun vs H Q _ => ∃ r a rs L, vs = [.ref r, .ref a] ∧ H r = some (.lst (rs.map V.str)) ∧ CorAt H a L ∧ Plan (cors L) rs ∧ ∀ (p : Addr) (xs : List V) H', Same H H' → H' p = some (.lst xs) → xs.length ≤ 40 → Q (.ref p) H'
theorem sc_bridges_of : FnScope ["rooms", "corridors", "levels", "ringed", "found", "one", "other", "lower", "upper"] ["rooms", "corridors"] (defScope s_bridges_of) := ⟨rfl, rfl, rfl, by decide +kernel, rfl, by decide +kernel, by decide +kernel⟩
theorem ok_bridges_of (T : Says w K mg) : C8.Cal P w K mg base 3 "bridges_of" spBridges [] := by
  refine cal_of T.d_bridges_of T.g_bridges_of sc_bridges_of (fun vs H Q E h => ?_) (fun _ _ _ _ _ _ us hl => match us, hl with | [_, _], _ => rfl) (fun cdv A outer s H vs Q E hr h => ?_)
  · obtain ⟨_, _, _, _, rfl, _⟩ := h; rfl
  refine ⟨_, (pss_cons (ps_set (i := 2) sc_bridges_of.nd rfl (Or.inl rfl) (C8.pe_c (ok_steps_from T) hr (by decide) rfl (pa_cons (pe_callB (id := "min") (cr_minS rfl) (by rfl) T.z_min (by decide +kernel) (pa_cons (pv 0) pa_nil)) (pa_cons (pv 1) pa_nil))))
    (pss_cons (ps_par (i := 3) (j := 4) (by rfl) sc_bridges_of.nd rfl rfl (by decide) rfl rfl (pa_cons (C8.pe_c (ok_on_rings T) hr (by decide) rfl (pa_cons (pv 2) (pa_cons (pv 1) pa_nil))) (pa_cons (pe_lst pa_nil) pa_nil)) (by rfl))
    (pss_cons (ps_for PassesOwn.never rfl (pi_list (pv 1)) (pg_tup rfl (pgs_cons (pg_name (i := 5) sc_bridges_of.nd rfl (Or.inl rfl)) (pgs_cons (pg_name (i := 6) sc_bridges_of.nd rfl (Or.inl rfl)) pgs_nil))) (pss_cons (ps_set (i := 7) sc_bridges_of.nd rfl (Or.inl rfl) (pe_ifExp (pt_cmpR op_eq (pe_ix (r := rIxT K) ix_tup (pe_dget (hu_of hr) (pv 2) (pv 5) (fun _ _ => rfl)) pe_int (fun _ _ => rfl)) (pv 6) (nomark _)) (pv 5) (pv 6)))
    (pss_cons (ps_set (i := 8) sc_bridges_of.nd rfl (Or.inl rfl) (pe_ifExp (pt_cmpR op_eq (pv 7) (pv 5) (nomark _)) (pv 6) (pv 5)))
    (pss_one (ps_if (PW.pt (pw_and (pt_cmpR op_eq (pe_ix (r := rIxT K) ix_tup (pe_dget (hu_of hr) (pv 2) (pv 7) (fun _ _ => rfl)) pe_int (fun _ _ => rfl)) (pv 8) (nomark _)) (pw_and1 (pt_cmp (pc_dnotin (hu_of hr) (pv 7) (pv 3)))))) (pss_one (ps_expr (pe_bm PySem.F.plainAttrs_list PySem.F.slot_list_append PySem.F.type_list_append mt_append (pv 4) (pa_cons (pe_tup (pa_cons (pv 5) (pa_cons (pv 6) pa_nil))) pa_nil)))) pss_nil)))))
    (pss_one (ps_ret (pv 4)))))), ?_⟩
  obtain ⟨r, a, rs, L, rfl, hR, hc, hp, k⟩ := h
  refine ⟨_, rfl, r, rs, rfl, SqL.of hR, hp.ne, fun m hm => ⟨_, rfl, ?_⟩⟩
  refine ⟨m, a, _, L, rfl, emptyTup T.t_steps_from, hc, fun d kvs ks lv pa H1 s1 F cl => ?_⟩
  have hall := hp.all hm F.lev.st cl
  have hends : ∀ q ∈ cors L, q.1 ∈ ks ∧ q.2 ∈ ks := fun q hq => ⟨hall _ (hp.ends q hq).1, hall _ (hp.ends q hq).2⟩
  refine ⟨_, rfl, _, rfl, d, a, L, m, kvs, ks, lv, pa, rfl, hc.mono s1, F, hends, fun f fk H2 s2 e2 => ?_⟩
  refine ⟨by show 0 ≤ sizeLine; rw [sizeLine_eq]; omega, fun l hl => ⟨_, _, rfl, ?_⟩⟩
  have s3 : Same H1 (upd H2 l (.lst [])) := s2.then_ hl
  have hl1 : H2 l = none := hl
  refine ⟨_, rfl, a, rfl, ⟨_, SqL.of (s3 _ _ (s1 _ _ hc.at_))⟩, for_it (walk_list (xs := L.map fun q => V.ref q.1)) (fun i σ H' => Same H2 H' ∧ (∃ x y z t, σ = [some (.ref r), some (.ref a), some (.ref d), some (.ref f), some (.ref l), x, y, z, t]) ∧ ∃ xs, H' l = some (.lst xs) ∧ xs.length ≤ i)
    ⟨Same.new hl, ⟨_, _, _, _, rfl⟩, [], upd_same, by simp⟩ (fun i σ H' _ h => SqL.of (h.1 _ _ (s2 _ _ (s1 _ _ hc.at_)))) ?_ ?_⟩
  · rintro i x σ H3 H3' hi ⟨s4, ⟨x1, y1, z1, t1, rfl⟩, xs, e3, e4⟩ ⟨rfl, hx⟩
    obtain ⟨q, hq, rfl⟩ := corAt_get hx
    have ht := hc.each q (List.mem_of_getElem? hq)
    obtain ⟨m1, m2⟩ := hends _ (cor_mem hq)
    have Fn := (F.mono s2).mono s4
    obtain ⟨t1, g1, f1⟩ := Fn.get m1
    refine ⟨q.1, _, rfl, .inl (rd_mono ht ((s1.trans s2).trans s4)), rfl, _, _, rfl, _, _, rfl, rfl, ?_⟩
    refine ⟨_, rfl, _, rfl, d, _, rfl, g1, t1, _, 1, _, rfl, rfl, SqT.of f1, rfl, _, rfl, sc _ _, _, rfl, ?_⟩
    obtain ⟨t2, g2, f2⟩ := Fn.get m2
    have hbig : sizeLine = 16777216 := sizeLine_eq
    have hi' : i < 20 := by rw [List.length_map] at hi; have := hc.few; omega
    refine ite2 (fun _ => ?_) (fun _ => ?_)
    all_goals refine ⟨_, rfl, ?_⟩
    all_goals refine ⟨_, rfl, _, rfl, rfl, _, rfl, ite2 (fun _ => ?_) (fun _ => ?_)⟩
    all_goals refine ⟨_, rfl, ?_⟩
    all_goals first
      | refine ⟨_, rfl, _, rfl, d, _, rfl, g1, t1, _, 1, _, rfl, rfl, SqT.of f1, rfl, _, rfl, sc _ _, _, rfl, ite2 (fun _ => ?_) (fun _ => iteF ?_)⟩
      | refine ⟨_, rfl, _, rfl, d, _, rfl, g2, t2, _, 1, _, rfl, rfl, SqT.of f2, rfl, _, rfl, sc _ _, _, rfl, ite2 (fun _ => ?_) (fun _ => iteF ?_)⟩
    all_goals first
      | exact ⟨s4, ⟨_, _, _, _, rfl⟩, xs, e3, by omega⟩
      | refine ⟨_, rfl, _, rfl, f, _, rfl, DGet.k (k := .inr _) (s4 _ _ e2), _, rfl, ite2 (fun _ => ?_) (fun _ => ⟨s4, ⟨_, _, _, _, rfl⟩, xs, e3, by omega⟩)⟩
    all_goals
      refine ⟨_, rfl, tyList e3, _, rfl, _, rfl, by show 2 ≤ sizeLine; omega, fun p hp' => ?_⟩
      have nl : l ≠ p := fun z => by rw [← z, e3] at hp'; cases hp'
      refine ⟨l, xs, _, rfl, rfl, (Same.new hp') _ _ e3, by omega, (s4.then_ hp').mut hl1, ⟨_, _, _, _, rfl⟩, _, upd_same, by simp; omega⟩
  · rintro σ H3 ⟨s4, ⟨x1, y1, z1, t1, rfl⟩, xs, e3, e4⟩
    rw [List.length_map] at e4
    exact ⟨_, rfl, k l xs _ ((s1.trans s2).trans s4) e3 (by have := hc.few; omega)⟩
end
end RD

/-! RDBuild: Building. -/
namespace RD
open PySem PySem.Spec PyProof.Rows L2
/-! ### dicts of ints over rooms -/
def iD (rs : List Str) (f : Str → Int) : List (Key × V) := rs.map fun r => (Sum.inr r, V.int (f r))
theorem iD_keys (rs : List Str) (f : Str → Int) : (iD rs f).map (·.1) = rs.map Sum.inr := by unfold iD; rw [List.map_map]; rfl
theorem iD_len (rs : List Str) (f : Str → Int) : (iD rs f).length = rs.length := by unfold iD; rw [List.length_map]
theorem iD_val (rs : List Str) (f : Str → Int) (r : Str) : valV (iD rs f) (.inr r) = if r ∈ rs then some (.int (f r)) else none := by
  unfold iD
  induction rs with
  | nil => rfl
  | cons a l ih =>
    rw [List.map_cons]
    by_cases e : a = r
    · subst e
      rw [valV_pos rfl, if_pos (List.mem_cons_self ..)]
    · rw [valV_neg (by intro z; cases z; exact e rfl), ih]
      have : (r ∈ a :: l) ↔ r ∈ l := by
        rw [List.mem_cons]
        exact ⟨fun h => h.elim (fun z => absurd z.symm e) id, .inr⟩
      simp only [this]
theorem iD_in {rs : List Str} {f : Str → Int} {r : Str} (h : r ∈ rs) : valV (iD rs f) (.inr r) = some (.int (f r)) := by rw [iD_val, if_pos h]
theorem iD_some (rs : List Str) (f : Str → Int) (r : Str) : (valV (iD rs f) (.inr r)).isSome = decide (r ∈ rs) := by
  rw [iD_val]
  by_cases e : r ∈ rs
  · rw [if_pos e, decide_eq_true e] <;> rfl
  · rw [if_neg e, decide_eq_false e] <;> rfl
theorem iD_put {rs : List Str} {f : Str → Int} {r : Str} (h : r ∈ rs) (i : Int) : putK (iD rs f) (.inr r) (.int i) = iD rs fun x => if x = r then i else f x := by
  have : ((iD rs f).any fun kv => decide (kv.1 = Sum.inr r)) = true := by rw [valV_any, iD_in h] <;> rfl
  unfold putK
  rw [if_pos this]
  unfold iD
  rw [List.map_map]
  refine List.map_congr_left fun x _ => ?_
  show (if (Sum.inr x : Key) = Sum.inr r then (Sum.inr x, V.int i) else (Sum.inr x, V.int (f x))) = (Sum.inr x, V.int (if x = r then i else f x))
  by_cases e : x = r
  · rw [if_pos (by rw [e]), if_pos e]
  · rw [if_neg (by intro z; cases z; exact e rfl), if_neg e]
theorem iD_new {rs : List Str} {f : Str → Int} {r : Str} (h : r ∉ rs) (i : Int) : putK (iD rs f) (.inr r) (.int i) = iD (rs ++ [r]) fun x => if x = r then i else f x := by
  have q : valV (iD rs f) (.inr r) = none := by rw [iD_val, if_neg h]
  rw [putK_new _ q]
  unfold iD
  rw [List.map_append]
  congr 1
  · refine List.map_congr_left fun x hx => ?_
    have e : x ≠ r := fun z => h (z ▸ hx)
    show _ = (Sum.inr x, V.int (if x = r then i else f x))
    rw [if_neg e]
  · show _ = [(Sum.inr r, V.int (if r = r then i else f r))]
    rw [if_pos rfl]
theorem iD_congr {rs : List Str} {f g : Str → Int} (h : ∀ r ∈ rs, f r = g r) : iD rs f = iD rs g := List.map_congr_left fun r hr => by rw [h r hr]
theorem iD_at {rs : List Str} {f : Str → Int} {i : Nat} {k : Key} {v : V} (h : (iD rs f)[i]? = some (k, v)) : ∃ r, r ∈ rs ∧ k = .inr r ∧ v = .int (f r) := by
  have := List.mem_of_getElem? h
  unfold iD at this
  obtain ⟨r, h1, h2⟩ := List.mem_map.mp this
  exact ⟨r, h1, (Prod.mk.inj h2).1.symm, (Prod.mk.inj h2).2.symm⟩
theorem not_take {α : Type} {l : List α} (hn : l.Nodup) {i : Nat} {x : α} (h : l[i]? = some x) : x ∉ l.take i := fun z => by
  obtain ⟨j, hj, ej⟩ := List.mem_iff_getElem.mp z
  rw [List.getElem_take] at ej
  have hj1 : j < i := by rw [List.length_take] at hj; omega
  obtain ⟨hi, ei⟩ := List.getElem?_eq_some_iff.mp h
  have : j = i := (List.getElem_inj hn).mp (ej.trans ei.symm)
  omega
theorem take_one {α : Type} {l : List α} {i : Nat} {x : α} (h : l[i]? = some x) : l.take (i + 1) = l.take i ++ [x] := by rw [List.take_add_one, h]; rfl
theorem str_at {ys : List Str} {i : Nat} {v : V} (h : (ys.map V.str)[i]? = some v) : ∃ z, ys[i]? = some z ∧ v = .str z := by
  rw [List.getElem?_map] at h
  obtain ⟨n, h1, h2⟩ := Option.map_eq_some_iff.mp h
  exact ⟨n, h1, h2.symm⟩
theorem DGet.i {H : Hp} {a : Addr} {rs : List Str} {f : Str → Int} {r : Str} (e : Rd H a (.dK (iD rs f))) (h : r ∈ rs) : DGet H a (.str r) (some (.int (f r))) := .inl ⟨_, .inr r, e, rfl, (iD_in h).symm⟩
theorem DGet.is {H : Hp} {a : Addr} {rs : List Str} {f : Str → Int} (r : Str) (e : Rd H a (.dK (iD rs f))) : DGet H a (.str r) (valV (iD rs f) (.inr r)) := .inl ⟨_, .inr r, e, rfl, rfl⟩

/-! ### an instance with its sizes -/
structure Names (rs : List Str) : Prop where
  nd : rs.Nodup
  nm : ∀ r ∈ rs, nameB r = true
  few : rs.length ≤ 24
theorem Names.len {rs : List Str} (n : Names rs) : ∀ r ∈ rs, r.length ≤ 8 := fun r hr => by
  have h := n.nm r hr
  unfold nameB at h
  simp only [Bool.and_eq_true, decide_eq_true_eq] at h
  exact h.1.2
def SzAt (C : Addr) (H : Hp) (b : Addr) (rs : List Str) (sz : Str → Int) : Prop := ∃ dx fs s, H b = some (.ins C dx fs) ∧ fs.lookup ("sizes" : Str) = some (.ref s) ∧ H s = some (.dK (iD rs sz))
theorem SzAt.mono {C : Addr} {H H' : Hp} {b : Addr} {rs : List Str} {sz : Str → Int} (h : SzAt C H b rs sz) (e : Same H H') : SzAt C H' b rs sz := by
  obtain ⟨dx, fs, s, h1, h2, h3⟩ := h
  exact ⟨dx, fs, s, e _ _ h1, h2, e _ _ h3⟩
section
variable {P : Program} {w : World} {K : PySem.W.Frag} {mg : Str → Option Value} {base : Heap}
def spContains (C : Addr) : Sp := fun vs H Q _ => ∃ b rs sz x, vs = [.ref b, x] ∧ SzAt C H b rs sz ∧ Names rs ∧ ((∃ z : Str, x = .str z ∧ z.length ≤ 1000 ∧ ∀ H', Same H H' → Q (.bl (decide (z ∈ rs))) H') ∨ (x = .non ∧ ∀ H', Same H H' → Q (.bl false) H'))
theorem sc_Building_contains : FnScope ["self", "thing"] ["self", "thing"] (defScope sBuilding_contains) := ⟨rfl, rfl, rfl, by decide +kernel, rfl, by decide +kernel, by decide +kernel⟩
theorem okBuilding_contains (T : Says w K mg) : C8.Met P w K mg base 2 (He.ga K "Building") "__contains__" (spContains (He.ga K "Building")) [] := by
  refine met_of T.dBuilding_contains T.cl_Building T.mBuilding_contains sc_Building_contains (fun vs H Q E h => ?_) (fun _ _ _ _ _ _ us hl => match us, hl with | [_, _], _ => rfl) (fun cdv A outer s H vs Q E hr h => ?_)
  · obtain ⟨_, _, _, _, rfl, _⟩ := h; rfl
  refine ⟨_, (pss_one (ps_ret (pe_and (C8.pe_c (ok_is_name T) hr (by decide) rfl (pa_cons (pv 1) pa_nil)) (pe_one (pe_cmp (pc_din (hu_of hr) (pv 1) (pe_fld (pv 0) rfl))))))), ?_⟩
  obtain ⟨b, rs, sz, x, rfl, hz, hn, ⟨z, rfl, hzl, k⟩ | ⟨rfl, k⟩⟩ := h
  · refine ⟨_, rfl, .str z, rfl, .inl ⟨z, rfl, hzl, fun H' s' => ⟨_, rfl, ?_⟩⟩⟩
    refine ite2 (fun c => ?_) (fun c => ?_)
    · obtain ⟨dx, fs, s, h1, h2, h3⟩ := hz.mono s'
      refine ⟨_, rfl, _, rfl, b, _, dx, fs, _, rfl, h1, T.cl_Building, T.naBuilding_sizes, h2, s, _, rfl, DGet.is z (.inl h3), ?_⟩
      rw [iD_some]
      exact k _ s'
    · have : z ∉ rs := fun m => by rw [hn.nm z m] at c; cases c
      rw [decide_eq_false this] at k
      exact k _ s'
  · exact ⟨_, rfl, .non, rfl, .inr ⟨rfl, _, rfl, iteF (k _ (Same.refl H))⟩⟩
def spGetItem (C : Addr) : Sp := fun vs H Q _ => ∃ b rs sz r, vs = [.ref b, .str r] ∧ SzAt C H b rs sz ∧ Names rs ∧ r ∈ rs ∧ ∀ H', Same H H' → Q (.int (sz r)) H'
theorem sc_Building_getitem : FnScope ["self", "room"] ["self", "room"] (defScope sBuilding_getitem) := ⟨rfl, rfl, rfl, by decide +kernel, rfl, by decide +kernel, by decide +kernel⟩
theorem okBuilding_getitem (T : Says w K mg) : C8.Met P w K mg base 3 (He.ga K "Building") "__getitem__" (spGetItem (He.ga K "Building")) [] := by
  refine met_of T.dBuilding_getitem T.cl_Building T.mBuilding_getitem sc_Building_getitem (fun vs H Q E h => ?_) (fun _ _ _ _ _ _ us hl => match us, hl with | [_, _], _ => rfl) (fun cdv A outer s H vs Q E hr h => ?_)
  · obtain ⟨_, _, _, _, rfl, _⟩ := h; rfl
  refine ⟨_, (pss_cons (ps_if (pt_cmpR (op_notInM (okBuilding_contains T) hr (by decide)) (pv 1) (pv 0) (by rfl)) (pss_one ps_never) pss_nil)
    (pss_one (ps_ret (pe_dget (hu_of hr) (pe_fld (pv 0) rfl) (pv 1) (fun _ _ => rfl))))), ?_⟩
  obtain ⟨b, rs, sz, r, rfl, hz, hn, hr', k⟩ := h
  obtain ⟨dx, fs, s, h1, h2, h3⟩ := id hz
  refine ⟨_, rfl, _, rfl, b, dx, fs, rfl, h1, b, rs, sz, _, rfl, hz, hn, .inl ⟨r, rfl, Nat.le_trans (hn.len r hr') (by decide), fun H' s' => ⟨_, rfl, _, rfl, ?_⟩⟩⟩
  rw [decide_eq_true hr']
  refine iteF ?_
  exact ⟨_, rfl, b, _, dx, fs, _, rfl, s' _ _ h1, T.cl_Building, T.naBuilding_sizes, h2, _, rfl, s, _, rfl, DGet.i (.inl (s' _ _ h3)) hr', k _ s'⟩
/-! ### rooms, sides -/
theorem lenSelf {sp : Sp} (h : ∀ vs H Q E, sp vs H Q E → ∃ b, vs = [V.ref b]) : ∀ vs H Q E, sp vs H Q E → vs.length = ["self"].length := fun vs H Q E q => by
  obtain ⟨b, rfl⟩ := h _ _ _ _ q; rfl
def spRooms (C : Addr) : Sp := fun vs H Q _ => ∃ b rs sz, vs = [.ref b] ∧ SzAt C H b rs sz ∧ ∀ p, H p = none → Q (.ref p) (upd H p (.tup (rs.map V.str)))
theorem sc_Building_rooms : FnScope ["self"] ["self"] (defScope sBuilding_rooms) := ⟨rfl, rfl, rfl, by decide +kernel, rfl, by decide +kernel, by decide +kernel⟩
theorem okBuilding_rooms (T : Says w K mg) : Prp P w K mg base 1 (He.ga K "Building") "rooms" (spRooms (He.ga K "Building")) := by
  refine prp_of T.dBuilding_rooms T.cl_Building T.pBuilding_rooms sc_Building_rooms (lenSelf fun vs H Q E h => let ⟨b, _, _, e, _⟩ := h; ⟨b, e⟩) (fun _ _ _ _ _ _ us hl => match us, hl with | [_], _ => rfl) (fun cdv A outer s H vs Q E hr h => ?_)
  refine ⟨_, (pss_one (ps_ret (pe_callTy (T := "tuple") (call_tupleD rfl) (by rfl) T.z_tuple (by decide +kernel) (pa_cons (pe_fld (pv 0) rfl) pa_nil)))), ?_⟩
  obtain ⟨b, rs, sz, rfl, ⟨dx, fs, s, h1, h2, h3⟩, k⟩ := h
  refine ⟨_, rfl, b, _, dx, fs, _, rfl, h1, T.cl_Building, T.naBuilding_sizes, h2, s, _, rfl, .inl h3, fun p hp => ?_⟩
  have e : keysV (iD rs sz) = rs.map V.str := by
    unfold keysV iD
    rw [List.map_map]
    rfl
  rw [e]
  exact k p hp
def spSidesP (C : Addr) : Sp := fun vs H Q _ => ∃ b dx fs v, vs = [.ref b] ∧ H b = some (.ins C dx fs) ∧ fs.lookup ("own_sides" : Str) = some v ∧ Q v H
theorem sc_Building_sides : FnScope ["self"] ["self"] (defScope sBuilding_sides) := ⟨rfl, rfl, rfl, by decide +kernel, rfl, by decide +kernel, by decide +kernel⟩
theorem okBuilding_sides (T : Says w K mg) : Prp P w K mg base 1 (He.ga K "Building") "sides" (spSidesP (He.ga K "Building")) := by
  refine prp_of T.dBuilding_sides T.cl_Building T.pBuilding_sides sc_Building_sides (lenSelf fun vs H Q E h => let ⟨b, _, _, _, e, _⟩ := h; ⟨b, e⟩) (fun _ _ _ _ _ _ us hl => match us, hl with | [_], _ => rfl) (fun cdv A outer s H vs Q E hr h => ?_)
  refine ⟨_, (pss_one (ps_ret (pe_fld (pv 0) rfl))), ?_⟩
  obtain ⟨b, dx, fs, v, rfl, h1, h2, k⟩ := h
  exact ⟨_, rfl, b, _, dx, fs, v, rfl, h1, T.cl_Building, T.naBuilding_own_sides, h2, k⟩
/-! ### near -/
structure Near (E : List Cor) (rs : List Str) (n : Addr) (H : Hp) (kvs : List (Key × V)) : Prop where
  at_ : H n = some (.dK kvs)
  ls : ∀ r ∈ rs, ∃ (l : Addr) (ys : List Str), valV kvs (.inr r) = some (.ref l) ∧ H l = some (.lst (ys.map V.str)) ∧ ys.length < 64 ∧ ∀ x, x ∈ ys ↔ adj E r x
theorem Near.mono {H H' : Hp} {E : List Cor} {rs : List Str} {n : Addr} {kvs : List (Key × V)} (j : Near E rs n H kvs) (e : Same H H') : Near E rs n H' kvs :=
  ⟨e _ _ j.at_, fun r h => let ⟨l, ys, h1, h2, h3⟩ := j.ls r h; ⟨l, ys, h1, e _ _ h2, h3⟩⟩
def spNeighbours (C : Addr) : Sp := fun vs H Q _ => ∃ b rs sz E n kvs dx fs r, vs = [.ref b, .str r] ∧ SzAt C H b rs sz ∧ Names rs ∧ r ∈ rs ∧ H b = some (.ins C dx fs) ∧ fs.lookup ("near" : Str) = some (.ref n) ∧ Near E rs n H kvs ∧
  ∀ (p : Addr) (ys : List Str) H', Same H H' → H' p = some (.tup (ys.map V.str)) → (∀ x, x ∈ ys ↔ adj E r x) → Q (.ref p) H'
theorem sc_Building_neighbours : FnScope ["self", "room"] ["self", "room"] (defScope sBuilding_neighbours) := ⟨rfl, rfl, rfl, by decide +kernel, rfl, by decide +kernel, by decide +kernel⟩
theorem okBuilding_neighbours (T : Says w K mg) : C8.Met P w K mg base 3 (He.ga K "Building") "neighbours" (spNeighbours (He.ga K "Building")) [] := by
  refine met_of T.dBuilding_neighbours T.cl_Building T.mBuilding_neighbours sc_Building_neighbours (fun vs H Q E h => ?_) (fun _ _ _ _ _ _ us hl => match us, hl with | [_, _], _ => rfl) (fun cdv A outer s H vs Q E hr h => ?_)
  · obtain ⟨_, _, _, _, _, _, _, _, _, rfl, _⟩ := h; rfl
  refine ⟨_, (pss_cons (ps_if (pt_cmpR (op_notInM (okBuilding_contains T) hr (by decide)) (pv 1) (pv 0) (by rfl)) (pss_one ps_never) pss_nil)
    (pss_one (ps_ret (pe_callTy (T := "tuple") call_tuple_of (by rfl) T.z_tuple (by decide +kernel) (pa_cons (pe_callB (id := "sorted") (r := rSortedS K) cr_sortedS (by rfl) T.z_sorted (by decide +kernel) (pa_cons (pe_dget (hu_of hr) (pe_fld (pv 0) rfl) (pv 1) (fun _ _ => rfl)) pa_nil)) pa_nil))))), ?_⟩
  obtain ⟨b, rs, sz, E0', n, kvs, dx, fs, r, rfl, hz, hn, hr', hb, hf, hN, k⟩ := h
  refine ⟨_, rfl, _, rfl, b, dx, fs, rfl, hb, b, rs, sz, _, rfl, hz, hn, .inl ⟨r, rfl, Nat.le_trans (hn.len r hr') (by decide), fun H' s' => ⟨_, rfl, _, rfl, ?_⟩⟩⟩
  rw [decide_eq_true hr']
  refine iteF ?_
  obtain ⟨l, ys, hl, hy, h64, hiff⟩ := (hN.mono s').ls r hr'
  have hg : DGet H' n (.str r) (some (.ref l)) := by
    have := DGet.k (k := .inr r) (s' _ _ hN.at_)
    rwa [hl] at this
  refine ⟨_, rfl, b, _, dx, fs, _, rfl, s' _ _ hb, T.cl_Building, T.naBuilding_near, hf, _, rfl, n, _, rfl, hg, l, ys, rfl, SqL.of hy, h64, fun zs p hp _ hpn => ?_⟩
  exact ⟨p, _, rfl, .inl ⟨SqL.of upd_same, fun q hq => k q zs _ ((s'.then_ hpn).then_ hq) upd_same fun x => by rw [hp.mem_iff]; exact hiff x⟩⟩
/-! ### sorted_pairs -/
def corD (q : Cor) : PyData := .tuple [.str q.1, .str q.2]
def okC (q : Cor) : Prop := nameB q.1 = true ∧ nameB q.2 = true
theorem name_ok {z : Str} (h : nameB z = true) : PyData.strOk z = true := by
  unfold nameB at h
  simp only [Bool.and_eq_true] at h
  have h := List.all_eq_true.mp h.2
  have hl : ∀ c ∈ letters.cps.toList, c < 0x110000 := by decide +kernel
  unfold PyData.strOk
  rw [← Array.all_toList]
  exact List.all_eq_true.mpr fun c hc => decide_eq_true (hl c (of_decide_eq_true (h c hc)))
theorem corD_lay {q : Cor} (h : okC q) : (corD q).canLay0 = true := by simp [corD, PyData.canLay0, PyData.canLayAll0, name_ok h.1, name_ok h.2]
theorem corD_depth (q : Cor) : (corD q).depth ≤ 2 := by simp [corD, PyData.depth, PyData.depthAll]
theorem corDs_lay : ∀ {qs : List Cor}, (∀ q ∈ qs, okC q) → PyData.canLayAll0 (qs.map corD) = true
  | [], _ => by simp [PyData.canLayAll0]
  | z :: zs, h => by simp [PyData.canLayAll0, corD_lay (h z (List.mem_cons_self ..)), corDs_lay fun q hq => h q (List.mem_cons_of_mem _ hq)]
theorem corDs_depth : ∀ qs : List Cor, PyData.depthAll (qs.map corD) ≤ 2
  | [] => by simp [PyData.depthAll]
  | z :: zs => by
    have h1 := corDs_depth zs
    have h2 := corD_depth z
    simp only [List.map_cons, PyData.depthAll]
    omega
theorem corD_shaped {z : Cor} (hz : okC z) : SeqAt.shaped (corD z) = true := by
  have h := corD_depth z
  show ((corD z).canLay0 && decide ((corD z).depth ≤ 64)) = true
  rw [Bool.and_eq_true]
  exact ⟨corD_lay hz, decide_eq_true (by omega)⟩
theorem corDs_shaped {zs : List Cor} (hz : ∀ q ∈ zs, okC q) : SeqAt.shaped (.list (zs.map corD)) = true := by
  have h1 := corDs_depth zs
  have h2 : PyData.depth (.list (zs.map corD)) ≤ 64 := by
    simp only [PyData.depth]
    omega
  show (PyData.canLay0 (.list (zs.map corD)) && decide (PyData.depth (.list (zs.map corD)) ≤ 64)) = true
  rw [Bool.and_eq_true]
  exact ⟨by simp only [PyData.canLay0]; exact corDs_lay hz, decide_eq_true h2⟩
theorem corD_eqv (z w : Cor) : PyData.eqv (corD z) (corD w) = decide (z = w) := by
  obtain ⟨a, b⟩ := z
  obtain ⟨c, d⟩ := w
  have e : PyData.eqv (corD (a, b)) (corD (c, d)) = ((a == c) && ((b == d) && true)) := by simp only [corD, PyData.eqv, PyData.eqvAll]
  rw [e, Bool.and_true, Bool.eq_iff_iff]
  simp
theorem cor_dpR {H : Hp} {a : Addr} {q : Cor} (h : Rd H a (.tup (prV q))) : Dp K H (.ref a) (corD q) := .tup (.inl h) (.cons (.str _) (.cons (.str _) .nil))
theorem cors_dpR {H : Hp} : ∀ {L : List (Addr × Cor)}, (∀ q ∈ L, Rd H q.1 (.tup (prV q.2))) → DpAll K H (L.map fun q => V.ref q.1) ((cors L).map corD)
  | [], _ => .nil
  | q :: L, h => .cons (cor_dpR (h q (List.mem_cons_self ..))) (cors_dpR fun x hx => h x (List.mem_cons_of_mem _ hx))
theorem cor_dp {H : Hp} {a : Addr} {q : Cor} (h : H a = some (.tup (prV q))) : Dp K H (.ref a) (corD q) := .tup (SqT.of h) (.cons (.str _) (.cons (.str _) .nil))
theorem cors_dp {H : Hp} : ∀ {L : List (Addr × Cor)}, (∀ q ∈ L, H q.1 = some (.tup (prV q.2))) → DpAll K H (L.map fun q => V.ref q.1) ((cors L).map corD)
  | [], _ => .nil
  | q :: L, h => .cons (cor_dp (h q (List.mem_cons_self ..))) (cors_dp fun x hx => h x (List.mem_cons_of_mem _ hx))
theorem cors_any (qs : List Cor) (q : Cor) : ((qs.map corD).any fun z => PyData.eqv z (corD q)) = decide (q ∈ qs) := by
  rw [Bool.eq_iff_iff, List.any_eq_true, decide_eq_true_iff]
  constructor
  · rintro ⟨d, hd, h⟩
    obtain ⟨p, hp, rfl⟩ := List.mem_map.mp hd
    rw [corD_eqv, decide_eq_true_iff] at h
    exact h ▸ hp
  · intro h
    exact ⟨corD q, List.mem_map_of_mem h, by rw [corD_eqv]; simp⟩
/-- corridors of the document, of these rooms -/
structure Cors (E : List Cor) (rs : List Str) : Prop where
  ends : ∀ q ∈ E, q.1 ∈ rs ∧ q.2 ∈ rs
  lt : ∀ q ∈ E, q.1.cps.toList < q.2.cps.toList
  nd : E.Nodup
theorem Cors.pair {E : List Cor} {rs : List Str} (c : Cors E rs) {q : Cor} (h : q ∈ E) : pairS q.1 q.2 = q := by
  unfold pairS
  rw [if_pos (c.lt q h)]
theorem lt_ne {a b : Str} (h : a.cps.toList < b.cps.toList) : a ≠ b := fun z => by
  rw [z] at h
  exact List.lt_irrefl _ h
theorem ty_tup {K : PySem.W.Frag} {H : Hp} {a : Addr} {xs : List V} (h : Rd H a (.tup xs)) : TyX K H (.ref a) (.type "tuple") := h.elim (fun h => .base (.tup h)) (fun ⟨_, h⟩ => .fTuple h)
def spSorted (C : Addr) : Sp := fun vs H Q _ => ∃ b c0 rs sz L, vs = [.ref b, .ref c0] ∧ SzAt C H b rs sz ∧ Names rs ∧ CorAt H c0 L ∧ Cors (cors L) rs ∧ ∀ (p : Addr) L' H', Same H H' → CorAt H' p L' → (cors L').Perm (cors L) → Q (.ref p) H'
theorem sc_Building_sorted_pairs : FnScope ["self", "corridors", "found", "corridor", "is_pair", "room"] ["self", "corridors"] (defScope sBuilding_sorted_pairs) := ⟨rfl, rfl, rfl, by decide +kernel, rfl, by decide +kernel, by decide +kernel⟩
theorem okBuilding_sorted_pairs (T : Says w K mg) : C8.Met P w K mg base 3 (He.ga K "Building") "sorted_pairs" (spSorted (He.ga K "Building")) [] := by
  refine met_of T.dBuilding_sorted_pairs T.cl_Building T.mBuilding_sorted_pairs sc_Building_sorted_pairs (fun vs H Q E h => ?_) (fun _ _ _ _ _ _ us hl => match us, hl with | [_, _], _ => rfl) (fun cdv A outer s H vs Q E hr h => ?_)
  · obtain ⟨_, _, _, _, _, rfl, _⟩ := h; rfl
  refine ⟨_, (pss_cons (ps_set (i := 2) sc_Building_sorted_pairs.nd rfl (Or.inl rfl) (pe_lst pa_nil))
    (pss_cons (ps_for PassesOwn.never rfl (pi_list (pv 1)) (pg_name (i := 3) sc_Building_sorted_pairs.nd rfl (Or.inl rfl)) (pss_cons (ps_set (i := 4) sc_Building_sorted_pairs.nd rfl (Or.inl rfl) (pe_and (pe_callB (id := "isinstance") call_isi (by rfl) T.z_isinstance (by decide +kernel) (pa_cons (pv 3) (pa_cons (pe_ty (n := "tuple") T.z_tuple rfl) pa_nil))) (pe_and (pe_cmpR op_eq (pe_callB (id := "len") call_len_seq (by rfl) T.z_len PySem.boot_len (pa_cons (pv 3) pa_nil)) pe_int (nomark _)) (pe_one (pe_callB (id := "all") (r := rAll K) (cr_all rfl) (by rfl) T.z_all (by decide +kernel) (pa_cons (pe_lc (own := [("room", 5)]) (g := (gName 5)) (tt := tYes) rfl sc_Building_sorted_pairs.nd (pi_tup (pv 3)) (blkOk_by (own := [("room", 5)]) (N := ["self", "corridors", "found", "corridor", "is_pair", "room"]) (sc := defScope sBuilding_sorted_pairs) (by decide +kernel)) (fun _ _ _ _ _ => (pg_name (i := 5) sc_Building_sorted_pairs.nd rfl (Or.inl rfl))) (fun _ _ _ _ _ => pts_nil) (fun _ _ _ _ _ => (pe_cmpR (op_inM (okBuilding_contains T) hr (by decide)) (pv 5) (pv 0) (by rfl)))) pa_nil))))))
    (pss_cons (ps_if (PW.pt (pw_or (pt_not (pt_val (pv 4))) (pw_or (pt_cmpR op_eq (pe_ix (r := rIxT K) ix_tup (pv 3) pe_int (fun _ _ => rfl)) (pe_ix (r := rIxT K) ix_tup (pv 3) pe_int (fun _ _ => rfl)) (nomark _)) (pw_or1 (pt_cmpR (r := rInD K) (op_inD (hu65 hr)) (pe_star1 (ok_pair_of T) hr (by decide) rfl (pv 3)) (pv 2) (by rfl)))))) (pss_one ps_never) pss_nil)
    (pss_one (ps_expr (pe_bm PySem.F.plainAttrs_list PySem.F.slot_list_append PySem.F.type_list_append mt_append (pv 2) (pa_cons (pe_star1 (ok_pair_of T) hr (by decide) rfl (pv 3)) pa_nil)))))))
    (pss_one (ps_ret (pe_callB (id := "sorted") (r := rSortedC K) (cr_sortedC hr) (by rfl) T.z_sorted (by decide +kernel) (pa_cons (pv 2) pa_nil)))))), ?_⟩
  obtain ⟨b, c0, rs, sz, L, rfl, hz, hn, hc, hC, k⟩ := h
  have hbig : sizeLine = 16777216 := sizeLine_eq
  refine ⟨by show 0 ≤ sizeLine; omega, fun f hf => ?_⟩
  have s0 : Same H (upd H f (.lst [])) := Same.new hf
  refine ⟨_, rfl, c0, rfl, ⟨_, SqL.of (s0 _ _ hc.at_)⟩, for_it (walk_list (xs := L.map fun q => V.ref q.1)) (fun i σ H' => Same H H' ∧ (∃ x y z, σ = [some (.ref b), some (.ref c0), some (.ref f), x, y, z]) ∧ ∃ L' : List (Addr × Cor), H' f = some (.lst (L'.map fun q => V.ref q.1)) ∧ (∀ q ∈ L', H' q.1 = some (.tup (prV q.2))) ∧ cors L' = cors (L.take i))
    ⟨s0, ⟨_, _, _, rfl⟩, [], upd_same, by simp, rfl⟩ (fun i σ H' _ h => SqL.of (h.1 _ _ hc.at_)) ?_ ?_⟩
  · rintro i x σ H1 H1' hi ⟨s1, ⟨x1, y1, z1, rfl⟩, L', e1, e2, e3⟩ ⟨rfl, hx⟩
    obtain ⟨q, hq, rfl⟩ := corAt_get hx
    have hqL := List.mem_of_getElem? hq
    have ht := rd_mono (hc.each q hqL) s1
    have hqE := cor_mem hq
    obtain ⟨m1, m2⟩ := hC.ends _ hqE
    obtain ⟨dx, fs, sa, g1, g2, g3⟩ := hz.mono s1
    refine ⟨_, rfl, .ref q.1, .ty "tuple", .type "tuple", .type "tuple", true, rfl, .ty _, ty_tup ht, kit_ty (by decide +kernel), true, rfl, iteT ?_⟩
    refine ⟨_, rfl, q.1, _, rfl, .inr (.inl ht), rfl, true, rfl, iteT ?_⟩
    refine ⟨_, rfl, q.1, rfl, ⟨_, .inl ht⟩, fun D hD => ?_⟩
    refine lc_it (walk_tup (xs := prV q.2)) (fun i H' => Same H1' H' ∧ H' D = some (.lst (((prV q.2).take i).map fun _ => V.bl true))) ⟨Same.new hD, upd_same⟩ (fun i H' _ h => .inl (rd_mono ht h.1)) ?_ ?_
    · rintro j v H2 H2' hj ⟨s2, f2⟩ ⟨rfl, hv⟩
      obtain ⟨z, hzr, rfl⟩ : ∃ z, z ∈ rs ∧ v = .str z := by
        match j, hv with
        | 0, hv => exact ⟨q.2.1, m1, (Option.some.inj hv).symm⟩
        | 1, hv => exact ⟨q.2.2, m2, (Option.some.inj hv).symm⟩
      refine ⟨rfl, _, rfl, _, rfl, b, dx, fs, rfl, s2 _ _ g1, b, rs, sz, _, rfl, (hz.mono s1).mono s2, hn, .inl ⟨z, rfl, Nat.le_trans (hn.len z hzr) (by decide), fun H3 s3 => ⟨_, rfl, _, s3 _ _ f2, ?_, (s2.trans s3).mut hD, ?_⟩⟩⟩
      · rw [List.length_map, List.length_take]
        have : (prV q.2).length = 2 := rfl
        omega
      · rw [upd_same, decide_eq_true hzr, List.take_add_one, hv, List.map_append]
        rfl
    · rintro H2 ⟨s2, f2⟩
      refine ⟨D, [true, true], rfl, SqL.of f2, ?_⟩
      have s02 := s1.trans s2
      have ht2 := rd_mono ht s2
      refine ⟨_, rfl, true, rfl, iteF ?_⟩
      refine ⟨_, rfl, _, _, 0, _, rfl, rfl, .inl ht2, rfl, _, rfl, _, _, 1, _, rfl, rfl, .inl ht2, rfl, rfl, _, rfl, ?_⟩
      have hlt := lt_ne (hC.lt _ hqE)
      rw [decide_eq_false (fun z => hlt (by injection z))]
      refine iteF ?_
      refine ⟨_, rfl, q.1, _, rfl, .inl (.inl ht2), _, _, rfl, fun p hp => ?_⟩
      rw [hC.pair hqE]
      have e1' := (s2.then_ (o := .tup (prV q.2)) hp) _ _ e1
      have e2' : ∀ x ∈ L', (upd H2 p (.tup (prV q.2))) x.1 = some (.tup (prV x.2)) := fun x hx => (s2.then_ hp) _ _ (e2 x hx)
      have okq : okC q.2 := ⟨hn.nm _ m1, hn.nm _ m2⟩
      have okL : ∀ x ∈ cors L', okC x := fun x hx => by
        rw [e3] at hx
        have : x ∈ cors L := (List.take_sublist i (cors L)).mem (by rw [show cors (L.take i) = (cors L).take i from List.map_take ..] at hx; exact hx)
        exact ⟨hn.nm _ (hC.ends x this).1, hn.nm _ (hC.ends x this).2⟩
      have hnot : q.2 ∉ cors L' := fun z => by
        rw [e3, show cors (L.take i) = (cors L).take i from List.map_take ..] at z
        obtain ⟨j, hj, ej⟩ := List.mem_iff_getElem.mp z
        rw [List.getElem_take] at ej
        have hj1 : j < i := by rw [List.length_take] at hj; omega
        have hiL : i < (cors L).length := by unfold cors; rw [List.length_map]; exact (List.getElem?_eq_some_iff.mp hq).1
        have ei : (cors L)[i] = q.2 := by
          have : (cors L)[i]? = some q.2 := by unfold cors; rw [List.getElem?_map, hq]; rfl
          exact (List.getElem?_eq_some_iff.mp this).2
        have : j = i := (List.getElem_inj hC.nd).mp (ej.trans ei.symm)
        omega
      refine ⟨_, rfl, _, _, cor_dp upd_same, .lst (SqL.of e1') (cors_dp e2'), corD_shaped okq, corDs_shaped okL, ?_⟩
      rw [cors_any, decide_eq_false hnot]
      refine ⟨_, rfl, iteF ?_⟩
      refine ⟨_, rfl, tyList e1', _, rfl, q.1, _, rfl, .inl (.inl (rd_mono ht2 (Same.new hp))), _, _, rfl, fun p2 hp2 => ?_⟩
      rw [hC.pair hqE]
      have hlen : L'.length ≤ 20 := by
        have := congrArg List.length e3
        unfold cors at this
        rw [List.length_map, List.length_map, List.length_take] at this
        have := hc.few
        omega
      have hf1 : H f = none := hf
      have nf2 : p2 ≠ f := fun z => by rw [z, e1'] at hp2; cases hp2
      refine ⟨f, _, _, rfl, rfl, (Same.new hp2) _ _ e1', by rw [List.length_map]; omega, (((s02.then_ hp).then_ hp2).mut hf1), ⟨_, _, _, rfl⟩, L' ++ [(p2, q.2)], ?_, fun x hx => ?_, ?_⟩
      · rw [upd_same, List.map_append]; rfl
      · rcases List.mem_append.mp hx with m | m
        · have nx : x.1 ≠ f := fun z => by have := e2 x m; rw [z, e1] at this; cases this
          rw [upd_ne nx]
          exact (Same.new hp2) _ _ (e2' x m)
        · rw [show x = (p2, q.2) by simpa using m, upd_ne nf2, upd_same]
      · unfold cors at e3 ⊢
        rw [List.map_append, e3, List.take_add_one, hq, List.map_append]
        rfl
  · rintro σ H1 ⟨s1, ⟨x1, y1, z1, rfl⟩, L', e1, e2, e3⟩
    rw [List.length_map, List.take_length] at e3
    refine ⟨_, rfl, f, L', rfl, SqL.of e1, fun q hq => .inl (e2 q hq), fun L2 p hp hpn => k p L2 _ (s1.then_ hpn) ⟨upd_same, fun q hq => .inl ((Same.new hpn) _ _ (e2 q (hp.mem_iff.mp hq))), ?_⟩ ?_⟩
    · have := congrArg List.length e3
      unfold cors at this
      rw [List.length_map, List.length_map] at this
      rw [hp.length_eq, this]
      exact hc.few
    · rw [← e3]
      exact hp.map _
/-! ### check_connected -/
def spCheck (C : Addr) : Sp := fun vs H Q _ => ∃ b rs sz dx fs p L, vs = [.ref b] ∧ SzAt C H b rs sz ∧ H b = some (.ins C dx fs) ∧ fs.lookup ("pairs" : Str) = some (.ref p) ∧ CorAt H p L ∧ Plan (cors L) rs ∧ ∀ H', Same H H' → Q .non H'
theorem sc_Building_check_connected : FnScope ["self", "reached", "room"] ["self"] (defScope sBuilding_check_connected) := ⟨rfl, rfl, rfl, by decide +kernel, rfl, by decide +kernel, by decide +kernel⟩
theorem okBuilding_check_connected (T : Says w K mg) : C8.Met P w K mg base 4 (He.ga K "Building") "check_connected" (spCheck (He.ga K "Building")) [] := by
  refine met_of T.dBuilding_check_connected T.cl_Building T.mBuilding_check_connected sc_Building_check_connected (fun vs H Q E h => ?_) (fun _ _ _ _ _ _ us hl => match us, hl with | [_], _ => rfl) (fun cdv A outer s H vs Q E hr h => ?_)
  · obtain ⟨_, _, _, _, _, _, _, rfl, _⟩ := h; rfl
  refine ⟨_, (pss_cons (ps_if (pt_cmpR (op_eq_dict0 (hu0 hr)) (pe_fld (pv 0) rfl) pe_dnewK (nomark _)) (pss_one ps_never) pss_nil)
    (pss_cons (ps_set (i := 1) sc_Building_check_connected.nd rfl (Or.inl rfl) (C8.pe_c (ok_reached_from T) hr (by decide) rfl (pa_cons (pe_callB (id := "min") (cr_minDS rfl) (by rfl) T.z_min (by decide +kernel) (pa_cons (pe_fld (pv 0) rfl) pa_nil)) (pa_cons (pe_fld (pv 0) rfl) pa_nil))))
    (pss_one (ps_lock (ps_for PassesOwn.never rfl (pi_keys (pe_fld (pv 0) rfl)) (pg_name (i := 2) sc_Building_check_connected.nd rfl (Or.inl rfl)) (pss_one (ps_if (pt_cmpR (r := rIn K true) op_notIn_seq (pv 2) (pv 1) (by rfl)) (pss_one ps_never) pss_nil))))))), ?_⟩
  obtain ⟨b, rs, sz, dx, fs, p, L, rfl, hz, hb, hp, hc, hP, k⟩ := h
  have hbig : sizeLine = 16777216 := sizeLine_eq
  obtain ⟨dx', fs', s, hb', hs, hsz⟩ := id hz
  rw [hb] at hb'
  cases hb'
  have hne : iD rs sz ≠ [] := fun z => hP.ne (by have := congrArg List.length z; rw [iD_len] at this; exact List.length_eq_zero_iff.mp this)
  refine ⟨_, rfl, b, _, dx, fs, _, rfl, hb, T.cl_Building, T.naBuilding_sizes, hs, fun e he => ?_⟩
  refine ⟨s, e, _, rfl, rfl, (Same.new he) _ _ hsz, upd_same, ?_⟩
  rw [decide_eq_false hne]
  refine ⟨_, rfl, iteF ?_⟩
  have s1 : Same H (upd H e (.dK [])) := Same.new he
  refine ⟨_, rfl, b, _, dx, fs, _, rfl, s1 _ _ hb, T.cl_Building, T.naBuilding_sizes, hs, s, _, rs, rfl, .inl (s1 _ _ hsz), iD_keys rs sz, hP.ne, fun m hm => ?_⟩
  refine ⟨_, rfl, b, _, dx, fs, _, rfl, s1 _ _ hb, T.cl_Building, T.naBuilding_pairs, hp, m, p, _, L, rfl, emptyTup T.t_reached_from, hc.mono s1, fun l ks H2 s2 hl hmk cl => ?_⟩
  have hall := hP.all hm hmk cl
  have s12 := s1.trans s2
  have nls : l ≠ s := fun z => by rw [z, s12 _ _ hsz] at hl; cases hl
  have nbs : b ≠ s := fun z => by rw [z, hsz] at hb; cases hb
  refine ⟨s, _, s12 _ _ hsz, trivial, fun od => ⟨_, rfl, b, _, dx, fs, _, rfl, by rw [upd_ne nbs]; exact s12 _ _ hb, T.cl_Building, T.naBuilding_sizes, hs, s, od, rfl, .inl ⟨_, upd_same, ?_⟩⟩⟩
  have lks : (iD rs sz).length = rs.length := iD_len rs sz
  refine for_it (walk_keys (kvs := iD rs sz)) (fun i σ H' => H' = upd H2 s (.frz od (.dK (iD rs sz))) ∧ ∃ y, σ = [some (.ref b), some (.ref l), y]) ⟨rfl, _, rfl⟩ (fun i σ H' _ h => by rw [h.1, upd_same]) ?_ ?_
  · rintro i x σ H3 H3' hi ⟨rfl, y, rfl⟩ ⟨rfl, k', v', hk', rfl⟩
    obtain ⟨r, hr', rfl⟩ : ∃ r, r ∈ rs ∧ k' = .inr r := by
      have := List.mem_of_getElem? hk'
      unfold iD at this
      obtain ⟨r, h1, h2⟩ := List.mem_map.mp this
      exact ⟨r, h1, (Prod.mk.inj h2).1.symm⟩
    refine ⟨_, rfl, _, rfl, l, _, rfl, .inl (SqL.of (by rw [upd_ne nls]; exact hl)), rfl, by simp [flatV], ?_⟩
    have : inV (.str r) (ks.map V.str) = true := by
      unfold inV
      rw [List.any_eq_true]
      exact ⟨.str r, List.mem_map_of_mem (hall r hr'), by simp [eqV]⟩
    refine ⟨_, rfl, ?_⟩
    simp only [kV, this]
    exact iteF ⟨rfl, _, rfl⟩
  · rintro σ H3 ⟨rfl, y, rfl⟩
    refine ⟨upd_same, ?_⟩
    rw [upd_upd]
    have e : upd H2 s (.dK (iD rs sz)) = H2 := by
      funext x
      by_cases c : x = s
      · rw [c, upd_same, s12 _ _ hsz]
      · rw [upd_ne c]
    rw [e]
    exact k _ s12
/-! ### prepare -/
theorem relock {H : Hp} {s : Addr} {u : HO} {od : Obj} (h : H s = some u) : upd (upd H s (.frz od u)) s u = H := by
  rw [upd_upd]
  funext x
  by_cases c : x = s
  · rw [c, upd_same, h]
  · rw [upd_ne c]
theorem CorAt.put {H : Hp} {a b C dx : Addr} {fs : List (Str × V)} {L : List (Addr × Cor)} {o : HO} (c : CorAt H a L) (h : H b = some (.ins C dx fs)) : CorAt (upd H b o) a L := by
  have n1 : a ≠ b := fun z => by have := c.at_; rw [z, h] at this; cases this
  refine ⟨by rw [upd_ne n1]; exact c.at_, fun q hq => ?_, c.few⟩
  exact rd_upd (c.each q hq) (rd_ne (c.each q hq) h (by simp) (by simp))
/-- what own_sides holds -/
def SidesV (rs : List Str) (H : Hp) (v : V) : Prop := v = .non ∨ ∃ (t t1 t2 : Addr) (xs ys : List Str), v = .ref t ∧ H t = some (.tup [.ref t1, .ref t2]) ∧ H t1 = some (.tup (xs.map V.str)) ∧ H t2 = some (.tup (ys.map V.str)) ∧ (∀ x ∈ xs, x ∈ rs) ∧ (∀ y ∈ ys, y ∈ rs) ∧ xs.length ≤ 30 ∧ ys.length ≤ 30
theorem SidesV.mono {rs : List Str} {H H' : Hp} {v : V} (h : SidesV rs H v) (e : Same H H') : SidesV rs H' v := by
  rcases h with h | ⟨t, t1, t2, xs, ys, h1, h2, h3, h4, h5⟩
  · exact .inl h
  · exact .inr ⟨t, t1, t2, xs, ys, h1, e _ _ h2, e _ _ h3, e _ _ h4, h5⟩
abbrev bf (s p n : Addr) (v1 v2 v3 : V) : List (Str × V) := [("sizes", .ref s), ("pairs", .ref p), ("near", .ref n), ("own_sides", v1), ("own_ring", v2), ("own_bridges", v3)]
def spPrepare (C : Addr) : Sp := fun vs H Q _ => ∃ b rs sz dx s p n L, vs = [.ref b] ∧ H b = some (.ins C dx [("sizes", .ref s), ("pairs", .ref p), ("near", .ref n)]) ∧ H s = some (.dK (iD rs sz)) ∧ CorAt H p L ∧ Plan (cors L) rs ∧
  ∀ v1 v2 v3 H', Frm [b] H H' → H' b = some (.ins C dx (bf s p n v1 v2 v3)) → SidesV rs H' v1 → Q .non H'
theorem sc_Building_prepare : FnScope ["self", "rooms", "sides", "ring"] ["self"] (defScope sBuilding_prepare) := ⟨rfl, rfl, rfl, by decide +kernel, rfl, by decide +kernel, by decide +kernel⟩
theorem okBuilding_prepare (T : Says w K mg) : C8.Met P w K mg base 4 (He.ga K "Building") "prepare" (spPrepare (He.ga K "Building")) [] := by
  refine met_of T.dBuilding_prepare T.cl_Building T.mBuilding_prepare sc_Building_prepare (fun vs H Q E h => ?_) (fun _ _ _ _ _ _ us hl => match us, hl with | [_], _ => rfl) (fun cdv A outer s H vs Q E hr h => ?_)
  · obtain ⟨_, _, _, _, _, _, _, _, rfl, _⟩ := h; rfl
  refine ⟨_, (pss_cons (ps_set (i := 1) sc_Building_prepare.nd rfl (Or.inl rfl) (pe_callTy (T := "list") (call_listD rfl) (by rfl) T.z_list (by decide +kernel) (pa_cons (pe_fld (pv 0) rfl) pa_nil)))
    (pss_cons (ps_par (i := 2) (j := 3) (by rfl) sc_Building_prepare.nd rfl rfl (by decide) rfl rfl (pa_cons (C8.pe_c (ok_sides_of T) hr (by decide) rfl (pa_cons (pv 1) (pa_cons (pe_fld (pv 0) rfl) pa_nil))) (pa_cons (C8.pe_c (ok_odd_ring_of T) hr (by decide) rfl (pa_cons (pv 1) (pa_cons (pe_fld (pv 0) rfl) pa_nil))) pa_nil)) (by rfl))
    (pss_cons (ps_fld (pv 0) (pe_ifExp (pt_cmpR op_isN (pv 2) pe_non (nomark _)) pe_non (pe_tup (pa_cons (pe_callTy (T := "tuple") call_tuple_of (by rfl) T.z_tuple (by decide +kernel) (pa_cons (pe_ix (r := rIxT K) ix_tup (pv 2) pe_int (fun _ _ => rfl)) pa_nil)) (pa_cons (pe_callTy (T := "tuple") call_tuple_of (by rfl) T.z_tuple (by decide +kernel) (pa_cons (pe_ix (r := rIxT K) ix_tup (pv 2) pe_int (fun _ _ => rfl)) pa_nil)) pa_nil)))) rfl)
    (pss_cons (ps_fld (pv 0) (pe_ifExp (pt_cmpR op_isN (pv 3) pe_non (nomark _)) pe_non (pe_callTy (T := "tuple") call_tuple_of (by rfl) T.z_tuple (by decide +kernel) (pa_cons (pv 3) pa_nil))) rfl)
    (pss_one (ps_fld (pv 0) (pe_callTy (T := "tuple") call_tuple_of (by rfl) T.z_tuple (by decide +kernel) (pa_cons (C8.pe_c (ok_bridges_of T) hr (by decide) rfl (pa_cons (pv 1) (pa_cons (pe_fld (pv 0) rfl) pa_nil))) pa_nil)) rfl)))))), ?_⟩
  obtain ⟨b, rs, sz, dx, s, p, n, L, rfl, hb, hs, hc, hP, k⟩ := h
  have hbig : sizeLine = 16777216 := sizeLine_eq
  refine ⟨_, rfl, b, _, dx, _, _, rfl, hb, T.cl_Building, T.naBuilding_sizes, rfl, s, _, rfl, .inl hs, fun r hr => ?_⟩
  have s1 : Same H (upd H r (.lst ((iD rs sz).map fun kv => kV kv.1))) := Same.new hr
  have hrl : (upd H r (.lst ((iD rs sz).map fun kv => kV kv.1))) r = some (.lst (rs.map V.str)) := by
    rw [upd_same]
    unfold iD
    rw [List.map_map]
    rfl
  generalize upd H r (.lst ((iD rs sz).map fun kv => kV kv.1)) = H1 at s1 hrl
  refine ⟨_, rfl, _, rfl, b, _, dx, _, _, rfl, s1 _ _ hb, T.cl_Building, T.naBuilding_pairs, rfl, r, p, rs, L, rfl, hrl, hc.mono s1, hP, ?_, ?_⟩
  · intro H2 s2
    refine ⟨_, rfl, _, rfl, b, _, dx, _, _, rfl, s2 _ _ (s1 _ _ hb), T.cl_Building, T.naBuilding_pairs, rfl, r, p, rs, L, rfl, s2 _ _ hrl, (hc.mono s1).mono s2, hP, ?_, ?_⟩
    · intro H3 s3
      refine ⟨_, _, rfl, ?_⟩
      have s13 := (s1.trans s2).trans s3
      refine ⟨_, rfl, rfl, _, rfl, iteT ?_⟩
      have sV : SidesV rs (cut [b] H3) .non := .inl rfl
      have sx := s13
      generalize hHx : H3 = Hx at *
      have hR := s3 _ _ (s2 _ _ hrl)
      have hbx := sx _ _ hb
      have nrb : r ≠ b := fun z => by rw [z, hbx] at hR; cases hR
      refine ⟨_, rfl, b, _, dx, _, rfl, hbx, T.cl_Building, T.naBuilding_own_sides, (by show 3 < 1000; decide), ?_⟩
      refine ⟨_, rfl, rfl, _, rfl, iteT ?_⟩
      refine ⟨_, rfl, b, _, dx, _, rfl, upd_same, T.cl_Building, T.naBuilding_own_ring, (by show 4 < 1000; decide), ?_⟩
      rw [upd_upd]
      refine ⟨_, rfl, _, rfl, b, _, dx, _, _, rfl, upd_same, T.cl_Building, T.naBuilding_pairs, rfl, r, p, rs, L, rfl, by rw [upd_ne nrb]; exact hR, (hc.mono sx).put hbx, hP, fun l zs H5 s5 hl hz => ?_⟩
      refine ⟨l, zs, rfl, .inl ⟨SqL.of hl, fun e he => ?_⟩⟩
      have s6 := s5.then_ (o := .tup zs) he
      refine ⟨_, rfl, b, _, dx, _, rfl, s6 _ _ upd_same, T.cl_Building, T.naBuilding_own_bridges, (by show 5 < 1000; decide), ?_⟩
      refine k _ _ _ _ ?_ upd_same ?_
      · exact ((Frm.of sx).put (by simp)).trans ((Frm.of s6).put (by simp))
      · refine SidesV.mono (SidesV.mono sV ?_) (cut_same (M := [b]))
        exact (((Frm.of (Same.refl Hx)).put (by simp)).trans ((Frm.of s6).put (by simp))).cut
    · intro g gs H3 s3 hg
      refine ⟨_, _, rfl, ?_⟩
      have s13 := (s1.trans s2).trans s3
      refine ⟨_, rfl, rfl, _, rfl, iteT ?_⟩
      have sV : SidesV rs (cut [b] H3) .non := .inl rfl
      have sx := s13
      generalize hHx : H3 = Hx at *
      have hR := s3 _ _ (s2 _ _ hrl)
      have hbx := sx _ _ hb
      have nrb : r ≠ b := fun z => by rw [z, hbx] at hR; cases hR
      refine ⟨_, rfl, b, _, dx, _, rfl, hbx, T.cl_Building, T.naBuilding_own_sides, (by show 3 < 1000; decide), ?_⟩
      have ngb : g ≠ b := fun z => by rw [z, hbx] at hg; cases hg
      refine ⟨_, rfl, rfl, _, rfl, iteF ?_⟩
      refine ⟨_, rfl, g, _, rfl, .inr ⟨SqT.of (by rw [upd_ne ngb]; exact hg), ?_⟩⟩
      refine ⟨_, rfl, b, _, dx, _, rfl, upd_same, T.cl_Building, T.naBuilding_own_ring, (by show 4 < 1000; decide), ?_⟩
      rw [upd_upd]
      refine ⟨_, rfl, _, rfl, b, _, dx, _, _, rfl, upd_same, T.cl_Building, T.naBuilding_pairs, rfl, r, p, rs, L, rfl, by rw [upd_ne nrb]; exact hR, (hc.mono sx).put hbx, hP, fun l zs H5 s5 hl hz => ?_⟩
      refine ⟨l, zs, rfl, .inl ⟨SqL.of hl, fun e he => ?_⟩⟩
      have s6 := s5.then_ (o := .tup zs) he
      refine ⟨_, rfl, b, _, dx, _, rfl, s6 _ _ upd_same, T.cl_Building, T.naBuilding_own_bridges, (by show 5 < 1000; decide), ?_⟩
      refine k _ _ _ _ ?_ upd_same ?_
      · exact ((Frm.of sx).put (by simp)).trans ((Frm.of s6).put (by simp))
      · refine SidesV.mono (SidesV.mono sV ?_) (cut_same (M := [b]))
        exact (((Frm.of (Same.refl Hx)).put (by simp)).trans ((Frm.of s6).put (by simp))).cut
  · intro q l1 l2 xs ys H2 s2 hq h1 h2 hx hy lx ly
    refine ⟨_, rfl, _, rfl, b, _, dx, _, _, rfl, s2 _ _ (s1 _ _ hb), T.cl_Building, T.naBuilding_pairs, rfl, r, p, rs, L, rfl, s2 _ _ hrl, (hc.mono s1).mono s2, hP, ?_, ?_⟩
    · intro H3 s3
      refine ⟨_, _, rfl, ?_⟩
      have s13 := (s1.trans s2).trans s3
      have hq3 := s3 _ _ hq
      have h13 := s3 _ _ h1
      have h23 := s3 _ _ h2
      refine ⟨_, rfl, rfl, _, rfl, iteF ?_⟩
      refine ⟨_, rfl, q, _, 0, _, rfl, rfl, SqT.of hq3, rfl, l1, _, rfl, .inl ⟨SqL.of h13, fun t1 ht1 => ?_⟩⟩
      refine ⟨_, rfl, q, _, 1, _, rfl, rfl, SqT.of ((Same.new ht1) _ _ hq3), rfl, l2, _, rfl, .inl ⟨SqL.of ((Same.new ht1) _ _ h23), fun t2 ht2 => ?_⟩⟩
      refine ⟨by show 2 ≤ sizeLine; omega, fun t ht => ?_⟩
      have s3x : Same H3 (upd (upd (upd H3 t1 (.tup (xs.map V.str))) t2 (.tup (ys.map V.str))) t (.tup [.ref t1, .ref t2])) := ((Same.new ht1).then_ ht2).then_ ht
      have sx := s13.trans s3x
      have hb3 := s13 _ _ hb
      have u1 : t1 ≠ b := fun z => by rw [z, hb3] at ht1; cases ht1
      have u2 : t2 ≠ b := fun z => by rw [z, (Same.new ht1) _ _ hb3] at ht2; cases ht2
      have u3 : t ≠ b := fun z => by rw [z, (Same.new ht2) _ _ ((Same.new ht1) _ _ hb3)] at ht; cases ht
      have sV : SidesV rs (cut [b] (upd (upd (upd H3 t1 (.tup (xs.map V.str))) t2 (.tup (ys.map V.str))) t (.tup [.ref t1, .ref t2]))) (.ref t) :=
        .inr ⟨t, t1, t2, xs, ys, rfl, cut_some upd_same (by simp [u3]), cut_some ((Same.new ht) _ _ ((Same.new ht2) _ _ upd_same)) (by simp [u1]), cut_some ((Same.new ht) _ _ upd_same) (by simp [u2]), hx, hy, lx, ly⟩
      have hR := s3x _ _ (s3 _ _ (s2 _ _ hrl))
      generalize hHx : (upd (upd (upd H3 t1 (.tup (xs.map V.str))) t2 (.tup (ys.map V.str))) t (.tup [.ref t1, .ref t2])) = Hx at *
      have hbx := sx _ _ hb
      have nrb : r ≠ b := fun z => by rw [z, hbx] at hR; cases hR
      refine ⟨_, rfl, b, _, dx, _, rfl, hbx, T.cl_Building, T.naBuilding_own_sides, (by show 3 < 1000; decide), ?_⟩
      refine ⟨_, rfl, rfl, _, rfl, iteT ?_⟩
      refine ⟨_, rfl, b, _, dx, _, rfl, upd_same, T.cl_Building, T.naBuilding_own_ring, (by show 4 < 1000; decide), ?_⟩
      rw [upd_upd]
      refine ⟨_, rfl, _, rfl, b, _, dx, _, _, rfl, upd_same, T.cl_Building, T.naBuilding_pairs, rfl, r, p, rs, L, rfl, by rw [upd_ne nrb]; exact hR, (hc.mono sx).put hbx, hP, fun l zs H5 s5 hl hz => ?_⟩
      refine ⟨l, zs, rfl, .inl ⟨SqL.of hl, fun e he => ?_⟩⟩
      have s6 := s5.then_ (o := .tup zs) he
      refine ⟨_, rfl, b, _, dx, _, rfl, s6 _ _ upd_same, T.cl_Building, T.naBuilding_own_bridges, (by show 5 < 1000; decide), ?_⟩
      refine k _ _ _ _ ?_ upd_same ?_
      · exact ((Frm.of sx).put (by simp)).trans ((Frm.of s6).put (by simp))
      · refine SidesV.mono (SidesV.mono sV ?_) (cut_same (M := [b]))
        exact (((Frm.of (Same.refl Hx)).put (by simp)).trans ((Frm.of s6).put (by simp))).cut
    · intro g gs H3 s3 hg
      refine ⟨_, _, rfl, ?_⟩
      have s13 := (s1.trans s2).trans s3
      have hq3 := s3 _ _ hq
      have h13 := s3 _ _ h1
      have h23 := s3 _ _ h2
      refine ⟨_, rfl, rfl, _, rfl, iteF ?_⟩
      refine ⟨_, rfl, q, _, 0, _, rfl, rfl, SqT.of hq3, rfl, l1, _, rfl, .inl ⟨SqL.of h13, fun t1 ht1 => ?_⟩⟩
      refine ⟨_, rfl, q, _, 1, _, rfl, rfl, SqT.of ((Same.new ht1) _ _ hq3), rfl, l2, _, rfl, .inl ⟨SqL.of ((Same.new ht1) _ _ h23), fun t2 ht2 => ?_⟩⟩
      refine ⟨by show 2 ≤ sizeLine; omega, fun t ht => ?_⟩
      have s3x : Same H3 (upd (upd (upd H3 t1 (.tup (xs.map V.str))) t2 (.tup (ys.map V.str))) t (.tup [.ref t1, .ref t2])) := ((Same.new ht1).then_ ht2).then_ ht
      have sx := s13.trans s3x
      have hb3 := s13 _ _ hb
      have u1 : t1 ≠ b := fun z => by rw [z, hb3] at ht1; cases ht1
      have u2 : t2 ≠ b := fun z => by rw [z, (Same.new ht1) _ _ hb3] at ht2; cases ht2
      have u3 : t ≠ b := fun z => by rw [z, (Same.new ht2) _ _ ((Same.new ht1) _ _ hb3)] at ht; cases ht
      have sV : SidesV rs (cut [b] (upd (upd (upd H3 t1 (.tup (xs.map V.str))) t2 (.tup (ys.map V.str))) t (.tup [.ref t1, .ref t2]))) (.ref t) :=
        .inr ⟨t, t1, t2, xs, ys, rfl, cut_some upd_same (by simp [u3]), cut_some ((Same.new ht) _ _ ((Same.new ht2) _ _ upd_same)) (by simp [u1]), cut_some ((Same.new ht) _ _ upd_same) (by simp [u2]), hx, hy, lx, ly⟩
      have hg := s3x _ _ hg
      have hR := s3x _ _ (s3 _ _ (s2 _ _ hrl))
      generalize hHx : (upd (upd (upd H3 t1 (.tup (xs.map V.str))) t2 (.tup (ys.map V.str))) t (.tup [.ref t1, .ref t2])) = Hx at *
      have hbx := sx _ _ hb
      have nrb : r ≠ b := fun z => by rw [z, hbx] at hR; cases hR
      refine ⟨_, rfl, b, _, dx, _, rfl, hbx, T.cl_Building, T.naBuilding_own_sides, (by show 3 < 1000; decide), ?_⟩
      have ngb : g ≠ b := fun z => by rw [z, hbx] at hg; cases hg
      refine ⟨_, rfl, rfl, _, rfl, iteF ?_⟩
      refine ⟨_, rfl, g, _, rfl, .inr ⟨SqT.of (by rw [upd_ne ngb]; exact hg), ?_⟩⟩
      refine ⟨_, rfl, b, _, dx, _, rfl, upd_same, T.cl_Building, T.naBuilding_own_ring, (by show 4 < 1000; decide), ?_⟩
      rw [upd_upd]
      refine ⟨_, rfl, _, rfl, b, _, dx, _, _, rfl, upd_same, T.cl_Building, T.naBuilding_pairs, rfl, r, p, rs, L, rfl, by rw [upd_ne nrb]; exact hR, (hc.mono sx).put hbx, hP, fun l zs H5 s5 hl hz => ?_⟩
      refine ⟨l, zs, rfl, .inl ⟨SqL.of hl, fun e he => ?_⟩⟩
      have s6 := s5.then_ (o := .tup zs) he
      refine ⟨_, rfl, b, _, dx, _, rfl, s6 _ _ upd_same, T.cl_Building, T.naBuilding_own_bridges, (by show 5 < 1000; decide), ?_⟩
      refine k _ _ _ _ ?_ upd_same ?_
      · exact ((Frm.of sx).put (by simp)).trans ((Frm.of s6).put (by simp))
      · refine SidesV.mono (SidesV.mono sV ?_) (cut_same (M := [b]))
        exact (((Frm.of (Same.refl Hx)).put (by simp)).trans ((Frm.of s6).put (by simp))).cut
/-! ### __init__ -/
theorem lock_same {H0 H H' : Hp} {s : Addr} {u : HO} {od : Obj} (a : Same H0 H) (hs : H s = some u) (b : Same (upd H s (.frz od u)) H') : Same H0 (upd H' s u) := fun x o h => by
  by_cases c : x = s
  · subst c
    rw [upd_same, ← hs]
    exact a _ _ h
  · rw [upd_ne c]
    exact b _ _ (by rw [upd_ne c]; exact a _ _ h)
theorem lock_at {H H' : Hp} {s x : Addr} {u o : HO} {od : Obj} (b : Same (upd H s (.frz od u)) H') (h : H x = some o) (n : x ≠ s) : upd H' s u x = some o := by
  rw [upd_ne n]
  exact b _ _ (by rw [upd_ne n]; exact h)
theorem con_rooms (T : Says w K mg) : ∃ u, Con K (He.ga K "Building") "MOST_ROOMS" (.int 24) u := by
  have h1 := T.cMOST_ROOMS
  have h2 := T.cIntGet
  cases q : PySem.W.findIn K (.ref (He.ga K "Building")) "MOST_ROOMS" with
  | none => rw [q] at h1; cases h1
  | some o =>
    cases o with
    | none => rw [q] at h1; cases h1
    | some u =>
      rw [q] at h1 h2
      refine ⟨u, q, ?_, of_decide_eq_true h2, by decide +kernel⟩
      cases u with
      | int i t =>
        by_cases e : i = 24
        · subst e; exact ⟨t, rfl⟩
        · simp [e] at h1
      | _ => cases h1
theorem con_cors (T : Says w K mg) : ∃ u, Con K (He.ga K "Building") "MOST_CORRIDORS" (.int 40) u := by
  have h1 := T.cMOST_CORRIDORS
  have h2 := T.cIntGet2
  cases q : PySem.W.findIn K (.ref (He.ga K "Building")) "MOST_CORRIDORS" with
  | none => rw [q] at h1; cases h1
  | some o =>
    cases o with
    | none => rw [q] at h1; cases h1
    | some u =>
      rw [q] at h1 h2
      refine ⟨u, q, ?_, of_decide_eq_true h2, by decide +kernel⟩
      cases u with
      | int i t =>
        by_cases e : i = 40
        · subst e; exact ⟨t, rfl⟩
        · simp [e] at h1
      | _ => cases h1
theorem JD.rebase {H0 H1 H : Hp} {D : List Cor} {d : Addr} {kvs : List (Key × V)} (J : JD H0 D d H kvs) (e : Same H1 H0) : JD H1 D d H kvs :=
  ⟨J.at_, e.free J.new, e.trans J.same, J.nd, fun kv hk => let ⟨r, l, xs, h1, h2, h3⟩ := J.ls kv hk; ⟨r, l, xs, h1, e.free h2, h3⟩, J.inj, J.has, J.len⟩
theorem JD.putb {H0 H : Hp} {D : List Cor} {d b C dx : Addr} {fs : List (Str × V)} {kvs : List (Key × V)} {o : HO} (J : JD H0 D d H kvs) (h0 : H0 b = none) (h : H b = some (.ins C dx fs)) : JD H0 D d (upd H b o) kvs := by
  have n1 : d ≠ b := fun z => by have := J.at_; rw [z, h] at this; cases this
  refine ⟨by rw [upd_ne n1]; exact J.at_, J.new, J.same.mut h0, J.nd, fun kv hk => ?_, J.inj, J.has, J.len⟩
  obtain ⟨r, l, xs, h1, h2, h3, h4⟩ := J.ls kv hk
  have n2 : l ≠ b := fun z => by rw [z, h] at h3; cases h3
  exact ⟨r, l, xs, h1, h2, by rw [upd_ne n2]; exact h3, h4⟩
/-- a key with a new empty list -/
theorem JD.key {H0 H : Hp} {d p : Addr} {kvs : List (Key × V)} (J : JD H0 [] d H kvs) {r : Str} (h : valV kvs (.inr r) = none) (hp : H p = none) (hl : kvs.length < 30) :
    JD H0 [] d (upd (upd H p (.lst [])) d (.dK (putK kvs (.inr r) (.ref p)))) (putK kvs (.inr r) (.ref p)) := by
  have nd : p ≠ d := fun z => by rw [z, J.at_] at hp; cases hp
  have hi : ∀ k, (k, V.ref p) ∉ kvs := fun k z => by
    obtain ⟨r2, l2, xs2, f1, f2, f3, _⟩ := J.ls _ z
    obtain ⟨_, f1⟩ := Prod.mk.inj f1
    cases f1
    rw [hp] at f3
    cases f3
  rw [putK_new _ h]
  refine ⟨upd_same, J.new, (J.same.then_ hp).mut J.new, ?_, fun kv hk => ?_, fun k k' l h1 h2 => ?_, fun r2 x2 h2 => by simp at h2, by simp; omega⟩
  · rw [List.map_append, List.nodup_append]
    exact ⟨J.nd, by simp, fun a ha b hb z => valV_not h (by rw [show b = Sum.inr r by simpa using hb] at z; exact z ▸ ha)⟩
  · rcases List.mem_append.mp hk with q | q
    · obtain ⟨r2, l2, xs2, f1, f2, f3, f4, f5⟩ := J.ls kv q
      have n2 : l2 ≠ d := fun z => by rw [z, J.at_] at f3; cases f3
      exact ⟨r2, l2, xs2, f1, f2, by rw [upd_ne n2]; exact (Same.new hp) _ _ f3, f4, f5⟩
    · exact ⟨r, p, [], by simpa using q, J.same.free hp, by rw [upd_ne nd, upd_same]; rfl, by simp, by simp⟩
  · rcases List.mem_append.mp h1 with q1 | q1 <;> rcases List.mem_append.mp h2 with q2 | q2
    · exact J.inj _ _ _ q1 q2
    · have e2 : k' = Sum.inr r ∧ l = p := by simpa using q2
      obtain ⟨rfl, rfl⟩ := e2
      exact absurd q1 (hi _)
    · have e1 : k = Sum.inr r ∧ l = p := by simpa using q1
      obtain ⟨rfl, rfl⟩ := e1
      exact absurd q2 (hi _)
    · have e1 : k = Sum.inr r ∧ l = p := by simpa using q1
      have e2 : k' = Sum.inr r ∧ l = p := by simpa using q2
      rw [e1.1, e2.1]
theorem JD.unlock {H H' : Hp} {D : List Cor} {s d : Addr} {u : HO} {od : Obj} {kvs : List (Key × V)} (J : JD (upd H s (.frz od u)) D d H' kvs) (hs : H s = some u) : JD H D d (upd H' s u) kvs := by
  have ne : ∀ {x}, upd H s (.frz od u) x = none → x ≠ s := fun h z => by rw [z, upd_same] at h; cases h
  have n1 := ne J.new
  refine ⟨by rw [upd_ne n1]; exact J.at_, by have := J.new; rwa [upd_ne n1] at this, lock_same (Same.refl _) hs J.same, J.nd, fun kv hk => ?_, J.inj, J.has, J.len⟩
  obtain ⟨r, l, xs, h1, h2, h3, h4⟩ := J.ls kv hk
  have n2 := ne h2
  exact ⟨r, l, xs, h1, by rwa [upd_ne n2] at h2, by rw [upd_ne n2]; exact h3, h4⟩
theorem JD.near {B H : Hp} {E E' : List Cor} {d b : Addr} {rs : List Str} {kvs : List (Key × V)} {C dx : Addr} {fs : List (Str × V)} (J : JD B (both E) d H kvs) (hk : kvs.map (·.1) = rs.map Sum.inr) (hb : H b = some (.ins C dx fs)) (he : ∀ x y, adj E x y ↔ adj E' x y) (hl : E.length ≤ 20) :
    Near E' rs d (cut [b] H) kvs := by
  have n1 : d ≠ b := fun z => by have := J.at_; rw [z, hb] at this; cases this
  refine ⟨cut_some J.at_ (by simp [n1]), fun r hr => ?_⟩
  have m : (Sum.inr r : Key) ∈ kvs.map (·.1) := by rw [hk]; exact List.mem_map_of_mem hr
  cases q : valV kvs (.inr r) with
  | none => exact absurd m (valV_not q)
  | some v =>
    obtain ⟨r2, l, xs, h1, h2, h3, h4, h5⟩ := J.ls _ (mem_val q)
    obtain ⟨e1, rfl⟩ := Prod.mk.inj h1
    cases e1
    have n2 : l ≠ b := fun z => by rw [z, hb] at h3; cases h3
    refine ⟨l, xs, rfl, cut_some h3 (by simp [n2]), by rw [length_both] at h4; omega, fun x => ?_⟩
    rw [h5, mem_both, he]
/-- self.near[r].append(x) -/
theorem near_append {H0 H : Hp} {D : List Cor} {d b C dx : Addr} {fs : List (Str × V)} {kvs : List (Key × V)} {r x : Str} {i j : Nat} {σ : L2.St} {N : Ends} (J : JD H0 D d H kvs) (hD : D.length ≤ 60) (hb : H b = some (.ins C dx fs)) (hc : Cls K C) (ha : NoAttr K C "near") (hf : fs.lookup ("near" : Str) = some (.ref d))
    (h0 : σ[0]? = some (some (.ref b))) (hi : σ[i]? = some (some (.str r))) (hj : σ[j]? = some (some (.str x))) (hm : (Sum.inr r : Key) ∈ kvs.map (·.1))
    (k : ∀ H', JD H0 (D ++ [(r, x)]) d H' kvs → H' b = some (.ins C dx fs) → N.nx σ H') : tDrop (tBM K "list" rAppend (tDGet (tFld K (tVar 0) "near") (tVar i)) (tCons (tVar j) tNil)) N σ H := by
  have hbig : sizeLine = 16777216 := sizeLine_eq
  cases q : valV kvs (.inr r) with
  | none => exact absurd hm (valV_not q)
  | some v =>
    obtain ⟨l, xs, rfl, h1, h2, J2⟩ := J.old q x
    have hg : DGet H d (.str r) (some (.ref l)) := by
      have := DGet.k (k := .inr r) J.at_
      rwa [q] at this
    have n : b ≠ l := fun z => by rw [← z, hb] at h1; cases h1
    exact ⟨_, h0, b, C, dx, fs, _, rfl, hb, hc, ha, hf, _, hi, d, _, rfl, hg, tyList h1, _, hj, l, _, _, rfl, rfl, h1, by rw [List.length_map]; omega, k _ J2 (by rw [upd_ne n]; exact hb)⟩
theorem iD_get {rs : List Str} {f : Str → Int} {i : Nat} {k : Key} {v : V} (h : (iD rs f)[i]? = some (k, v)) : ∃ r, rs[i]? = some r ∧ k = .inr r ∧ v = .int (f r) := by
  unfold iD at h
  rw [List.getElem?_map] at h
  obtain ⟨r, h1, h2⟩ := Option.map_eq_some_iff.mp h
  exact ⟨r, h1, (Prod.mk.inj h2).1.symm, (Prod.mk.inj h2).2.symm⟩
/-- a building -/
structure BldAt (C : Addr) (H : Hp) (b : Addr) (rs : List Str) (sz : Str → Int) (E : List Cor) : Prop where
  ex : ∃ dx s p n v1 v2 v3 L kvs, H b = some (.ins C dx (bf s p n v1 v2 v3)) ∧ H s = some (.dK (iD rs sz)) ∧ CorAt H p L ∧ Near E rs n H kvs ∧ SidesV rs H v1
  nm : Names rs
  pos : ∀ r ∈ rs, 1 ≤ sz r ∧ sz r ≤ 1000000000
theorem BldAt.mono {C : Addr} {H H' : Hp} {b : Addr} {rs : List Str} {sz : Str → Int} {E : List Cor} (h : BldAt C H b rs sz E) (e : Same H H') : BldAt C H' b rs sz E := by
  obtain ⟨⟨dx, s, p, n, v1, v2, v3, L, kvs, h1, h2, h3, h4, h5⟩, a, c⟩ := h
  exact ⟨⟨dx, s, p, n, v1, v2, v3, L, kvs, e _ _ h1, e _ _ h2, h3.mono e, h4.mono e, h5.mono e⟩, a, c⟩
theorem BldAt.sz {C : Addr} {H : Hp} {b : Addr} {rs : List Str} {sz : Str → Int} {E : List Cor} (h : BldAt C H b rs sz E) : SzAt C H b rs sz := by
  obtain ⟨⟨dx, s, p, n, v1, v2, v3, L, kvs, h1, h2, h3, h4, h5⟩, a, c⟩ := h
  exact ⟨dx, _, s, h1, rfl, h2⟩
def spInit (C : Addr) : Sp := fun vs H Q _ => ∃ b s0 c0 dx names sz L, vs = [.ref b, .ref s0, .ref c0] ∧ H b = some (.ins C dx []) ∧ H s0 = some (.dK (iD names sz)) ∧ Names names ∧ names ≠ [] ∧ (∀ r ∈ names, 1 ≤ sz r ∧ sz r ≤ 1000000000) ∧ CorAt H c0 L ∧ Cors (cors L) names ∧ Conn (cors L) names ∧
  ∀ rs H', rs.Perm names → Frm [b] H H' → BldAt C H' b rs sz (cors L) → Q .non H'
theorem sc_Building_init : FnScope ["self", "sizes", "corridors", "name", "size", "one", "other", "room"] ["self", "sizes", "corridors"] (defScope sBuilding_init) := ⟨rfl, rfl, rfl, by decide +kernel, rfl, by decide +kernel, by decide +kernel⟩
theorem okBuilding_init (T : Says w K mg) : C8.Mak P w K mg base 5 "Building" (He.ga K "Building") (spInit (He.ga K "Building")) [] := by
  refine mak_of T.dBuilding_init T.mk_Building T.g_Building sc_Building_init (fun vs H Q E h => ?_) (fun _ _ _ _ _ _ us hl => match us, hl with | [_, _, _], _ => rfl) (fun cdv A outer s H vs Q E hr h => ?_)
  · obtain ⟨_, _, _, _, _, _, _, rfl, _⟩ := h; rfl
  refine ⟨_, (pss_cons (ps_lock (ps_for PassesOwn.never rfl (pi_keys (pv 1)) (pg_name (i := 3) sc_Building_init.nd rfl (Or.inl rfl)) (pss_one (ps_if (pt_not (pt_val (C8.pe_c (ok_is_name T) hr (by decide) rfl (pa_cons (pv 3) pa_nil)))) (pss_one ps_never) pss_nil))))
    (pss_cons (ps_lock (ps_for PassesOwn.never rfl (pi_values (pv 1)) (pg_name (i := 4) sc_Building_init.nd rfl (Or.inl rfl)) (pss_one (ps_if (pt_not (pt_val (C8.pe_c (ok_is_between T) hr (by decide) rfl (pa_cons (pv 4) (pa_cons pe_int (pa_cons (pe_gi T.i_MOST_SIZE_buildings rfl) pa_nil)))))) (pss_one ps_never) pss_nil))))
    (pss_cons (ps_if (pt_cmpR op_gt (pe_callB (id := "len") call_lenD (by rfl) T.z_len PySem.boot_len (pa_cons (pv 1) pa_nil)) (pe_con (pv 0) rfl) (nomark _)) (pss_one ps_never) pss_nil)
    (pss_cons (ps_fld (pv 0) (pe_dc (own := [("room", 7)]) (g := (gName 7)) (tt := tYes) rfl sc_Building_init.nd (pi_list (pe_callB (id := "sorted") (call_sortedD rfl) (by rfl) T.z_sorted (by decide +kernel) (pa_cons (pv 1) pa_nil))) (blkOk_by (own := [("room", 7)]) (N := ["self", "sizes", "corridors", "name", "size", "one", "other", "room"]) (sc := defScope sBuilding_init) (by decide +kernel)) (fun _ _ _ _ _ => (pg_name (i := 7) sc_Building_init.nd rfl (Or.inl rfl))) (fun _ _ _ _ _ => pts_nil) (fun _ _ _ _ _ => (pv 7)) (fun _ _ _ _ _ => (pe_dget (hu_of hr) (pv 1) (pv 7) (fun _ _ => rfl)))) rfl)
    (pss_cons (ps_fld (pv 0) (C8.pe_mt (okBuilding_sorted_pairs T) hr (by decide) (pv 0) (pa_cons (pv 2) pa_nil)) rfl)
    (pss_cons (ps_if (pt_cmpR op_gt (pe_callB (id := "len") call_len_seq (by rfl) T.z_len PySem.boot_len (pa_cons (pe_fld (pv 0) rfl) pa_nil)) (pe_con (pv 0) rfl) (nomark _)) (pss_one ps_never) pss_nil)
    (pss_cons (ps_expr (C8.pe_mt0 (okBuilding_check_connected T) hr (by decide) (pv 0)))
    (pss_cons (ps_fld (pv 0) (pe_lock (pe_dc (own := [("room", 7)]) (g := (gName 7)) (tt := tYes) rfl sc_Building_init.nd (pi_keys (pe_fld (pv 0) rfl)) (blkOk_by (own := [("room", 7)]) (N := ["self", "sizes", "corridors", "name", "size", "one", "other", "room"]) (sc := defScope sBuilding_init) (by decide +kernel)) (fun _ _ _ _ _ => (pg_name (i := 7) sc_Building_init.nd rfl (Or.inl rfl))) (fun _ _ _ _ _ => pts_nil) (fun _ _ _ _ _ => (pv 7)) (fun _ _ _ _ _ => (pe_lst pa_nil)))) rfl)
    (pss_cons (ps_for PassesOwn.never rfl (pi_list (pe_fld (pv 0) rfl)) (pg_tup rfl (pgs_cons (pg_name (i := 5) sc_Building_init.nd rfl (Or.inl rfl)) (pgs_cons (pg_name (i := 6) sc_Building_init.nd rfl (Or.inl rfl)) pgs_nil))) (pss_cons (ps_expr (pe_bm PySem.F.plainAttrs_list PySem.F.slot_list_append PySem.F.type_list_append mt_append (pe_dget (hu_of hr) (pe_fld (pv 0) rfl) (pv 5) (fun _ _ => rfl)) (pa_cons (pv 6) pa_nil)))
    (pss_one (ps_expr (pe_bm PySem.F.plainAttrs_list PySem.F.slot_list_append PySem.F.type_list_append mt_append (pe_dget (hu_of hr) (pe_fld (pv 0) rfl) (pv 6) (fun _ _ => rfl)) (pa_cons (pv 5) pa_nil))))))
    (pss_one (ps_expr (C8.pe_mt0 (okBuilding_prepare T) hr (by decide) (pv 0))))))))))))), ?_⟩
  obtain ⟨b, s0, c0, dx, names, sz, L, rfl, hb, hs0, hn, hne, hpos, hc, hC, hconn, k⟩ := h
  have hbig : sizeLine = 16777216 := sizeLine_eq
  have nsb : s0 ≠ b := fun z => by rw [z, hb] at hs0; cases hs0
  -- the heap without the object
  obtain ⟨Hc, eHc⟩ : ∃ Hc, Hc = cut [b] H := ⟨_, rfl⟩
  have hcb : Hc b = none := by rw [eHc]; unfold cut; rw [if_pos (by simp)]
  have s0s : Same Hc H := by rw [eHc]; exact cut_same
  have hs0c : Hc s0 = some (.dK (iD names sz)) := by rw [eHc]; exact cut_some hs0 (by simp [nsb])
  have hcc : CorAt Hc c0 L := by
    rw [eHc]
    have n1 : c0 ≠ b := fun z => by have := hc.at_; rw [z, hb] at this; cases this
    exact ⟨cut_some hc.at_ (by simp [n1]), fun q hq => rd_cut (hc.each q hq) (by
      have : q.1 ≠ b := rd_ne (hc.each q hq) hb (by simp) (by simp)
      simp [this]), hc.few⟩
  have lks : (iD names sz).length = names.length := iD_len names sz
  refine ⟨s0, _, hs0, trivial, fun od => ⟨_, rfl, s0, od, rfl, .inl ⟨_, upd_same, ?_⟩⟩⟩
  refine for_it (walk_keys (kvs := iD names sz)) (fun i σ H' => Same (upd H s0 (.frz od (.dK (iD names sz)))) H' ∧ ∃ x, σ = [some (.ref b), some (.ref s0), some (.ref c0), x, none, none, none, none]) ⟨Same.refl _, _, rfl⟩ (fun i σ H' _ h => h.1 _ _ upd_same) ?_ ?_
  · rintro i x σ H3 H3' hi ⟨s3, y, rfl⟩ ⟨rfl, k', v', hk', rfl⟩
    obtain ⟨r, hr', rfl, rfl⟩ := iD_at hk'
    refine ⟨_, rfl, _, rfl, .inl ⟨r, rfl, Nat.le_trans (hn.len r hr') (by decide), fun H' s' => ⟨_, rfl, ?_⟩⟩⟩
    rw [hn.nm r hr']
    exact iteF ⟨s3.trans s', _, rfl⟩
  rintro σ H3 ⟨s3, x3, rfl⟩
  refine ⟨s3 _ _ upd_same, ?_⟩
  have t1 := lock_same s0s hs0 s3
  have b1 : upd H3 s0 (.dK (iD names sz)) b = some (.ins (He.ga K "Building") dx []) := lock_at s3 hb (Ne.symm nsb)
  generalize upd H3 s0 (.dK (iD names sz)) = H4 at t1 b1
  refine ⟨s0, _, t1 _ _ hs0c, trivial, fun od2 => ⟨_, rfl, s0, od2, _, rfl, upd_same, ?_⟩⟩
  refine for_it (walk_values (kvs := iD names sz)) (fun i σ H' => Same (upd H4 s0 (.frz od2 (.dK (iD names sz)))) H' ∧ ∃ x, σ = [some (.ref b), some (.ref s0), some (.ref c0), x3, x, none, none, none]) ⟨Same.refl _, _, rfl⟩ (fun i σ H' _ h => h.1 _ _ upd_same) ?_ ?_
  · rintro i x σ H5 H5' hi ⟨s5, y, rfl⟩ ⟨rfl, k', hk'⟩
    obtain ⟨r, hr', rfl, rfl⟩ := iD_at hk'
    refine ⟨_, rfl, sz r, 1, 1000000000, rfl, _, rfl, ?_⟩
    rw [decide_eq_true (hpos r hr').1, decide_eq_true (hpos r hr').2]
    exact iteF ⟨s5, _, rfl⟩
  rintro σ H5 ⟨s5, x5, rfl⟩
  refine ⟨s5 _ _ upd_same, ?_⟩
  have t2 := lock_same t1 (t1 _ _ hs0c) s5
  have b2 : upd H5 s0 (.dK (iD names sz)) b = some (.ins (He.ga K "Building") dx []) := lock_at s5 b1 (Ne.symm nsb)
  generalize upd H5 s0 (.dK (iD names sz)) = H6 at t2 b2
  have hs06 := t2 _ _ hs0c
  obtain ⟨u24, c24⟩ := con_rooms T
  refine ⟨_, rfl, s0, _, rfl, hs06, _, rfl, b, _, dx, [], _, u24, rfl, b2, T.cl_Building, c24, rfl, _, _, rfl, rfl, _, rfl, ?_⟩
  rw [decide_eq_false (by rw [lks]; have := hn.few; omega)]
  refine iteF ?_
  refine ⟨_, rfl, s0, _, names, rfl, .inl hs06, iD_keys names sz, by have := hn.few; omega, fun rs p hperm _ hp => ?_⟩
  have hnd : rs.Nodup := hperm.nodup_iff.mpr hn.nd
  have hlen : rs.length ≤ 24 := by rw [hperm.length_eq]; exact hn.few
  refine ⟨p, rfl, ⟨_, SqL.of upd_same⟩, fun D hD => ?_⟩
  have hD0 : Hc D = none := (t2.then_ hp).free hD
  have t3 := t2.then_ (o := .lst (rs.map V.str)) hp
  have b3 := (Same.new (o := .lst (rs.map V.str)) hp) _ _ b2
  have e3 : upd H6 p (.lst (rs.map V.str)) p = some (.lst (rs.map V.str)) := upd_same
  generalize upd H6 p (.lst (rs.map V.str)) = H7 at t3 b3 e3 hD
  refine dc_it (walk_list (xs := rs.map V.str)) (fun i H' => Same H7 H' ∧ H' D = some (.dK (iD (rs.take i) sz))) ⟨Same.new hD, upd_same⟩ (fun i H' _ h => SqL.of (h.1 _ _ e3)) ?_ ?_
  · rintro i x H8 H8' hi ⟨s8, f8⟩ ⟨rfl, hx⟩
    obtain ⟨z, hz, rfl⟩ := str_at hx
    have hzn : z ∈ names := hperm.mem_iff.mp (List.mem_of_getElem? hz)
    refine ⟨rfl, _, rfl, _, rfl, _, rfl, s0, _, rfl, DGet.i (.inl ((t3.trans s8) _ _ hs0c)) hzn, _, .inr z, rfl, f8, by rw [iD_len, List.length_take]; omega, s8.mut hD, ?_⟩
    rw [upd_same, iD_new (not_take hnd hz), take_one hz]
    refine congrArg (fun o => some (HO.dK o)) (iD_congr fun r _ => ?_)
    by_cases c : r = z
    · rw [if_pos c, c]
    · rw [if_neg c]
  rintro H8 ⟨s8, f8⟩
  rw [List.length_map, List.take_length] at f8
  have b8 := s8 _ _ b3
  have nDb : D ≠ b := fun z => by rw [z, b8] at f8; cases f8
  refine ⟨_, rfl, b, _, dx, [], rfl, b8, T.cl_Building, T.naBuilding_sizes, (by show 0 < 1000; decide), ?_⟩
  have t4 : Same Hc (upd H8 b (.ins (He.ga K "Building") dx (putF "sizes" (.ref D) []))) := (t3.trans s8).mut hcb
  have b4 : upd H8 b (.ins (He.ga K "Building") dx (putF "sizes" (.ref D) [])) b = some (.ins (He.ga K "Building") dx [("sizes", .ref D)]) := upd_same
  have d4 : upd H8 b (.ins (He.ga K "Building") dx (putF "sizes" (.ref D) [])) D = some (.dK (iD rs sz)) := by rw [upd_ne nDb]; exact f8
  generalize upd H8 b (.ins (He.ga K "Building") dx (putF "sizes" (.ref D) [])) = H9 at t4 b4 d4
  have hrs : Names rs := ⟨hnd, fun r hr => hn.nm r (hperm.mem_iff.mp hr), hlen⟩
  have hCr : Cors (cors L) rs := ⟨fun q hq => ⟨hperm.mem_iff.mpr (hC.ends q hq).1, hperm.mem_iff.mpr (hC.ends q hq).2⟩, hC.lt, hC.nd⟩
  -- pairs
  refine ⟨_, rfl, b, dx, _, rfl, b4, rfl, _, rfl, b, c0, rs, sz, L, rfl, ⟨dx, _, D, b4, rfl, d4⟩, hrs, hcc.mono t4, hCr, fun q L' H10 s10 hcp hpp => ?_⟩
  have t5 : Same Hc (upd H10 b (.ins (He.ga K "Building") dx (putF "pairs" (.ref q) [("sizes", .ref D)]))) := (t4.trans s10).mut hcb
  have b10 := s10 _ _ b4
  have d10 := s10 _ _ d4
  refine ⟨_, rfl, b, _, dx, _, rfl, b10, T.cl_Building, T.naBuilding_pairs, (by show 1 < 1000; decide), ?_⟩
  have b5 : upd H10 b (.ins (He.ga K "Building") dx (putF "pairs" (.ref q) [("sizes", .ref D)])) b = some (.ins (He.ga K "Building") dx [("sizes", .ref D), ("pairs", .ref q)]) := upd_same
  have d5 : upd H10 b (.ins (He.ga K "Building") dx (putF "pairs" (.ref q) [("sizes", .ref D)])) D = some (.dK (iD rs sz)) := by rw [upd_ne nDb]; exact d10
  have c5 := hcp.put (o := .ins (He.ga K "Building") dx (putF "pairs" (.ref q) [("sizes", .ref D)])) b10
  generalize upd H10 b (.ins (He.ga K "Building") dx (putF "pairs" (.ref q) [("sizes", .ref D)])) = H11 at t5 b5 d5 c5
  obtain ⟨u40, c40⟩ := con_cors T
  refine ⟨_, rfl, b, _, dx, _, _, rfl, b5, T.cl_Building, T.naBuilding_pairs, rfl, q, _, rfl, .inl (SqL.of c5.at_), _, rfl, b, _, dx, _, _, u40, rfl, b5, T.cl_Building, c40, rfl, _, _, rfl, rfl, _, rfl, ?_⟩
  rw [decide_eq_false (by rw [List.length_map]; have := c5.few; omega)]
  refine iteF ?_
  have hP : Plan (cors L') rs := by
    refine ⟨fun q hq => hCr.ends q (hpp.mem_iff.mp hq), fun S hS hcl r hr => ?_, fun z => hne (by rw [z] at hperm; exact hperm.symm.eq_nil), by omega⟩
    obtain ⟨r0, h0, h1⟩ := hS
    exact hconn S ⟨r0, hperm.mem_iff.mp h0, h1⟩ (fun r x hr ha => hcl r x hr (by unfold adj at ha ⊢; rwa [hpp.mem_iff, hpp.mem_iff])) r (hperm.mem_iff.mp hr)
  -- check
  refine ⟨_, rfl, b, dx, _, rfl, b5, rfl, b, rs, sz, dx, _, q, L', rfl, ⟨dx, _, D, b5, rfl, d5⟩, b5, rfl, c5, hP, fun H12 s12 => ?_⟩
  have b12 := s12 _ _ b5
  have d12 := s12 _ _ d5
  have c12 := c5.mono s12
  have t6 := t5.trans s12
  have sBH : Same (cut [b] H12) H12 := cut_same
  have sHB : Same Hc (cut [b] H12) := fun x o h => cut_some (t6 _ _ h) (by
    have : x ≠ b := ne_of_none h hcb
    simp [this])
  have hBb : cut [b] H12 b = none := by unfold cut; rw [if_pos (by simp)]
  -- near
  refine ⟨D, _, d12, trivial, fun od3 => ⟨_, rfl, b, _, dx, _, _, rfl, by rw [upd_ne (Ne.symm nDb)]; exact b12, T.cl_Building, T.naBuilding_sizes, rfl, D, od3, rfl, .inl ⟨_, upd_same, fun N hN => ?_⟩⟩⟩
  refine dc_it (walk_keys (kvs := iD rs sz)) (fun i H' => ∃ kvs, JD (upd H12 D (.frz od3 (.dK (iD rs sz)))) [] N H' kvs ∧ kvs.map (·.1) = (rs.take i).map Sum.inr) ⟨[], JD.nil hN, rfl⟩ (fun i H' _ h => let ⟨kvs, J, _⟩ := h; J.same _ _ upd_same) ?_ ?_
  · rintro i x H13 H13' hi ⟨kvs, J, hk⟩ ⟨rfl, k', v', hk', rfl⟩
    obtain ⟨r, hr', rfl, rfl⟩ := iD_get hk'
    have hi' : i < rs.length := (List.getElem?_eq_some_iff.mp hr').1
    have hkl : kvs.length = i := by
      have := congrArg List.length hk
      rw [List.length_map, List.length_map, List.length_take] at this
      omega
    have hno : valV kvs (.inr r) = none := by
      cases q : valV kvs (.inr r) with
      | none => rfl
      | some v =>
        have m := valV_in q
        rw [hk] at m
        obtain ⟨y, hy, e⟩ := List.mem_map.mp m
        cases e
        exact absurd hy (not_take hnd hr')
    refine ⟨rfl, _, rfl, by show 0 ≤ sizeLine; omega, fun pl hpl => ⟨kvs, .inr r, rfl, (Same.new hpl) _ _ J.at_, by omega, _, J.key hno hpl (by omega), ?_⟩⟩
    rw [putK_new _ hno, List.map_append, hk, take_one hr', List.map_append]
    rfl
  rintro H13 ⟨kvs, J, hk⟩
  rw [iD_len, List.take_length] at hk
  refine ⟨J.same _ _ upd_same, ?_⟩
  have JU := (J.unlock d12).rebase sBH
  have bU : upd H13 D (.dK (iD rs sz)) b = some (.ins (He.ga K "Building") dx [("sizes", .ref D), ("pairs", .ref q)]) := lock_at J.same b12 (Ne.symm nDb)
  refine ⟨_, rfl, b, _, dx, _, rfl, bU, T.cl_Building, T.naBuilding_near, (by show 2 < 1000; decide), ?_⟩
  have JN := JU.putb (o := .ins (He.ga K "Building") dx (putF "near" (.ref N) [("sizes", .ref D), ("pairs", .ref q)])) hBb bU
  have b14 : upd (upd H13 D (.dK (iD rs sz))) b (.ins (He.ga K "Building") dx (putF "near" (.ref N) [("sizes", .ref D), ("pairs", .ref q)])) b = some (.ins (He.ga K "Building") dx [("sizes", .ref D), ("pairs", .ref q), ("near", .ref N)]) := upd_same
  generalize upd (upd H13 D (.dK (iD rs sz))) b (.ins (He.ga K "Building") dx (putF "near" (.ref N) [("sizes", .ref D), ("pairs", .ref q)])) = H14 at JN b14
  have cB : CorAt (cut [b] H12) q L' := by
    have n1 : q ≠ b := fun z => by have := c12.at_; rw [z, b12] at this; cases this
    exact ⟨cut_some c12.at_ (by simp [n1]), fun x hx => rd_cut (c12.each x hx) (by
      have : x.1 ≠ b := rd_ne (c12.each x hx) b12 (by simp) (by simp)
      simp [this]), c12.few⟩
  have dB : cut [b] H12 D = some (.dK (iD rs sz)) := cut_some d12 (by simp [nDb])
  refine ⟨_, rfl, b, _, dx, _, _, rfl, b14, T.cl_Building, T.naBuilding_pairs, rfl, q, rfl, ⟨_, SqL.of (JN.same _ _ cB.at_)⟩, ?_⟩
  refine for_it (walk_list (xs := L'.map fun q => V.ref q.1)) (fun i σ H' => (∃ x y, σ = [some (.ref b), some (.ref s0), some (.ref c0), x3, x5, x, y, none]) ∧ JD (cut [b] H12) (both (cors (L'.take i))) N H' kvs ∧ H' b = some (.ins (He.ga K "Building") dx [("sizes", .ref D), ("pairs", .ref q), ("near", .ref N)]))
    ⟨⟨_, _, rfl⟩, JN, b14⟩ (fun i σ H' _ h => SqL.of (h.2.1.same _ _ cB.at_)) ?_ ?_
  · rintro i x σ H15 H15' hi ⟨⟨x1, y1, rfl⟩, J, hb15⟩ ⟨rfl, hx⟩
    obtain ⟨e, he, rfl⟩ := corAt_get hx
    have ht := rd_mono (cB.each e (List.mem_of_getElem? he)) J.same
    obtain ⟨m1, m2⟩ := hP.ends _ (cor_mem he)
    have hl : (both (cors (L'.take i))).length ≤ 40 := by
      have := c12.few
      rw [length_both]; unfold cors; rw [List.length_map, List.length_take]; omega
    refine ⟨e.1, _, rfl, .inl ht, rfl, _, _, rfl, _, _, rfl, rfl, ?_⟩
    refine near_append (r := e.2.1) (x := e.2.2) J (by omega) hb15 T.cl_Building T.naBuilding_near rfl rfl rfl rfl (by rw [hk]; exact List.mem_map_of_mem m1) fun H16 J2 hb16 => ?_
    refine near_append (r := e.2.2) (x := e.2.1) J2 (by rw [List.length_append]; simp; omega) hb16 T.cl_Building T.naBuilding_near rfl rfl rfl rfl (by rw [hk]; exact List.mem_map_of_mem m2) fun H17 J3 hb17 => ?_
    refine ⟨⟨_, _, rfl⟩, ?_, hb17⟩
    have ee : both (cors (L'.take (i + 1))) = both (cors (L'.take i)) ++ [(e.2.1, e.2.2)] ++ [(e.2.2, e.2.1)] := by
      unfold cors both
      rw [List.take_add_one, he, List.map_append, List.flatMap_append]
      simp
    rw [ee]
    exact J3
  rintro σ H15 ⟨⟨x1, y1, rfl⟩, J, hb15⟩
  rw [List.length_map, List.take_length] at J
  -- prepare
  have c15 := cB.mono J.same
  have d15 := J.same _ _ dB
  refine ⟨_, rfl, b, dx, _, rfl, hb15, rfl, b, rs, sz, dx, D, q, N, L', rfl, hb15, d15, c15, hP, fun v1 v2 v3 H16 f16 hb16 hsv => ?_⟩
  have hnear := J.near (E' := cors L) hk hb15 (fun x y => by unfold adj; rw [hpp.mem_iff, hpp.mem_iff]) (by unfold cors; rw [List.length_map]; exact c12.few)
  have cutD : cut [b] H15 D = some (.dK (iD rs sz)) := cut_some d15 (by simp [nDb])
  have sB15 : Same (cut [b] H12) (cut [b] H15) := fun x o h => cut_some (J.same _ _ h) (by
    have : x ≠ b := ne_of_none h hBb
    simp [this])
  have s1516 : Same (cut [b] H15) H16 := f16.cut.trans cut_same
  refine k rs H16 hperm (Frm.of_cut (M := [b]) ?_) ⟨⟨dx, D, q, N, v1, v2, v3, L', kvs, hb16, s1516 _ _ cutD, (cB.mono sB15).mono s1516, hnear.mono s1516, hsv⟩, hrs, fun r hr => hpos r (hperm.mem_iff.mp hr)⟩
  rw [← eHc]
  exact (sHB.trans sB15).trans s1516
end
end RD

/-! RDEnum: enumerate of a tuple. -/
namespace RD
open PySem PySem.Spec PyProof.Rows L2
open AutoSeq1 (wpAny_loadPart')
theorem enumT_new (l : Addr) (items : Array Value) (n : Nat) (dct : Option Addr) (sl : Array (Option Value)) :
    Meets (Builtin.«enumerate.__new__» ⟨[.type "enumerate", .ref l], []⟩) (fun _ R s => s.heap.get? l = some { cls := .type "tuple", dict := dct, data := .seq items n, slots := sl } ∧
      R (.ok (.ret (.ref (s.heap.push { cls := .type "tuple_iterator", data := .fields #[.ref l, .int 0 0] }).objs.size)))
        { s with heap := (s.heap.push { cls := .type "tuple_iterator", data := .fields #[.ref l, .int 0 0] }).push { cls := .type "enumerate", data := .fields #[.none, .bool false, .ref s.heap.objs.size, rawInt 0, .none, .none] } }) :=
  .of_wp fun prog w A R s h => by
    obtain ⟨hp, g, d, tk, os⟩ := s
    obtain ⟨hl, h⟩ := h
    have hsub := sub_enumerate
    have hL : Heap.IsTuple (Shared.heap ⟨hp, g, d, tk, os⟩) l items := ⟨_, hl, rfl, n, rfl⟩
    wp_walk using wpAny_loadPart' hl
    refine wpAny_stack_any fun st => wpAny_pure ?_
    split
    · rename_i c _ _ _ _ _
      cases (c == Value.type "enumerate")
      · wp_walk using wpAny_loadPart' hl, wpAny_pyIter_tuple hL
        exact ⟨_, rfl, h⟩
      · wp_walk using wpAny_loadPart' hl, wpAny_pyIter_tuple hL
        exact ⟨_, rfl, h⟩
    · wp_walk using wpAny_loadPart' hl, wpAny_pyIter_tuple hL
      exact ⟨_, rfl, h⟩
section
variable {prog : Program} {w : World} {A : Around} {E : Value → Shared → Prop} {s : Shared}
theorem call_enumT {l : Addr} {items : Array Value} {Q : Value → Shared → Prop} (hL : s.heap.IsTuple l items)
    (h : ∀ h', IsEnum h' (s.heap.objs.size + 1) s.heap.objs.size 0 .none → h'.IsTupleIter s.heap.objs.size l 0 → (∀ b o, s.heap.get? b = some o → h'.get? b = some o) → Q (.ref (s.heap.objs.size + 1)) { s with heap := h' }) :
    wpAny (model prog w) A (call (.type "enumerate") [.ref l]) Q E s := by
  obtain ⟨⟨c, dct, dt, sl⟩, hl, hc, n, hd⟩ := hL
  replace hc : c = .type "tuple" := hc
  replace hd : dt = .seq items n := hd
  subst hc hd
  refine callType_new F.called_enumerate (by decide) (F.typeCall_enumerate_1 _) (F.newCall_enumerate_1 _) (fun obj => F.args_object_init_2 obj _) F.entry_enumerate_new (enumT_new l items n dct sl) ⟨hl, ?_⟩
  have hz : (s.heap.push { cls := .type "tuple_iterator", data := .fields #[.ref l, .int 0 0] }).objs.size = s.heap.objs.size + 1 := Heap.size_push ..
  show _ ∧ _
  rw [hz]
  have he : IsEnum ((s.heap.push { cls := .type "tuple_iterator", data := .fields #[.ref l, .int 0 0] }).push { cls := .type "enumerate", data := .fields #[.none, .bool false, .ref s.heap.objs.size, rawInt 0, .none, .none] }) (s.heap.objs.size + 1) s.heap.objs.size 0 .none := by
    have := Heap.get?_push_size (s.heap.push { cls := .type "tuple_iterator", data := .fields #[.ref l, .int 0 0] }) (o := { cls := .type "enumerate", data := .fields #[.none, .bool false, .ref s.heap.objs.size, rawInt 0, .none, .none] }) rfl
    rw [hz] at this
    exact this
  exact ⟨⟨_, he, rfl⟩, h _ he ⟨_, Heap.get?_push_of_some _ (Heap.get?_push_size _ rfl), rfl, rfl⟩ fun b o x => Heap.get?_push_of_some _ (Heap.get?_push_of_some _ x)⟩
end
/-- the tuple at a, each item in a new pair -/
def Iet (K : PySem.W.Frag) (a : Addr) : It :=
  ⟨fun i H => ∃ (xs : List V) (x : V), SqT K H a xs ∧ xs[i]? = some x, fun i H v H' => ∃ T x, v = .ref T ∧ H T = none ∧ H' = upd H T (.tup [.int (i : Nat), x]) ∧ ∀ xs, SqT K H a xs → xs[i]? = some x, fun i H => ∃ xs : List V, SqT K H a xs ∧ xs.length ≤ i⟩
theorem turn_enumT {P : Program} {w : World} {K : PySem.W.Frag} {elts : List Expr} {kk : Nat} {tpos : Pos} (a e it : Addr) :
    Turn P w K (.Tuple elts kk tpos) (Iet K a) [e, it] e (fun i h => (∃ old, IsEnum h e it ((i : Nat) : Int) old) ∧ h.IsTupleIter it a i ∧ e ≠ it) where
  mem := by simp
  obj := fun i h st b hb => by
    obtain ⟨⟨old, he⟩, ⟨o, ho, hc, hd⟩, _⟩ := st
    have e' : b = e ∨ b = it := by simpa using hb
    rcases e' with z | z
    · rw [z]; exact ⟨_, he, fun v q => nomatch q⟩
    · rw [z]; exact ⟨o, ho, fun v q => by rw [hd] at q; cases q⟩
  keep := fun i h h' st k => let ⟨⟨old, he⟩, hi, hne⟩ := st; ⟨⟨old, k e (by simp) _ he⟩, hi.at fun o q => k it (by simp) o q, hne⟩
  item := by
    intro X hP hw hK hc i pins s σ H E I hf st hg
    subst hP hw hK
    obtain ⟨⟨old, he⟩, hit, hne⟩ := st
    obtain ⟨xs, x, hq, hx⟩ := hg
    obtain ⟨its, rv, p, hz⟩ := I.tuple hq
    have p : s.heap.IsTuple a its.toArray := p
    obtain ⟨u, hu, ru⟩ := rv.get hx
    have hel : e < s.heap.objs.size := Heap.lt_size he
    have hil : it < s.heap.objs.size := by obtain ⟨_, q, _⟩ := hit; exact Heap.lt_size q
    have hai : a ≠ it := fun z => by
      obtain ⟨o, q, c, _⟩ := hit
      obtain ⟨o2, q2, c2, _⟩ := p
      rw [z, q] at q2
      cases q2
      rw [c] at c2
      injection c2 with c3
      exact absurd c3 (by decide)
    have hea : e ≠ a := fun z => by
      obtain ⟨o2, q2, c2, _⟩ := p
      rw [← z, he] at q2
      cases q2
      injection c2 with c3
      exact absurd c3 (by decide)
    have hlt : i < its.toArray.size := by rw [List.size_toArray]; exact (List.getElem?_eq_some_iff.mp hu).1
    refine wpAny_pyNext_enum_itemD (Draws.tuple (A := X.A.in1) (I.ok.hd hc) it a hai its.toArray) he ⟨hit, p⟩ hlt hne (by simp [hne, hea]) fun v h' tk hP ho hit' hT hsz hk => ?_
    have hv : v = u := by rw [show its.toArray[i]? = some u by simpa using hu] at hP; exact (Option.some.inj hP).symm
    subst hv
    refine ⟨_, rfl, wpAny_letOwnedTupleGo_enum (s := { s with heap := h', toks := tk + 1 }) ho fun h'' he' sb => ?_⟩
    have hT2 : h''.get? s.heap.objs.size = some { cls := .type "tuple", data := .seq #[.int i tk, v] } := (sb.2 _ (Nat.ne_of_gt hel)).trans hT
    have new : ObjOk X.prog X.w (upd H s.heap.objs.size (.tup [.int (i : Nat), x])) h'' s.heap.objs.size (.tup [.int (i : Nat), x]) :=
      ⟨by show 2 ≤ sizeLine; decide, [.int i tk, v], .cons ⟨_, rfl⟩ (.cons ru .nil), ⟨_, hT2, rfl, _, rfl⟩⟩
    have I1 : Inv X pins σ (upd H s.heap.objs.size (.tup [.int (i : Nat), x])) { s with heap := h'', toks := tk + 1 } :=
      I.turnedNew (ch := [e, it]) (fun b ob hb q => (sb.2 b (fun z => hb (by simp [z]))).trans (hk b ob (fun z => hb (by simp [z])) (fun z => hb (by simp [z])) q)) hf (Nat.le_refl _) new
    refine ⟨.ref s.heap.objs.size, _, I1, rfl, ⟨_, x, rfl, I.hok.fresh (Nat.le_refl _), rfl, fun ys hy => by rw [I.tuple_inj hy hq]; exact hx⟩, ⟨⟨v, ?_⟩, hit'.1.at fun o q => (sb.2 it (Ne.symm hne)).trans q, hne⟩, fun b hb => ?_⟩
    · have e1 : ((i + 1 : Nat) : Int) = (i : Int) + 1 := by omega
      rw [e1]; exact he'
    · have hb' : b < s.heap.objs.size := by
        have e' : b = e ∨ b = it := by simpa using hb
        rcases e' with z | z
        · rw [z]; exact hel
        · rw [z]; exact hil
      rw [upd_ne (Nat.ne_of_lt hb')]
      exact (hf b hb).1
  done := by
    intro X hP hw hK hc i pins s σ H E I hf st hg
    subst hP hw hK
    obtain ⟨⟨old, he⟩, hit, hne⟩ := st
    obtain ⟨xs, hq, hx⟩ := hg
    obtain ⟨its, rv, p, hz⟩ := I.tuple hq
    have p : s.heap.IsTuple a its.toArray := p
    obtain ⟨f0, f1, f2, f3, f4, f5⟩ := hf it (by simp)
    have hl := rv.length
    have hai : a ≠ it := fun z => by
      obtain ⟨o, q, c, _⟩ := hit
      obtain ⟨o2, q2, c2, _⟩ := p
      rw [z, q] at q2
      cases q2
      rw [c] at c2
      injection c2 with c3
      exact absurd c3 (by decide)
    have D : Draws X.prog X.w X.A.in1 it [it, a] i (fun _ _ => True) (fun j h => (h.IsTupleIter it a j ∧ h.IsTuple a its.toArray) ∧ j = i) :=
      ⟨fun _ _ st => let ⟨o, ho, _⟩ := st.1.1; ⟨o, ho⟩, fun _ _ _ st hk => ⟨⟨st.1.1.at fun o e => hk it (by simp) o e, st.1.2.at fun o e => hk a (by simp) o e⟩, st.2⟩,
        fun j s Q E hj st hQ => absurd st.2 (Nat.ne_of_lt hj), fun s Q E st hE => wpAny_nextOf_tuple_end (I.ok.hd hc) st.1.1 st.1.2 (by simp; omega) hE⟩
    exact wpAny_pyNext_enum_endD D he ⟨⟨hit, p⟩, rfl⟩ fun h' eb => ⟨rfl, I.turned (t' := s.toks) (fun b o hb e => eb b o hb e) f0 f1 f3 f4 f5⟩
  self := fun A i s Q E st h => let ⟨⟨_, he⟩, _⟩ := st; wpAny_pyIter_enum he h
def iEnumT (K : PySem.W.Frag) (ta : TA) : TI := fun σ H R => ta σ H fun vs H1 => ∃ a xs, vs = [.ref a] ∧ SqT K H1 a xs ∧ R (Iet K a) H1
theorem pi_enumT {X : Cx} {e : Expr} {ta : TA} {p pos tpos : Pos} {elts : List Expr} {kk : Nat} (hg : Gl X "enumerate") (hm : X.mg "enumerate" = none) (ha : PA X [e] ta) (hs : starEach [e] X.env = [(false, eval e X.env)] := by rfl) :
    PI X (.Tuple elts kk tpos) (.Call (.Name "enumerate" p) [e] [] pos) (iEnumT X.K ta) := by
  refine ⟨fun pins s σ H R I h => ?_⟩
  refine Call_ (ld_blt I hg hm boot_enumerate (PyProof.Rows.callWith_type1 (thn (ha.run pos pins s σ H _ I h) fun us s1 ⟨vs, H1, I1, r1, q1⟩ => ?_) hs rfl))
  obtain ⟨a, xs, ex, hq, q⟩ := q1
  subst ex
  cases r1 with
  | cons r rr =>
    cases rr
    cases r
    obtain ⟨its, rv, p', hz⟩ := I1.tuple hq
    refine call_enumT (items := its.toArray) p' fun h' he hit hk => wpAny_pyIter_enum he ?_
    have I2 : Inv X pins σ H1 { s1 with heap := h' } := I1.kept (t' := s1.toks) hk
    refine ⟨s1.heap.objs.size + 1, [s1.heap.objs.size + 1, s1.heap.objs.size], _, _, H1, rfl, I2, turn_enumT a (s1.heap.objs.size + 1) s1.heap.objs.size, ⟨⟨.none, he⟩, hit, Nat.succ_ne_self _⟩, fun b hb => ?_, q⟩
    have e' : b = s1.heap.objs.size + 1 ∨ b = s1.heap.objs.size := by simpa using hb
    have hle : s1.heap.objs.size ≤ b := by
      rcases e' with z | z
      · rw [z]; exact Nat.le_add_right _ _
      · rw [z]; exact Nat.le_refl _
    exact I1.fpOk hle (I1.hok.fresh hle)
theorem walk_enumT {K : PySem.W.Frag} {a : Addr} {xs : List V} : Walk (Iet K a) xs.length (fun H => SqT K H a xs) (YPair (fun i => some (.int (i : Nat))) (fun i => xs[i]?)) := by
  refine ⟨fun i _ hi q => ⟨xs, xs[i], q, by simp [hi]⟩, fun _ q => ⟨xs, q, Nat.le_refl _⟩, fun i H v H' _ q y => ?_⟩
  obtain ⟨T, x, h1, h2, h3, h4⟩ := y
  exact ⟨T, .int (i : Nat), x, h1, h2, h3, rfl, h4 xs q⟩
end RD

/-! RDWk: Walk. -/
namespace RD
open PySem PySem.Spec PyProof.Rows L2
theorem hu64 {X : Cx} {k : Nat} (hr : Room k X.A) : X.A.units + 64 < cLine := by have := hr.un; omega
section
variable {P : Program} {w : World} {K : PySem.W.Frag} {mg : Str → Option Value} {base : Heap}
/-- rooms as a walk enters them: names, each other than the one before -/
structure Steps (zs : List Str) : Prop where
  nm : ∀ z ∈ zs, nameB z = true
  ne : ∀ i a b, zs[i]? = some a → zs[i + 1]? = some b → a ≠ b
theorem name_len {z : Str} (h : nameB z = true) : z.length ≤ 8 := by
  unfold nameB at h
  simp only [Bool.and_eq_true, decide_eq_true_eq] at h
  exact h.1.2
theorem sc_wrong_place : FnScope ["things", "index", "thing"] ["things"] (defScope s_wrong_place) := ⟨rfl, rfl, rfl, by decide +kernel, rfl, by decide +kernel, by decide +kernel⟩
def spWrong (K : PySem.W.Frag) : Sp := fun vs H Q _ => ∃ t zs, vs = [.ref t] ∧ H t = some (.tup (zs.map V.str)) ∧ Steps zs ∧ ∀ H', Same H H' → Q .non H'
theorem ok_wrong_place (T : Says w K mg) : C8.Cal P w K mg base 2 "wrong_place" (spWrong K) [] := by
  refine cal_of T.d_wrong_place T.g_wrong_place sc_wrong_place (fun vs H Q E h => ?_) (fun _ _ _ _ _ _ us hl => match us, hl with | [_], _ => rfl) (fun cdv A outer s H vs Q E hr h => ?_)
  · obtain ⟨_, _, rfl, _⟩ := h; rfl
  refine ⟨_, (pss_cons (ps_for PassesOwn.never rfl (pi_enumT (by rfl) T.z_enumerate (pa_cons (pv 0) pa_nil)) (pg_tup rfl (pgs_cons (pg_name (i := 1) sc_wrong_place.nd rfl (Or.inl rfl)) (pgs_cons (pg_name (i := 2) sc_wrong_place.nd rfl (Or.inl rfl)) pgs_nil))) (pss_one (ps_if (PW.pt (pw_or (pt_not (pt_val (C8.pe_c (ok_is_name T) hr (by decide) rfl (pa_cons (pv 2) pa_nil)))) (pw_or1 (PW.pt (pw_and (pt_cmpR op_gt (pv 1) pe_int (nomark _)) (pw_and1 (pt_cmpR op_eq (pe_ix (r := rIxT K) ix_tup (pv 0) (pe_op op_sub (pv 1) pe_int) (fun _ _ => rfl)) (pv 2) (nomark _)))))))) (pss_one (ps_ret (pv 1))) pss_nil)))
    (pss_one (ps_ret pe_non))), ?_⟩
  obtain ⟨t, zs, rfl, ht, hs, k⟩ := h
  refine ⟨_, rfl, t, _, rfl, SqT.of ht, ?_⟩
  refine for_it (walk_enumT (xs := zs.map V.str)) (fun i σ H' => Same H H' ∧ ∃ x y, σ = [some (.ref t), x, y]) ⟨Same.refl _, _, _, rfl⟩ (fun i σ H' _ h => SqT.of (h.1 _ _ ht)) ?_ ?_
  · rintro i x σ H1 H1' hi ⟨s1, x1, y1, rfl⟩ ⟨p, x2, y2, rfl, hp, rfl, e1, e2⟩
    obtain ⟨z, hz, rfl⟩ := str_at e2
    cases e1
    have hnm := hs.nm z (List.mem_of_getElem? hz)
    have hz8 := name_len hnm
    have s2 := s1.then_ (o := .tup [.int (i : Nat), .str z]) hp
    refine ⟨p, _, rfl, SqT.of upd_same, rfl, _, _, rfl, _, _, rfl, rfl, ?_⟩
    refine ⟨_, rfl, _, rfl, .inl ⟨z, rfl, by omega, fun H' s' => ⟨_, rfl, ?_⟩⟩⟩
    rw [hnm]
    refine iteF ?_
    have s3 := s2.trans s'
    refine ⟨_, rfl, _, _, rfl, rfl, _, rfl, ite2d (fun hpos => ?_) (fun _ => iteF ⟨s3, _, _, rfl⟩)⟩
    have hi0 : 0 < i := by omega
    obtain ⟨j, rfl⟩ : ∃ j, i = j + 1 := ⟨i - 1, by omega⟩
    have hj : j < zs.length := by have := (List.getElem?_eq_some_iff.mp hz).1; omega
    have hn := hs.ne j zs[j] z (List.getElem?_eq_getElem hj) hz
    refine ⟨_, rfl, _, rfl, _, _, rfl, rfl, t, _, (j : Int), .str zs[j], rfl, ?_, SqT.of (s3 _ _ ht), atI_nat (by rw [List.getElem?_map, List.getElem?_eq_getElem hj]; rfl), _, rfl, rfl, _, rfl, ?_⟩
    · show V.int (((j + 1 : Nat) : Int) - 1) = V.int (j : Int)
      congr 1
      omega
    · rw [decide_eq_false (fun e => hn (by injection e))]
      exact iteF ⟨s3, _, _, rfl⟩
  · rintro σ H1 ⟨s1, x1, y1, rfl⟩
    exact k _ s1
theorem cut_from (xs : List V) (k : Nat) : cutV xs (some (k : Int)) none = xs.drop k := by
  unfold cutV
  rw [HT.sIx_none, HT.sIx_nat]
  rcases Nat.le_total k xs.length with h | h
  · rw [Nat.min_eq_left h, List.take_of_length_le (by simp)]
  · rw [Nat.min_eq_right h, List.drop_of_length_le (Nat.le_refl _), List.drop_of_length_le h, List.take_nil]
theorem cut_to (xs : List V) (k : Nat) : cutV xs none (some (k : Int)) = xs.take k := by
  unfold cutV
  rw [HT.sIx_none, HT.sIx_nat, List.drop_zero, Nat.sub_zero]
  rcases Nat.le_total k xs.length with h | h
  · rw [Nat.min_eq_left h]
  · rw [Nat.min_eq_right h, List.take_of_length_le (Nat.le_refl _), List.take_of_length_le h]
theorem cut_ft (xs : List V) (a b : Nat) : cutV xs (some (a : Int)) (some (b : Int)) = (xs.take b).drop a := by
  unfold cutV
  rw [HT.sIx_nat, HT.sIx_nat, List.drop_take]
  rcases Nat.le_total a xs.length with h | h
  · rw [Nat.min_eq_left h]
    rcases Nat.le_total b xs.length with h2 | h2
    · rw [Nat.min_eq_left h2]
    · rw [Nat.min_eq_right h2, List.take_of_length_le (by simp), List.take_of_length_le (by simp; omega)]
  · rw [Nat.min_eq_right h, List.drop_of_length_le (Nat.le_refl _), List.drop_of_length_le h, List.take_nil, List.take_nil]
/-! ### data of texts -/
theorem strs_dp {H : Hp} : ∀ zs : List Str, DpAll K H (zs.map V.str) (zs.map PyData.str)
  | [] => .nil
  | _ :: zs => .cons (.str _) (strs_dp zs)
theorem strs_lay : ∀ {zs : List Str}, (∀ z ∈ zs, nameB z = true) → PyData.canLayAll0 (zs.map PyData.str) = true
  | [], _ => by simp [PyData.canLayAll0]
  | z :: zs, h => by simp [PyData.canLayAll0, PyData.canLay0, name_ok (h z (List.mem_cons_self ..)), strs_lay fun q hq => h q (List.mem_cons_of_mem _ hq)]
theorem strs_depth : ∀ zs : List Str, PyData.depthAll (zs.map PyData.str) ≤ 1
  | [] => by simp [PyData.depthAll]
  | z :: zs => by
    have h1 := strs_depth zs
    simp only [List.map_cons, PyData.depthAll, PyData.depth]
    omega
theorem strs_shapedT {zs : List Str} (h : ∀ z ∈ zs, nameB z = true) : SeqAt.shaped (.tuple (zs.map PyData.str)) = true := by
  have h1 := strs_depth zs
  have h2 : PyData.depth (.tuple (zs.map PyData.str)) ≤ 64 := by
    simp only [PyData.depth]
    omega
  show (PyData.canLay0 (.tuple (zs.map PyData.str)) && decide (PyData.depth (.tuple (zs.map PyData.str)) ≤ 64)) = true
  rw [Bool.and_eq_true]
  exact ⟨by simp only [PyData.canLay0]; exact strs_lay h, decide_eq_true h2⟩
theorem strs_shapedL {zs : List Str} (h : ∀ z ∈ zs, nameB z = true) : SeqAt.shaped (.list (zs.map PyData.str)) = true := by
  have h1 := strs_depth zs
  have h2 : PyData.depth (.list (zs.map PyData.str)) ≤ 64 := by
    simp only [PyData.depth]
    omega
  show (PyData.canLay0 (.list (zs.map PyData.str)) && decide (PyData.depth (.list (zs.map PyData.str)) ≤ 64)) = true
  rw [Bool.and_eq_true]
  exact ⟨by simp only [PyData.canLay0]; exact strs_lay h, decide_eq_true h2⟩
theorem strs_eqvAll : ∀ zs ys : List Str, PyData.eqvAll (zs.map PyData.str) (ys.map PyData.str) = decide (zs = ys)
  | [], [] => by simp [PyData.eqvAll]
  | z :: zs, [] => by simp [PyData.eqvAll]
  | [], y :: ys => by simp [PyData.eqvAll]
  | z :: zs, y :: ys => by
    rw [List.map_cons, List.map_cons]
    simp only [PyData.eqvAll, PyData.eqv]
    rw [strs_eqvAll zs ys, Bool.eq_iff_iff]
    simp
theorem strs_eqvT (zs ys : List Str) : PyData.eqv (.tuple (zs.map PyData.str)) (.tuple (ys.map PyData.str)) = decide (zs = ys) := by
  simp only [PyData.eqv]
  exact strs_eqvAll zs ys
theorem strs_eqvL (zs ys : List Str) : PyData.eqv (.list (zs.map PyData.str)) (.list (ys.map PyData.str)) = decide (zs = ys) := by
  simp only [PyData.eqv]
  exact strs_eqvAll zs ys
/-! ### a def with self and a star parameter -/
abbrev StarB (m q : Str) (st : Stmt) (pv : Str) : Prop := ∀ (kV doc pm : Value) (an : Option Addr) (cdv ct : Value) (us rest : List Value), us.length = 1 →
  bindArgs (PySem.W.fnOf m q (defArgs st) (defBody st) (defScope st) .none kV doc pm an cdv ct) ⟨us ++ rest, []⟩ = (newTuple rest >>= fun t => pure ([("self" : Str)].zip us ++ [(pv, t)]))
abbrev BodyC (CX : CXT) (P : Program) (w : World) (K : PySem.W.Frag) (mg : Str → Option Value) (base : Heap) (q : Str) (st : Stmt) (N : List Str) (k : Nat) (f : Addr) (sp : Sp) : Prop :=
  ∀ (cdv : Value) (A : Around) (outer : List Env) (s : Shared) (H : Hp) (vs : List V) (Q : VK) (E : XK), Room k (A.deeper (envOfC q (defScope st) s.heap.objs.size f cdv)) → sp vs H Q E →
    ∃ t, PSs (cxOf CX P w K mg base N q (defScope st) f cdv A outer s H E) (defBody st) t ∧ t { nx := fun _ H' => Q .non H', rt := Q } (start N vs) H
theorem Body.c {q : Str} {st : Stmt} {N : List Str} {k : Nat} {f : Addr} {sp : Sp} (hb : Body P w K mg base q st N k f sp) : BodyC CX0 P w K mg base q st N k f sp := fun cdv A outer s H vs Q E hr h => by
  obtain ⟨t, h1, h2⟩ := hb cdv A outer s H vs Q E hr h
  exact ⟨t, h1.nox, h2⟩
/-- what such a def promises of its arguments -/
def spStar (sp : Sp) : Sp := fun vs H Q E => ∃ s rest, vs = s :: rest ∧ rest.length ≤ sizeLine ∧ ∀ p, H p = none → sp [s, .ref p] (upd H p (.tup rest)) Q E
theorem star_of {CX : CXT} {m q pv : Str} {st : Stmt} {f : Addr} {N : List Str} {k : Nat} {sp : Sp} (F : ∃ fd, FunD K m q (defArgs st) (defBody st) (defScope st) [] [] f fd) (S : FnScope N ["self", pv] (defScope st)) (hCX : StX.CXUp CX) (b : StarB m q st pv)
    (hb : BodyC CX P w K mg base q st N k f sp) : FnR P w K mg base CX (k + 1) f (spStar sp) := by
  obtain ⟨fd, F⟩ := F
  obtain ⟨oc, od, dV, kV, doc, pm, an, cdv, ct, osl, rfl, lk, hcd, hD, hK⟩ := F.ex
  rcases hD with ⟨_, rfl⟩ | ⟨e, _⟩
  · refine (StX.fn_star (ps := ["self"]) (sp := sp) lk hcd S hCX (fun us rest hl => b kV doc pm an cdv ct us rest hl) fun A outer s H vs Q E hr h => hb cdv A outer s H vs Q E hr h).imp fun vs H Q E h => ?_
    obtain ⟨s, rest, rfl, h1, h2⟩ := h
    exact ⟨[s], rest, rfl, rfl, h1, h2⟩
  · exact absurd rfl e
/-- C(*y) -/
theorem pe_makeS1 {X : Cx} {k j : Nat} {x : Str} {C f : Addr} {sp : Sp} {e : Expr} {te : TE} {p pos q : Pos} (M : Mk X.K C f) (F : FnR X.prog X.w X.K X.mg X.base CX0 k f sp) (hr : Room j X.A) (hk : k + 1 ≤ j) (hg : Gl X x) (hm : X.mg x = some (.ref C)) (he : PE X e te) (hd : (x == ("__debug__" : Str)) = false := by decide)
    (hst : starEach [.Starred e q] X.env = [(true, eval e X.env)] := by rfl) :
    PE X (.Call (.Name x p) [.Starred e q] [] pos) (fun σ H Q => te σ H fun y H1 => ∃ a xs, y = V.ref a ∧ (SqT X.K H1 a xs ∨ SqL X.K H1 a xs) ∧ ∀ x dx, H1 x = none → H1 dx = none → dx ≠ x →
      sp (V.ref x :: xs) (upd (upd H1 dx (.own x)) x (.ins C dx [])) (fun v H2 => v = .non ∧ Q (.ref x) H2) E0) := by
  refine ⟨fun pins s σ H Q I h => ?_⟩
  refine wpAny_Call_Name_kw (ld_glob I hg hm ?_ hd)
  refine PySem.W.callWith_S (h₀ := X.base) I.ok.mod.kin M.kp (thn (he.run pins s σ H _ I h) fun v s1 ⟨y, H1, I1, ry, a, xs, ey, hxs, q⟩ => ?_) hst
  subst ey
  obtain rfl : v = Value.ref a := ry
  exact StX.star_any I1 hxs fun us s2 I2 rv => ⟨I2.kIn, StX.run_makeR M F (hr.mono hk) pass0 I2 rv q⟩
/-! ### Walk -/
abbrev wf (p e k : Addr) : List (Str × V) := [("own_rooms", .ref p), ("entered", .ref e), ("key", .ref k)]
def WlkAt (C : Addr) (H : Hp) (a : Addr) (zs : List Str) : Prop := ∃ dx p e k, H a = some (.ins C dx (wf p e k)) ∧ H p = some (.tup (zs.map V.str)) ∧ H e = some (.tup ((zs.drop 1).map V.str))
def spWalk (C : Addr) : Sp := fun vs H Q _ => ∃ a t dx zs, vs = [.ref a, .ref t] ∧ H a = some (.ins C dx []) ∧ H t = some (.tup (zs.map V.str)) ∧ Steps zs ∧ zs ≠ [] ∧ zs.length ≤ 1000 ∧ ∀ H', Frm [a] H H' → WlkAt C H' a zs → Q .non H'
theorem sc_Walk_init : FnScope ["self", "rooms", "index"] ["self", "rooms"] (defScope sWalk_init) := ⟨rfl, rfl, rfl, by decide +kernel, rfl, by decide +kernel, by decide +kernel⟩
theorem okWalk_init (T : Says w K mg) : FnR P w K mg base CX0 4 (He.ma K (He.ga K "Walk") "__init__") (spStar (spWalk (He.ga K "Walk"))) := by
  refine star_of T.dWalk_init sc_Walk_init StX.cxUp_none (fun kV doc pm an cdv ct us rest hl => ?_) (Body.c fun cdv A outer s H vs Q E hr h => ?_)
  · exact StX.bind_star1 (p1 := "self") (pv := "rooms") (B := fun us => bindArgs (PySem.W.fnOf "__init__" "Walk.__init__" (defArgs sWalk_init) (defBody sWalk_init) (defScope sWalk_init) .none kV doc pm an cdv ct) ⟨us, []⟩) (fun _ => rfl) (fun _ _ _ => rfl) us rest hl
  refine ⟨_, (pss_cons (ps_set (i := 2) sc_Walk_init.nd rfl (Or.inl rfl) (pe_ifExp (pt_cmpR (r := rNeD K) (op_neD (hu64 hr)) (pv 1) (pe_tup pa_nil) (nomark _)) (C8.pe_c (ok_wrong_place T) hr (by decide) rfl (pa_cons (pv 1) pa_nil)) pe_int))
    (pss_cons (ps_if (pt_cmpR op_notN (pv 2) pe_non (nomark _)) (pss_one ps_never) pss_nil)
    (pss_cons (ps_if (pt_cmpR op_gt (pe_callB (id := "len") call_len_seq (by rfl) T.z_len PySem.boot_len (pa_cons (pv 1) pa_nil)) (pe_gi T.i_MOST rfl) (nomark _)) (pss_one ps_never) pss_nil)
    (pss_cons (ps_fld (pv 0) (pv 1) rfl)
    (pss_cons (ps_fld (pv 0) (pe_slice (r := rSlT K) sl_tup (pv 1) (po_some pe_int) po_none) rfl)
    (pss_one (ps_fld (pv 0) (pe_tup (pa_cons (pe_callB (id := "len") call_len_seq (by rfl) T.z_len PySem.boot_len (pa_cons (pv 1) pa_nil)) (pa_cons (pv 1) pa_nil))) rfl))))))), ?_⟩
  obtain ⟨a, t, dx, zs, rfl, ha, ht, hs, hne, hl, k⟩ := h
  have hbig : sizeLine = 16777216 := sizeLine_eq
  refine ⟨_, rfl, by show 0 ≤ sizeLine; omega, fun e he => ?_⟩
  have s1 : Same H (upd H e (.tup [])) := Same.new he
  refine ⟨.tuple (zs.map PyData.str), .tuple (([] : List Str).map PyData.str), .tup (SqT.of (s1 _ _ ht)) (strs_dp zs), .tup (SqT.of upd_same) .nil, strs_shapedT hs.nm, strs_shapedT (by simp), ?_⟩
  rw [strs_eqvT, decide_eq_false hne]
  refine ⟨_, rfl, iteT ?_⟩
  refine ⟨_, rfl, t, zs, rfl, s1 _ _ ht, hs, fun H2 s2 => ?_⟩
  have s12 := s1.trans s2
  have ht2 := s12 _ _ ht
  refine ⟨_, rfl, rfl, _, rfl, iteF ?_⟩
  refine ⟨_, rfl, t, _, rfl, .inr (SqT.of ht2), _, _, rfl, rfl, _, rfl, ?_⟩
  rw [decide_eq_false (by rw [List.length_map]; omega)]
  refine iteF ?_
  have hpos : 0 < zs.length := List.length_pos_iff.mpr hne
  have a2 := s12 _ _ ha
  have nta : t ≠ a := fun z => by rw [z, ha] at ht; cases ht
  refine ⟨_, rfl, _, rfl, a, _, dx, [], rfl, a2, T.cl_Walk, T.naWalk_own_rooms, (by show 0 < 1000; decide), ?_⟩
  have a3 : upd H2 a (.ins (He.ga K "Walk") dx (putF "own_rooms" (.ref t) [])) a = some (.ins (He.ga K "Walk") dx [("own_rooms", .ref t)]) := upd_same
  have ht3 : upd H2 a (.ins (He.ga K "Walk") dx (putF "own_rooms" (.ref t) [])) t = some (.tup (zs.map V.str)) := by rw [upd_ne nta]; exact ht2
  have f3 : Frm [a] H (upd H2 a (.ins (He.ga K "Walk") dx (putF "own_rooms" (.ref t) []))) := (Frm.of s12).put (by simp)
  generalize upd H2 a (.ins (He.ga K "Walk") dx (putF "own_rooms" (.ref t) [])) = H3 at a3 ht3 f3
  refine ⟨_, rfl, 1, rfl, t, _, rfl, SqT.of ht3, ?_, fun q hq => ?_⟩
  · rintro ⟨z, _⟩
    have e1 : HT.sIx (zs.map V.str).length 0 (some 1) = min 1 (zs.map V.str).length := HT.sIx_nat _ 0 1
    rw [e1, List.length_map] at z
    omega
  have e4 : cutV (zs.map V.str) (some 1) none = (zs.drop 1).map V.str := by rw [show ((1 : Int)) = ((1 : Nat) : Int) from rfl, cut_from, List.map_drop]
  rw [e4]
  have nqa : q ≠ a := fun z => by rw [z, a3] at hq; cases hq
  refine ⟨_, rfl, a, _, dx, _, rfl, (Same.new hq) _ _ a3, T.cl_Walk, T.naWalk_entered, (by show 1 < 1000; decide), ?_⟩
  have a4 : upd (upd H3 q (.tup ((zs.drop 1).map V.str))) a (.ins (He.ga K "Walk") dx (putF "entered" (.ref q) [("own_rooms", .ref t)])) a = some (.ins (He.ga K "Walk") dx [("own_rooms", .ref t), ("entered", .ref q)]) := upd_same
  have ht4 : upd (upd H3 q (.tup ((zs.drop 1).map V.str))) a (.ins (He.ga K "Walk") dx (putF "entered" (.ref q) [("own_rooms", .ref t)])) t = some (.tup (zs.map V.str)) := by rw [upd_ne nta]; exact (Same.new hq) _ _ ht3
  have hq4 : upd (upd H3 q (.tup ((zs.drop 1).map V.str))) a (.ins (He.ga K "Walk") dx (putF "entered" (.ref q) [("own_rooms", .ref t)])) q = some (.tup ((zs.drop 1).map V.str)) := by rw [upd_ne nqa, upd_same]
  have f4 : Frm [a] H (upd (upd H3 q (.tup ((zs.drop 1).map V.str))) a (.ins (He.ga K "Walk") dx (putF "entered" (.ref q) [("own_rooms", .ref t)]))) := (f3.then_ hq).put (by simp)
  generalize upd (upd H3 q (.tup ((zs.drop 1).map V.str))) a (.ins (He.ga K "Walk") dx (putF "entered" (.ref q) [("own_rooms", .ref t)])) = H4 at a4 ht4 hq4 f4
  refine ⟨_, rfl, t, _, rfl, .inr (SqT.of ht4), _, rfl, by show 2 ≤ sizeLine; omega, fun kk hkk => ?_⟩
  refine ⟨_, rfl, a, _, dx, _, rfl, (Same.new hkk) _ _ a4, T.cl_Walk, T.naWalk_key, (by show 2 < 1000; decide), ?_⟩
  exact k _ ((f4.then_ hkk).put (by simp)) ⟨dx, t, q, kk, upd_same, by rw [upd_ne nta]; exact (Same.new hkk) _ _ ht4, by rw [upd_ne nqa]; exact (Same.new hkk) _ _ hq4⟩
theorem WlkAt.mono {C : Addr} {H H' : Hp} {a : Addr} {zs : List Str} (h : WlkAt C H a zs) (e : Same H H') : WlkAt C H' a zs := by
  obtain ⟨dx, p, q, k, h1, h2, h3⟩ := h
  exact ⟨dx, p, q, k, e _ _ h1, e _ _ h2, e _ _ h3⟩
/-! ### walk.rooms, len(walk) -/
def spWRooms (C : Addr) : Sp := fun vs H Q _ => ∃ a zs, vs = [.ref a] ∧ WlkAt C H a zs ∧ ∀ p, H p = some (.tup (zs.map V.str)) → Q (.ref p) H
theorem sc_Walk_rooms : FnScope ["self"] ["self"] (defScope sWalk_rooms) := ⟨rfl, rfl, rfl, by decide +kernel, rfl, by decide +kernel, by decide +kernel⟩
theorem okWalk_rooms (T : Says w K mg) : Prp P w K mg base 1 (He.ga K "Walk") "rooms" (spWRooms (He.ga K "Walk")) := by
  refine prp_of T.dWalk_rooms T.cl_Walk T.pWalk_rooms sc_Walk_rooms (lenSelf fun vs H Q E h => let ⟨b, _, e, _⟩ := h; ⟨b, e⟩) (fun _ _ _ _ _ _ us hl => match us, hl with | [_], _ => rfl) (fun cdv A outer s H vs Q E hr h => ?_)
  refine ⟨_, (pss_one (ps_ret (pe_fld (pv 0) rfl))), ?_⟩
  obtain ⟨a, zs, rfl, ⟨dx, p, e, kk, h1, h2, h3⟩, k⟩ := h
  exact ⟨_, rfl, a, _, dx, _, _, rfl, h1, T.cl_Walk, T.naWalk_own_rooms, rfl, k p h2⟩
def spWLen (C : Addr) : Sp := fun vs H Q _ => ∃ a zs, vs = [.ref a] ∧ WlkAt C H a zs ∧ Q (.int ((zs.length - 1 : Nat) : Int)) H
theorem sc_Walk_len : FnScope ["self"] ["self"] (defScope sWalk_len) := ⟨rfl, rfl, rfl, by decide +kernel, rfl, by decide +kernel, by decide +kernel⟩
theorem okWalk_len (T : Says w K mg) : C8.Met P w K mg base 1 (He.ga K "Walk") "__len__" (spWLen (He.ga K "Walk")) [] := by
  refine met_of T.dWalk_len T.cl_Walk T.mWalk_len sc_Walk_len (lenSelf fun vs H Q E h => let ⟨b, _, e, _⟩ := h; ⟨b, e⟩) (fun _ _ _ _ _ _ us hl => match us, hl with | [_], _ => rfl) (fun cdv A outer s H vs Q E hr h => ?_)
  refine ⟨_, (pss_one (ps_ret (pe_callB (id := "len") call_len_seq (by rfl) T.z_len PySem.boot_len (pa_cons (pe_fld (pv 0) rfl) pa_nil)))), ?_⟩
  obtain ⟨a, zs, rfl, ⟨dx, p, e, kk, h1, h2, h3⟩, k⟩ := h
  refine ⟨_, rfl, a, _, dx, _, _, rfl, h1, T.cl_Walk, T.naWalk_entered, rfl, e, _, rfl, .inr (SqT.of h3), ?_⟩
  rw [List.length_map, List.length_drop]
  exact k
end
end RD

/-! RDEq: == of tuples that hold dicts, != of lists of instances, != by an own ==. -/
namespace RD
open PySem PySem.Spec PyProof.Rows L2
section
variable {X : Cx} {n : Nat}
/-- the same object -/
def DSame : Eqv := fun x y _ => x = y ∧ ∃ a, x = .ref a
theorem mon_same : Mon DSame := fun _ _ _ _ _ d => d
theorem eqG_same : EqG X 0 DSame := by
  intro A pins s σ H x y u v sb I rx ry d
  obtain ⟨rfl, a, rfl⟩ := d
  cases rx
  cases ry
  exact SeqAt.EqAt.same (A := A) (s := s) (.ref a) X.prog X.w X.xe _ ⟨rfl, H, I, Ext.rfl'⟩
/-- dicts of equal flat values -/
def DDict : Eqv := fun x y H => ∃ a b ks ls, x = .ref a ∧ y = .ref b ∧ H a = some (.dK ks) ∧ H b = some (.dK ls) ∧ ks.length = ls.length ∧ ∀ p ∈ ks, valV ls p.1 = some p.2 ∧ flatB p.2 = true
theorem mon_dict : Mon DDict := fun x y H H' e d => by
  obtain ⟨a, b, ks, ls, hx, hy, h1, h2, h3⟩ := d
  exact ⟨a, b, ks, ls, hx, hy, e _ _ h1, e _ _ h2, h3⟩
theorem rcG_dict : RcG X 0 DDict := by
  intro A pins s σ H x y u v sb I rx ry d
  obtain ⟨a, b, ks, ls, rfl, rfl, ea, eb, hlen, hp⟩ := d
  cases rx
  cases ry
  obtain ⟨_, ya, va, ra, da⟩ := (show ObjOk X.prog X.w H s.heap a (.dK ks) from I.hok a _ ea)
  obtain ⟨_, yb, vb, rb, db⟩ := (show ObjOk X.prog X.w H s.heap b (.dK ls) from I.hok b _ eb)
  have hl : va.length = vb.length := by rw [← ra.length, ← rb.length]; exact hlen
  show wpAny _ _ (compareOp .Eq (.ref a) (.ref b)) _ _ _
  exact PySem.W.keq_eq (knd := mixKind X.prog X.w) (r := true) ya yb da db sb.room.units0 (fun _ => hits_all rb ra hp) ⟨by simp [hl], H, I, Ext.rfl'⟩
theorem eqG_dict : EqG X 0 DDict := rcG_dict.eqG fun _ _ _ d => let ⟨a, b, _, _, hx, hy, _⟩ := d; ⟨a, b, hx, hy⟩
end
/-! ### list != list, all items equal -/
section
open PySem.SeqAt MeetsSeq MeetsSeq2 MeetsSeq3 SeqRoads2
open AutoSeq1 (wpAny_loadPart')
variable {prog : Program} {w : World} {A : Around} {R : Result → Shared → Prop}
theorem ne_loopG (l b : Addr) (N : Nat) (I : Nat → Shared → Prop) (hl : GQ.ListI prog w A (fun e s' => R (.error e) s') l b N I)
    (fin : ∀ s, I N s → R (.ok (.ret (.bool false))) s) (k : Nat) :
    ∀ i : Nat, N - i = k → i ≤ N → ∀ s, I i s →
      wpAny (model prog w) A.in1 (Builtin.«list.__eq__.loop» ⟨[.ref l, .ref b, rawInt i, rawInt 3], []⟩) (GQ.FinOf prog w A R) (fun e s' => R (.error e) s') s := by
  induction k with
  | zero =>
    intro i hk hi s h
    obtain ⟨items, items2, n, n2, hl1, hb1, hs1, hs2, _⟩ := hl _ _ h
    have hi' : i = N := by omega
    have hR : R (.ok (.ret (.bool false))) s := fin s (hi' ▸ h)
    obtain ⟨hp, g, d, tk, os⟩ := s
    wp_walk using wpAny_loadPart' hl1, wpAny_loadPart' hb1
    have hi1 : items[((i : Nat) : Int).toNat]? = none := by simp; omega
    have hi2 : items2[((i : Nat) : Int).toNat]? = none := by simp; omega
    rw [hi1, hi2]
    wp_walk using wpAny_loadPart' hl1, wpAny_loadPart' hb1
    show R (.ok (.ret (.bool (items.size != items2.size)))) _
    rw [hs1, hs2]
    simpa using hR
  | succ k ih =>
    intro i hk hi s h
    obtain ⟨items, items2, n, n2, hl1, hb1, hs1, hs2, turn⟩ := hl _ _ h
    have hlt : i < items.size := by omega
    have hlt2 : i < items2.size := by omega
    have ht := turn hlt hlt2
    obtain ⟨hp, g, d, tk, os⟩ := s
    wp_walk using wpAny_loadPart' hl1, wpAny_loadPart' hb1
    have hi1 : items[((i : Nat) : Int).toNat]? = some items[i] := by simp [hlt]
    have hi2 : items2[((i : Nat) : Int).toNat]? = some items2[i] := by simp [hlt2]
    have hc : ((i : Int) + 1) = ((i + 1 : Nat) : Int) := by omega
    rw [hi1, hi2]
    refine wpAny_bind (wpAny_mono ht (fun r s2 h2 => ?_) fun _ _ x => x)
    obtain ⟨hr, h2⟩ := h2
    subst hr
    have hrec := ih (i + 1) (by omega) (by omega) s2 h2
    obtain ⟨hp2, g2, d2, tk2, os2⟩ := s2
    wp_walk
    rw [hc]
    exact ⟨plainId_quiet plain_eq_loop _, codeAny_builtin entry_eq_loop (by
      rw [Around.under_plainId plain_eq_loop _]
      exact hrec)⟩
theorem list_neG (l b : Addr) (N : Nat) (I : Nat → Shared → Prop) (hl : GQ.ListI prog w A (fun e s' => R (.error e) s') l b N I)
    (fin : ∀ s, I N s → R (.ok (.ret (.bool false))) s) {s : Shared} (h : I 0 s) :
    wpAny (model prog w) A.in1 (Builtin.«list.__ne__» ⟨[.ref l, .ref b], []⟩) (GQ.FinOf prog w A R) (fun e s' => R (.error e) s') s := by
  obtain ⟨items, items2, n, n2, hl1, hb1, hs1, hs2, _⟩ := hl _ _ h
  have hrec := ne_loopG (A := A) (R := R) l b N I hl fin _ 0 rfl (Nat.zero_le _) s h
  obtain ⟨hp, g, d, tk, os⟩ := s
  have f3 := AutoSeq1.sub_list_list
  have hne : ¬ (items.size != items2.size) = true := by simp [hs1, hs2]
  wp_walk using wpAny_loadPart' hl1, wpAny_loadPart' hb1
  exact ⟨plainId_quiet plain_eq_loop _, codeAny_builtin entry_eq_loop (by
    rw [Around.under_plainId plain_eq_loop _]
    exact hrec)⟩
theorem rc_listNeG {E : Value → Shared → Prop} {s : Shared} {l b : Addr} {N : Nat} {Q : Value → Shared → Prop} (hu : A.units < cLine) (I : Nat → Shared → Prop) (hl : GQ.ListI prog w A E l b N I)
    (fin : ∀ s, I N s → Q (.bool false) s) (h : I 0 s) : wpAny (model prog w) A (richCompare .NotEq (.ref l) (.ref b)) Q E s := by
  obtain ⟨items, items2, n, n2, hl1, hb1, _, _, _⟩ := hl _ _ h
  refine wpAny_richCompare_same_room (op := .NotEq) ⟨_, hl1, rfl⟩ ⟨_, hb1, rfl⟩ F.slot_list_ne (GQ.call_here F.slot_list_ne ⟨_, hl1, rfl⟩ F.entry_list_ne (F.args_list_ne_2 _ _) ?_) hu
  exact list_neG (R := wants (fun v s' => v ≠ .notImplemented ∧ Q v s') E) l b N I hl (fun s' q => ⟨(fun x => nomatch x), fin s' q⟩) h
end
section
variable {X : Cx} {n : Nat} {D : Eqv}
def rNeG (D : Eqv) : R2 := fun x y H Q => D x y H ∧ ∀ H', Ext H H' → Q (.bl false) H'
/-- a != b, two lists of equal items -/
theorem op_neGL (hD : Mon D) (h : EqG X n D) (hr : Room (n + 1) X.A) : OpR X (compareOp .NotEq) (rNeG (DList D)) := by
  intro pins s σ H x y v u Q I rx ry hq
  obtain ⟨⟨a, b, xs, ys, rfl, rfl, ha, hb, p⟩, q⟩ := hq
  cases rx
  cases ry
  have sb : Sub X (n + 1) X.A := ⟨hr, rfl⟩
  show wpAny _ _ (richCompare .NotEq (.ref a) (.ref b)) _ _ _
  refine rc_listNeG (N := xs.length) hr.units0 (fun _ s' => LoopI X pins σ H s') (fun i s' q => ?_) (fun s' l => ?_) ⟨H, I, Ext.rfl'⟩
  · obtain ⟨H1, I1, e1⟩ := id q
    obtain ⟨z, its, k, r, e⟩ := I1.hok a _ (e1 _ _ ha)
    obtain ⟨z2, its2, k2, r2, e2⟩ := I1.hok b _ (e1 _ _ hb)
    refine ⟨its.toArray, its2.toArray, k, k2, e, e2, by rw [List.size_toArray, ← r.length], by rw [List.size_toArray, ← r2.length, ← p.1], fun h1 h2 => ?_⟩
    exact turnG hD h sb p r r2 i h1 h2 s' q
  · obtain ⟨H', I', e⟩ := l
    exact ⟨.bl false, H', I', rfl, q H' e⟩
end
/-! ### a != b by an own __eq__ -/
namespace NeK
open PySem.W
theorem slot_ne : Slot "object" "__ne__" "object.__ne__" :=
  Slot.of (T := "object") (name := "__ne__") (owner := "object") (n := "__ne__") (by rw [typeLookup_type, builtinLookup_eq_fast]; kernel_rfl) (by decide +kernel) (by decide +kernel) (by decide +kernel)
    (.inl (by decide +kernel)) (by rw [isSubtype_type]; kernel_rfl)
variable {prog : Program} {w : World} {A : Around} {E : Value → Shared → Prop} {s : Shared} {K : Frag} {x C L f : Addr} {h₀ : Heap} {m : Str → Option Value} {ox : Obj} {od : Option Obj} {b tb : Value}
theorem ifBoundB {M : Model} {id : String} {name : Str} {args : List Value} {Q : Option Value → Shared → Prop} (X : K.In s.heap) (I : InstAt s.heap x ox C od) (hs : findIn K (.ref C) name = some (some (.builtin id)))
    (hb : ∀ self, bindSpecial (.builtin id) self = pure (.builtin id, [self])) (h : wpAny M A (call (.builtin id) (.ref x :: args)) (fun v => Q (some v)) E s) : wpAny M A (callSpecialIfBound? (.ref x) name args) Q E s := by
  simp only [callSpecialIfBound?, bindSpecialIfBound?]
  refine wpAny_holding (wpAny_bind (wpAny_bind (wpAny_bind (I.type.here ((looks_findIn X hs).here ?_)))))
  refine wpAny_bind (wpAny_askSetting (wpAny_ite ?_))
  have fin : wpAny M A (call (.builtin id) ([.ref x] ++ args) >>= fun v => pure (some v)) Q E s := wpAny_bind (wpAny_mono h (fun v s' h' => wpAny_pure h') fun _ _ h' => h')
  split
  · exact wpAny_bind ((Looks.of_pure (hb _)).here (wpAny_pure (by exact fin)))
  · exact wpAny_tryCatch (wpAny_bind ((Looks.of_pure (hb _)).here (wpAny_pure (by exact fin))))
open Builtin in
theorem neCall {Q : Value → Shared → Prop} (hu : A.in1.units < cLine) (X : K.In s.heap) (I : InstAt s.heap x ox C od) (hm : mroIn K C (.type "object") = some true) (he : findIn K (.ref C) "__eq__" = some (some (.ref f))) (hf : isFn K (.ref f) = true)
    (h : wpAny (model prog w) A.in1 (call (.ref f) [.ref x, b]) (fun v s' => ∃ r, v = .bool r ∧ Q (.bool (!r)) s') E s) : wpAny (model prog w) A (call (.builtin "object.__ne__") [.ref x, b]) Q E s := by
  refine wpAny_call (codeAny_call_builtin slot_ne.plain PySem.F.cmpEntry_ne (check_slot (i := "object.__ne__") (owner := "object") (n := "__ne__") (by decide +kernel) (by decide +kernel) (I.type.andThen (looks_mroIn X hm)) (PySem.F.cmpArgs_ne _ _) ?_))
  unfold Builtin.«object.__ne__»
  refine wpAny_bind (m := slotArgs "__ne__" 1 _) (wpAny_pure ?_)
  refine wpAny_bind (m := cRoomFor _ _) (wpAny_cRoomFor hu ?_)
  refine wpAny_bind (m := callSpecialIfBound? (.ref x) (Str.ofString "__eq__") _) (ifBound_K X I he hf (wpAny_mono h (fun r s' hq => ?_) fun _ _ y => y))
  obtain ⟨r, rfl, hq⟩ := hq
  exact wpAny_bind (m := truthy (.bool r)) (wpAny_truthy_bool (wpAny_pure hq))
theorem rcNe {Q : Value → Shared → Prop} (hu : A.units + 1 < cLine) (F : Fr h₀ L s.heap m) (X₀ : K.In h₀) (I : InstAt s.heap x ox C od) (hb : Looks (model prog w) s.heap (typeOf b) tb) (hn : notFirst K C tb = true)
    (hs : findIn K (.ref C) "__ne__" = some (some (.builtin "object.__ne__"))) (hm : mroIn K C (.type "object") = some true) (he : findIn K (.ref C) "__eq__" = some (some (.ref f))) (hf : isFn K (.ref f) = true)
    (h : wpAny (model prog w) A.in1 (call (.ref f) [.ref x, b]) (fun v s' => ∃ r, v = .bool r ∧ Q (.bool (!r)) s') E s) : wpAny (model prog w) A (richCompare .NotEq (.ref x) b) Q E s := by
  have X := X₀.keeps F.keep
  have one : wpAny (model prog w) A (tryCompare (.ref x) (cmpInfo .NotEq).2.1 b) (fun r s' => ∃ v, r = some v ∧ Q v s') E s := by
    unfold tryCompare
    refine wpAny_bind (ifBoundB X I hs slot_ne.bind (neCall hu X I hm he hf (wpAny_mono h (fun v s' hv => ?_) fun _ _ e => e)))
    obtain ⟨r, rfl, q⟩ := hv
    exact ⟨r, rfl, wpAny_pure ⟨_, rfl, q⟩⟩
  unfold richCompare
  simp only [oneThing_ref]
  refine wpAny_holding (wpAny_bind (wpAny_cRoomFor (Nat.lt_of_succ_lt hu) ?_))
  refine wpAny_bind (I.type.here (wpAny_bind (hb.here ?_)))
  split
  · rename_i q
    have e : subIn K tb (.ref C) = some false := by
      rcases Bool.or_eq_true_iff.mp hn with e | e
      · rw [beq_iff_eq.mp e] at q; simp at q
      · exact beq_iff_eq.mp e
    refine wpAny_bind ((looks_subIn X e).here ?_)
    simp only [Bool.false_eq_true, if_false]
    refine wpAny_bind (wpAny_mono one (fun r s' z => ?_) fun _ _ e => e)
    obtain ⟨v, rfl, hq⟩ := z
    exact wpAny_pure hq
  · refine wpAny_bind (wpAny_pure ?_)
    simp only [Bool.false_eq_true, if_false]
    refine wpAny_bind (wpAny_mono one (fun r s' z => ?_) fun _ _ e => e)
    obtain ⟨v, rfl, hq⟩ := z
    exact wpAny_pure hq
end NeK
section
variable {X : Cx} {k j : Nat} {C : Addr} {sp : Sp}
/-- a != b, two instances of the class at C with its own __eq__ -/
theorem op_neM (c : C8.Met X.prog X.w X.K X.mg X.base k C "__eq__" sp []) (hne : PySem.W.findIn X.K (.ref C) "__ne__" = some (some (.builtin "object.__ne__"))) (hm : PySem.W.mroIn X.K C (.type "object") = some true) (hr : Room j X.A) (hk : k + 1 ≤ j) :
    OpR X (compareOp .NotEq) (fun x y H Q => ∃ a b dx dy fs gs, x = .ref a ∧ y = .ref b ∧ H a = some (.ins C dx fs) ∧ H b = some (.ins C dy gs) ∧ sp [.ref a, .ref b] H (fun v H' => ∃ r, v = .bl r ∧ Q (.bl (!r)) H') E0) := by
  intro pins s σ H x y v u Q I rx ry hq
  obtain ⟨f, fd, ps, ds, hc, me, F, b', d⟩ := c.ex
  obtain ⟨a, b, dx, dy, fs, gs, rfl, rfl, ha, hb, hs⟩ := hq
  cases d
  cases rx
  cases ry
  obtain ⟨mA, J, _⟩ := ins_get I.hok ha
  obtain ⟨mB, J', _⟩ := ins_get I.hok hb
  obtain ⟨od, J, _⟩ := J.look
  obtain ⟨od', J', _⟩ := J'.look
  obtain ⟨m, hF⟩ := I.fr
  show wpAny _ _ (richCompare .NotEq (.ref a) (.ref b)) _ _ _
  refine NeK.rcNe (by have := hr.un; omega) hF I.ok.mod.kin J J'.type (by simp [PySem.W.notFirst]) hne hm me.at_ me.fn (wpAny_mono (run_in1 (vs := [.ref a, .ref b]) F (hr.mono hk) b' I (.cons rfl (.cons rfl .nil)) hs) (fun v s' z => ?_) fun _ _ e => e)
  obtain ⟨v', H', I', rv, r, rfl, q⟩ := z
  cases rv
  exact ⟨r, rfl, .bl (!r), H', I', rfl, q⟩
end
end RD

/-! RDTrace: Trace. -/
namespace RD
open PySem PySem.Spec PyProof.Rows L2
/-- the block of the outer comprehension of found_balance -/
def scNest : Scope := { kind := .function, names := [(".0", .local), ("side", .local), ("sum", .globalImplicit), ("self", .cell)], isGenerator := false, isCoroutine := false }
section
variable {P : Program} {w : World} {K : PySem.W.Frag} {mg : Str → Option Value} {base : Heap}
/-! ### Building.__eq__: of one object -/
theorem iD_self {rs : List Str} (hn : rs.Nodup) (f : Str → Int) : ∀ p ∈ iD rs f, valV (iD rs f) p.1 = some p.2 ∧ flatB p.2 = true := fun p hp => by
  unfold iD at hp
  obtain ⟨r, hr, rfl⟩ := List.mem_map.mp hp
  exact ⟨iD_in hr, rfl⟩
def spBEq (C : Addr) : Sp := fun vs H Q _ => ∃ b rs sz E, vs = [.ref b, .ref b] ∧ BldAt C H b rs sz E ∧ ∀ H', Same H H' → Q (.bl true) H'
theorem sc_Building_eq : FnScope ["self", "other"] ["self", "other"] (defScope sBuilding_eq) := ⟨rfl, rfl, rfl, by decide +kernel, rfl, by decide +kernel, by decide +kernel⟩
theorem okBuilding_eq (T : Says w K mg) : C8.Met P w K mg base 3 (He.ga K "Building") "__eq__" (spBEq (He.ga K "Building")) [] := by
  refine met_of T.dBuilding_eq T.cl_Building T.mBuilding_eq sc_Building_eq (fun vs H Q E h => ?_) (fun _ _ _ _ _ _ us hl => match us, hl with | [_, _], _ => rfl) (fun cdv A outer s H vs Q E hr h => ?_)
  · obtain ⟨_, _, _, _, rfl, _⟩ := h; rfl
  refine ⟨_, (pss_one (ps_ret (pe_and (pe_callB (id := "isinstance") call_isi (by rfl) T.z_isinstance (by decide +kernel) (pa_cons (pv 1) (pa_cons (pe_glob rfl T.g_Building (show RelV (V.ref (He.ga K "Building")) _ from rfl)) pa_nil))) (pe_and (pe_cmpR (op_eq_dictA (hu0 hr)) (pe_fld (pv 0) rfl) (pe_fld (pv 1) rfl) (nomark _)) (pe_one (pe_cmpR (op_eqG (rcG_list mon_same eqG_same) (hr.mono (by decide))) (pe_fld (pv 0) rfl) (pe_fld (pv 1) rfl) (nomark _))))))), ?_⟩
  obtain ⟨b, rs, sz, E', rfl, hB, k⟩ := h
  obtain ⟨dx, s, p, n, v1, v2, v3, L, kvs, h1, h2, h3, h4, h5⟩ := hB.ex
  refine ⟨_, rfl, .ref b, .ref (He.ga K "Building"), .ref (He.ga K "Building"), .ref (He.ga K "Building"), true, rfl, .own _, .base (.ins h1 T.cl_Building T.kBuilding_class T.k_class_get T.k_class_tak T.kBuilding_mro), T.kBuilding_kit, true, rfl, iteT ?_⟩
  refine ⟨_, rfl, b, _, dx, _, _, rfl, h1, T.cl_Building, T.naBuilding_sizes, rfl, _, rfl, b, _, dx, _, _, rfl, h1, T.cl_Building, T.naBuilding_sizes, rfl, s, s, _, _, rfl, rfl, h2, h2, rfl, iD_self hB.nm.nd sz, true, rfl, iteT ?_⟩
  refine ⟨_, rfl, b, _, dx, _, _, rfl, h1, T.cl_Building, T.naBuilding_pairs, rfl, _, rfl, b, _, dx, _, _, rfl, h1, T.cl_Building, T.naBuilding_pairs, rfl, ⟨p, p, _, _, rfl, rfl, h3.at_, h3.at_, rfl, fun i x y e1 e2 => ?_⟩, fun H' e => k H' e⟩
  rw [e1] at e2
  cases e2
  obtain ⟨q, _, rfl⟩ := corAt_get e1
  exact ⟨rfl, _, rfl⟩
/-! ### a trace -/
abbrev tf (b : Addr) (f l : Str) (d k : Addr) (v1 v2 : V) : List (Str × V) := [("own_building", .ref b), ("own_first", .str f), ("own_last", .str l), ("own_changes", .ref d), ("key", .ref k), ("own_balance", v1), ("own_gcd", v2)]
/-- a trace of the building at b -/
def TrcAt (C : Addr) (H : Hp) (t b : Addr) (f l : Str) (rs : List Str) (g : Str → Int) : Prop :=
  ∃ dx d k v1 v2, H t = some (.ins C dx (tf b f l d k v1 v2)) ∧ H d = some (.dK (iD rs g)) ∧ H k = some (.tup [.ref b, .str f, .str l, .ref d])
theorem TrcAt.mono {C : Addr} {H H' : Hp} {t b : Addr} {f l : Str} {rs : List Str} {g : Str → Int} (h : TrcAt C H t b f l rs g) (e : Same H H') : TrcAt C H' t b f l rs g := by
  obtain ⟨dx, d, k, v1, v2, h1, h2, h3⟩ := h
  exact ⟨dx, d, k, v1, v2, e _ _ h1, e _ _ h2, e _ _ h3⟩
/-- two traces that are equal -/
def TEq (C : Addr) : Addr → Addr → Hp → Prop := fun a c H => ∃ b f l rs g, rs.Nodup ∧ TrcAt C H a b f l rs g ∧ TrcAt C H c b f l rs g
theorem TEq.mon {C : Addr} : ∀ a b H H', Ext H H' → TEq C a b H → TEq C a b H' := fun a c H H' e h => by
  obtain ⟨b, f, l, rs, g, hn, h1, h2⟩ := h
  exact ⟨b, f, l, rs, g, hn, h1.mono e, h2.mono e⟩
def DKey : Eqv := fun x y H => DSame x y H ∨ (DFlat x y H ∨ DDict x y H)
theorem mon_key : Mon DKey := mon_same.or (mon_flat.or mon_dict)
theorem rcG_key {X : Cx} : RcG X 1 (DTup X.K DKey) := rcG_tup mon_key (eqG_same.or (eqG_flat.or eqG_dict))
theorem sc_Trace_eq : FnScope ["self", "other"] ["self", "other"] (defScope sTrace_eq) := ⟨rfl, rfl, rfl, by decide +kernel, rfl, by decide +kernel, by decide +kernel⟩
theorem okTrace_eq (T : Says w K mg) : C8.Met P w K mg base 3 (He.ga K "Trace") "__eq__" (spEq (TEq (He.ga K "Trace"))) [] := by
  refine met_of T.dTrace_eq T.cl_Trace T.mTrace_eq sc_Trace_eq (fun vs H Q E h => ?_) (fun _ _ _ _ _ _ us hl => match us, hl with | [_, _], _ => rfl) (fun cdv A outer s H vs Q E hr h => ?_)
  · obtain ⟨_, _, rfl, _⟩ := h; rfl
  refine ⟨_, (pss_cons (ps_if (pt_not (pt_val (pe_callB (id := "isinstance") call_isi (by rfl) T.z_isinstance (by decide +kernel) (pa_cons (pv 1) (pa_cons (pe_glob rfl T.g_Trace (show RelV (V.ref (He.ga K "Trace")) _ from rfl)) pa_nil))))) (pss_one ps_never) pss_nil)
    (pss_one (ps_ret (pe_cmpR (op_eqG rcG_key (hr.mono (by decide))) (pe_fld (pv 0) rfl) (pe_fld (pv 1) rfl) (nomark _))))), ?_⟩
  obtain ⟨a, c, rfl, ⟨b, f, l, rs, g, hn, ⟨dx, d, kk, v1, v2, h1, h2, h3⟩, ⟨dx', d', kk', v1', v2', h1', h2', h3'⟩⟩, k⟩ := h
  refine ⟨_, rfl, .ref c, .ref (He.ga K "Trace"), .ref (He.ga K "Trace"), .ref (He.ga K "Trace"), true, rfl, .own _, .base (.ins h1' T.cl_Trace T.kTrace_class T.k_class_get T.k_class_tak T.kTrace_mro), T.kTrace_kit, true, rfl, iteF ?_⟩
  refine ⟨_, rfl, a, _, dx, _, _, rfl, h1, T.cl_Trace, T.naTrace_key, rfl, _, rfl, c, _, dx', _, _, rfl, h1', T.cl_Trace, T.naTrace_key, rfl, ?_, fun H' e => k H' e⟩
  refine ⟨kk, kk', _, _, rfl, rfl, SqT.of h3, SqT.of h3', ?_⟩
  refine .cons (.inl ⟨rfl, _, rfl⟩) (.cons (.inr (.inl ⟨rfl, rfl, by simp [eqV]⟩)) (.cons (.inr (.inl ⟨rfl, rfl, by simp [eqV]⟩)) (.cons (.inr (.inr ⟨d, d', _, _, rfl, rfl, h2, h2', rfl, iD_self hn g⟩)) .nil)))
/-! ### found_balance: some value -/
def spBalance (C : Addr) : Sp := fun vs H Q _ => ∃ t dx fs f l d rs g v, vs = [.ref t, v] ∧ H t = some (.ins C dx fs) ∧ fs.lookup ("own_first" : Str) = some (.str f) ∧ fs.lookup ("own_last" : Str) = some (.str l) ∧ fs.lookup ("own_changes" : Str) = some (.ref d) ∧ H d = some (.dK (iD rs g)) ∧ SidesV rs H v ∧ ∀ u H', Same H H' → Q u H'
theorem sc_Trace_found_balance : FnScope ["self", "sides", "ends", "one", "other", "side", "room"] ["self", "sides"] (defScope sTrace_found_balance) := ⟨rfl, rfl, rfl, by decide +kernel, rfl, by decide +kernel, by decide +kernel⟩
theorem okTrace_found_balance (T : Says w K mg) : C8.Met P w K mg base 1 (He.ga K "Trace") "found_balance" (spBalance (He.ga K "Trace")) [] := by
  refine met_of T.dTrace_found_balance T.cl_Trace T.mTrace_found_balance sc_Trace_found_balance (fun vs H Q E h => ?_) (fun _ _ _ _ _ _ us hl => match us, hl with | [_, _], _ => rfl) (fun cdv A outer s H vs Q E hr h => ?_)
  · obtain ⟨_, _, _, _, _, _, _, _, _, rfl, _⟩ := h; rfl
  refine ⟨_, (pss_cons (ps_if (pt_cmpR op_isN (pv 1) pe_non (nomark _)) (pss_one (ps_ret pe_non)) pss_nil)
    (pss_cons (ps_set (i := 2) sc_Trace_found_balance.nd rfl (Or.inl rfl) (pe_op op_sub (pe_callTy (T := "int") call_int1 (by rfl) T.z_int (by decide +kernel) (pa_cons (pe_cmpR (r := rIn K false) op_in_seq (pe_fld (pv 0) rfl) (pe_ix (r := rIxT K) ix_tup (pv 1) pe_int (fun _ _ => rfl)) (by rfl)) pa_nil)) (pe_callTy (T := "int") call_int1 (by rfl) T.z_int (by decide +kernel) (pa_cons (pe_cmpR (r := rIn K false) op_in_seq (pe_fld (pv 0) rfl) (pe_ix (r := rIxT K) ix_tup (pv 1) pe_int (fun _ _ => rfl)) (by rfl)) pa_nil))))
    (pss_cons (ps_asg (pe_lc (own := [("side", 5)]) (g := (gName 5)) (tt := tYes) rfl sc_Trace_found_balance.nd (pi_tup (pv 1)) (blkOk_by (own := [("side", 5)]) (N := ["self", "sides", "ends", "one", "other", "side", "room"]) (sc := defScope sTrace_found_balance) (by decide +kernel)) (fun _ _ _ _ _ => (pg_name (i := 5) sc_Trace_found_balance.nd rfl (Or.inl rfl))) (fun _ _ _ _ _ => pts_nil) (fun _ _ _ _ _ => (pe_callB (id := "sum") (r := rSum K) (cr_sum rfl) (by rfl) T.z_sum (by decide +kernel) (pa_cons (pe_lc (own := [("room", 6)]) (g := (gName 6)) (wi := iTup K _) (tt := tYes) rfl sc_Trace_found_balance.nd (pi_tup (pv 5)) (blkOk_by (own := [("room", 6)]) (N := ["self", "sides", "ends", "one", "other", "side", "room"]) (sc := scNest) (by decide +kernel)) (fun _ _ _ _ _ => (pg_name (i := 6) sc_Trace_found_balance.nd rfl (Or.inl rfl))) (fun _ _ _ _ _ => pts_nil) (fun _ _ _ _ _ => (pe_dget (hu_of hr) (show PE _ _ (tFld K _ "own_changes") from (pe_fld (pv 0) rfl)) (pv 6) (fun _ _ => rfl)))) pa_nil)))) (pg_unl rfl (pgs_cons (pg_name (i := 3) sc_Trace_found_balance.nd rfl (Or.inl rfl)) (pgs_cons (pg_name (i := 4) sc_Trace_found_balance.nd rfl (Or.inl rfl)) pgs_nil))))
    (pss_one (ps_ret (pe_op op_sub (pe_op op_add (pv 2) (pv 3)) (pv 4))))))), ?_⟩
  obtain ⟨t, dx, fs, f, l, d, rs, g, v, rfl, ht, hf, hl, hd, hdd, hv, k⟩ := h
  have hbig : sizeLine = 16777216 := sizeLine_eq
  rcases hv with rfl | ⟨q, t1, t2, xs, ys, rfl, hq, h1, h2, hx, hy, lx, ly⟩
  · exact ⟨_, rfl, rfl, _, rfl, iteT (k _ _ (Same.refl H))⟩
  refine ⟨_, rfl, rfl, _, rfl, iteF ?_⟩
  refine ⟨_, rfl, t, _, dx, fs, _, rfl, ht, T.cl_Trace, T.naTrace_own_first, hf, ?_⟩
  have fx : ∀ zs : List Str, (zs.map V.str).all flatV = true := fun zs => by simp [flatV]
  refine ⟨_, rfl, q, _, 0, _, rfl, rfl, SqT.of hq, rfl, t1, _, rfl, .inr (SqT.of h1), rfl, fx xs, .inr ⟨_, rfl, ?_⟩⟩
  refine ⟨_, rfl, t, _, dx, fs, _, rfl, ht, T.cl_Trace, T.naTrace_own_last, hl, _, rfl, q, _, 0, _, rfl, rfl, SqT.of hq, rfl, t1, _, rfl, .inr (SqT.of h1), rfl, fx xs, .inr ⟨_, rfl, _, _, rfl, rfl, ?_⟩⟩
  refine ⟨_, rfl, q, rfl, ⟨_, SqT.of hq⟩, fun D hD => ?_⟩
  refine lc_it (walk_tup (xs := [V.ref t1, V.ref t2])) (fun i H' => Same H H' ∧ ∃ ns : List Int, H' D = some (.lst (ns.map V.int)) ∧ ns.length = i) ⟨Same.new hD, [], upd_same, rfl⟩ (fun i H' _ h => SqT.of (h.1 _ _ hq)) ?_ ?_
  · rintro i x H1 H1' hi ⟨s1, ns, e1, e2⟩ ⟨rfl, hx'⟩
    obtain ⟨ti, zs, rfl, hz, hzr, hzl⟩ : ∃ (ti : Addr) (zs : List Str), x = V.ref ti ∧ H ti = some (.tup (zs.map V.str)) ∧ (∀ z ∈ zs, z ∈ rs) ∧ zs.length ≤ 30 := by
      match i, hx' with
      | 0, h => exact ⟨t1, xs, (Option.some.inj h).symm, h1, hx, lx⟩
      | 1, h => exact ⟨t2, ys, (Option.some.inj h).symm, h2, hy, ly⟩
    refine ⟨rfl, _, rfl, ti, rfl, ⟨_, SqT.of (s1 _ _ hz)⟩, fun D2 hD2 => ?_⟩
    refine lc_it (walk_tup (xs := zs.map V.str)) (fun j H' => Same H1' H' ∧ ∃ ms : List Int, H' D2 = some (.lst (ms.map V.int)) ∧ ms.length = j) ⟨Same.new hD2, [], upd_same, rfl⟩ (fun i H' _ h => SqT.of (h.1 _ _ (s1 _ _ hz))) ?_ ?_
    · rintro j y H2 H2' hj ⟨s2, ms, f1, f2⟩ ⟨rfl, hy'⟩
      obtain ⟨z, hzz, rfl⟩ := str_at hy'
      have s12 := s1.trans s2
      refine ⟨rfl, _, rfl, t, _, dx, fs, _, rfl, s12 _ _ ht, T.cl_Trace, T.naTrace_own_changes, hd, _, rfl, d, _, rfl, DGet.i (.inl (s12 _ _ hdd)) (hzr z (List.mem_of_getElem? hzz)), _, f1, ?_, s2.mut hD2, ms ++ [g z], ?_, ?_⟩
      · rw [List.length_map] at hj ⊢; omega
      · rw [upd_same, List.map_append]; rfl
      · rw [List.length_append, f2]; rfl
    · rintro H2 ⟨s2, ms, f1, f2⟩
      refine ⟨D2, ms, rfl, SqL.of f1, _, s2 _ _ e1, ?_, (s1.trans s2).mut hD, ns ++ [ms.sum], ?_, ?_⟩
      · rw [List.length_map, e2]; simp at hi; omega
      · rw [upd_same, List.map_append]; rfl
      · rw [List.length_append, e2]; rfl
  · rintro H1 ⟨s1, ns, e1, e2⟩
    match ns, e2 with
    | [n1, n2], _ => exact ⟨D, _, rfl, SqL.of e1, rfl, _, _, rfl, _, _, rfl, rfl, _, rfl, _, rfl, _, _, rfl, rfl, _, rfl, _, _, rfl, rfl, k _ _ s1⟩
/-! ### Trace.__init__ -/
/-- the building stands without the instances of M -/
theorem BldAt.cutM {C : Addr} {H : Hp} {b : Addr} {rs : List Str} {sz : Str → Int} {E : List Cor} {M : List Addr} (h : BldAt C H b rs sz E) (hM : ∀ a ∈ M, (∃ C' dx fs, H a = some (.ins C' dx fs)) ∧ a ≠ b) : BldAt C (cut M H) b rs sz E := by
  obtain ⟨⟨dx, s, p, n, v1, v2, v3, L, kvs, h1, h2, h3, h4, h5⟩, a, c⟩ := h
  have no : ∀ {x o}, H x = some o → (∀ C' dx fs, o ≠ .ins C' dx fs) → x ∉ M := fun {x o} hx ho z => by
    obtain ⟨⟨C', dx, fs, e⟩, _⟩ := hM x z
    rw [hx] at e
    exact ho _ _ _ (Option.some.inj e)
  have hb : b ∉ M := fun z => (hM b z).2 rfl
  have cs : ∀ {x o}, H x = some o → (∀ C' dx fs, o ≠ .ins C' dx fs) → cut M H x = some o := fun hx ho => cut_some hx (no hx ho)
  refine ⟨⟨dx, s, p, n, v1, v2, v3, L, kvs, cut_some h1 hb, cs h2 (by simp), ⟨cs h3.at_ (by simp), fun q hq => by
    obtain ⟨o, g1, g2⟩ := rd_get (h3.each q hq)
    refine rd_cut (h3.each q hq) (no g1 ?_)
    rcases g2 with rfl | ⟨ob, rfl⟩ <;> simp, h3.few⟩, ⟨cs h4.at_ (by simp), fun r hr => ?_⟩, ?_⟩, a, c⟩
  · obtain ⟨l, ys, e1, e2, e3⟩ := h4.ls r hr
    exact ⟨l, ys, e1, cs e2 (by simp), e3⟩
  · rcases h5 with h5 | ⟨t, t1, t2, xs, ys, e1, e2, e3, e4, e5⟩
    · exact .inl h5
    · exact .inr ⟨t, t1, t2, xs, ys, e1, cs e2 (by simp), cs e3 (by simp), cs e4 (by simp), e5⟩
theorem fnBuilding (T : Says w K mg) : ∀ f, Meth K (He.ga K "Building") "__getitem__" f → PySem.W.fnIn K f = true := fun f m => by
  rw [meth_inj m T.mBuilding_getitem]
  exact fnIn_of T.dBuilding_getitem
/-- building[room] -/
theorem get_room {C : Addr} {H : Hp} {b : Addr} {rs : List Str} {sz : Str → Int} (h : SzAt C H b rs sz) (hn : Names rs) {r : Str} (hr : r ∈ rs) {Q : VK} (k : ∀ H', Same H H' → Q (.int (sz r)) H') : rSpec C (spGetItem C) [.str r] (.ref b) H Q := by
  obtain ⟨dx, fs, s, h1, h2, h3⟩ := id h
  exact ⟨b, dx, fs, rfl, h1, b, rs, sz, r, rfl, h, hn, hr, k⟩
theorem in_room {C : Addr} {H : Hp} {b : Addr} {rs : List Str} {sz : Str → Int} (h : SzAt C H b rs sz) (hn : Names rs) {r : Str} (hr : r ∈ rs) {Q : VK} (k : ∀ H', Same H H' → Q (.bl true) H') : rSpec C (spContains C) [.str r] (.ref b) H Q := by
  obtain ⟨dx, fs, s, h1, h2, h3⟩ := id h
  refine ⟨b, dx, fs, rfl, h1, b, rs, sz, _, rfl, h, hn, .inl ⟨r, rfl, Nat.le_trans (hn.len r hr) (by decide), fun H' s' => ?_⟩⟩
  rw [decide_eq_true hr]
  exact k H' s'
def spTrace (Cb C : Addr) : Sp := fun vs H Q _ => ∃ t b f l c dx rs sz E cs ch, vs = [.ref t, .ref b, .str f, .str l, .ref c] ∧ H t = some (.ins C dx []) ∧ BldAt Cb H b rs sz E ∧ f ∈ rs ∧ l ∈ rs ∧ H c = some (.dK (iD cs ch)) ∧ cs.length ≤ 30 ∧ (∀ r, r ∈ cs ↔ r ∈ rs) ∧ (∀ r ∈ cs, -1000000000 ≤ ch r ∧ ch r ≤ 1000000000) ∧
  ∀ H', Frm [t] H H' → TrcAt C H' t b f l rs (fun r => ch r % sz r) → Q .non H'
theorem sc_Trace_init : FnScope ["self", "building", "first", "last", "changes", "room", "change"] ["self", "building", "first", "last", "changes"] (defScope sTrace_init) := ⟨rfl, rfl, rfl, by decide +kernel, rfl, by decide +kernel, by decide +kernel⟩
theorem okTrace_init (T : Says w K mg) : C8.Mak P w K mg base 5 "Trace" (He.ga K "Trace") (spTrace (He.ga K "Building") (He.ga K "Trace")) [] := by
  refine mak_of T.dTrace_init T.mk_Trace T.g_Trace sc_Trace_init (fun vs H Q E h => ?_) (fun _ _ _ _ _ _ us hl => match us, hl with | [_, _, _, _, _], _ => rfl) (fun cdv A outer s H vs Q E hr h => ?_)
  · obtain ⟨_, _, _, _, _, _, _, _, _, _, _, rfl, _⟩ := h; rfl
  refine ⟨_, (pss_cons (ps_for PassesOwn.never rfl (pi_list (pe_lst (pa_cons (pv 2) (pa_cons (pv 3) (pa_starD rfl (pv 4) pa_nil))))) (pg_name (i := 5) sc_Trace_init.nd rfl (Or.inl rfl)) (pss_one (ps_if (pt_cmpR (op_notInM (okBuilding_contains T) hr (by decide)) (pv 5) (pv 1) (by rfl)) (pss_one ps_never) pss_nil)))
    (pss_cons (ps_lock (ps_for PassesOwn.never rfl (pi_items (pv 4)) (pg_tup rfl (pgs_cons (pg_name (i := 5) sc_Trace_init.nd rfl (Or.inl rfl)) (pgs_cons (pg_name (i := 6) sc_Trace_init.nd rfl (Or.inl rfl)) pgs_nil))) (pss_one (ps_if (pt_not (pt_val (C8.pe_c (ok_is_between T) hr (by decide) rfl (pa_cons (pv 6) (pa_cons (pe_un un_neg (pe_gi T.i_LARGEST rfl)) (pa_cons (pe_gi T.i_LARGEST rfl) pa_nil)))))) (pss_one ps_never) pss_nil))))
    (pss_cons (ps_fld (pv 0) (pv 1) rfl)
    (pss_cons (ps_fld (pv 0) (pv 2) rfl)
    (pss_cons (ps_fld (pv 0) (pv 3) rfl)
    (pss_cons (ps_fld (pv 0) (pe_dc (own := [("room", 5)]) (g := (gName 5)) (tt := tYes) rfl sc_Trace_init.nd (pi_tup (pe_pp (okBuilding_rooms T) hr (by decide) (pv 1))) (blkOk_by (own := [("room", 5)]) (N := ["self", "building", "first", "last", "changes", "room", "change"]) (sc := defScope sTrace_init) (by decide +kernel)) (fun _ _ _ _ _ => (pg_name (i := 5) sc_Trace_init.nd rfl (Or.inl rfl))) (fun _ _ _ _ _ => pts_nil) (fun _ _ _ _ _ => (pv 5)) (fun _ _ _ _ _ => (pe_op op_mod (pe_dget2 (hu_of hr) (pv 4) (pv 5) pe_int ⟨by rfl, by rfl, by rfl, by rfl⟩) (pe_subM (okBuilding_getitem T) (fnBuilding T) hr (by decide) (pv 1) (pv 5))))) rfl)
    (pss_cons (ps_fld (pv 0) (pe_tup (pa_cons (pv 1) (pa_cons (pv 2) (pa_cons (pv 3) (pa_cons (pe_fld (pv 0) rfl) pa_nil))))) rfl)
    (pss_cons (ps_fld (pv 0) (C8.pe_mt (okTrace_found_balance T) hr (by decide) (pv 0) (pa_cons (pe_pp (okBuilding_sides T) hr (by decide) (pv 1)) pa_nil)) rfl)
    (pss_one (ps_fld (pv 0) (C8.pe_c (ok_gcd_of T) hr (by decide) rfl (pa_cons (pe_lc (own := [("room", 5)]) (g := (gName 5)) (tt := tYes) rfl sc_Trace_init.nd (pi_tup (pe_pp (okBuilding_rooms T) hr (by decide) (pv 1))) (blkOk_by (own := [("room", 5)]) (N := ["self", "building", "first", "last", "changes", "room", "change"]) (sc := defScope sTrace_init) (by decide +kernel)) (fun _ _ _ _ _ => (pg_name (i := 5) sc_Trace_init.nd rfl (Or.inl rfl))) (fun _ _ _ _ _ => pts_nil) (fun _ _ _ _ _ => (pe_subM (okBuilding_getitem T) (fnBuilding T) hr (by decide) (pv 1) (pv 5)))) pa_nil)) rfl)))))))))), ?_⟩
  obtain ⟨t, b, f, l, c, dx, rs, sz, E0', cs, ch, rfl, ht, hB, hf, hl, hc, hcl, hcs, hch, k⟩ := h
  have hbig : sizeLine = 16777216 := sizeLine_eq
  have nct : c ≠ t := fun z => by rw [z, ht] at hc; cases hc
  have nbt : b ≠ t := fun z => by
    obtain ⟨⟨_, _, _, _, _, _, _, _, _, h1, _⟩, _, _⟩ := hB
    rw [z, ht] at h1
    injection h1 with h1
    injection h1 with _ _ h1
    cases h1
  obtain ⟨Hc, eHc⟩ : ∃ Hc, Hc = cut [t] H := ⟨_, rfl⟩
  have hct : Hc t = none := by rw [eHc]; unfold cut; rw [if_pos (by simp)]
  have s0s : Same Hc H := by rw [eHc]; exact cut_same
  have hcc : Hc c = some (.dK (iD cs ch)) := by rw [eHc]; exact cut_some hc (by simp [nct])
  have hBc : BldAt (He.ga K "Building") Hc b rs sz E0' := by
    rw [eHc]
    exact hB.cutM fun a ha => by
      rw [List.mem_singleton.mp ha]
      exact ⟨⟨_, _, _, ht⟩, Ne.symm nbt⟩
  have hnm := hB.nm
  -- the rooms
  refine ⟨_, rfl, _, rfl, _, rfl, c, _, rfl, .inl hc, ?_⟩
  have lk : (keysV (iD cs ch)).length = cs.length := by unfold keysV; rw [List.length_map, iD_len]
  refine ⟨by rw [List.append_nil]; show (keysV (iD cs ch)).length + 1 + 1 ≤ sizeLine; omega, fun p hp => ?_⟩
  have ek : (V.str f :: V.str l :: (keysV (iD cs ch) ++ [])) = (f :: l :: cs).map V.str := by
    unfold keysV iD
    rw [List.append_nil, List.map_map, List.map_cons, List.map_cons]
    rfl
  rw [ek]
  have s1 : Same Hc (upd H p (.lst ((f :: l :: cs).map V.str))) := s0s.then_ hp
  have e1 : upd H p (.lst ((f :: l :: cs).map V.str)) p = some (.lst ((f :: l :: cs).map V.str)) := upd_same
  have t1 := (Same.new (o := .lst ((f :: l :: cs).map V.str)) hp) _ _ ht
  generalize upd H p (.lst ((f :: l :: cs).map V.str)) = H1 at s1 e1 t1
  have hall : ∀ r ∈ f :: l :: cs, r ∈ rs := fun r hr => by
    rcases List.mem_cons.mp hr with e | hr
    · rw [e]; exact hf
    · rcases List.mem_cons.mp hr with e | hr
      · rw [e]; exact hl
      · exact (hcs r).mp hr
  refine ⟨p, rfl, ⟨_, SqL.of e1⟩, for_it (walk_list (xs := (f :: l :: cs).map V.str)) (fun i σ H' => Same H1 H' ∧ ∃ x, σ = [some (.ref t), some (.ref b), some (.str f), some (.str l), some (.ref c), x, none]) ⟨Same.refl _, _, rfl⟩ (fun i σ H' _ h => SqL.of (h.1 _ _ e1)) ?_ ?_⟩
  · rintro i x σ H2 H2' hi ⟨s2, y, rfl⟩ ⟨rfl, hx⟩
    obtain ⟨z, hz, rfl⟩ := str_at hx
    refine ⟨_, rfl, _, rfl, in_room (hBc.mono (s1.trans s2)).sz hnm (hall z (List.mem_of_getElem? hz)) fun H' s' => ⟨_, rfl, _, rfl, iteF ⟨s2.trans s', _, rfl⟩⟩⟩
  rintro σ H2 ⟨s2, x2, rfl⟩
  have s12 := s1.trans s2
  have t2 := s2 _ _ t1
  -- the changes
  refine ⟨c, _, s12 _ _ hcc, trivial, fun od => ⟨_, rfl, c, od, _, rfl, upd_same, ?_⟩⟩
  refine for_it (walk_items (kvs := iD cs ch)) (fun i σ H' => Same (upd H2 c (.frz od (.dK (iD cs ch)))) H' ∧ ∃ x y, σ = [some (.ref t), some (.ref b), some (.str f), some (.str l), some (.ref c), x, y]) ⟨Same.refl _, _, _, rfl⟩ (fun i σ H' _ h => h.1 _ _ upd_same) ?_ ?_
  · rintro i x σ H3 H3' hi ⟨s3, y1, y2, rfl⟩ ⟨q, x1, x2, rfl, hq, rfl, g1, g2⟩
    obtain ⟨kv, hkv, rfl⟩ := Option.map_eq_some_iff.mp g1
    obtain ⟨kv2, hkv2, rfl⟩ := Option.map_eq_some_iff.mp g2
    obtain rfl : kv = kv2 := Option.some.inj (hkv.symm.trans hkv2)
    obtain ⟨kk, vv⟩ := kv
    obtain ⟨r, hr', rfl, rfl⟩ := iD_at hkv
    refine ⟨q, _, rfl, SqT.of upd_same, rfl, _, _, rfl, _, _, rfl, rfl, ?_⟩
    refine ⟨_, rfl, _, rfl, ch r, -1000000000, 1000000000, rfl, _, rfl, ?_⟩
    rw [decide_eq_true (hch r hr').1, decide_eq_true (hch r hr').2]
    exact iteF ⟨s3.then_ hq, _, _, rfl⟩
  rintro σ H3 ⟨s3, x3, y3, rfl⟩
  refine ⟨s3 _ _ upd_same, ?_⟩
  have s4 := lock_same s12 (s12 _ _ hcc) s3
  have t4 : upd H3 c (.dK (iD cs ch)) t = some (.ins (He.ga K "Trace") dx []) := lock_at s3 t2 (Ne.symm nct)
  generalize upd H3 c (.dK (iD cs ch)) = H4 at s4 t4
  refine ⟨_, rfl, _, rfl, t, _, dx, [], rfl, t4, T.cl_Trace, T.naTrace_own_building, (by show 0 < 1000; decide), ?_⟩
  refine ⟨_, rfl, _, rfl, t, _, dx, _, rfl, upd_same, T.cl_Trace, T.naTrace_own_first, (by show 1 < 1000; decide), ?_⟩
  refine ⟨_, rfl, _, rfl, t, _, dx, _, rfl, upd_same, T.cl_Trace, T.naTrace_own_last, (by show 2 < 1000; decide), ?_⟩
  rw [upd_upd, upd_upd]
  have t5 : upd H4 t (.ins (He.ga K "Trace") dx (putF "own_last" (.str l) (putF "own_first" (.str f) (putF "own_building" (.ref b) [])))) t = some (.ins (He.ga K "Trace") dx [("own_building", .ref b), ("own_first", .str f), ("own_last", .str l)]) := upd_same
  have s5 : Same Hc (upd H4 t (.ins (He.ga K "Trace") dx (putF "own_last" (.str l) (putF "own_first" (.str f) (putF "own_building" (.ref b) []))))) := s4.mut hct
  generalize upd H4 t (.ins (He.ga K "Trace") dx (putF "own_last" (.str l) (putF "own_first" (.str f) (putF "own_building" (.ref b) [])))) = H5 at s5 t5
  -- the dict of changes
  obtain ⟨dxb, fsb, sb, hb1, hb2, hb3⟩ := (hBc.mono s5).sz
  have hszb := (hBc.mono s5).sz
  refine ⟨_, rfl, b, dxb, fsb, rfl, hb1, b, rs, sz, rfl, hszb, fun p1 hp1 => ?_⟩
  refine ⟨p1, rfl, ⟨_, SqT.of upd_same⟩, fun D hD => ?_⟩
  have s6 : Same H5 (upd H5 p1 (.tup (rs.map V.str))) := Same.new hp1
  have e6 : upd H5 p1 (.tup (rs.map V.str)) p1 = some (.tup (rs.map V.str)) := upd_same
  generalize upd H5 p1 (.tup (rs.map V.str)) = H6 at s6 e6 hD
  have hDc : Hc D = none := (s5.trans s6).free hD
  refine dc_it (walk_tup (xs := rs.map V.str)) (fun i H' => Same H6 H' ∧ H' D = some (.dK (iD (rs.take i) fun r => ch r % sz r))) ⟨Same.new hD, upd_same⟩ (fun i H' _ h => SqT.of (h.1 _ _ e6)) ?_ ?_
  · rintro i x H7 H7' hi ⟨s7, f7⟩ ⟨rfl, hx⟩
    obtain ⟨z, hz, rfl⟩ := str_at hx
    have hzr : z ∈ rs := List.mem_of_getElem? hz
    have s57 := (s5.trans s6).trans s7
    have hi' : i < rs.length := (List.getElem?_eq_some_iff.mp hz).1
    refine ⟨rfl, _, rfl, _, rfl, c, rfl, .inl ⟨_, .inl (s57 _ _ hcc)⟩, _, rfl, some (.int (ch z)), DGet.i (.inl (s57 _ _ hcc)) ((hcs z).mpr hzr), _, rfl, _, rfl, get_room (hBc.mono s57).sz hnm hzr fun H8 s8 => ?_⟩
    refine ⟨_, _, rfl, rfl, (show (0 : Int) < sz z from by have := (hB.pos z hzr).1; omega), _, .inr z, rfl, s8 _ _ f7, by rw [iD_len, List.length_take]; have := hnm.few; omega, (s7.trans s8).mut hD, ?_⟩
    rw [upd_same, iD_new (not_take hnm.nd hz), take_one hz]
    refine congrArg (fun o => some (HO.dK o)) (iD_congr fun r _ => ?_)
    by_cases e : r = z
    · rw [if_pos e, e]
    · rw [if_neg e]
  rintro H7 ⟨s7, f7⟩
  rw [List.length_map, List.take_length] at f7
  have s57 := (s5.trans s6).trans s7
  have t7 := s7 _ _ (s6 _ _ t5)
  have nDt : D ≠ t := fun z => by rw [z, t7] at f7; cases f7
  refine ⟨_, rfl, t, _, dx, _, rfl, t7, T.cl_Trace, T.naTrace_own_changes, (by show 3 < 1000; decide), ?_⟩
  have s8 : Same Hc (upd H7 t (.ins (He.ga K "Trace") dx (putF "own_changes" (.ref D) [("own_building", .ref b), ("own_first", .str f), ("own_last", .str l)]))) := s57.mut hct
  have t8 : upd H7 t (.ins (He.ga K "Trace") dx (putF "own_changes" (.ref D) [("own_building", .ref b), ("own_first", .str f), ("own_last", .str l)])) t = some (.ins (He.ga K "Trace") dx [("own_building", .ref b), ("own_first", .str f), ("own_last", .str l), ("own_changes", .ref D)]) := upd_same
  have f8 : upd H7 t (.ins (He.ga K "Trace") dx (putF "own_changes" (.ref D) [("own_building", .ref b), ("own_first", .str f), ("own_last", .str l)])) D = some (.dK (iD rs fun r => ch r % sz r)) := by rw [upd_ne nDt]; exact f7
  generalize upd H7 t (.ins (He.ga K "Trace") dx (putF "own_changes" (.ref D) [("own_building", .ref b), ("own_first", .str f), ("own_last", .str l)])) = H8 at s8 t8 f8
  -- the key
  refine ⟨_, rfl, _, rfl, _, rfl, _, rfl, t, _, dx, _, _, rfl, t8, T.cl_Trace, T.naTrace_own_changes, rfl, by show 4 ≤ sizeLine; omega, fun q hq => ?_⟩
  have nqt : q ≠ t := fun z => by rw [z, t8] at hq; cases hq
  refine ⟨_, rfl, t, _, dx, _, rfl, (Same.new hq) _ _ t8, T.cl_Trace, T.naTrace_key, (by show 4 < 1000; decide), ?_⟩
  have s9 : Same Hc (upd (upd H8 q (.tup [.ref b, .str f, .str l, .ref D])) t (.ins (He.ga K "Trace") dx (putF "key" (.ref q) [("own_building", .ref b), ("own_first", .str f), ("own_last", .str l), ("own_changes", .ref D)]))) := (s8.then_ hq).mut hct
  have t9 : upd (upd H8 q (.tup [.ref b, .str f, .str l, .ref D])) t (.ins (He.ga K "Trace") dx (putF "key" (.ref q) [("own_building", .ref b), ("own_first", .str f), ("own_last", .str l), ("own_changes", .ref D)])) t = some (.ins (He.ga K "Trace") dx [("own_building", .ref b), ("own_first", .str f), ("own_last", .str l), ("own_changes", .ref D), ("key", .ref q)]) := upd_same
  have f9 : upd (upd H8 q (.tup [.ref b, .str f, .str l, .ref D])) t (.ins (He.ga K "Trace") dx (putF "key" (.ref q) [("own_building", .ref b), ("own_first", .str f), ("own_last", .str l), ("own_changes", .ref D)])) D = some (.dK (iD rs fun r => ch r % sz r)) := by rw [upd_ne nDt]; exact (Same.new hq) _ _ f8
  have k9 : upd (upd H8 q (.tup [.ref b, .str f, .str l, .ref D])) t (.ins (He.ga K "Trace") dx (putF "key" (.ref q) [("own_building", .ref b), ("own_first", .str f), ("own_last", .str l), ("own_changes", .ref D)])) q = some (.tup [.ref b, .str f, .str l, .ref D]) := by rw [upd_ne nqt, upd_same]
  generalize upd (upd H8 q (.tup [.ref b, .str f, .str l, .ref D])) t (.ins (He.ga K "Trace") dx (putF "key" (.ref q) [("own_building", .ref b), ("own_first", .str f), ("own_last", .str l), ("own_changes", .ref D)])) = H9 at s9 t9 f9 k9
  -- balance
  obtain ⟨dxb', sb', pb', nb', v1, v2, v3, Lb, kvb, hb9, _, _, _, hsv⟩ := (hBc.mono s9).ex
  refine ⟨_, rfl, t, dx, _, rfl, t9, rfl, _, rfl, b, _, _, rfl, hb9, b, _, _, v1, rfl, hb9, rfl, t, dx, _, f, l, D, rs, _, v1, rfl, t9, rfl, rfl, rfl, f9, hsv, fun u H10 s10 => ?_⟩
  refine ⟨_, rfl, t, _, dx, _, rfl, s10 _ _ t9, T.cl_Trace, T.naTrace_own_balance, (by show 5 < 1000; decide), ?_⟩
  have s11 : Same Hc (upd H10 t (.ins (He.ga K "Trace") dx (putF "own_balance" u [("own_building", .ref b), ("own_first", .str f), ("own_last", .str l), ("own_changes", .ref D), ("key", .ref q)]))) := (s9.trans s10).mut hct
  have t11 : upd H10 t (.ins (He.ga K "Trace") dx (putF "own_balance" u [("own_building", .ref b), ("own_first", .str f), ("own_last", .str l), ("own_changes", .ref D), ("key", .ref q)])) t = some (.ins (He.ga K "Trace") dx [("own_building", .ref b), ("own_first", .str f), ("own_last", .str l), ("own_changes", .ref D), ("key", .ref q), ("own_balance", u)]) := upd_same
  have f11 : upd H10 t (.ins (He.ga K "Trace") dx (putF "own_balance" u [("own_building", .ref b), ("own_first", .str f), ("own_last", .str l), ("own_changes", .ref D), ("key", .ref q)])) D = some (.dK (iD rs fun r => ch r % sz r)) := by rw [upd_ne nDt]; exact s10 _ _ f9
  have k11 : upd H10 t (.ins (He.ga K "Trace") dx (putF "own_balance" u [("own_building", .ref b), ("own_first", .str f), ("own_last", .str l), ("own_changes", .ref D), ("key", .ref q)])) q = some (.tup [.ref b, .str f, .str l, .ref D]) := by rw [upd_ne nqt]; exact s10 _ _ k9
  generalize upd H10 t (.ins (He.ga K "Trace") dx (putF "own_balance" u [("own_building", .ref b), ("own_first", .str f), ("own_last", .str l), ("own_changes", .ref D), ("key", .ref q)])) = H11 at s11 t11 f11 k11
  -- gcd
  obtain ⟨dxc, fsc, sc, hc1, hc2, hc3⟩ := (hBc.mono s11).sz
  refine ⟨_, rfl, b, dxc, fsc, rfl, hc1, b, rs, sz, rfl, (hBc.mono s11).sz, fun p2 hp2 => ?_⟩
  refine ⟨p2, rfl, ⟨_, SqT.of upd_same⟩, fun D2 hD2 => ?_⟩
  have s12' : Same H11 (upd H11 p2 (.tup (rs.map V.str))) := Same.new hp2
  have e12 : upd H11 p2 (.tup (rs.map V.str)) p2 = some (.tup (rs.map V.str)) := upd_same
  generalize upd H11 p2 (.tup (rs.map V.str)) = H12 at s12' e12 hD2
  refine lc_it (walk_tup (xs := rs.map V.str)) (fun i H' => Same H12 H' ∧ ∃ ns : List Int, H' D2 = some (.lst (ns.map V.int)) ∧ ns.length = i) ⟨Same.new hD2, [], upd_same, rfl⟩ (fun i H' _ h => SqT.of (h.1 _ _ e12)) ?_ ?_
  · rintro i x H13 H13' hi ⟨s13, ns, g1, g2⟩ ⟨rfl, hx⟩
    obtain ⟨z, hz, rfl⟩ := str_at hx
    have hzr : z ∈ rs := List.mem_of_getElem? hz
    have hi' : i < rs.length := (List.getElem?_eq_some_iff.mp hz).1
    refine ⟨rfl, _, rfl, _, rfl, get_room (hBc.mono ((s11.trans s12').trans s13)).sz hnm hzr fun H14 s14 => ⟨_, s14 _ _ g1, ?_, (s13.trans s14).mut hD2, ns ++ [sz z], ?_, ?_⟩⟩
    · rw [List.length_map, g2]; have := hnm.few; omega
    · rw [upd_same, List.map_append]; rfl
    · rw [List.length_append, g2]; rfl
  rintro H13 ⟨s13, ns, g1, g2⟩
  have s1113 := s12'.trans s13
  refine ⟨D2, ns, rfl, SqL.of g1, fun gg => ?_⟩
  refine ⟨_, rfl, t, _, dx, _, rfl, s1113 _ _ t11, T.cl_Trace, T.naTrace_own_gcd, (by show 6 < 1000; decide), ?_⟩
  refine k _ (Frm.of_cut (M := [t]) ?_) ⟨dx, D, q, u, .int gg, upd_same, by rw [upd_ne nDt]; exact s1113 _ _ f11, by rw [upd_ne nqt]; exact s1113 _ _ k11⟩
  rw [← eHc]
  exact (s11.trans s1113).mut hct
end
end RD

/-! RDLawA: traces along rooms. -/
namespace RD
open PySem PySem.Spec PyProof.Rows L2
/-- y = {k: v for ..}, y a local name -/
theorem ps_setDc {X : Cx} {i : Nat} {y : Str} {py : Pos} {kx vx tg iter : Expr} {ifs : List Expr} {scope : Scope} {own : List (Str × Nat)} {pos spos : Pos} {wi : TI} {g : TG} {tt : TT} {tk tv : TE} (hc : X.calm = true) (hN : X.N.Nodup) (hy : X.N[i]? = some y) (hyl : X.env.scope.names.lookup y = some .local)
    (hk0 : X.env.scope.kind = .function) (hl : (py.line == pos.line) = true) (ha : (scope.names.any fun (n, k) => n == y && (k == .local || k == .cell)) = false) (hi : PI X tg iter wi) (ok : BlkOk X.N X.env.scope scope own)
    (hg : ∀ (s : Shared) (H : Hp) (C : Addr) (cl : List (Str × Addr)) (fp : List Addr), PG (X.blk s H scope (compEnvC scope cl C X.env) fp) tg g) (ht : ∀ (s : Shared) (H : Hp) (C : Addr) (cl : List (Str × Addr)) (fp : List Addr), PTs (X.blk s H scope (compEnvC scope cl C X.env) fp) ifs tt)
    (hk : ∀ (s : Shared) (H : Hp) (C : Addr) (cl : List (Str × Addr)) (fp : List Addr), PE (X.blk s H scope (compEnvC scope cl C X.env) fp) kx tk) (he : ∀ (s : Shared) (H : Hp) (C : Addr) (cl : List (Str × Addr)) (fp : List Addr), PE (X.blk s H scope (compEnvC scope cl C X.env) fp) vx tv)
    (hs : ∀ x, foldedSetIterable iter X.env x = pure x := by intro _; rfl) :
    PS X (.Assign [.Name y py] (.DictComp kx vx [⟨tg, iter, ifs, 0⟩] scope pos) spos) (tAsg (tDc wi g tt tk tv (own.map (·.2))) (gName i)) := by
  have hsw : swapsWith (.DictComp kx vx [⟨tg, iter, ifs, 0⟩] scope pos) (some (.Name y py)) spos.line X.env = pure true := by
    have ky : X.env.kindOf y = some .local := hyl
    have hb : X.env.blockKind = .function := by unfold Env.blockKind; rw [hk0]; rfl
    unfold swapsWith
    simp only [hb, ky, ha, Expr.pos, hl]
    rfl
  refine ⟨fun pins s σ H D I h => ?_⟩
  rw [exec_Assign_Name_used _ _ _ _ hsw]
  refine wpAny_bind (wpAny_standAt (wpAny_bind ?_))
  show wpAny _ X.A (do let _ ← comprehension (.DictComp kx vx [⟨tg, iter, ifs, 0⟩] scope pos) scope X.env (firstIterPos [⟨tg, iter, ifs, 0⟩] pos) newDict false (eval iter X.env) (some (assign (.Name y py) X.env))) _ _ s
  have h : tDc wi g tt tk tv (own.map (·.2)) σ H (fun x H1 => gName i x σ H1 D.nx) := h
  refine wpAny_bind (thn (dc_core (Qf := fun _ s' => SP X pins D .next s') hc hN I hi ok hg ht hk he hs h fun L C s' m H' I' q hn f => ?_) fun _ s' hq => wpAny_pure (wpAny_pure hq))
  show wpAny _ _ (assign (.Name y py) X.env (.ref L)) _ _ _
  refine wpAny_assign_Name (store_ok2 (v := V.ref L) I' hN hy (.inl hyl) rfl (fun s2 I2 ⟨a, sb, ha⟩ => ?_) (.inr hyl))
  obtain ⟨f0, f1, f2, f3, f4, f5⟩ := f
  have haC : C ≠ a := by
    rcases ha with z | z
    · rw [z]; exact f1
    · exact fun e => f4 y a z e.symm
  exact ⟨m, hn.sameBut sb haC, fun h3 sb3 => ⟨_, H', I2.turned (t' := s2.toks) (fun b o hb e => (sb3.2 b hb).trans e) f0 f1 f3 f4 f5, q⟩⟩
/-- how often a walk enters a room -/
def cnt (zs : List Str) (r : Str) : Int := (((zs.drop 1).count r : Nat) : Int)
theorem countP_str (zs : List Str) (r : Str) : (zs.map V.str).countP (fun z => eqV z (.str r)) = zs.count r := by
  induction zs with
  | nil => rfl
  | cons a l ih =>
    rw [List.map_cons, List.countP_cons, ih, List.count_cons]
    rfl
theorem flat_strs (zs : List Str) : (zs.map V.str).all flatV = true := by
  rw [List.all_map]
  exact List.all_eq_true.mpr fun _ _ => rfl
theorem Frm.fresh {t dx : Addr} {H H' : Hp} {o1 o2 : HO} (h : Frm [t] (upd (upd H dx o1) t o2) H') (h1 : H t = none) (h2 : H dx = none) : Same H H' := fun b o e => by
  have n1 : b ≠ t := ne_of_none e h1
  have n2 : b ≠ dx := ne_of_none e h2
  exact h b o (by rw [upd_ne n1, upd_ne n2]; exact e) (by simp [n1])
section
variable {P : Program} {w : World} {K : PySem.W.Frag} {mg : Str → Option Value} {base : Heap}
/-- rooms of a building, one at least -/
structure Way (rs zs : List Str) : Prop where
  mem : ∀ z ∈ zs, z ∈ rs
  ne : zs ≠ []
  few : zs.length ≤ 1000
def spAlong (K : PySem.W.Frag) : Sp := fun vs H Q _ => ∃ b l zs rs sz E, vs = [.ref b, .ref l] ∧ BldAt (He.ga K "Building") H b rs sz E ∧ H l = some (.lst (zs.map V.str)) ∧ Way rs zs ∧
  ∀ t H' f la, Same H H' → zs.head? = some f → zs.getLast? = some la → TrcAt (He.ga K "Trace") H' t b f la rs (fun r => cnt zs r % sz r) → Q (.ref t) H'
theorem sc_trace_along : FnScope ["building", "rooms", "changes", "room"] ["building", "rooms"] (defScope s_trace_along) := ⟨rfl, rfl, rfl, by decide +kernel, rfl, by decide +kernel, by decide +kernel⟩
theorem ok_trace_along (T : Says w K mg) : C8.Cal P w K mg base 7 "trace_along" (spAlong K) [] := by
  refine cal_of T.d_trace_along T.g_trace_along sc_trace_along (fun vs H Q E h => ?_) (fun _ _ _ _ _ _ us hl => match us, hl with | [_, _], _ => rfl) (fun cdv A outer s H vs Q E hr h => ?_)
  · obtain ⟨_, _, _, _, _, _, rfl, _⟩ := h; rfl
  refine ⟨_, (pss_cons (ps_setDc (i := 2) (own := [("room", 3)]) (g := (gName 3)) (tt := tYes) rfl sc_trace_along.nd rfl rfl rfl rfl (by decide +kernel) (pi_tup (pe_pp (okBuilding_rooms T) hr (by decide) (pv 0))) (blkOk_by (own := [("room", 3)]) (N := ["building", "rooms", "changes", "room"]) (sc := defScope s_trace_along) (by decide +kernel)) (fun _ _ _ _ _ => (pg_name (i := 3) sc_trace_along.nd rfl (Or.inl rfl))) (fun _ _ _ _ _ => pts_nil) (fun _ _ _ _ _ => (pv 3)) (fun _ _ _ _ _ => (show PE _ _ (tBM K "list" _ _ _) from (pe_bm (r := rCntF K) PySem.F.plainAttrs_list PySem.F.slot_list_count PySem.F.type_list_count mt_countF (pe_slice (r := rSlL K) sl_list (pv 1) (po_some pe_int) po_none) (pa_cons (pv 3) pa_nil)))))
    (pss_one (ps_ret (C8.pe_mk (okTrace_init T) hr (by decide) rfl (pa_cons (pv 0) (pa_cons (pe_ix (r := rIxL K) ix_list (pv 1) pe_int (fun _ _ => rfl)) (pa_cons (pe_ix (r := rIxL K) ix_list (pv 1) (pe_un un_neg pe_int) (fun _ _ => rfl)) (pa_cons (pv 2) pa_nil)))))))), ?_⟩
  obtain ⟨b, l, zs, rs, sz, E0', rfl, hB, hl, hw, k⟩ := h
  have hbig : sizeLine = 16777216 := sizeLine_eq
  have hnm := hB.nm
  obtain ⟨dxb, fsb, sb, hb1, hb2, hb3⟩ := hB.sz
  refine ⟨_, rfl, b, dxb, fsb, rfl, hb1, b, rs, sz, rfl, hB.sz, fun p1 hp1 => ?_⟩
  refine ⟨p1, rfl, ⟨_, SqT.of upd_same⟩, fun D hD => ?_⟩
  have s1 : Same H (upd H p1 (.tup (rs.map V.str))) := Same.new hp1
  have e1 : upd H p1 (.tup (rs.map V.str)) p1 = some (.tup (rs.map V.str)) := upd_same
  generalize upd H p1 (.tup (rs.map V.str)) = H1 at s1 e1 hD
  refine dc_it (walk_tup (xs := rs.map V.str)) (fun i H' => Same H1 H' ∧ H' D = some (.dK (iD (rs.take i) (cnt zs)))) ⟨Same.new hD, upd_same⟩ (fun i H' _ h => SqT.of (h.1 _ _ e1)) ?_ ?_
  · rintro i x H2 H2' hi ⟨s2, f2⟩ ⟨rfl, hx⟩
    obtain ⟨z, hz, rfl⟩ := str_at hx
    have s12 := s1.trans s2
    refine ⟨rfl, _, rfl, _, rfl, 1, rfl, l, _, rfl, SqL.of (s12 _ _ hl), fun q hq => ?_⟩
    rw [show ((1 : Int)) = ((1 : Nat) : Int) from rfl, cut_from, ← List.map_drop]
    refine ⟨tyList upd_same, _, rfl, q, _, .str z, rfl, rfl, SqL.of upd_same, rfl, flat_strs _, ?_⟩
    rw [countP_str]
    refine ⟨_, .inr z, rfl, (Same.new hq) _ _ f2, by rw [iD_len, List.length_take]; have := hnm.few; omega, (s2.then_ hq).mut hD, ?_⟩
    rw [upd_same, iD_new (not_take hnm.nd hz), take_one hz]
    refine congrArg (fun o => some (HO.dK o)) (iD_congr fun r _ => ?_)
    by_cases e : r = z
    · rw [if_pos e, e]; rfl
    · rw [if_neg e]
  rintro H2 ⟨s2, f2⟩
  rw [List.length_map, List.take_length] at f2
  have s12 := s1.trans s2
  have hpos : 0 < zs.length := List.length_pos_iff.mpr hw.ne
  obtain ⟨f, hf⟩ : ∃ f, zs[0]? = some f := ⟨zs[0], List.getElem?_eq_getElem hpos⟩
  obtain ⟨la, hla⟩ : ∃ la, zs.getLast? = some la := ⟨zs.getLast hw.ne, List.getLast?_eq_some_getLast hw.ne⟩
  have hal : atI (zs.map V.str) (-1) = some (.str la) := by
    obtain ⟨ini, rfl⟩ : ∃ ini, zs = ini ++ [la] := List.getLast?_eq_some_iff.mp hla
    rw [List.map_append]
    exact atI_last _ _
  have hfm : f ∈ rs := hw.mem f (List.mem_of_getElem? hf)
  have hlm : la ∈ rs := hw.mem la (List.mem_of_getLast? hla)
  have hl2 := s12 _ _ hl
  refine ⟨_, rfl, _, rfl, l, _, (0 : Nat), .str f, rfl, rfl, SqL.of hl2, atI_nat (by rw [List.getElem?_map, hf]; rfl), _, rfl, 1, rfl, l, _, -1, .str la, rfl, rfl, SqL.of hl2, hal, _, rfl, fun t dx ht hdx hne => ?_⟩
  have sn : Same H2 (upd (upd H2 dx (.own t)) t (.ins (He.ga K "Trace") dx [])) := (Same.new hdx).then_ (by rw [upd_ne (Ne.symm hne)]; exact ht)
  refine ⟨t, b, f, la, D, dx, rs, sz, E0', rs, cnt zs, rfl, upd_same, hB.mono (s12.trans sn), hfm, hlm, sn _ _ f2, by have := hnm.few; omega, fun r => Iff.rfl, fun r _ => ?_, fun H' fr hT => ⟨rfl, k t H' f la (s12.trans (fr.fresh ht hdx)) (by rw [List.head?_eq_getElem?]; exact hf) hla hT⟩⟩
  have h1 : (zs.drop 1).count r ≤ (zs.drop 1).length := List.count_le_length ..
  have h2 : (zs.drop 1).length ≤ 1000 := by rw [List.length_drop]; have := hw.few; omega
  unfold cnt
  omega
/-! ### the law's plan -/
structure PlanAt (H : Hp) (p : Addr) (names : List Str) (sz : Str → Int) (L : List (Addr × Cor)) (d c : Addr) : Prop where
  tup : H p = some (.tup [.ref d, .ref c])
  dict : H d = some (.dK (iD names sz))
  cors : CorAt H c L
theorem PlanAt.mono {H H' : Hp} {p d c : Addr} {names : List Str} {sz : Str → Int} {L : List (Addr × Cor)} (h : PlanAt H p names sz L d c) (e : Same H H') : PlanAt H' p names sz L d c := ⟨e _ _ h.tup, e _ _ h.dict, h.cors.mono e⟩
theorem mergeK_iD {names : List Str} (hn : names.Nodup) (f : Str → Int) : mergeK [] (iD names f) = iD names f := by
  have gen : ∀ (l done : List Str), (done ++ l).Nodup → (iD l f).foldl (fun acc kv => putK acc kv.1 kv.2) (iD done f) = iD (done ++ l) f := by
    intro l
    induction l with
    | nil => intro done _; rw [List.append_nil]; rfl
    | cons a l ih =>
      intro done hd
      have ha : a ∉ done := fun z => by
        rw [List.nodup_append] at hd
        exact hd.2.2 a z a (List.mem_cons_self ..) rfl
      show (iD l f).foldl (fun acc kv => putK acc kv.1 kv.2) (putK (iD done f) (.inr a) (.int (f a))) = _
      rw [iD_new ha, show done ++ a :: l = (done ++ [a]) ++ l by simp, ← ih (done ++ [a]) (by simpa using hd)]
      congr 1
      refine iD_congr fun r _ => ?_
      by_cases e : r = a
      · rw [if_pos e, e]
      · rw [if_neg e]
  exact gen names [] (by simpa using hn)
theorem pair_map {α β : Type} {F G : α → β → Prop} {l : List α} {m : List β} (h : Paired F l m) (k : ∀ a b, F a b → G a b) : Paired G l m := by
  induction h with
  | nil => exact .nil
  | cons h t ih => exact .cons (k _ _ h) ih
/-! ### _law_left -/
def spLeft (K : PySem.W.Frag) : Sp := fun vs H Q _ => ∃ p l zs names sz L d c, vs = [.ref p, .ref l] ∧ PlanAt H p names sz L d c ∧ H l = some (.lst (zs.map V.str)) ∧ Names names ∧ (∀ r ∈ names, 1 ≤ sz r) ∧ ∀ q H', Same H H' → H' q = some (.dK (iD names fun r => cnt zs r % sz r)) → Q (.ref q) H'
theorem sc_left : FnScope ["_law_plan", "_law_rooms", "_law_room"] ["_law_plan", "_law_rooms"] (defScope s_left) := ⟨rfl, rfl, rfl, by decide +kernel, rfl, by decide +kernel, by decide +kernel⟩
theorem ok_left (T : Says w K mg) : C8.Cal P w K mg base 1 "_law_left" (spLeft K) [] := by
  refine cal_of T.d_left T.g_left sc_left (fun vs H Q E h => ?_) (fun _ _ _ _ _ _ us hl => match us, hl with | [_, _], _ => rfl) (fun cdv A outer s H vs Q E hr h => ?_)
  · obtain ⟨_, _, _, _, _, _, _, _, rfl, _⟩ := h; rfl
  refine ⟨_, (pss_one (ps_ret (pe_callTy (T := "dict") (call_dictP rfl) (by rfl) T.z_dict (by decide +kernel) (pa_cons (pe_lock (pe_lc (own := [("_law_room", 2)]) (g := (gName 2)) (tt := tYes) rfl sc_left.nd (pi_keys (pe_ix (r := rIxT K) ix_tup (pv 0) pe_int (fun _ _ => rfl))) (blkOk_by (own := [("_law_room", 2)]) (N := ["_law_plan", "_law_rooms", "_law_room"]) (sc := defScope s_left) (by decide +kernel)) (fun _ _ _ _ _ => (pg_name (i := 2) sc_left.nd rfl (Or.inl rfl))) (fun _ _ _ _ _ => pts_nil) (fun _ _ _ _ _ => (pe_tup (pa_cons (pv 2) (pa_cons (pe_op op_mod (pe_callTy (T := "int") call_int1 (by rfl) T.z_int (by decide +kernel) (pa_cons (show PE _ _ (tBM K "list" _ _ _) from (pe_bm (r := rCntF K) PySem.F.plainAttrs_list PySem.F.slot_list_count PySem.F.type_list_count mt_countF (pe_slice (r := rSlL K) sl_list (pv 1) (po_some pe_int) po_none) (pa_cons (pv 2) pa_nil))) pa_nil)) (pe_dget (hu_of hr) (pe_ix (r := rIxT K) ix_tup (pv 0) pe_int (fun _ _ => rfl)) (pv 2) (fun _ _ => rfl))) pa_nil)))))) pa_nil)))), ?_⟩
  obtain ⟨p, l, zs, names, sz, L, d, c, rfl, hP, hl, hnm, hpos, k⟩ := h
  have hbig : sizeLine = 16777216 := sizeLine_eq
  have npd : p ≠ d := fun z => by have := hP.tup; rw [z, hP.dict] at this; cases this
  have nld : l ≠ d := fun z => by rw [z, hP.dict] at hl; cases hl
  have lks : (iD names sz).length = names.length := iD_len names sz
  refine ⟨d, _, hP.dict, trivial, fun od => ⟨_, rfl, p, _, 0, _, rfl, rfl, SqT.of (by rw [upd_ne npd]; exact hP.tup), rfl, d, od, rfl, .inl ⟨_, upd_same, fun D hD => ?_⟩⟩⟩
  have hp0 : (upd H d (.frz od (.dK (iD names sz)))) p = some (.tup [.ref d, .ref c]) := by rw [upd_ne npd]; exact hP.tup
  have hl0 : (upd H d (.frz od (.dK (iD names sz)))) l = some (.lst (zs.map V.str)) := by rw [upd_ne nld]; exact hl
  have hd0 : (upd H d (.frz od (.dK (iD names sz)))) d = some (.frz od (.dK (iD names sz))) := upd_same
  refine lc_it (walk_keys (kvs := iD names sz)) (fun i H' => Same (upd H d (.frz od (.dK (iD names sz)))) H' ∧ ∃ ts : List Addr, H' D = some (.lst (ts.map V.ref)) ∧ Paired (fun q kv => H' q = some (.tup [kV kv.1, kv.2])) ts (iD (names.take i) fun r => cnt zs r % sz r)) ⟨Same.new hD, [], upd_same, .nil⟩ (fun i H' _ h => h.1 _ _ hd0) ?_ ?_
  · rintro i x H1 H1' hi ⟨s1, ts, e1, e2⟩ ⟨rfl, k', v', hk', rfl⟩
    obtain ⟨r, hr', rfl, rfl⟩ := iD_get hk'
    have hrn : r ∈ names := List.mem_of_getElem? hr'
    have hi' : i < names.length := (List.getElem?_eq_some_iff.mp hr').1
    have hts : ts.length = i := by rw [e2.length, iD_len, List.length_take]; omega
    refine ⟨rfl, _, rfl, _, rfl, 1, rfl, l, _, rfl, SqL.of (s1 _ _ hl0), fun q hq => ?_⟩
    rw [show ((1 : Int)) = ((1 : Nat) : Int) from rfl, cut_from, ← List.map_drop]
    refine ⟨tyList upd_same, _, rfl, q, _, .str r, rfl, rfl, SqL.of upd_same, rfl, flat_strs _, ?_⟩
    rw [countP_str]
    have s2 := s1.then_ (o := .lst ((zs.drop 1).map V.str)) hq
    refine .inl ⟨_, rfl, _, rfl, p, _, 0, _, rfl, rfl, SqT.of (s2 _ _ hp0), rfl, _, rfl, d, _, rfl, DGet.i (.inr ⟨od, s2 _ _ hd0⟩) hrn, _, _, rfl, rfl, (show (0 : Int) < sz r from by have := hpos r hrn; omega), by show 2 ≤ sizeLine; omega, fun t ht => ?_⟩
    refine ⟨_, (Same.new ht) _ _ ((Same.new hq) _ _ e1), by rw [List.length_map]; have := hnm.few; omega, (s2.then_ ht).mut hD, ts ++ [t], ?_, ?_⟩
    · rw [upd_same, List.map_append]; rfl
    · have nDt : t ≠ D := fun z => by rw [z, (Same.new hq) _ _ e1] at ht; cases ht
      have e2' : Paired (fun q' kv => (upd (upd (upd H1' q (.lst ((zs.drop 1).map V.str))) t (.tup [.str r, .int (cnt zs r % sz r)])) D (.lst (ts.map V.ref ++ [.ref t]))) q' = some (.tup [kV kv.1, kv.2])) ts (iD (names.take i) fun r => cnt zs r % sz r) := by
        refine pair_map e2 fun q' kv h => ?_
        have n1 : q' ≠ D := fun z => by rw [z, e1] at h; cases h
        rw [upd_ne n1]
        exact (Same.new ht) _ _ ((Same.new hq) _ _ h)
      rw [take_one hr']
      unfold iD
      rw [List.map_append]
      exact Paired.snoc (b := (Sum.inr r, V.int (cnt zs r % sz r))) e2' (by rw [upd_ne nDt, upd_same]; rfl)
  · rintro H1 ⟨s1, ts, e1, e2⟩
    rw [lks, List.take_length] at e2
    refine ⟨s1 _ _ hd0, ?_⟩
    have s2 : Same H (upd H1 d (.dK (iD names sz))) := lock_same (Same.refl _) hP.dict s1
    have nDd : D ≠ d := fun z => by rw [z, s1 _ _ hd0] at e1; cases e1
    refine ⟨D, ts, _, rfl, SqL.of (by rw [upd_ne nDd]; exact e1), pair_map e2 fun q' kv h => SqT.of ?_, fun q hq => ?_⟩
    · have n1 : q' ≠ d := fun z => by rw [z, s1 _ _ hd0] at h; cases h
      rw [upd_ne n1]
      exact h
    · rw [mergeK_iD hnm.nd]
      exact k q _ (s2.then_ hq) upd_same
/-! ### _law_traced -/
def spTraced (K : PySem.W.Frag) : Sp := fun vs H Q _ => ∃ p b l zs names sz L d c rs E, vs = [.ref p, .ref b, .ref l] ∧ PlanAt H p names sz L d c ∧ BldAt (He.ga K "Building") H b rs sz E ∧ rs.Perm names ∧ Names names ∧ H l = some (.lst (zs.map V.str)) ∧ Way rs zs ∧
  ∀ t H' f la, Same H H' → zs.head? = some f → zs.getLast? = some la → TrcAt (He.ga K "Trace") H' t b f la rs (fun r => cnt zs r % sz r) → Q (.ref t) H'
theorem sc_traced : FnScope ["_law_plan", "_law_building", "_law_rooms"] ["_law_plan", "_law_building", "_law_rooms"] (defScope s_traced) := ⟨rfl, rfl, rfl, by decide +kernel, rfl, by decide +kernel, by decide +kernel⟩
theorem ok_traced (T : Says w K mg) : C8.Cal P w K mg base 7 "_law_traced" (spTraced K) [] := by
  refine cal_of T.d_traced T.g_traced sc_traced (fun vs H Q E h => ?_) (fun _ _ _ _ _ _ us hl => match us, hl with | [_, _, _], _ => rfl) (fun cdv A outer s H vs Q E hr h => ?_)
  · obtain ⟨_, _, _, _, _, _, _, _, _, _, _, rfl, _⟩ := h; rfl
  refine ⟨_, (pss_one (ps_ret (C8.pe_mk (okTrace_init T) hr (by decide) rfl (pa_cons (pv 1) (pa_cons (pe_ix (r := rIxL K) ix_list (pv 2) pe_int (fun _ _ => rfl)) (pa_cons (pe_ix (r := rIxL K) ix_list (pv 2) (pe_un un_neg pe_int) (fun _ _ => rfl)) (pa_cons (C8.pe_c (ok_left T) hr (by decide) rfl (pa_cons (pv 0) (pa_cons (pv 2) pa_nil))) pa_nil))))))), ?_⟩
  obtain ⟨p, b, l, zs, names, sz, L, d, c, rs, E0', rfl, hP, hB, hperm, hN, hl, hw, k⟩ := h
  have hpos : 0 < zs.length := List.length_pos_iff.mpr hw.ne
  obtain ⟨f, hf⟩ : ∃ f, zs[0]? = some f := ⟨zs[0], List.getElem?_eq_getElem hpos⟩
  obtain ⟨la, hla⟩ : ∃ la, zs.getLast? = some la := ⟨zs.getLast hw.ne, List.getLast?_eq_some_getLast hw.ne⟩
  have hal : atI (zs.map V.str) (-1) = some (.str la) := by
    obtain ⟨ini, rfl⟩ : ∃ ini, zs = ini ++ [la] := List.getLast?_eq_some_iff.mp hla
    rw [List.map_append]
    exact atI_last _ _
  have hfm : f ∈ rs := hw.mem f (List.mem_of_getElem? hf)
  have hlm : la ∈ rs := hw.mem la (List.mem_of_getLast? hla)
  refine ⟨_, rfl, _, rfl, l, _, (0 : Nat), .str f, rfl, rfl, SqL.of hl, atI_nat (by rw [List.getElem?_map, hf]; rfl), _, rfl, 1, rfl, l, _, -1, .str la, rfl, rfl, SqL.of hl, hal, _, rfl, _, rfl, ?_⟩
  have hmod : ∀ r ∈ rs, 1 ≤ sz r ∧ sz r ≤ 1000000000 := hB.pos
  refine ⟨p, l, zs, names, sz, L, d, c, rfl, hP, hl, hN, fun r hr => (hmod r (hperm.mem_iff.mpr hr)).1, fun q H1 s1 hq t dx ht hdx hne => ?_⟩
  have sn : Same H1 (upd (upd H1 dx (.own t)) t (.ins (He.ga K "Trace") dx [])) := (Same.new hdx).then_ (by rw [upd_ne (Ne.symm hne)]; exact ht)
  refine ⟨t, b, f, la, q, dx, rs, sz, E0', names, _, rfl, upd_same, hB.mono (s1.trans sn), hfm, hlm, sn _ _ hq, by have := hN.few; omega, fun r => hperm.mem_iff.symm, fun r hr => ?_, fun H' fr hT => ⟨rfl, k t H' f la (s1.trans (fr.fresh ht hdx)) (by rw [List.head?_eq_getElem?]; exact hf) hla ?_⟩⟩
  · obtain ⟨h1, h2⟩ := hmod r (hperm.mem_iff.mpr hr)
    have h3 := Int.emod_nonneg (cnt zs r) (show sz r ≠ 0 by omega)
    have h4 := Int.emod_lt_of_pos (cnt zs r) (show 0 < sz r by omega)
    show -1000000000 ≤ cnt zs r % sz r ∧ cnt zs r % sz r ≤ 1000000000
    omega
  · obtain ⟨dx', d', k', v1, v2, h1, h2, h3⟩ := hT
    exact ⟨dx', d', k', v1, v2, h1, by rw [h2]; exact congrArg (fun o => some (HO.dK o)) (iD_congr fun r _ => Int.emod_emod_of_dvd _ (Int.dvd_refl _)), h3⟩
end
end RD

/-! RDHouse0: a def with **kw: what it binds, how it is called. -/
namespace RD
open PySem PySem.Spec PyProof.Rows L2
open PySem.W (dictOf putName_dict putL_new kwEs)
/-! ### the dict of keywords while it is filled -/
section
variable {prog : Program} {w : World} {A : Around} {E : Value → Shared → Prop} {d : Addr}
/-- one more name -/
theorem nsSet_new {s : Shared} {es : List DictEntry} {n : Nat} {k : Str} {v : Value} {Q : Unit → Shared → Prop} (D : s.heap.get? d = some (dictOf es n)) (hs : ∀ e ∈ es, e.key.isStr k = false) (hr : ∀ e ∈ es, e.refKey = false)
    (h : ∀ h', h'.get? d = some (dictOf (es ++ [⟨PyData.keyHash w.params k, .str k s.toks, v⟩]) (n + 1)) → Heap.SameBut d s.heap h' → Q () { s with heap := h', toks := s.toks + 1 }) : wpAny (model prog w) A (nsSet d k v) Q E s := by
  have e1 : es.any (·.key.isStr k) = false := by
    cases q : es.any (·.key.isStr k) with
    | false => rfl
    | true => obtain ⟨e, he, z⟩ := List.any_eq_true.mp q; rw [hs e he] at z; cases z
  have e2 : es.any (·.refKey) = false := by
    cases q : es.any (·.refKey) with
    | false => rfl
    | true => obtain ⟨e, he, z⟩ := List.any_eq_true.mp q; rw [hr e he] at z; cases z
  have e : Obj.putName k (PyData.keyHash w.params k) (.str k s.toks) v (dictOf es n) = dictOf (es ++ [⟨PyData.keyHash w.params k, .str k s.toks, v⟩]) (n + 1) := by
    rw [putName_dict, putL_new hs]
    show dictOf _ (if es.any (·.key.isStr k) then n else n + 1) = _
    rw [e1, if_neg Bool.false_ne_true]
  have c : aRefKeyMayBeTheName k es.toArray = false := by
    rw [aRefKeyMayBeTheName_at, ← Array.any_toList, ← Array.any_toList]
    show (!es.any (·.key.isStr k) && es.any (·.refKey)) = false
    rw [e2, Bool.and_false]
  unfold nsSet
  refine wpAny_bind (wpAny_bind (wpAny_askSetting (wpAny_pure (wpAny_bind (wpAny_mkText (wpAny_bind (wpAny_loadPart D ?_)))))))
  dsimp only
  rw [c]
  refine wpAny_updatePart D (h _ ?_ (Heap.SameBut.update ..))
  have z := Heap.get?_update_self (Obj.putName k (PyData.keyHash w.params k) (.str k s.toks) v) D (by rw [e]; rfl)
  rw [e] at z
  exact z
theorem fill_new {Q : PUnit → Shared → Prop} : ∀ (ex : List (Str × Value)) (s : Shared) (es : List DictEntry) (n : Nat), s.heap.get? d = some (dictOf es n) → (∀ e ∈ es, ∀ x ∈ ex, e.key.isStr x.1 = false) → (∀ e ∈ es, e.refKey = false) → (ex.map (·.1)).Nodup →
    (∀ h', h'.get? d = some (dictOf (es ++ kwEs w.params s.toks ex) (n + ex.length)) → Heap.SameBut d s.heap h' → Q ⟨⟩ { s with heap := h', toks := s.toks + ex.length }) →
    wpAny (model prog w) A (forIn ex PUnit.unit fun x _ => (nsSet d x.1 x.2 >>= fun _ => pure (ForInStep.yield PUnit.unit))) Q E s
  | [], s, es, n, D, _, _, _, h => by
    rw [List.forIn_nil]
    refine wpAny_pure (h s.heap ?_ ⟨rfl, fun _ _ => rfl⟩)
    show s.heap.get? d = some (dictOf (es ++ []) n)
    rw [List.append_nil]
    exact D
  | x :: r, s, es, n, D, hs, hr, hn, h => by
    obtain ⟨hn1, hn2⟩ := List.nodup_cons.mp (show (x.1 :: r.map (·.1)).Nodup from hn)
    rw [List.forIn_cons]
    refine wpAny_bind (wpAny_bind (nsSet_new D (fun e he => hs e he x (.head _)) hr fun h' D' sb => wpAny_pure ?_))
    show wpAny (model prog w) A (forIn r PUnit.unit fun x _ => (nsSet d x.1 x.2 >>= fun _ => pure (ForInStep.yield PUnit.unit))) Q E { s with heap := h', toks := s.toks + 1 }
    refine fill_new r { s with heap := h', toks := s.toks + 1 } _ _ D' (fun e he y hy => ?_) (fun e he => ?_) hn2 fun h'' D'' sb' => ?_
    · rcases List.mem_append.mp he with he | he
      · exact hs e he y (.tail _ hy)
      · obtain rfl := List.mem_singleton.mp he
        show (x.1 == y.1) = false
        exact beq_eq_false_iff_ne.mpr fun q => hn1 (by rw [q]; exact List.mem_map_of_mem hy)
    · rcases List.mem_append.mp he with he | he
      · exact hr e he
      · obtain rfl := List.mem_singleton.mp he
        rfl
    · have t1 : s.toks + 1 + r.length = s.toks + (r.length + 1) := by omega
      have t2 : n + 1 + r.length = n + (r.length + 1) := by omega
      show Q ⟨⟩ { s with heap := h'', toks := s.toks + 1 + r.length }
      rw [t1]
      refine h h'' ?_ ⟨sb'.1.trans sb.1, fun b hb => (sb'.2 b hb).trans (sb.2 b hb)⟩
      rw [t2, List.append_assoc] at D''
      exact D''
end
/-! ### what such a def binds -/
section
variable {P : Program} {w : World} {K : PySem.W.Frag} {mg : Str → Option Value} {base : Heap} {A : Around} {outer : List Env} {s : Shared} {H : Hp}
theorem env0_more {h' : Heap} {t' : Nat} {p : Addr} {u : HO} (e0 : Env0 P w K mg base A outer s H) (kp : ∀ b x, s.heap.get? b = some x → h'.get? b = some x) (hz : s.heap.objs.size ≤ h'.objs.size) (hp : s.heap.objs.size ≤ p) (new : ObjOk P w (upd H p u) h' p u) :
    Env0 P w K mg base A outer { s with heap := h', toks := t' } (upd H p u) := by
  refine ⟨e0.frames, e0.mod, fun b x e => ⟨kp b x (e0.bs b x e).1, ?_⟩, Nat.le_trans e0.bsz hz, Heap.FunFrames.of_keeps (fun b x e _ => ⟨x, kp b x e, rfl⟩) e0.funs, fun b hb => ?_, e0.hok.laid kp hp new, e0.bare⟩
  · rw [upd_ne (Nat.ne_of_lt (Nat.lt_of_lt_of_le (Heap.lt_size (e0.bs b x e).1) hp))]
    exact (e0.bs b x e).2
  · obtain ⟨_, x, hx, _⟩ := e0.funs.mem hb
    rw [upd_ne (Nat.ne_of_lt (Nat.lt_of_lt_of_le (Heap.lt_size hx) hp))]
    exact e0.frf b hb
/-- keywords as a dict's entries -/
def kwD : List Str → List V → List (Key × V)
  | k :: ks, z :: zs => (Sum.inr k, z) :: kwD ks zs
  | _, _ => []
theorem kwD_rel (P : Program) (w : World) : ∀ (ks : List Str) (zs : List V) (ws : List Value) (t : Tok), Vals zs ws → zs.length = ks.length → ∃ vs : List (Key × Value), KV (kwD ks zs) vs ∧ PySem.Pairs (mixKind P w) (kwEs w.params t (ks.zip ws)) vs ∧ vs.map (·.1) = ks.map Sum.inr
  | [], zs, ws, t, r, hl => by
    cases zs with
    | nil => cases r; exact ⟨[], .nil, .nil, rfl⟩
    | cons z zs => cases hl
  | k :: ks, zs, ws, t, r, hl => by
    cases zs with
    | nil => cases hl
    | cons z zs =>
      cases r with
      | @cons _ v _ ws h r =>
        obtain ⟨vs, h1, h3, h4⟩ := kwD_rel P w ks zs ws (t + 1) r (Nat.succ.inj hl)
        refine ⟨(Sum.inr k, v) :: vs, .cons ⟨rfl, h⟩ h1, .cons ?_ rfl h3, by rw [List.map_cons, List.map_cons, h4]⟩
        show Value.isStrOf k (.str k t) = true
        simp [Value.isStrOf]
theorem kwEs_keys (P : Program) (w : World) (ex : List (Str × Value)) (t : Tok) : PySem.KeysOf (mixKind P w) (kwEs w.params t ex).toArray := fun e he => by
  obtain ⟨k, u, h1, h2⟩ := PySem.W.kwEs_key ex t e (by simpa using he)
  refine ⟨Sum.inr k, ?_, h2⟩
  show Value.isStrOf k e.key = true
  rw [h1]
  simp [Value.isStrOf]
theorem kwD_keys {ks : List Str} {zs : List V} (hl : zs.length = ks.length) : (kwD ks zs).map (·.1) = ks.map Sum.inr := by
  induction ks generalizing zs with
  | nil => cases zs with
    | nil => rfl
    | cons z zs => cases hl
  | cons k ks ih => cases zs with
    | nil => cases hl
    | cons z zs => exact congrArg (List.cons _) (ih (Nat.succ.inj hl))
/-- a promise by positional values and keywords -/
def FnKR (P : Program) (w : World) (K : PySem.W.Frag) (mg : Str → Option Value) (base : Heap) (CX : CXT) (k : Nat) (f : Addr) (ks : List Str) (sp : List V → List V → Hp → VK → XK → Prop) : Prop :=
  ∀ (A : Around) (outer : List Env) (s : Shared) (H : Hp) (us ws : List Value) (vs zs : List V) (Q : VK) (E : XK), Room k A → Env0 P w K mg base A outer s H → Vals vs us → Vals zs ws → zs.length = ks.length → sp vs zs H Q E →
    codeAny (model P w) A (.call (.ref f) ⟨us, ks.zip ws⟩) (CR CX outer P w H s Q E) s
/-- def f(self, .., **d) called with the keywords ks -/
theorem kw_of {CX : CXT} {m q pd : Str} {st : Stmt} {f : Addr} {N ps ks : List Str} {k : Nat} {sp : Sp} (F : ∃ fd, FunD K m q (defArgs st) (defBody st) (defScope st) [] [] f fd) (S : FnScope N (ps ++ [pd]) (defScope st)) (hCX : StX.CXUp CX) (hks : ks.Nodup) (hkl : ks.length ≤ 30)
    (b : ∀ (kV doc pm : Value) (an : Option Addr) (cdv ct : Value) (us ws : List Value), us.length = ps.length → ws.length = ks.length →
      bindArgs (PySem.W.fnOf m q (defArgs st) (defBody st) (defScope st) .none kV doc pm an cdv ct) ⟨us, ks.zip ws⟩ =
        ((alloc ({ cls := .type "dict", data := .dict #[] } : Obj) : Sem Addr) >>= fun d => (forIn (ks.zip ws) PUnit.unit fun x _ => (nsSet d x.1 x.2 >>= fun _ => pure (ForInStep.yield PUnit.unit))) >>= fun _ => pure (ps.zip us ++ [(pd, Value.ref d)])))
    (hb : BodyC CX P w K mg base q st N k f sp) : FnKR P w K mg base CX (k + 1) f ks (fun vs zs H Q E => vs.length = ps.length ∧ ∀ d, H d = none → sp (vs ++ [.ref d]) (upd H d (.dK (kwD ks zs))) Q E) := by
  obtain ⟨fd, F⟩ := F
  obtain ⟨oc, od, dV, kV, doc, pm, an, cdv, ct, osl, rfl, lk, hcd, hD, hK⟩ := F.ex
  obtain rfl : dV = Value.none := by
    rcases hD with ⟨_, e⟩ | ⟨e, _⟩
    · exact e
    · exact absurd rfl e
  intro A outer s H us ws vs zs Q E hr e0 r rz hl hsp
  obtain ⟨hlen, hq⟩ := hsp
  have hn : H s.heap.objs.size = none := e0.hok.fresh (Nat.le_refl _)
  have hul : us.length = ps.length := r.length.symm.trans hlen
  have hwl : ws.length = ks.length := rz.length.symm.trans hl
  refine StX.run_bnd lk hcd S hr e0 (G := fun xs H2 => ∃ d, H d = none ∧ xs = vs ++ [V.ref d] ∧ H2 = upd H d (.dK (kwD ks zs))) (fun A' Ex Q' h => ?_) fun s2 H2 xs ⟨d, hd, ex, eH⟩ hr' => ?_
  · rw [b kV doc pm an cdv ct us ws hul hwl]
    refine wpAny_bind (wpAny_alloc (wpAny_bind ?_))
    have hzip : (ks.zip ws).map (·.1) = ks := List.map_fst_zip (by omega)
    refine fill_new (ks.zip ws) { s with heap := s.heap.push ({ cls := .type "dict", data := .dict #[] } : Obj) } [] 0 (Heap.get?_push_size _ rfl) (by simp) (by simp) (by rw [hzip]; exact hks) fun h' D sb => wpAny_pure ?_
    have kp : ∀ b x, s.heap.get? b = some x → h'.get? b = some x := fun b x e => (sb.2 b (Nat.ne_of_lt (Heap.lt_size e))).trans (Heap.get?_push_of_some _ e)
    have hz : s.heap.objs.size ≤ h'.objs.size := by rw [sb.1]; show _ ≤ (s.heap.push _).objs.size; rw [Heap.size_push]; exact Nat.le_succ _
    obtain ⟨vl, k1, k2, k3⟩ := kwD_rel P w ks zs ws s.toks rz hl
    have hkw : (kwD ks zs).length = ks.length := by have := congrArg List.length (kwD_keys hl); rwa [List.length_map, List.length_map] at this
    have new : ObjOk P w (upd H s.heap.objs.size (.dK (kwD ks zs))) h' s.heap.objs.size (.dK (kwD ks zs)) := by
      refine ⟨by rw [hkw, sizeLine_eq]; omega, beq_eq_false_iff_ne.mpr (Ne.symm (Nat.ne_of_lt (StX.env0_big e0))), vl, k1, _, (kwEs w.params s.toks (ks.zip ws)).toArray, _, D, ⟨rfl, rfl, rfl⟩, rfl, kwEs_keys P w _ _, by simpa using k2, ?_⟩
      rw [k3]
      exact List.Pairwise.map _ (fun a b h e => h (by injection e)) hks
    have un : Un (frs outer) [] H (upd H s.heap.objs.size (.dK (kwD ks zs))) s.heap h' := Un.laid kp (Nat.le_refl _) hn
    have z := h { s with heap := h', toks := s.toks + (ks.zip ws).length } (upd H s.heap.objs.size (.dK (kwD ks zs))) (vs ++ [V.ref s.heap.objs.size]) (us ++ [Value.ref s.heap.objs.size]) (env0_more e0 kp hz (Nat.le_refl _) new) un rfl
      (fun e s' => hCX outer s H _ _ E e s' un kp rfl) (r.append (.cons rfl .nil)) (by rw [List.length_append, List.length_append, hlen]; rfl) ⟨_, hn, rfl, rfl⟩
    rw [List.zip_append hul.symm] at z
    exact z
  · subst ex eH
    exact hb cdv A outer s2 _ _ Q E hr' (hq d hd)
/-- without keywords -/
theorem FnKR.r {CX : CXT} {k : Nat} {f : Addr} {sp : List V → List V → Hp → VK → XK → Prop} (F : FnKR P w K mg base CX k f [] sp) : FnR P w K mg base CX k f (fun vs H Q E => sp vs [] H Q E) := fun A outer s H us vs Q E hr e0 r h =>
  F A outer s H us [] vs [] Q E hr e0 r .nil rfl h
/-- def f(a, .., *, k = ..) called with those keywords -/
theorem kwo_of {CX : CXT} {k n : Nat} {f : Addr} {fd : FuncData} {ps ks : List Str} {sp : Sp} (F : FnOk P w K mg base CX k f fd ps sp) (b : ∀ us ws : List Value, us.length = n → ws.length = ks.length → bindArgs fd ⟨us, ks.zip ws⟩ = pure (ps.zip (us ++ ws))) :
    FnKR P w K mg base CX k f ks (fun vs zs H Q E => vs.length = n ∧ sp (vs ++ zs) H Q E) := fun A outer s H us ws vs zs Q E hr e0 r rz hl h =>
  F.run A outer s H _ (us ++ ws) _ Q E hr e0 (.of_eq (b us ws (r.length.symm.trans h.1) (rz.length.symm.trans hl))) (r.append rz) h.2
end
section
variable {X : Cx} {CX : CXT} {k j : Nat} {f C : Addr} {ks : List Str} {sp : List V → List V → Hp → VK → XK → Prop} {E : XK} {x m : Str} {p pos apos : Pos} {e o : Expr} {es : List Expr} {kws : List Keyword} {ta : TE} {t tk : TA}
theorem run_fnKR {pins : List (Addr × Obj)} {σ : L2.St} {H : Hp} {s : Shared} {Q : VK} {us ws : List Value} {vs zs : List V} (F : FnKR X.prog X.w X.K X.mg X.base CX k f ks sp) (hr : Room k X.A) (hx : Passes CX X E) (I : Inv X pins σ H s) (r : Vals vs us) (rz : Vals zs ws) (hl : zs.length = ks.length)
    (h : sp vs zs H Q E) : codeAny (model X.prog X.w) X.A (.call (.ref f) ⟨us, ks.zip ws⟩) (wants (EP X pins σ Q) X.xe) s := by
  refine codeAny_mono (F X.A X.stack s H us ws vs zs Q E hr I.env0 r rz hl h) fun r s' hq => ?_
  cases r with
  | error e => exact hx pins σ H s e s' I hq
  | ok fl =>
    cases fl with
    | ret u => exact I.after hq
    | next => exact False.elim hq
    | brk => exact False.elim hq
    | cont => exact False.elim hq
/-- o.m(k = v, ..) -/
def tMethK (C : Addr) (m : Str) (ks : List Str) (sp : List V → List V → Hp → VK → XK → Prop) (E : XK) (ta : TE) (tk : TA) : TE := fun σ H Q => ta σ H fun y H1 => ∃ a dx fs, y = .ref a ∧ H1 a = some (.ins C dx fs) ∧ fs.lookup m = none ∧ tk σ H1 fun zs H2 => zs.length = ks.length ∧ sp [y] zs H2 Q E
theorem pe_methK {pl : Sem Bool} (he : PE X o ta) (c : Cls X.K C) (hm : Meth X.K C m f) (F : FnKR X.prog X.w X.K X.mg X.base CX k f ks sp) (hr : Room j X.A) (hk : k ≤ j) (hx : Passes CX X E) (hkw : PK X kws tk)
    (hall : (backToKw pos (keywordEach kws X.env)).all (·.1.isSome) = true := by rfl) (hks : (backToKw pos (keywordEach kws X.env)).filterMap (·.1) = ks := by rfl)
    (hpl : ((backTo pos (starEach [] X.env)).any (·.1) || (backToKw pos (keywordEach kws X.env)).any (·.1.isNone)) = false := by rfl)
    (ht : eval (.Call (.Attribute o m apos) [] kws pos) X.env = (do
      let ov ← eval o X.env
      standAt apos.atName
      let (f, first) ← holding [ov] (getMethod ov m pl)
      callWith pos f first (backTo pos (starEach [] X.env)) (backToKw pos (keywordEach kws X.env))) := by rfl) :
    PE X (.Call (.Attribute o m apos) [] kws pos) (tMethK C m ks sp E ta tk) := by
  refine ⟨fun pins s σ H Q I h => ?_⟩
  refine PySem.W.methodCall_KW (pl := pl) (thn (he.run pins s σ H _ I h) fun u s1 ⟨y, H1, I1, rx, a, dx, fs, ex, ea, l, q⟩ => ?_) ht
  subst ex
  obtain rfl : u = Value.ref a := rx
  refine getmeth_ok I1 ea c hm l ?_
  refine PySem.W.callWith_KW0 (first := [.ref a]) (h₀ := X.base) I.ok.mod.kin hm.kp hall (thn (hkw.run pos pins s1 σ H1 _ I1 q) fun ws s2 ⟨zs, H2, I2, r, l2, q2⟩ => ⟨I2.kIn, ?_⟩) hpl
  rw [hks]
  exact wpAny_call (run_fnKR (us := [.ref a]) (vs := [.ref a]) F (hr.mono hk) hx I2 (.cons rfl .nil) r l2 q2)
/-- C(e, .., k = v, ..) -/
def tMakeK (C : Addr) (ks : List Str) (sp : List V → List V → Hp → VK → XK → Prop) (E : XK) (t tk : TA) : TE := fun σ H Q => t σ H fun vs H1 => tk σ H1 fun zs H2 => zs.length = ks.length ∧
  ∀ x dx, H2 x = none → H2 dx = none → dx ≠ x → sp (.ref x :: vs) zs (upd (upd H2 dx (.own x)) x (.ins C dx [])) (fun v H3 => v = .non ∧ Q (.ref x) H3) E
theorem pe_makeK (M : Mk X.K C f) (F : FnKR X.prog X.w X.K X.mg X.base CX k f ks sp) (hr : Room j X.A) (hk : k + 1 ≤ j) (hg : Gl X x) (hm : X.mg x = some (.ref C)) (hx : Passes CX X E) (ha : PA X (e :: es) t) (hkw : PK X kws tk)
    (hall : (backToKw pos (keywordEach kws X.env)).all (·.1.isSome) = true := by rfl) (hks : (backToKw pos (keywordEach kws X.env)).filterMap (·.1) = ks := by rfl)
    (hdb : (x == ("__debug__" : Str)) = false := by decide) (he : starEach (e :: es) X.env = (false, eval e X.env) :: starEach es X.env := by rfl)
    (hpl : ((backTo pos (starEach (e :: es) X.env)).any (·.1) || (backToKw pos (keywordEach kws X.env)).any (·.1.isNone)) = false := by rfl) :
    PE X (.Call (.Name x p) (e :: es) kws pos) (tMakeK C ks sp E t tk) := by
  refine ⟨fun pins s σ H Q I h => ?_⟩
  refine wpAny_Call_Name_kw (ld_glob I hg hm ?_ hdb)
  refine PySem.W.callWith_KW (h₀ := X.base) I.ok.mod.kin M.kp hall (thn (ha.run pos pins s σ H _ I h) fun us s1 ⟨vs, H1, I1, r, q⟩ => ?_) hpl he
  refine thn (hkw.run pos pins s1 σ H1 _ I1 q) fun ws s2 ⟨zs, H2, I2, rz, l2, q2⟩ => ⟨I2.kIn, ?_⟩
  rw [hks]
  have hr := hr.mono hk
  have hq := q2 (s2.heap.objs.size + 1) s2.heap.objs.size (I2.hok.fresh (Nat.le_succ _)) (I2.hok.fresh (Nat.le_refl _)) (Nat.ne_of_lt (Nat.lt_succ_self _))
  have I3 := Inv.made (C := C) I2
  have r1 : Vals (V.ref (s2.heap.objs.size + 1) :: vs) (Value.ref (s2.heap.objs.size + 1) :: us) := .cons rfl r
  refine wpAny_call (make_map (f := f) I2.kIn M.makes M.init (beq_iff_eq.mp M.fn) (codeAny_mono (F _ X.stack _ _ (Value.ref (s2.heap.objs.size + 1) :: us) ws _ _ _ E (hr.make C us (ks.zip ws)) (I3.env0.make C us (ks.zip ws)) r1 rz l2 hq) fun r s' hq' => ?_))
  cases r with
  | error e => exact hx pins σ _ _ e s' I3 hq'
  | ok fl =>
    cases fl with
    | ret u =>
      obtain ⟨v, H', I4, rv, ev, q3⟩ := I3.after hq'
      subst ev
      exact ⟨rv, ⟨V.ref (s2.heap.objs.size + 1), H', I4, rfl, q3⟩⟩
    | next => exact False.elim hq'
    | brk => exact False.elim hq'
    | cont => exact False.elim hq'
end
end RD

/-! RDExc1: the program's own exceptions, made and raised. -/
namespace RD
open PySem PySem.Spec PyProof.Rows L2
/-- an own class over Exception, with a def __init__ -/
structure XC (K : PySem.W.Frag) (C : Addr) : Prop where
  new : PySem.W.excInitIn K C exB "Exception.__new__" = true
  over : PySem.W.excOver K C exB = true
  keep : PySem.W.keepIn K (.ref C) = true
  sub : PySem.W.subIn K (.ref C) (.type "BaseException") = some true
  typ : PySem.W.typeIn K (.ref C) = some (.type "type")
  sa : PySem.W.findIn K (.ref C) "__setattr__" = some (some (.builtin "object.__setattr__"))
/-- a field's name in such a class: the object's own dict takes it -/
structure XF (K : PySem.W.Frag) (C : Addr) (f : Str) : Prop where
  dict : (PySem.W.clsIn K C).any (fun cd => cd.hasDict) = true
  tak : PySem.W.takerIn K C f = some none
/-- an exception of the class at C whose dict is not told -/
def xo (a C : Addr) : HO := .ext fun h => ∃ (t1 : Addr) (d : Option Addr), h.get? a = some ({ cls := .ref C, dict := d, data := .fields #[.ref t1, .none, .none, .none, .bool false, .none] } : Obj)
theorem xo_ok {P : Program} {w : World} {H : Hp} {h : Heap} {a C t1 : Addr} {d : Option Addr} (e : h.get? a = some ({ cls := .ref C, dict := d, data := .fields #[.ref t1, .none, .none, .none, .bool false, .none] } : Obj)) : ObjOk P w H h a (xo a C) :=
  ⟨⟨t1, d, e⟩, ⟨_, e⟩, fun h1 h2 ⟨t, d', q⟩ k => ⟨t, d', k _ q⟩⟩
theorem xo_at {P : Program} {w : World} {H : Hp} {h : Heap} {a C : Addr} (hok : HOk P w H h) (e : H a = some (xo a C)) : ∃ (t1 : Addr) (d : Option Addr), h.get? a = some ({ cls := .ref C, dict := d, data := .fields #[.ref t1, .none, .none, .none, .bool false, .none] } : Obj) := by
  have x : ObjOk P w H h a (.ext fun h => ∃ (t1 : Addr) (d : Option Addr), h.get? a = some ({ cls := .ref C, dict := d, data := .fields #[.ref t1, .none, .none, .none, .bool false, .none] } : Obj)) := hok a _ e
  exact x.1
theorem ext_own {φ : Heap → Prop} {x : Addr} : HO.ext φ ≠ .own x := fun z => by cases z
/-- the exception, made or stored into -/
def XAt (H : Hp) (a C : Addr) : Prop := H a = some (xo a C) ∨ H a = some (exo a C none)
theorem XAt.get {P : Program} {w : World} {H : Hp} {h : Heap} {a C : Addr} (hok : HOk P w H h) (e : XAt H a C) : ∃ (t1 : Addr) (d : Option Addr), h.get? a = some ({ cls := .ref C, dict := d, data := .fields #[.ref t1, .none, .none, .none, .bool false, .none] } : Obj) := by
  rcases e with e | e
  · exact xo_at hok e
  · obtain ⟨t1, q⟩ := exo_at hok e
    exact ⟨t1, none, q⟩
theorem XAt.ext {H : Hp} {a C : Addr} (e : XAt H a C) : ∃ φ, H a = some (.ext φ) := e.elim (fun e => ⟨_, e⟩) (fun e => ⟨_, e⟩)
section
variable {K : PySem.W.Frag} {prog : Program} {w : World} {A : Around} {R : Result → Shared → Prop} {hp : Heap} {g : Array GenState} {d : Drawn} {t : Nat} {os : OsState}
/-- the first field laid: a new dict, the rest stays -/
theorem first_field {x C : Addr} {fv : Array Value} {name : Str} {tk : Tok} {v : Value} (X : K.In hp) (T : XC K C) (F : XF K C name) (hx : hp.get? x = some { cls := .ref C, data := .fields fv })
    (hq : ∀ h' tk' dx, (∀ b o, b ≠ x → hp.get? b = some o → h'.get? b = some o) → h'.get? x = some { cls := .ref C, dict := some dx, data := .fields fv } → R (.ok (.ret .none)) ⟨h', g, d, tk', os⟩) :
    codeAny (model prog w) A (.call (.builtin "object.__setattr__") ⟨[.ref x, .str name tk, v], []⟩) R ⟨hp, g, d, t, os⟩ := by
  refine PySem.W.osa_openX (r := none) (od := none) PySem.F.store_Exception X ⟨hx, rfl, rfl, trivial⟩ T.over F.tak fun b => ?_
  cases q : PySem.W.clsIn K C with
  | none => have z := F.dict; rw [q] at z; cases z
  | some cd =>
    have hh : cd.hasDict = true := by have z := F.dict; rw [q] at z; exact z
    have look : PySem.W.Looks (model prog w) hp (classData C) cd := PySem.W.looks_clsIn X q
    have apart : x ≠ hp.objs.size := Nat.ne_of_lt (Heap.lt_size hx)
    show wpAny _ _ (Builtin.ObjectAttr.storeInOwnDict (.ref x) (.ref C) (.str name tk) name v b) _ _ _
    obtain ⟨c1, c2, c3, c4, c5, c6, c7, c8, c9, c10, c11⟩ := cd
    cases hh
    unfold Builtin.ObjectAttr.storeInOwnDict Builtin.ObjectAttr.ownDictForStores
    repeat (first | with_reducible refine PySem.HandSPX.store_in_new ?_ ?_ | with_reducible refine wpAny_loadPart_at hx ?_ | with_reducible refine look.at ?_ | wp_step)
    · exact ⟨_, #[], _, (Heap.get?_update_ne _ _ _ _ apart.symm).trans (Heap.get?_push_at rfl rfl), rfl, fun e he => absurd he (by simp), fun _ => rfl⟩
    · intro h' tk' _ same
      refine hq h' tk' hp.objs.size (fun b o nb eb => ?_) ?_
      · exact (same.2 b (Nat.ne_of_lt (Heap.lt_size eb))).trans ((Heap.get?_update_ne _ _ _ _ nb).trans (Heap.get?_push_of_some _ eb))
      · exact (same.2 x apart).trans (Heap.get?_update_self _ (Heap.get?_push_of_some _ hx) rfl)
end
section
variable {X : Cx} {pins : List (Addr × Obj)} {σ : L2.St} {H : Hp} {s : Shared} {a C : Addr} {f : Str} {u : Value} {A : Around} {E : Value → Shared → Prop}
theorem field_ok {Q : Unit → Shared → Prop} (T : XC X.K C) (F : XF X.K C f) (I : Inv X pins σ H s) (e : H a = some (exo a C none)) (h : ∀ s', Inv X pins σ (upd H a (xo a C)) s' → Q () s') : wpAny (model X.prog X.w) A (setAttr (.ref a) f u) Q E s := by
  obtain ⟨t1, ho⟩ := exo_at I.hok e
  obtain ⟨hp, g, d, t, os⟩ := s
  refine PySem.W.set_plain I.kIn (ox := { cls := .ref C, dict := none, data := .fields #[.ref t1, .none, .none, .none, .bool false, .none] }) (od := none) ⟨ho, rfl, rfl, trivial⟩ T.sa ?_
  refine first_field I.kIn T F ho fun h' tk' dx k hx => ?_
  exact h _ (I.write (t' := tk') (x := a) (e := a) (o := xo a C) (by rw [e]; exact True.intro) (.inl rfl) k ⟨_, hx⟩ (xo_ok hx))
theorem upd_id {H : Hp} {a : Addr} {o : HO} (e : H a = some o) : upd H a o = H := by
  funext b
  by_cases hb : b = a
  · rw [hb, upd_same, e]
  · rw [upd_ne hb]
theorem base_init {us : List Value} {Q : Value → Shared → Prop} (T : XC X.K C) (I : Inv X pins σ H s) (e : H a = some (exo a C none)) (hl : us.length ≤ sizeLine) (h : ∀ s', Inv X pins σ H s' → Q .none s') :
    wpAny (model X.prog X.w) A (call (.builtin "Exception.__init__") (.ref a :: us)) Q E s := by
  obtain ⟨nm, N, qn, bs, bm, hdct, sn, sub, ab, col, dd, k0, k1, k2, k3, k5, hC, hT⟩ := PySem.W.excInit_of I.kIn T.new
  obtain ⟨t1, ho⟩ := exo_at I.hok e
  obtain ⟨hp, g, d, t, os⟩ := s
  refine wpAny_call (PySem.HandSPX.init_base PySem.F.excBase_Exception hT hC ho hl fun h' t2 k hx => ?_)
  have J := I.write (t' := t) (x := a) (e := a) (o := exo a C none) (by rw [e]; exact True.intro) (.inl rfl) k ⟨_, hx⟩ (exo_ok hx)
  rw [upd_id e] at J
  exact h _ J
end
/-- what the class over all errors says -/
structure XBase (K : PySem.W.Frag) (B : Addr) : Prop where
  find : (match PySem.W.findCls K (.ref B) (.type "type") "__init__" with | some (.val (.builtin n)) => n == "Exception.__init__" | _ => false) = true
  reads : PySem.W.readsIn K B (.type "type") = true
  ga : PySem.W.specialIn K (.ref B) "__getattribute__" = some (some (.builtin "type.__getattribute__"))
theorem XBase.at_ {K : PySem.W.Frag} {B : Addr} (T : XBase K B) : PySem.W.findCls K (.ref B) (.type "type") "__init__" = some (.val (.builtin "Exception.__init__")) := by
  have z := T.find
  split at z
  · rename_i n hn
    rw [hn, beq_iff_eq.mp z]
  · cases z
/-- B.__init__(self, ..) -/
def tBInit (K : PySem.W.Frag) (ta : TA) : TE := fun σ H Q => ta σ H fun vs H1 => ∃ (a C : Addr) (ws : List V), vs = .ref a :: ws ∧ ws.length ≤ 1000 ∧ XC K C ∧ H1 a = some (exo a C none) ∧ Q .non H1
/-- self.f = e, the first field -/
def tField (K : PySem.W.Frag) (f : Str) (to te : TE) : TS := fun D σ H => te σ H fun _ H1 => to σ H1 fun x H2 => ∃ a C : Addr, x = .ref a ∧ XC K C ∧ XF K C f ∧ H2 a = some (exo a C none) ∧ D.nx σ (upd H2 a (xo a C))
/-- C(e, ..) -/
def tMakeX (C : Addr) (sp : Sp) (ta : TA) : L2.St → Hp → XK → Prop := fun σ H Q => ta σ H fun vs H1 => vs.length ≤ 1000 ∧ ∀ a, H1 a = none → sp (.ref a :: vs) (upd H1 a (exo a C none)) (fun v H2 => v = .non ∧ XAt H2 a C ∧ ∀ d, Q (.ref C) d (del H2 a)) E0
section
variable {X : Cx} {o e : Expr} {es : List Expr} {to te : TE} {ta : TA} {f x : Str} {p p' p1 p2 pos : Pos} {B : Addr}
theorem pe_baseInit {pl : Sem Bool} (T : XBase X.K B) (hg : Gl X x) (hm : X.mg x = some (.ref B)) (ha : PA X (e :: es) ta) (hdb : (x == ("__debug__" : Str)) = false := by decide)
    (hc : eval (.Call (.Attribute (.Name x p1) "__init__" p2) (e :: es) [] pos) X.env = (do
      let ov ← eval (.Name x p1) X.env
      standAt p2.atName
      let (f, first) ← holding [ov] (getMethod ov "__init__" pl)
      callWith pos f first (backTo pos (starEach (e :: es) X.env)) (backToKw pos (keywordEach [] X.env))) := by rfl)
    (he : starEach (e :: es) X.env = (false, eval e X.env) :: starEach es X.env := by rfl) (hpl : (backTo pos (starEach es X.env)).any (·.1) = false := by rfl) :
    PE X (.Call (.Attribute (.Name x p1) "__init__" p2) (e :: es) [] pos) (tBInit X.K ta) := by
  refine ⟨fun pins s σ H Q I h => ?_⟩
  refine PySem.W.methodCall_KW (ld_glob I hg hm ?_ hdb) hc
  refine PySem.W.method_cls I.kIn T.ga (PySem.W.cls_value I.kIn T.reads T.at_ (by decide +kernel) ?_)
  show wpAny _ _ (callWith pos (Value.builtin "Exception.__init__") [] (backTo pos (starEach (e :: es) X.env)) []) _ _ _
  refine PyProof.Rows.callWith_method1 (thn (ha.run pos pins _ σ H _ (I.tok _) h) fun us s1 ⟨vs, H1, I1, r1, a, C, ws, ev, hl, T, ea, q⟩ => ?_) he hpl
  subst ev
  cases r1 with
  | @cons _ u0 _ ur ra rw' =>
    obtain rfl : u0 = Value.ref a := ra
    have hlen : ur.length ≤ sizeLine := by
      rw [← Paired.length rw', sizeLine_eq]
      omega
    exact base_init T I1 ea hlen fun s' J => ⟨.non, H1, J, rfl, q⟩
theorem ps_field (ho : PE X o to) (he : PE X e te) (hs : swapsWith e (some (.Attribute o f p')) pos.line X.env = pure false := by rfl) : PS X (.Assign [.Attribute o f p'] e pos) (tField X.K f to te) := by
  refine ⟨fun pins s σ H D I h => ?_⟩
  refine plainObj_wpAny_Assign_Attribute (thn (he.run pins s σ H _ I h) fun v s1 ⟨y, H1, I1, r1, q1⟩ => thn (ho.run pins s1 σ H1 _ I1 q1) fun u s2 ⟨x, H2, I2, r2, a, C, ex, T, F, ea, q⟩ => ?_) hs
  subst ex
  obtain rfl : u = Value.ref a := r2
  exact field_ok T F I2 ea fun s' J => ⟨σ, _, J, q⟩
theorem made_end {pins : List (Addr × Obj)} {σ : L2.St} {H1 H2 : Hp} {Q : XK} {hp hp2 h2 : Heap} {g1 g2 : Array GenState} {d1 d2 : Drawn} {t1 t2 : Nat} {os1 os2 : OsState} {a C : Addr} (T : XC X.K C) (I1 : Inv X pins σ H1 ⟨hp, g1, d1, t1, os1⟩)
    (ha : hp.objs.size ≤ a) (k : ∀ b o, hp.get? b = some o → hp2.get? b = some o) (un : Un (frs X.stack) [] (upd H1 a (exo a C none)) H2 hp2 h2) (hok : HOk X.prog X.w H2 h2) (ho : os2 = os1) (hb : AllBare g2)
    (ea : XAt H2 a C) (q : ∀ d, Q (.ref C) d (del H2 a)) : MkP X pins σ Q (.ref a) ⟨h2, g2, d2, t2, os2⟩ := by
  obtain ⟨t0, d0, hoe⟩ := ea.get hok
  obtain ⟨φ, ep⟩ := ea.ext
  have nov : ∀ x, HO.ext φ ≠ .own x := fun x => ext_own
  have hn : H1 a = none := I1.hok.fresh ha
  obtain ⟨G, in_, out⟩ := restrict h2 fun b => decide (b ≠ a)
  have gk : ∀ b, b ≠ a → G.get? b = h2.get? b := fun b hb => in_ b (decide_eq_true hb)
  have ge : G.get? a = none := out a (by simp)
  have apart : ∀ {b : Addr} {o : Obj}, hp.get? b = some o → b ≠ a := fun {b o} z => Nat.ne_of_lt (Nat.lt_of_lt_of_le (Heap.lt_size z) ha)
  have up : ∀ {b : Addr}, b ≠ a → H1 b = none → upd H1 a (exo a C none) b = none := fun {b} hb n => by rw [upd_ne hb]; exact n
  have tr : ∀ {b : Addr} {o : HO}, H1 b = some o → b ≠ a := fun {b o} z => ne_of_none z hn
  have U : Un (frs X.stack) [] H1 (del H2 a) hp G := {
    keep := fun b o z n hf hx => (gk b (apart z)).trans (un.keep b o (k b o z) (up (apart z) n) hf hx)
    slot := fun b o z n hf hx => by
      obtain ⟨sl, y⟩ := un.slot b o (k b o z) (up (apart z) n) hf hx
      exact ⟨sl, (gk b (apart z)).trans y⟩
    free := fun b o z n hx => by rw [del_ne (apart z)]; exact un.free b o (k b o z) (up (apart z) n) hx
    there := fun b o z hx => by
      obtain ⟨o', y⟩ := un.there b o (k b o z) hx
      exact ⟨o', (gk b (apart z)).trans y⟩
    tups := fun b xs z => by rw [del_ne (tr z)]; exact un.tups b xs (by rw [upd_ne (tr z)]; exact z)
    frzs := fun b o v z => by rw [del_ne (tr z)]; exact un.frzs b o v (by rw [upd_ne (tr z)]; exact z)
    tbls := fun b ps z => by rw [del_ne (tr z)]; exact un.tbls b ps (by rw [upd_ne (tr z)]; exact z) }
  have hok3 : HOk X.prog X.w (del H2 a) G := fun b o z => by
    have hba : b ≠ a := fun e => by rw [e, del_same] at z; cases z
    rw [del_ne hba] at z
    have noa : ∀ {c : Addr}, H2 c = some (.own b) → c ≠ a := fun {c} hc e => by
      rw [e, ep] at hc
      exact ext_own (Option.some.inj hc)
    exact (hok b o z).stay (fun c v hc y => (gk c (hc.elim (fun e => by rw [e]; exact hba) fun hc => noa hc)).trans y)
      (fun c hc => by rw [del_ne (noa hc)]; exact hc) (fun c xs hc => by
        rw [del_ne (fun e => by rw [e, ep] at hc; cases hc)]; exact hc)
  have J : Inv X pins σ (del H2 a) ⟨G, g2, d2, t2, os2⟩ := I1.call' (ch := []) ho U hok3 hb (fun b z => absurd z (by simp))
  exact ⟨a, _, _, ⟨G, g2, d2, t2, os2⟩, _, .ref C, d0, rfl, J, fun b o z => (gk b (fun e => by rw [e, ge] at z; cases z)).symm.trans z, ge, hoe, ⟨rfl, rfl⟩, rfl, rfl, del_same, rfl, hb, raises_own T.sub T.typ, q d0⟩
/-- the call of the class: args told, then __init__ -/
theorem make_x {x : Str} {C fI : Addr} {k j : Nat} {ps : List Str} {fd : FuncData} {sp : Sp} {pins : List (Addr × Obj)} {σ : L2.St} {H1 : Hp} {s1 : Shared} {us : List Value} {vs : List V} {Q : XK} (T : XC X.K C) (iC : PySem.W.findIn X.K (.ref C) "__init__" = some (some (.ref fI))) (tI : PySem.W.typeIn X.K (.ref fI) = some (.type "function"))
    (F1 : FnOk X.prog X.w X.K X.mg X.base CX0 k fI fd ps sp) (hr : Room j X.A) (hk : k + 1 ≤ j) (hb : Binds X.K fd ps []) (I1 : Inv X pins σ H1 s1) (r1 : Vals vs us) (hz : vs.length ≤ 1000)
    (q1 : ∀ a, H1 a = none → sp (.ref a :: vs) (upd H1 a (exo a C none)) (fun v H2 => v = .non ∧ XAt H2 a C ∧ ∀ d, Q (.ref C) d (del H2 a)) E0) :
    wpAny (model X.prog X.w) X.A (call (.ref C) us) (MkP X pins σ Q) X.xe s1 := by
  obtain ⟨nm, N, qn, bs, bm, hdct, sn, sub, ab, col, dd, k0, k1, k2, k3, k5, hC, hT⟩ := PySem.W.excInit_of I1.kIn T.new
  have hr := hr.mono hk
  obtain ⟨hp, g, dr, tk, os⟩ := s1
  have hsz : hp.objs.size ≤ hp.objs.size + 1 := Nat.le_succ _
  have hq := q1 (hp.objs.size + 1) (I1.hok.fresh hsz)
  have kk : ∀ b o, hp.get? b = some o → ((hp.push (PySem.W.kdv_tup us)).push (PySem.HandSPX.excO C hp.objs.size)).get? b = some o := fun b o e => Heap.get?_push_of_some _ (Heap.get?_push_of_some _ e)
  have hget : ((hp.push (PySem.W.kdv_tup us)).push (PySem.HandSPX.excO C hp.objs.size)).get? (hp.objs.size + 1) = some (PySem.HandSPX.excO C hp.objs.size) := by heap_get
  have I2 : Inv X pins σ (upd H1 (hp.objs.size + 1) (exo (hp.objs.size + 1) C none)) ⟨(hp.push (PySem.W.kdv_tup us)).push (PySem.HandSPX.excO C hp.objs.size), g, dr, tk, os⟩ := I1.laid (t' := tk) kk hsz (exo_ok hget)
  have r2 : Vals (V.ref (hp.objs.size + 1) :: vs) (Value.ref (hp.objs.size + 1) :: us) := .cons rfl r1
  have hl : ((Value.ref (hp.objs.size + 1) :: us) ++ []).length = ps.length := by
    have e := r2.length
    rw [F1.len _ _ _ _ hq] at e
    rw [List.append_nil]
    exact e.symm
  have hus : us.length ≤ sizeLine := by
    rw [← Paired.length r1, sizeLine_eq]
    omega
  have bt := hb _ (Value.ref (hp.objs.size + 1) :: us) I2.kIn hl
  rw [List.append_nil] at bt
  refine wpAny_call (PySem.HandSPX.call_own PySem.F.excBase_Exception hT hC (PySem.W.looks_findIn I1.kIn iC) (fun self => PySem.W.bind_fn I1.kIn self tI) hus
    (codeAny_mono (F1.run _ X.stack _ _ ⟨Value.ref (hp.objs.size + 1) :: us, []⟩ (Value.ref (hp.objs.size + 1) :: us) _ _ E0 (hr.make C us []) (I2.env0.make C us []) bt r2 hq) fun r s' hq' => ?_))
  cases r with
  | error er => exact False.elim hq'
  | ok fl =>
    cases fl with
    | ret u =>
      obtain ⟨v, H2, os2, bare2, un2, hok2, rv, ev, ea, q2⟩ := hq'
      subst ev
      obtain ⟨h2, g2, d2, t2, os'⟩ := s'
      exact ⟨rv, made_end T I1 hsz kk un2 hok2 os2 bare2 ea q2⟩
    | next => exact False.elim hq'
    | brk => exact False.elim hq'
    | cont => exact False.elim hq'
theorem pmk_x {x : Str} {C fI : Addr} {k j : Nat} {ps : List Str} {fd : FuncData} {sp : Sp} (T : XC X.K C) (iC : PySem.W.findIn X.K (.ref C) "__init__" = some (some (.ref fI))) (tI : PySem.W.typeIn X.K (.ref fI) = some (.type "function"))
    (F1 : FnOk X.prog X.w X.K X.mg X.base CX0 k fI fd ps sp) (hr : Room j X.A) (hk : k + 1 ≤ j) (hb : Binds X.K fd ps []) (hg : Gl X x) (hm : X.mg x = some (.ref C)) (ha : PA X (e :: es) ta)
    (hdb : (x == ("__debug__" : Str)) = false := by decide) (he : starEach (e :: es) X.env = (false, eval e X.env) :: starEach es X.env := by rfl) (hpl : (backTo pos (starEach es X.env)).any (·.1) = false := by rfl) :
    PMk X (.Call (.Name x p) (e :: es) [] pos) (tMakeX C sp ta) := by
  intro pins s σ H Q I h
  refine wpAny_Call_Name_kw (ld_glob I hg hm ?_ hdb)
  refine PySem.W.callWith_K (h₀ := X.base) I.ok.mod.kin T.keep (thn (ha.run pos pins s σ H _ I h) fun us s1 ⟨vs, H1, I1, r1, hz, q1⟩ => ⟨I1.kIn, ?_⟩) he hpl
  exact make_x (x := x) T iC tI F1 hr hk hb I1 r1 hz q1
theorem pmk_x0 {x : Str} {C fI : Addr} {k j : Nat} {ps : List Str} {fd : FuncData} {sp : Sp} (T : XC X.K C) (iC : PySem.W.findIn X.K (.ref C) "__init__" = some (some (.ref fI))) (tI : PySem.W.typeIn X.K (.ref fI) = some (.type "function"))
    (F1 : FnOk X.prog X.w X.K X.mg X.base CX0 k fI fd ps sp) (hr : Room j X.A) (hk : k + 1 ≤ j) (hb : Binds X.K fd ps []) (hg : Gl X x) (hm : X.mg x = some (.ref C)) (hdb : (x == ("__debug__" : Str)) = false := by decide) :
    PMk X (.Call (.Name x p) [] [] pos) (tMakeX C sp tNil) := by
  intro pins s σ H Q I h
  refine wpAny_Call_Name_kw (ld_glob I hg hm ?_ hdb)
  exact PySem.W.callWith_K0 I.kIn T.keep (make_x (x := x) T iC tI F1 hr hk hb I .nil h.1 h.2)
end
end RD

/-! RDExc2: a try with several clauses (with and without a name); a try with a finally suite. -/
namespace RD
open PySem PySem.Spec PyProof.Rows L2
/-- a clause: its class, its name's slot (if it has one), what its suite does -/
structure Cl where
  c : Value
  at_ : Option Nat
  ts : Addr → Value → Option Addr → TS
/-- the ends of a suite whose clause names slot i: the name goes -/
def gone (i : Nat) (D : Ends) : Ends := { nx := fun σ H => D.nx (σ.set i none) H, rt := D.rt, bk := fun σ H => D.bk (σ.set i none) H, ct := fun σ H => D.ct (σ.set i none) H }
/-- what a clause's suite wishes -/
def Cl.want (l : Cl) (a : Addr) (cls : Value) (d : Option Addr) (D : Ends) (σ : L2.St) (H : Hp) : Prop := match l.at_ with
  | none => l.ts a cls d D σ H
  | some i => l.ts a cls d (gone i D) (σ.set i (some (.ref a))) H
/-- what the clauses wish of an exception, one after the other -/
def wCls (K : PySem.W.Frag) (Wout : WX) (D : Ends) : List Cl → WX
  | [] => Wout
  | l :: r => fun cls d σ H => ∃ b, PySem.W.exmOne K cls l.c = some b ∧ (b = true → ∀ a, H a = none → l.want a cls d D σ H) ∧ (b = false → wCls K Wout D r cls d σ H)
/-- the clauses of the text -/
inductive ClsOk (X : Cx) : List ExceptHandler → List Cl → Prop
  | nil : ClsOk X [] []
  | bare {x : Str} {c : Value} {ts : Addr → Value → Option Addr → TS} {b₀ : Stmt} {suite : List Stmt} {np pos' : Pos} {hds : List ExceptHandler} {l : List Cl} (hc : L2.Names X x c)
      (hsu : ∀ (a : Addr) (oe : Obj) (cls : Value) (d : Option Addr) (pn : List (Addr × Obj)), PSs (X.suite a ((a, oe) :: pn)) (b₀ :: suite) (ts a cls d)) (r : ClsOk X hds l) :
      ClsOk X (.ExceptHandler (some (.Name x np)) none (b₀ :: suite) pos' :: hds) (⟨c, none, ts⟩ :: l)
  | named {x n : Str} {i : Nat} {c : Value} {ts : Addr → Value → Option Addr → TS} {b₀ : Stmt} {suite : List Stmt} {np pos' : Pos} {hds : List ExceptHandler} {l : List Cl} (hc : L2.Names X x c) (hi : X.N[i]? = some n) (hln : X.env.kindOf n = some .local)
      (hsu : ∀ (a : Addr) (oe : Obj) (cls : Value) (d : Option Addr) (pn : List (Addr × Obj)), PSs (X.suite a ((a, oe) :: pn)) (b₀ :: suite) (ts a cls d)) (r : ClsOk X hds l) :
      ClsOk X (.ExceptHandler (some (.Name x np)) (some n) (b₀ :: suite) pos' :: hds) (⟨c, some i, ts⟩ :: l)
section
variable {X : Cx} {Wout : WX}
/-- an exception that has landed meets the clauses -/
theorem meets (hs : X.stack = X.env :: X.outer) (hf : X.env.frame = some X.env.locals) (hN : X.N.Nodup) (tk : Takes X Wout) {D : Ends} {pins : List (Addr × Obj)} {a : Addr} {B : Heap} {sI s' : Shared} {σ : L2.St} {H : Hp} {cls : Value} {d : Option Addr} {h3 : Heap} (ok : X.Ok) (J : Inv X pins σ H sI)
    (nb : ∀ b o, sI.heap.get? b = some o → b ∉ frs X.stack → B.get? b = some o) (up : sI.heap.UpToSlots h3) (fl : HandSPX.FlyingZ B (X.env :: X.outer) a (Zc cls d) h3) (na : H a = none) (os : s'.os = sI.os) (ag : AllBare s'.gens)
    {hds : List ExceptHandler} {l : List Cl} (hk : ClsOk X hds l) (want : wCls X.K Wout D l cls d σ H) : wpAny (model X.prog X.w) X.A (handleBy (.ref a) X.env hds) (SP X pins D) X.xe { s' with heap := h3 } := by
  have J3 : Inv X pins σ H { s' with heap := h3 } := J.landed (s' := { s' with heap := h3 }) nb fl.1 up os ag
  have far : ∀ {h : Heap} {o : Obj} {vs : Array Value}, HandSPX.FlyingZ B (X.env :: X.outer) a (Zc cls d) h → h.get? a = some o → o.data = .fields vs → a ∉ frs (X.env :: X.outer) := fun {h o vs} f e dd hm => by
    obtain ⟨_, o', e', hnf⟩ := f.2.2.1.mem hm
    rw [e] at e'
    cases e'
    exact hnf _ dd
  obtain ⟨oe3, vs3, he3, hz3, hd3⟩ := fl.there
  have nfr := far fl he3 hd3
  have nL : a ≠ X.env.locals := fun z => nfr (List.mem_filterMap.mpr ⟨X.env, List.mem_cons_self, by rw [hf, z]⟩)
  have nF : a ∉ X.fs := fun hm => by
    obtain ⟨e, he, q⟩ := List.mem_filterMap.mp hm
    exact nfr (List.mem_filterMap.mpr ⟨e, List.mem_cons_of_mem _ he, q⟩)
  have S3 := J3.suite he3 hd3 na nL nF
  -- a clause's class is asked
  have asked : ∀ {x : Str} {c : Value} {np : Pos} {b : Bool} {Q : Bool → Shared → Prop} {E E' : Value → Shared → Prop}, L2.Names X x c → PySem.W.exmOne X.K cls c = some b → Q b { s' with heap := h3 } →
      wpAny (model X.prog X.w) (X.A.mark (some (.ref a))) (eval (.Name x np) X.env) (fun t s₁ => wpAny (model X.prog X.w) (X.A.mark (some (.ref a))) (excMatches (.ref a) t) Q E s₁) E' { s' with heap := h3 } := fun {x c np b Q E E'} hc hb q => by
    have LT : PySem.W.Looks (model X.prog X.w) h3 (typeOf (.ref a)) cls := fun A Q E s k q => wpAny_typeOf_ref (k _ _ he3) (by rw [hz3.1]; exact q)
    have LM := PySem.W.exm_one (M := model X.prog X.w) (J3.kIn) LT hb
    obtain ⟨hg, hdbg, hm | ⟨hm, hv, hnn⟩⟩ := hc
    · exact ld_glob (X := X.suite a ((a, oe3) :: (X.pn ++ pins))) S3 hg hm (LM.here q) hdbg
    · exact ld_blt (X := X.suite a ((a, oe3) :: (X.pn ++ pins))) S3 hg hm hv (LM.here q) hnn hdbg
  -- what a suite starts from
  have enter : ∀ h4, HandSPX.FlyingZ B (X.env :: X.outer) a (Zc cls d) h4 → h3.UpToSlots h4 → ∃ oe4 : Obj, Inv (X.suite a ((a, oe4) :: (X.pn ++ pins))) [] σ H { s' with heap := h4 } := fun h4 fl4 up4 => by
    have J4 : Inv X pins σ H { s' with heap := h4 } := J.landed (s' := { s' with heap := h4 }) nb fl4.1 (up.trans up4) os ag
    obtain ⟨oe4, vs4, he4, hz4, hd4⟩ := fl4.there
    exact ⟨oe4, J4.suite he4 hd4 na nL nF⟩
  induction hk with
  | nil =>
    refine wpAny_handleBy_nil ?_
    obtain ⟨k1, k2, k3, oe, vs, T, oT, ts', he, hz, hd, h1, hr⟩ := id fl
    unfold PySem.passOn
    refine wpAny_bind (wpAny_field he hd h1 ?_)
    rw [if_neg (show ¬ ((Value.ref T == Value.none) = true) from by simp)]
    have on_ : wpAny (model X.prog X.w) X.A (setFlight (.ref a) X.env.frame) (fun _ s4 => wpAny (model X.prog X.w) X.A (throw (.ref a) : Sem Flow) (SP X pins D) X.xe s4) X.xe { s' with heap := h3 } := by
      rw [hf]
      refine HandSPX.setFlight_upZ fl fun h4 hh4 up4 => wpAny_throw (tk _ _ ?_)
      exact ⟨a, B, sI, pins, σ, H, cls, d, rfl, J, nb, up.trans up4, .inr (.inr (by rw [hs]; exact hh4)), na, os, ag, want⟩
    first
      | exact wpAny_bind (wpAny_pure (wpAny_bind on_))
      | exact wpAny_bind on_
  | @bare x c ts b₀ suite np pos' hds2 l2 hc hsu r ih =>
    obtain ⟨b, hb1, hyes, hno⟩ := want
    refine wpAny_handleBy_cons (codeAny_handlers_test (asked hc hb1 ?_)) (by intro q; cases q)
    cases b with
    | false => exact ih (hno rfl)
    | true =>
      refine codeAny_handlers_suite (HandSPX.lands_againZ fl fun h4 fl4 up4 => ?_)
      obtain ⟨oe4, S4⟩ := enter h4 fl4 up4
      refine wpAny_mono ((hsu a oe4 cls d (X.pn ++ pins)).run [] _ _ H _ S4 (hyes rfl a na)) (fun f s6 hsp => ?_) (fun _ _ z => False.elim z)
      cases f with
      | next => obtain ⟨σ6, H6, S6, q6⟩ := hsp; exact ⟨_, _, S6.unsuite ok, q6⟩
      | brk => obtain ⟨σ6, H6, S6, q6⟩ := hsp; exact ⟨_, _, S6.unsuite ok, q6⟩
      | cont => obtain ⟨σ6, H6, S6, q6⟩ := hsp; exact ⟨_, _, S6.unsuite ok, q6⟩
      | ret u => obtain ⟨v6, σ6, H6, S6, r6, q6⟩ := hsp; exact ⟨_, _, _, S6.unsuite ok, r6, q6⟩
  | @named x n i c ts b₀ suite np pos' hds2 l2 hc hi hln hsu r ih =>
    obtain ⟨b, hb1, hyes, hno⟩ := want
    refine wpAny_handleBy_cons (codeAny_handlers_test (asked hc hb1 ?_)) (by intro q; cases q)
    cases b with
    | false => exact ih (hno rfl)
    | true =>
      refine codeAny_handlers_suite_as (HandSPX.lands_againZ fl fun h4 fl4 up4 => ?_)
      obtain ⟨oe4, S4⟩ := enter h4 fl4 up4
      refine store_ok (X := X.suite a ((a, oe4) :: (X.pn ++ pins))) (v := .ref a) S4 hN hi (.inl hln) rfl (fun s5 S5 => ?_) (.inr hln)
      refine wpAny_mono ((hsu a oe4 cls d (X.pn ++ pins)).run [] s5 _ H _ S5 (hyes rfl a na)) (fun f s6 hsp => ?_) (fun _ _ z => False.elim z)
      have bye : ∀ {σ6 : L2.St} {H6 : Hp} {Q : Shared → Prop}, Inv (X.suite a ((a, oe4) :: (X.pn ++ pins))) [] σ6 H6 s6 → (∀ s7, Inv X pins (σ6.set i none) H6 s7 → Q s7) →
          wpAny (model X.prog X.w) X.A (do bindName X.env n .none; unbindBehindTheSuite X.env n pos') (fun _ s7 => Q s7) X.xe s6 := fun {σ6 H6 Q} S6 hq => gone_ok (S6.unsuite ok) hN hi hln hq
      cases f with
      | next => obtain ⟨σ6, H6, S6, q6⟩ := hsp; exact bye S6 fun s7 J7 => ⟨_, _, J7, q6⟩
      | brk => obtain ⟨σ6, H6, S6, q6⟩ := hsp; exact bye S6 fun s7 J7 => ⟨_, _, J7, q6⟩
      | cont => obtain ⟨σ6, H6, S6, q6⟩ := hsp; exact bye S6 fun s7 J7 => ⟨_, _, J7, q6⟩
      | ret u => obtain ⟨v6, σ6, H6, S6, r6, q6⟩ := hsp; exact bye S6 fun s7 J7 => ⟨_, _, _, J7, r6, q6⟩
/-- try: body / except ..: .. / except .. as ..: .. -/
theorem ps_tryCls {body : List Stmt} {h₀ : ExceptHandler} {hds : List ExceptHandler} {l : List Cl} {pos : Pos} {tb : WX → TS} (hs : X.stack = X.env :: X.outer) (hf : X.env.frame = some X.env.locals) (hN : X.N.Nodup) (tk : Takes X Wout)
    (hb : ∀ (W : WX) (pn : List (Addr × Obj)) (xe : Value → Shared → Prop), Takes (X.tr pn xe) W → PassesOwn (model X.prog X.w) X.A X.env xe → PSs (X.tr pn xe) body (tb W)) (hh : ClsOk X (h₀ :: hds) l) :
    PS X (.Try body (h₀ :: hds) [] [] pos) (fun D σ H => tb (wCls X.K Wout D l) D σ H) := by
  refine ⟨fun pins s σ H D I h => ?_⟩
  have ok := I.ok
  have hfr : X.A.frames = some (X.env :: X.outer) := by rw [ok.frames, hs]
  refine wpAny_Try_except ?_
  refine wpAny_mono ((hb (wCls X.K Wout D l) (X.pn ++ pins) (fun e s₁ => wpAny (model X.prog X.w) X.A (noteFrame e X.env) (fun _ s₂ => wpAny (model X.prog X.w) X.A (setFlight e none) (fun _ s₃ =>
    wpAny (model X.prog X.w) X.A (handleBy e X.env (h₀ :: hds)) (SP X pins D) X.xe s₃) X.xe s₂) X.xe s₁) (fun u s' xx => ?_) PassesOwn.looking).run [] s σ H D (I.toTry _) h) (fun f s1 hsp => ?_) (fun e s1 he => he)
  · obtain ⟨a, B, sI, pins', σ', H', cls, d, rfl, J', nb, up, sky, na, os, ag, w⟩ := xx
    have sky' : Sky B (X.env :: X.outer) a (Zc cls d) X.env.locals s'.heap := by rw [← hs]; exact sky
    show wpAny (model X.prog X.w) X.A (noteFrame (.ref a) X.env) _ _ _
    refine Sky.land Zc.steady hfr hf sky' fun h3 fl3 up3 => ?_
    exact meets hs hf hN tk ok (J'.ofTry ok) nb (up.trans up3) fl3 na os ag hh w
  · cases f with
    | next => obtain ⟨σ', H', J', q⟩ := hsp; exact wpAny_execs_nil ⟨σ', H', J'.ofTry ok, q⟩
    | brk => obtain ⟨σ', H', J', q⟩ := hsp; exact ⟨σ', H', J'.ofTry ok, q⟩
    | cont => obtain ⟨σ', H', J', q⟩ := hsp; exact ⟨σ', H', J'.ofTry ok, q⟩
    | ret u => obtain ⟨v, σ', H', J', r, q⟩ := hsp; exact ⟨v, σ', H', J'.ofTry ok, r, q⟩
/-- try: body / finally: suite, the body without return, break, continue -/
def tFinX (tb : WX → TS) (tf tfs : TS) (Wout : WX) : TS := fun D σ H => tb (wFin tfs Wout) { nx := fun σ1 H1 => tf { nx := D.nx, rt := fun _ _ => False } σ1 H1, rt := fun _ _ => False } σ H
theorem ps_finX {body : List Stmt} {f₀ : Stmt} {fs : List Stmt} {pos : Pos} {tb : WX → TS} {tf tfs : TS} (hs : X.stack = X.env :: X.outer) (hf : X.env.frame = some X.env.locals) (hex : X.ex = []) (tk : Takes X Wout)
    (hb : ∀ (W : WX) (pn : List (Addr × Obj)) (xe : Value → Shared → Prop), Takes (X.tr pn xe) W → PassesOwn (model X.prog X.w) X.A X.env xe → PSs (X.tr pn xe) body (tb W))
    (hfin : PSs X.nox (f₀ :: fs) tf) (hsu : ∀ (a : Addr) (pn : List (Addr × Obj)), PSs (X.suite a pn) (f₀ :: fs) tfs) : PS X (.Try body [] [] (f₀ :: fs) pos) (tFinX tb tf tfs Wout) := by
  refine ⟨fun pins s σ H D I h => ?_⟩
  have ok := I.ok
  refine wpAny_Try_finally ?_
  refine wpAny_mono ((hb (wFin tfs Wout) (X.pn ++ pins) (fun x s₁ => wpAny (model X.prog X.w) X.A (noteFrame x X.env) (fun _ s₂ => FinallyRaised X.prog X.w X.A X.xe X.env (f₀ :: fs) (SP X pins D) x s₂) (FinallyRaised X.prog X.w X.A X.xe X.env (f₀ :: fs) (SP X pins D)) s₁)
    (fun u s' xx => ?_) PassesOwn.looking).run [] s σ H _ (I.toTry _) h) (fun f s1 hsp => ?_) (fun x s1 hx => hx)
  · exact fin_exc hs hf hex ok tk hsu xx
  · cases f with
    | brk => obtain ⟨_, _, _, q⟩ := hsp; exact False.elim q
    | cont => obtain ⟨_, _, _, q⟩ := hsp; exact False.elim q
    | ret u => obtain ⟨_, _, _, _, _, q⟩ := hsp; exact False.elim q
    | next =>
      obtain ⟨σ', H', J', q⟩ := hsp
      have J := J'.ofTry ok
      refine wpAny_execs_nil (wpAny_mono (hfin.run pins s1 σ' H' _ (J.wish _) q) (fun g s2 q2 => ?_) fun _ _ z => False.elim z)
      have q3 := q2.unwish
      cases g with
      | next => obtain ⟨σ2, H2, I2, q4⟩ := q3; exact ⟨σ2, H2, I2, q4⟩
      | brk => obtain ⟨_, _, _, q⟩ := q3; exact False.elim q
      | cont => obtain ⟨_, _, _, q⟩ := q3; exact False.elim q
      | ret u => obtain ⟨_, _, _, _, _, q⟩ := q3; exact False.elim q
end
end RD

/-! RDLam: frames of heaps beside tables; calls that may raise; a lambda with one parameter handed to a method. -/
namespace RD
open PySem PySem.Spec PyProof.Rows L2
/-! ### frames, tables set aside -/
def noTbl (o : HO) : Prop := ∀ ps, o ≠ .tbl ps
/-- all but the objects of M and the tables stand as they stood -/
def FrX (M : List Addr) (H H' : Hp) : Prop := ∀ b o, H b = some o → b ∉ M → noTbl o → H' b = some o
theorem FrX.refl (M : List Addr) (H : Hp) : FrX M H H := fun _ _ h _ _ => h
theorem FrX.trans {M : List Addr} {H H1 H2 : Hp} (a : FrX M H H1) (b : FrX M H1 H2) : FrX M H H2 := fun c o h n t => b c o (a c o h n t) n t
theorem FrX.of {M : List Addr} {H H' : Hp} (e : Frm M H H') : FrX M H H' := fun b o h n _ => e b o h n
theorem FrX.same {M : List Addr} {H H' : Hp} (e : Same H H') : FrX M H H' := fun b o h _ _ => e b o h
theorem FrX.extN {M : List Addr} {H H' : Hp} (e : LamX.ExtN H H') : FrX M H H' := fun b o h _ t => e b o h t
theorem FrX.sub {M M' : List Addr} {H H' : Hp} (e : FrX M H H') (s : ∀ a ∈ M, a ∈ M') : FrX M' H H' := fun b o h n t => e b o h (fun z => n (s b z)) t
/-- an object that was new may change -/
theorem FrX.mut {M : List Addr} {H H1 : Hp} {p : Addr} {o : HO} (a : FrX M H H1) (h : H p = none) : FrX M H (upd H1 p o) := fun b u e n t => by
  rw [upd_ne (ne_of_none e h)]
  exact a b u e n t
theorem FrX.put {M : List Addr} {H H1 : Hp} {p : Addr} {o : HO} (a : FrX M H H1) (h : p ∈ M) : FrX M H (upd H1 p o) := fun b u e n t => by
  rw [upd_ne (fun z => n (by rw [z]; exact h))]
  exact a b u e n t
/-- the heap without M and without tables -/
def cutX (M : List Addr) (H : Hp) : Hp := fun b => if b ∈ M then none else match H b with
  | some (.tbl _) => none
  | o => o
theorem cutX_get {M : List Addr} {H : Hp} {b : Addr} {o : HO} (h : cutX M H b = some o) : H b = some o ∧ b ∉ M ∧ noTbl o := by
  unfold cutX at h
  split at h
  · cases h
  · rename_i hb
    split at h
    · cases h
    · rename_i hn
      exact ⟨h, hb, fun ps z => hn ps (by rw [h, z])⟩
theorem cutX_some {M : List Addr} {H : Hp} {b : Addr} {o : HO} (h : H b = some o) (n : b ∉ M) (t : noTbl o) : cutX M H b = some o := by
  unfold cutX
  rw [if_neg n, h]
  split
  · rename_i ps e
    exact absurd (Option.some.inj e) (t ps)
  · rfl
theorem cutX_same {M : List Addr} {H : Hp} : Same (cutX M H) H := fun b o h => (cutX_get h).1
theorem FrX.cut {M : List Addr} {H H' : Hp} (e : FrX M H H') : Same (cutX M H) (cutX M H') := fun b o h => by
  obtain ⟨h1, h2, h3⟩ := cutX_get h
  exact cutX_some (e b o h1 h2 h3) h2 h3
theorem cutX_mono {M M' : List Addr} {H : Hp} (s : ∀ a ∈ M, a ∈ M') : Same (cutX M' H) (cutX M H) := fun b o h => by
  obtain ⟨h1, h2, h3⟩ := cutX_get h
  exact cutX_some h1 (fun z => h2 (s b z)) h3
theorem Same.cutX {M : List Addr} {H H' : Hp} (e : Same H H') : Same (RD.cutX M H) (RD.cutX M H') := (FrX.same (M := M) e).cut
/-! ### calls that may raise -/
section
variable {P : Program} {w : World} {K : PySem.W.Frag} {mg : Str → Option Value} {base : Heap}
/-- a def of the text that may raise, called where no repr is under way -/
structure CalX (P : Program) (w : World) (K : PySem.W.Frag) (mg : Str → Option Value) (base : Heap) (k : Nat) (x : Str) (sp : Sp) : Prop where
  run : ∀ (A : Around) (outer : List Env) (s : Shared) (H : Hp) (us : List Value) (vs : List V) (Q : VK) (E : XK), Room k A → A.guards = some [] → Env0 P w K mg base A outer s H → Vals vs us → sp vs H Q E →
    codeAny (model P w) A (.call (.ref (He.ga K x)) ⟨us, []⟩) (CR (L2.CX P w) outer P w H s Q E) s
  g : mg x = some (.ref (He.ga K x))
  kp : PySem.W.keepIn K (.ref (He.ga K x)) = true
/-- its body, its code object known -/
theorem calX_of {x : Str} {st : Stmt} {N ps : List Str} {k : Nat} {sp : Sp} (F : ∃ fd, FunD K x x (defArgs st) (defBody st) (defScope st) [] [] (He.ga K x) fd) (g : mg x = some (.ref (He.ga K x))) (S : FnScope N ps (defScope st))
    (len : ∀ vs H Q E, sp vs H Q E → vs.length = ps.length) (b : Plain x x st ps)
    (hb : ∀ (A : Around) (outer : List Env) (s : Shared) (H : Hp) (vs : List V) (Q : VK) (E : XK), Room k (A.deeper (envOfC x (defScope st) s.heap.objs.size (He.ga K x) (.ref (He.codeOf K (x, none))))) → A.guards = some [] → sp vs H Q E →
      ∃ t, PSs (cxOf (L2.CX P w) P w K mg base N x (defScope st) (He.ga K x) (.ref (He.codeOf K (x, none))) A outer s H E) (defBody st) t ∧ t { nx := fun _ H' => Q .non H', rt := Q } (start N vs) H) : CalX P w K mg base (k + 1) x sp := by
  obtain ⟨fd, F⟩ := F
  have hB := FunD.bindsN F b
  obtain ⟨oc, od, dV, kV, doc, pm, an, cdv, ct, osl, rfl, lk, hcd, hD, hK⟩ := F.ex
  obtain ⟨c, rfl⟩ := He.codeIn_ref hcd
  have hc : He.codeOf K (x, none) = c := He.codeOf_eq (p := (x, none)) lk rfl
  rw [hc] at hb
  refine ⟨fun A outer s H us vs Q E hr hg e0 r hsp => ?_, g, F.kp⟩
  have hl := len _ _ _ _ hsp
  have KX : K.In s.heap := e0.mod.kin.keeps fun b o e => (e0.bs b o e).1
  have bt := hB s us KX (by rw [List.append_nil, ← r.length]; exact hl)
  rw [List.append_nil] at bt
  exact LamX.run_ofS (k := k) lk hcd S hr e0 bt r hl fun hr' => hb A outer s H vs Q E hr' hg hsp
theorem CalX.mono {x : Str} {j k : Nat} {sp : Sp} (c : CalX P w K mg base j x sp) (h : j ≤ k) : CalX P w K mg base k x sp := ⟨fun A outer s H us vs Q E hr => c.run A outer s H us vs Q E (hr.mono h), c.g, c.kp⟩
end
section
variable {X : Cx} {k j : Nat} {x m : Str} {C f : Addr} {sp : Sp} {E : XK} {W : WX} {e o : Expr} {es : List Expr} {ta : TE} {t : TA} {p pos apos : Pos}
theorem pe_cX (c : CalX X.prog X.w X.K X.mg X.base k x sp) (hr : Room j X.A) (hk : k ≤ j) (hgd : X.A.guards = some []) (tk : Takes X W) (hW : ∀ cls d σ H, E cls d H → W cls d σ H) (hg : Gl X x) (ha : PA X (e :: es) t) (hdb : (x == ("__debug__" : Str)) = false := by decide)
    (he : starEach (e :: es) X.env = (false, eval e X.env) :: starEach es X.env := by rfl) (hpl : (backTo pos (starEach es X.env)).any (·.1) = false := by rfl) : PE X (.Call (.Name x p) (e :: es) [] pos) (tCall sp [] E t) := by
  refine ⟨fun pins s σ H Q I h => ?_⟩
  refine wpAny_Call_Name_kw (ld_glob I hg c.g ?_ hdb)
  refine PySem.W.callWith_K (h₀ := X.base) I.ok.mod.kin c.kp (thn (ha.run pos pins s σ H _ I h) fun us s1 ⟨vs, H1, I1, r, q⟩ => ⟨I1.kIn, ?_⟩) he hpl
  have q : sp (vs ++ []) H1 Q E := q
  rw [List.append_nil] at q
  refine wpAny_call (codeAny_mono (c.run X.A X.stack s1 H1 us vs Q E (hr.mono hk) hgd I1.env0 r q) fun r s' hq => ?_)
  cases r with
  | error e => exact passes_call tk hW pins σ H1 s1 e s' I1 hq
  | ok fl =>
    cases fl with
    | ret u => exact I1.after hq
    | next => exact False.elim hq
    | brk => exact False.elim hq
    | cont => exact False.elim hq
/-- o.m(e, ..) of an instance, m a def whose parameters are bound its own way -/
def tMethR (C : Addr) (m : Str) (sp : Sp) (E : XK) (ta : TE) (t : TA) : TE := fun σ H Q => ta σ H fun x H1 => ∃ a dx fs, x = .ref a ∧ H1 a = some (.ins C dx fs) ∧ fs.lookup m = none ∧ t σ H1 fun vs H2 => sp (x :: vs) H2 Q E
theorem pe_methR {CX : CXT} {pl : Sem Bool} (he : PE X o ta) (c : Cls X.K C) (hm : Meth X.K C m f) (F : FnR X.prog X.w X.K X.mg X.base CX k f sp) (hr : Room j X.A) (hk : k ≤ j) (hx : Passes CX X E) (ha : PA X (e :: es) t)
    (hst : starEach (e :: es) X.env = (false, eval e X.env) :: starEach es X.env := by rfl) (hpl : (backTo pos (starEach es X.env)).any (·.1) = false := by rfl)
    (ht : eval (.Call (.Attribute o m apos) (e :: es) [] pos) X.env = (do
      let ov ← eval o X.env
      standAt apos.atName
      let (f, first) ← holding [ov] (getMethod ov m pl)
      callWith pos f first (backTo pos (starEach (e :: es) X.env)) (backToKw pos (keywordEach [] X.env))) := by rfl) : PE X (.Call (.Attribute o m apos) (e :: es) [] pos) (tMethR C m sp E ta t) := by
  refine ⟨fun pins s σ H Q I h => ?_⟩
  refine PySem.W.methodCall_KW (pl := pl) (thn (he.run pins s σ H _ I h) fun u s1 ⟨x, H1, I1, rx, a, dx, fs, ex, ea, l, q⟩ => ?_) ht
  subst ex
  obtain rfl : u = Value.ref a := rx
  refine getmeth_ok I1 ea c hm l ?_
  refine PySem.W.callWith_K (first := [.ref a]) (h₀ := X.base) I.ok.mod.kin hm.kp (thn (ha.run pos pins s1 σ H1 _ I1 q) fun us s2 ⟨vs, H2, I2, r, q2⟩ => ⟨I2.kIn, ?_⟩) hst hpl
  exact wpAny_call (run_fnR (us := .ref a :: us) (vs := .ref a :: vs) F (hr.mono hk) hx I2 (.cons rfl r) q2)
theorem pe_methR0 {CX : CXT} {pl : Sem Bool} (he : PE X o ta) (c : Cls X.K C) (hm : Meth X.K C m f) (F : FnR X.prog X.w X.K X.mg X.base CX k f sp) (hr : Room j X.A) (hk : k ≤ j) (hx : Passes CX X E)
    (ht : eval (.Call (.Attribute o m apos) [] [] pos) X.env = (do
      let ov ← eval o X.env
      standAt apos.atName
      let (f, first) ← holding [ov] (getMethod ov m pl)
      callWith pos f first (backTo pos (starEach [] X.env)) (backToKw pos (keywordEach [] X.env))) := by rfl) : PE X (.Call (.Attribute o m apos) [] [] pos) (tMethR C m sp E ta tNil) := by
  refine ⟨fun pins s σ H Q I h => ?_⟩
  refine PySem.W.methodCall_KW (pl := pl) (thn (he.run pins s σ H _ I h) fun u s1 ⟨x, H1, I1, rx, a, dx, fs, ex, ea, l, q⟩ => ?_) ht
  subst ex
  obtain rfl : u = Value.ref a := rx
  refine getmeth_ok I1 ea c hm l ?_
  exact PySem.W.callWith_K0 (first := [.ref a]) I1.kIn hm.kp (wpAny_call (run_fnR (us := [.ref a]) (vs := [.ref a]) F (hr.mono hk) hx I1 (.cons rfl .nil) q))
/-- nothing is let out where nothing is wished -/
theorem pass_none : Passes (L2.CX X.prog X.w) X E0 := fun pins σ H s e s' I c => by
  obtain ⟨a, B, H', cls, d, e1, fl, hok, ub, na, os, ag, z⟩ := c
  exact False.elim z
end
/-! ### a lambda with one parameter -/
/-- the lambda's names: the parameter y, captured names, globals -/
structure LamP (sc scope : Scope) (y : Str) : Prop where
  kind : scope.kind = .function
  co : scope.isCoroutine = false
  gen : scope.isGenerator = false
  own : ∀ z ∈ scope.names, z.2 ≠ .cell ∧ (z.2 = .local → z.1 = y)
  par : scope.names.lookup y = some .local
  free : ∀ z ∈ scope.names, z.2 = .free → sc.names.lookup z.1 = some .cell ∨ sc.names.lookup z.1 = some .free
def lamPB (sc scope : Scope) (y : Str) : Bool :=
  decide (scope.kind = .function) && !scope.isCoroutine && !scope.isGenerator && decide (scope.names.lookup y = some .local) && scope.names.all fun z => !decide (z.2 = .cell) && (!decide (z.2 = .local) || decide (z.1 = y)) && (!decide (z.2 = .free) || decide (sc.names.lookup z.1 = some .cell) || decide (sc.names.lookup z.1 = some .free))
theorem lamP_by {sc scope : Scope} {y : Str} (h : lamPB sc scope y = true) : LamP sc scope y := by
  unfold lamPB at h
  simp only [Bool.and_eq_true, Bool.or_eq_true, Bool.not_eq_true', decide_eq_true_eq, decide_eq_false_iff_not, List.all_eq_true] at h
  obtain ⟨⟨⟨⟨h1, h2⟩, h3⟩, h5⟩, h4⟩ := h
  refine ⟨h1, h2, h3, fun z hz => ⟨(h4 z hz).1.1, fun e => ?_⟩, h5, fun z hz e => ?_⟩
  · rcases (h4 z hz).1.2 with q | q
    · exact absurd e q
    · exact q
  · rcases (h4 z hz).2 with (q | q) | q
    · exact absurd e q
    · exact .inl q
    · exact .inr q
theorem LamP.has {X : Cx} {scope : Scope} {y : Str} (L : LamP X.env.scope scope y) (ok : X.Ok) : ∀ z ∈ scope.names, z.2 = .free → ∃ c, X.env.cells.lookup z.1 = some c := fun z hz e => by
  rcases L.free z hz e with k | k
  · exact ok.has _ (.inl k)
  · exact ok.has _ (.inr k)
section
variable {X : Cx} {pins : List (Addr × Obj)} {σ : L2.St} {H HZ : Hp} {s s1 : Shared}
open LamX (lamCx lamEnv CodeO TabB Tabs ExtN)
/-- the lambda's body is entered: slot ip is its parameter's -/
theorem lam_enter {A : Around} {outer : List Env} {E : XK} {scope : Scope} {y : Str} {ip : Nat} {v0 : V} {u0 : Value} {f c' : Addr} {h₁ : Heap} {tk : Nat} (I : Inv X pins σ H s) (L : LamP X.env.scope scope y) (hnd : X.N.Nodup) (hip : X.N[ip]? = some y) (r0 : RelV v0 u0)
    (e0 : Env0 X.prog X.w X.K X.mg X.base A outer s1 HZ) (hd : A.handled = none) (un : Un (frs X.stack) [] H HZ s.heap s1.heap) (hns : h₁.Ns s1.heap.objs.size fun z => ([(y, u0)] : List (Str × Value)).reverse.lookup z) (kp : ∀ b o, s1.heap.get? b = some o → h₁.get? b = some o) :
    Inv (lamCx X A outer s1 HZ E scope f c') [] (σ.set ip (some v0)) HZ { s1 with heap := h₁, toks := tk } := by
  have has := L.has I.ok
  have cm : ∀ {z c}, (cloFrom X.env.cells scope.names []).lookup z = some c → X.env.cells.lookup z = some c := fun {z c} e => by
    rcases cloFrom_mem (PySem.mem_of_lookup e) with hm | ⟨h1, h2⟩
    · cases hm
    · obtain ⟨c1, hc⟩ := has _ h1 rfl
      have hc : X.env.cells.lookup z = some c1 := hc
      have e2 : c = c1 := by rw [h2, hc] <;> rfl
      rw [e2]
      exact hc
  have look : ∀ {z}, scope.names.lookup z = some .free → ∃ c, (cloFrom X.env.cells scope.names []).lookup z = some c := fun {z} hl => mem_lookup (cloFrom_has (cells := X.env.cells) (acc := []) (show (z, NameKind.free) ∈ scope.names from PySem.mem_of_lookup hl))
  have cellK : ∀ {c : Addr} {v : Option Value}, H c = none → s.heap.IsCell c v → h₁.IsCell c v := fun {c v} n ⟨o, ho, hd⟩ => by
    obtain ⟨sl, q⟩ := un.any ho n (by simp)
    exact ⟨_, kp _ _ q, hd⟩
  have no : ∀ b : Addr, b ∉ (lamCx X A outer s1 HZ E scope f c').ex := fun b z => absurd (show b ∈ ([] : List Addr) from z) (by simp)
  have nocell : ∀ {z}, scope.names.lookup z ≠ some .cell := fun {z} hz => absurd rfl (L.own _ (PySem.mem_of_lookup hz)).1
  refine ⟨⟨e0.mod, L.kind, rfl, rfl, Nat.le_refl _, fun a b c e1 e2 => I.ok.inj a b c (cm e1) (cm e2), fun z hz => ?_, fun z c q _ => ?_, fun _ => hd, Around.frames_deeper e0.frames, .inr ⟨rfl, rfl⟩, fun b z => absurd z (no b), e0.bs, e0.bsz, fun b _ _ => no b,
      fun b z => absurd z (no b), e0.funs, e0.frf⟩,
    rfl, e0.bare, Un.kept kp, ⟨_, hns, fun i z v e1 e2 e3 => ?_⟩, fun z c e => ?_, e0.hok.fresh (Nat.le_refl _), fun z c e => ?_, fun q hq => absurd (show q ∈ ([] : List (Addr × Obj)) ++ [] from hq) (by simp), e0.hok.kept kp, by rw [List.length_set]; exact I.len⟩
  · have hz : scope.names.lookup z = some .cell ∨ scope.names.lookup z = some .free := hz
    exact hz.elim (fun hz => absurd hz nocell) look
  · have q : false = true := q
    cases q
  · have e3 : Vis scope z := e3
    rcases e3 with k | k | k
    · obtain rfl : z = y := (L.own _ (PySem.mem_of_lookup k)).2 rfl
      obtain rfl : i = ip := nodup_ix hnd e1 hip
      by_cases hlt : i < σ.length
      · rw [List.getElem?_set_self hlt] at e2
        cases e2
        exact ⟨u0, r0, .inl ⟨k, by simp [List.lookup]⟩⟩
      · rw [List.getElem?_eq_none (by simpa using hlt)] at e2
        cases e2
    · exact absurd k nocell
    · have ni : ip ≠ i := fun q => by
        have e1 : X.N[i]? = some z := e1
        rw [← q, hip] at e1
        cases e1
        rw [L.par] at k
        cases k
      rw [List.getElem?_set_ne ni] at e2
      obtain ⟨m, hn, hl⟩ := I.loc
      have hvis : Vis X.env.scope z := (L.free _ (PySem.mem_of_lookup k) rfl).elim (fun k => .inr (.inl k)) (fun k => .inr (.inr k))
      obtain ⟨w', r, q⟩ := hl i z v e1 e2 hvis
      obtain ⟨c2, h2⟩ := look k
      refine ⟨w', r, .inr ⟨.inr k, c2, h2, ?_⟩⟩
      have c1 := cm h2
      rcases q with ⟨k', _⟩ | ⟨_, c3, e', g⟩
      · have k' : X.env.scope.names.lookup z = some .local := k'
        rcases L.free _ (PySem.mem_of_lookup k) rfl with k2 | k2 <;> rw [show X.env.scope.names.lookup z = _ from k2] at k' <;> cases k'
      · rw [c1] at e'
        cases e'
        exact cellK (I.freeC z _ c1) g
  · obtain ⟨w', q⟩ := I.cell z c (cm e)
    exact ⟨w', cellK (I.freeC z c (cm e)) q⟩
  · obtain ⟨v, o, ho, hd⟩ := I.cell z c (cm e)
    exact un.free c o ho (I.freeC z c (cm e)) (by simp)
/-- a(b) in the def that got the lambda -/
theorem pe_act1 {CXg : CXT} {Eg : XK} {Ng : List Str} {qg : Str} {sg : Scope} {g f c' : Addr} {cdg pm ctv : Value} {params : Arguments} {body : Expr} {scope : Scope} {k i i2 ip : Nat} {a b y : Str} {pn : List (Addr × Obj)} {xe : Value → Shared → Prop} {W : WX} {tb : XK → TE} {p1 p2 p3 : Pos}
    (I : Inv X pins σ H s) (L : LamP X.env.scope scope y) (hnd : X.N.Nodup) (hip : X.N[ip]? = some y) (hf : s.heap.get? f = some (PySem.W.kla_obj "<lambda>" (X.env.qual ++ "<lambda>") params body scope (cloFrom X.env.cells scope.names []) pm c' ctv)) (hfn : H f = none) (hfr : f ∉ frs X.stack)
    (hbind : ∀ u : Value, bindArgs (PySem.W.kla_fn "<lambda>" (X.env.qual ++ "<lambda>") params body scope (cloFrom X.env.cells scope.names []) pm (.ref c') ctv) ⟨[u], []⟩ = pure [(y, u)])
    (tk : Takes ((cxOf CXg X.prog X.w X.K X.mg X.base Ng qg sg g cdg X.A X.stack s H Eg).tr pn xe) W) (hr : Room (k + 1) (X.A.deeper (envOfC qg sg s.heap.objs.size g cdg)))
    (hbody : ∀ (A : Around) (outer : List Env) (s : Shared) (H : Hp) (E : XK), Room k (A.deeper (lamEnv X scope s.heap.objs.size f c')) → A.guards = X.A.guards → PE (lamCx X A outer s H E scope f c') body (tb E))
    (hN : Ng[i]? = some a) (hv : Vis sg a) (hN2 : Ng[i2]? = some b) (hv2 : Vis sg b) (hd : (a == ("__debug__" : Str)) = false := by decide) (hcd : (a == ("__classdict__" : Str)) = false := by decide) (hd2 : (b == ("__debug__" : Str)) = false := by decide) (hcd2 : (b == ("__classdict__" : Str)) = false := by decide) :
    PE ((cxOf CXg X.prog X.w X.K X.mg X.base Ng qg sg g cdg X.A X.stack s H Eg).tr pn xe) (.Call (.Name a p1) [.Name b p3] [] p2)
      (fun σZ HZ Q => σZ[i]? = some (some (.ref f)) ∧ ∃ v0, σZ[i2]? = some (some v0) ∧ HZ c' = some (CodeO c' (X.env.qual ++ "<lambda>")) ∧ ∃ Ec : XK, (∀ cls d H', Ec cls d H' → W cls d σZ H') ∧ tb Ec (σ.set ip (some v0)) HZ Q) := by
  refine ⟨fun pinsZ sZ σZ HZ Q IZ h => ?_⟩
  obtain ⟨hs, v0, hs2, hc, Ec, hEc, ht⟩ := h
  refine wpAny_Call_Name_kw (thn ((pe_var (pos := p1) (i := i) hN hv hd hcd).run pinsZ sZ σZ HZ (fun v H1 => v = .ref f ∧ H1 = HZ) IZ ⟨.ref f, hs, rfl, rfl⟩) fun u s1 ⟨v, H1, I1, r1, q1⟩ => ?_)
  obtain ⟨ev, eH⟩ := q1
  subst ev
  rw [eH] at I1
  obtain rfl : u = Value.ref f := r1
  have at_ : ∀ {s2 : Shared} {pins2 : List (Addr × Obj)}, Inv ((cxOf CXg X.prog X.w X.K X.mg X.base Ng qg sg g cdg X.A X.stack s H Eg).tr pn xe) pins2 σZ HZ s2 → s2.heap.get? f = some (PySem.W.kla_obj "<lambda>" (X.env.qual ++ "<lambda>") params body scope (cloFrom X.env.cells scope.names []) pm c' ctv) := fun J =>
    J.base.keep f _ hf hfn hfr (fun z => nomatch (show f ∈ ([] : List Addr) from z))
  have arg := (pa_cons (X := (cxOf CXg X.prog X.w X.K X.mg X.base Ng qg sg g cdg X.A X.stack s H Eg).tr pn xe) (pe_var (pos := p3) (i := i2) hN2 hv2 hd2 hcd2) pa_nil).run p2 pinsZ s1 σZ HZ (fun vs H2 => vs = [v0] ∧ H2 = HZ) I1 ⟨v0, hs2, rfl, rfl⟩
  refine PySem.W.callWith_F (first := []) ⟨_, _, _, _, at_ I1⟩ (thn arg fun us s2 ⟨vs, H2, I2, r2, ev2, eH2⟩ => ?_)
  subst ev2
  rw [eH2] at I2
  cases r2 with
  | @cons _ u0 _ ur ru rn =>
  cases rn
  refine ⟨⟨_, _, _, _, at_ I2⟩, ?_⟩
  have of2 := at_ I2
  have un : Un (frs X.stack) [] H HZ s.heap s2.heap := I2.base
  obtain ⟨⟨oc, vs, t, hoc, hdc, hvc⟩, _, _⟩ := I2.hok c' _ hc
  have rc : codeAny (model X.prog X.w) (X.A.deeper (envOfC qg sg s.heap.objs.size g cdg)) (.call (.ref f) ⟨[u0], []⟩) (CR (L2.CX X.prog X.w) (envOfC qg sg s.heap.objs.size g cdg :: X.stack) X.prog X.w HZ s2 Q Ec) s2 := by
    refine PySem.W.kla_callFunE hr.depth of2 rfl L.co L.gen rfl ⟨c', oc, vs, t, rfl, hoc, hdc, hvc⟩ ?_
    rw [hbind]
    refine wpAny_pure (wpAny_newFunctionEnv (fun z hz => (L.own z hz).1) (fun z hz => ?_) (fun h₁ hns hsb => ⟨I2.nolimit.fresh _ hsb, ?_⟩) L.kind)
    · rw [List.mem_singleton] at hz
      rw [hz]
      exact L.par
    show codeAny _ _ (.expr body (lamEnv X scope s2.heap.objs.size f c')) _ _
    have kp : ∀ b o, s2.heap.get? b = some o → h₁.get? b = some o := fun b o e => hsb.extBut b o (Nat.ne_of_lt (Heap.lt_size e)) (Heap.get?_push_of_some _ e)
    have J : Inv (lamCx X (X.A.deeper (envOfC qg sg s.heap.objs.size g cdg)) (envOfC qg sg s.heap.objs.size g cdg :: X.stack) s2 HZ Ec scope f c') [] (σ.set ip (some v0)) HZ { s2 with heap := h₁, toks := s2.toks + ([(y, u0)] : List (Str × Value)).length } :=
      lam_enter I L hnd hip ru I2.env0 hr.hd un hns kp
    refine PySem.W.kla_codeExpr (wpAny_mono ((hbody _ _ s2 HZ _ (hr.deeper _) rfl).run [] _ _ HZ Q J ht) (fun v s' hq => ?_) fun e s' hq => hq)
    obtain ⟨w', H', J', rv, q⟩ := hq
    exact ⟨w', H', J'.os, J'.bare, J'.base, J'.hok, rv, q⟩
  refine wpAny_call (codeAny_mono rc fun r s' hq => ?_)
  cases r with
  | error e =>
    obtain ⟨a', B', H', cls, d, z1, z2, z3, z4, z5, z6, z7, z8⟩ := hq
    exact passAt tk σZ pinsZ HZ s2 e s' I2 ⟨a', B', H', cls, d, z1, z2, z3, z4, z5, z6, z7, hEc _ _ _ z8⟩
  | ok fl =>
    cases fl with
    | ret u => exact I2.after hq
    | next => exact False.elim hq
    | brk => exact False.elim hq
    | cont => exact False.elim hq
/-- the def that calls what it got with its own self; TT: what it makes of the lambda's reading -/
def GivesM (X : Cx) (Ng : List Str) (qg : Str) (sg : Scope) (g : Addr) (cdg : Value) (bg : List Stmt) (a b qL : Str) (TT : (XK → V → Hp → VK → Prop) → Addr → Hp → VK → XK → Prop) : Prop :=
  ∀ (f c' h : Addr) (s : Shared) (H : Hp) (Q : VK) (E : XK) (tl : XK → V → Hp → VK → Prop), Room 1 (X.A.deeper (envOfC qg sg s.heap.objs.size g cdg)) →
    (∀ (W : WX) (pn : List (Addr × Obj)) (xe : Value → Shared → Prop) (p1 p2 p3 : Pos), Takes ((cxOf (L2.CX X.prog X.w) X.prog X.w X.K X.mg X.base Ng qg sg g cdg X.A X.stack s H E).tr pn xe) W →
      PE ((cxOf (L2.CX X.prog X.w) X.prog X.w X.K X.mg X.base Ng qg sg g cdg X.A X.stack s H E).tr pn xe) (.Call (.Name a p1) [.Name b p3] [] p2)
        (fun σZ HZ Q => σZ[1]? = some (some (.ref f)) ∧ ∃ v0, σZ[0]? = some (some v0) ∧ HZ c' = some (CodeO c' qL) ∧ ∃ Ec : XK, (∀ cls d H', Ec cls d H' → W cls d σZ H') ∧ tl Ec v0 HZ Q)) →
    H c' = some (CodeO c' qL) → TT tl h H Q E →
    ∃ t, PSs (cxOf (L2.CX X.prog X.w) X.prog X.w X.K X.mg X.base Ng qg sg g cdg X.A X.stack s H E) bg t ∧ t { nx := fun _ H' => Q .non H', rt := Q } (L2.start Ng [.ref h, .ref f]) H
/-- o.m(lambda y: body) -/
def tLamM (C : Addr) (m : Str) (ip : Nat) (T : List (Addr × Str)) (TT : (XK → V → Hp → VK → Prop) → Addr → Hp → VK → XK → Prop) (E : XK) (to : TE) (t : XK → TE) : TE := fun σ H Q => to σ H fun x H0 => ∃ a dx fs, x = .ref a ∧ H0 a = some (.ins C dx fs) ∧ fs.lookup m = none ∧ Tabs T H0 ∧
  ∀ H1, ExtN H0 H1 → Tabs T H1 → TT (fun E' v H' Q' => t E' (σ.set ip (some v)) H' Q') a H1 Q E
theorem pe_lammeth {T : List (Addr × Str)} {TT : (XK → V → Hp → VK → Prop) → Addr → Hp → VK → XK → Prop} {C g c P : Addr} {m qg y a b : Str} {k j ip : Nat} {pg : Arguments} {bg : List Stmt} {sg : Scope} {Ng : List Str} {o : Expr} {to : TE} {W : WX} {E : XK}
    {params : Arguments} {body : Expr} {scope : Scope} {t : XK → TE} {apos lpos pos : Pos} {pl : Sem Bool} (he : PE X o to) (cC : Cls X.K C) (hm : Meth X.K C m g) (F : ∃ fd, FunD X.K m qg pg bg sg [] [] g fd)
    (hb : ∀ (kV doc pm : Value) (an : Option Addr) (cdv ct : Value) (us : List Value), us.length = [b, a].length → bindArgs (PySem.W.fnOf m qg pg bg sg .none kV doc pm an cdv ct) ⟨us, []⟩ = pure ([b, a].zip us)) (Sg : FnScope Ng [b, a] sg)
    (hN0 : Ng[0]? = some b) (hN1 : Ng[1]? = some a) (hva : Vis sg a) (hvb : Vis sg b)
    (hG : ∀ cdv, GivesM X Ng qg sg g cdv bg a b (X.env.qual ++ "<lambda>") TT) (TB : TabB X.base X.mg c P) (hcode : X.env.code = .ref c) (hmT : (P, X.env.qual ++ "<lambda>") ∈ T) (hu : ∀ p ∈ T, p.1 = P → p.2 = X.env.qual ++ "<lambda>")
    (hr : Room j X.A) (hk : k + 2 ≤ j) (tk : Takes X W) (hW : ∀ cls d σ H, E cls d H → W cls d σ H) (L : LamP X.env.scope scope y) (hnd : X.N.Nodup) (hip : X.N[ip]? = some y) (hdef : defaultsOf params X.env = ([], []))
    (hbind : ∀ (q : Str) (cl : List (Str × Addr)) (pm cv ctv u : Value), bindArgs (PySem.W.kla_fn "<lambda>" q params body scope cl pm cv ctv) ⟨[u], []⟩ = pure [(y, u)])
    (hbody : ∀ (A : Around) (outer : List Env) (s : Shared) (H : Hp) (E : XK) (f c' : Addr), Room k (A.deeper (lamEnv X scope s.heap.objs.size f c')) → A.guards = X.A.guards → PE (lamCx X A outer s H E scope f c') body (t E))
    (hd : (a == ("__debug__" : Str)) = false := by decide) (hcd : (a == ("__classdict__" : Str)) = false := by decide) (hd2 : (b == ("__debug__" : Str)) = false := by decide) (hcd2 : (b == ("__classdict__" : Str)) = false := by decide)
    (ht : eval (.Call (.Attribute o m apos) [.Lambda params body scope lpos] [] pos) X.env = (do
      let ov ← eval o X.env
      standAt apos.atName
      let (f, first) ← holding [ov] (getMethod ov m pl)
      callWith pos f first (backTo pos (starEach [.Lambda params body scope lpos] X.env)) (backToKw pos (keywordEach [] X.env))) := by rfl) :
    PE X (.Call (.Attribute o m apos) [.Lambda params body scope lpos] [] pos) (tLamM C m ip T TT E to t) := by
  obtain ⟨fd, F⟩ := F
  have hB := FunD.bindsN F hb
  obtain ⟨oc, od, dV, kV, doc, pm, an, cdv, ct, osl, rfl, lk, hcg, hD, hK⟩ := F.ex
  refine ⟨fun pins s σ H Q I h => ?_⟩
  refine PySem.W.methodCall_KW (pl := pl) (thn (he.run pins s σ H _ I h) fun u s1 ⟨x, H0, I0, rx, h0, dx, fs, ex, ea, l, hT, q⟩ => ?_) ht
  subst ex
  obtain rfl : u = Value.ref h0 := rx
  refine getmeth_ok I0 ea cC hm l ?_
  refine PySem.W.callWith_K (first := [.ref h0]) (h₀ := X.base) I0.ok.mod.kin hm.kp ?_ (by rfl) (by rfl)
  show wpAny _ _ (spliced ((false, eval (.Lambda params body scope lpos) X.env) :: backTo pos (starEach [] X.env))) _ _ s1
  refine Calls.spliced_cons (LamX.lam_make2 I0 TB hcode hmT hu hT hdef (L.has I0.ok) fun f c' pm' ctv H1 s' I1 eN T1 hf hfn hfr hco => ?_)
  refine Calls.spliced_nil ⟨I1.kIn, ?_⟩
  have rc : codeAny (model X.prog X.w) X.A (.call (.ref g) ⟨[.ref h0, .ref f], []⟩) (CR (L2.CX X.prog X.w) X.stack X.prog X.w H1 s' Q E) s' := by
    refine LamX.run_ofS (k := k + 1) (N := Ng) (ps := [b, a]) (us := [.ref h0, .ref f]) (vs := [.ref h0, .ref f]) lk hcg Sg (hr.mono hk) I1.env0 ?_ (.cons rfl (.cons rfl .nil)) rfl fun hr' => ?_
    · have := hB s' [.ref h0, .ref f] I1.kIn rfl
      rw [List.append_nil] at this
      exact this
    · exact hG cdv f c' h0 s' H1 Q E _ (hr'.mono (by omega)) (fun W pn xe p1 p2 p3 tk => pe_act1 (i := 1) (i2 := 0) I1 L hnd hip hf hfn hfr (fun u => hbind _ _ _ _ _ u) tk hr' (fun A outer s H E hr2 hg2 => hbody A outer s H E f c' hr2 hg2) hN1 hva hN0 hvb hd hcd hd2 hcd2) hco (q H1 eN T1)
  refine wpAny_call (codeAny_mono rc fun r s2 hq => ?_)
  cases r with
  | error e => exact passes_call tk hW pins σ H1 s' e s2 I1 hq
  | ok fl =>
    cases fl with
    | ret u => exact I1.after hq
    | next => exact False.elim hq
    | brk => exact False.elim hq
    | cont => exact False.elim hq
/-! ### a lambda without parameters, handed to a def -/
theorem pe_act0 {CXg : CXT} {Eg : XK} {Ng : List Str} {qg : Str} {sg : Scope} {g f c' : Addr} {cdg pm ctv : Value} {params : Arguments} {body : Expr} {scope : Scope} {k i : Nat} {a : Str} {pn : List (Addr × Obj)} {xe : Value → Shared → Prop} {W : WX} {E : XK} {tb : TE} {p1 p2 : Pos}
    (I : Inv X pins σ H s) (L : LamX.LamS X.env.scope scope) (hf : s.heap.get? f = some (PySem.W.kla_obj "<lambda>" (X.env.qual ++ "<lambda>") params body scope (cloFrom X.env.cells scope.names []) pm c' ctv)) (hfn : H f = none) (hfr : f ∉ frs X.stack)
    (hbind : bindArgs (PySem.W.kla_fn "<lambda>" (X.env.qual ++ "<lambda>") params body scope (cloFrom X.env.cells scope.names []) pm (.ref c') ctv) ⟨[], []⟩ = pure [])
    (tk : Takes ((cxOf CXg X.prog X.w X.K X.mg X.base Ng qg sg g cdg X.A X.stack s H Eg).tr pn xe) W) (hW : ∀ cls d σ' H', E cls d H' → W cls d σ' H') (hr : Room (k + 1) (X.A.deeper (envOfC qg sg s.heap.objs.size g cdg)))
    (hbody : ∀ (A : Around) (outer : List Env) (s : Shared) (H : Hp), Room k (A.deeper (lamEnv X scope s.heap.objs.size f c')) → A.guards = X.A.guards → PE (lamCx X A outer s H E scope f c') body tb)
    (hN : Ng[i]? = some a) (hv : Vis sg a) (hd : (a == ("__debug__" : Str)) = false := by decide) (hcd : (a == ("__classdict__" : Str)) = false := by decide) :
    PE ((cxOf CXg X.prog X.w X.K X.mg X.base Ng qg sg g cdg X.A X.stack s H Eg).tr pn xe) (.Call (.Name a p1) [] [] p2) (fun σZ HZ Q => σZ[i]? = some (some (.ref f)) ∧ HZ c' = some (CodeO c' (X.env.qual ++ "<lambda>")) ∧ tb σ HZ Q) := by
  refine ⟨fun pinsZ sZ σZ HZ Q IZ h => ?_⟩
  obtain ⟨hs, hc, ht⟩ := h
  refine wpAny_Call_Name_kw (thn ((pe_var (pos := p1) (i := i) hN hv hd hcd).run pinsZ sZ σZ HZ (fun v H1 => v = .ref f ∧ H1 = HZ) IZ ⟨.ref f, hs, rfl, rfl⟩) fun u s1 ⟨v, H1, I1, r1, q1⟩ => ?_)
  obtain ⟨ev, eH⟩ := q1
  subst ev
  rw [eH] at I1
  obtain rfl : u = Value.ref f := r1
  have of1 : s1.heap.get? f = some (PySem.W.kla_obj "<lambda>" (X.env.qual ++ "<lambda>") params body scope (cloFrom X.env.cells scope.names []) pm c' ctv) := I1.base.keep f _ hf hfn hfr (fun z => nomatch (show f ∈ ([] : List Addr) from z))
  refine PySem.W.callWith_F0 ⟨_, _, _, _, of1⟩ ?_
  have un : Un (frs X.stack) [] H HZ s.heap s1.heap := I1.base
  obtain ⟨⟨oc, vs, t, hoc, hdc, hvc⟩, _, _⟩ := I1.hok c' _ hc
  have rc : codeAny (model X.prog X.w) (X.A.deeper (envOfC qg sg s.heap.objs.size g cdg)) (.call (.ref f) ⟨[], []⟩) (CR (L2.CX X.prog X.w) (envOfC qg sg s.heap.objs.size g cdg :: X.stack) X.prog X.w HZ s1 Q E) s1 := by
    refine PySem.W.kla_callFunE hr.depth of1 rfl L.co L.gen rfl ⟨c', oc, vs, t, rfl, hoc, hdc, hvc⟩ ?_
    rw [hbind]
    refine wpAny_pure (wpAny_newFunctionEnv (fun y hy => (L.own y hy).2) (fun y hy => absurd hy (by simp)) (fun h₁ hns hsb => ⟨I1.nolimit.fresh _ hsb, ?_⟩) L.kind)
    show codeAny _ _ (.expr body (lamEnv X scope s1.heap.objs.size f c')) _ _
    have J := LamX.lam_start2 (E := E) (f := f) (c' := c') (tk := s1.toks + ([] : List (Str × Value)).length) I L I1.env0 hr.hd un hns (fun b o e => hsb.extBut b o (Nat.ne_of_lt (Heap.lt_size e)) (Heap.get?_push_of_some _ e))
    refine PySem.W.kla_codeExpr (wpAny_mono ((hbody _ _ s1 HZ (hr.deeper _) rfl).run [] _ _ HZ Q J ht) (fun v s' hq => ?_) fun e s' hq => hq)
    obtain ⟨w', H', J', rv, q⟩ := hq
    exact ⟨w', H', J'.os, J'.bare, J'.base, J'.hok, rv, q⟩
  refine wpAny_call (codeAny_mono rc fun r s' hq => ?_)
  cases r with
  | error e => exact passes_call tk hW pinsZ σZ HZ s1 e s' I1 hq
  | ok fl =>
    cases fl with
    | ret u => exact I1.after hq
    | next => exact False.elim hq
    | brk => exact False.elim hq
    | cont => exact False.elim hq
/-- x(lambda: body), x a def that lets nothing out -/
theorem pe_lam0 {T : List (Addr × Str)} {TT : (XK → Hp → VK → Prop) → Hp → VK → Prop} {x a : Str} {g c P : Addr} {k j : Nat} {pg : Arguments} {bg : List Stmt} {sg : Scope} {Ng : List Str} {params : Arguments} {body : Expr} {scope : Scope} {t : XK → TE} {p lpos pos : Pos}
    (hg : Gl X x) (hm : X.mg x = some (.ref g)) (F : ∃ fd, FunD X.K x x pg bg sg [] [] g fd) (hb : ∀ (kV doc pm : Value) (an : Option Addr) (cdv ct : Value) (us : List Value), us.length = [a].length → bindArgs (PySem.W.fnOf x x pg bg sg .none kV doc pm an cdv ct) ⟨us, []⟩ = pure ([a].zip us))
    (Sg : FnScope Ng [a] sg) (hNg : Ng[0]? = some a) (hva : Vis sg a) (hG : ∀ cdv, LamX.GivesTo X Ng x sg g cdv bg a (X.env.qual ++ "<lambda>") TT) (TB : TabB X.base X.mg c P) (hcode : X.env.code = .ref c) (hmT : (P, X.env.qual ++ "<lambda>") ∈ T) (hu : ∀ p ∈ T, p.1 = P → p.2 = X.env.qual ++ "<lambda>")
    (hr : Room j X.A) (hk : k + 2 ≤ j) (L : LamX.LamS X.env.scope scope) (hdef : defaultsOf params X.env = ([], [])) (hbind : ∀ (q : Str) (cl : List (Str × Addr)) (pm cv ctv : Value), bindArgs (PySem.W.kla_fn "<lambda>" q params body scope cl pm cv ctv) ⟨[], []⟩ = pure [])
    (hbody : ∀ (A : Around) (outer : List Env) (s : Shared) (H : Hp) (E : XK) (f c' : Addr), Room k (A.deeper (lamEnv X scope s.heap.objs.size f c')) → A.guards = X.A.guards → PE (lamCx X A outer s H E scope f c') body (t E))
    (hdb : (x == ("__debug__" : Str)) = false := by decide) (hd : (a == ("__debug__" : Str)) = false := by decide) (hcd : (a == ("__classdict__" : Str)) = false := by decide) : PE X (.Call (.Name x p) [.Lambda params body scope lpos] [] pos) (LamX.tLam T TT t) := by
  obtain ⟨fd, F⟩ := F
  have hB := FunD.bindsN F hb
  obtain ⟨oc, od, dV, kV, doc, pm, an, cdv, ct, osl, rfl, lk, hcg, hD, hK⟩ := F.ex
  refine ⟨fun pins s σ H Q I h => ?_⟩
  obtain ⟨hT, h⟩ := h
  refine wpAny_Call_Name_kw (ld_glob I hg hm ?_ hdb)
  refine PySem.W.callWith_K (h₀ := X.base) I.ok.mod.kin F.kp ?_ (by rfl) (by rfl)
  show wpAny _ _ (spliced ((false, eval (.Lambda params body scope lpos) X.env) :: backTo pos (starEach [] X.env))) _ _ s
  refine Calls.spliced_cons (LamX.lam_make2 I TB hcode hmT hu hT hdef (L.has I.ok) fun f c' pm' ctv H1 s' I1 eN T1 hf hfn hfr hco => ?_)
  refine Calls.spliced_nil ⟨I1.kIn, ?_⟩
  have bt := hB s' [.ref f] I1.kIn rfl
  rw [List.append_nil] at bt
  have rc : codeAny (model X.prog X.w) X.A (.call (.ref g) ⟨[.ref f], []⟩) (CR C8.CX0 X.stack X.prog X.w H1 s' Q C8.E0) s' := by
    refine LamX.run_ofS (k := k + 1) (N := Ng) (ps := [a]) (us := [.ref f]) (vs := [.ref f]) lk hcg Sg (hr.mono hk) I1.env0 bt (.cons rfl .nil) rfl fun hr' => ?_
    obtain ⟨t', ht', hq'⟩ := hG cdv f c' s' H1 Q (fun E H' Q' => t E σ H' Q') (fun W pn xe E p1 p2 tk hW => pe_act0 (i := 0) I1 L hf hfn hfr (hbind _ _ _ _ _) tk hW hr' (fun A outer s H hr2 hg2 => hbody A outer s H E f c' hr2 hg2) hNg hva hd hcd) hco (h H1 eN T1)
    exact ⟨t', ht'.nox, hq'⟩
  refine wpAny_call (codeAny_mono rc fun r s2 hq => ?_)
  cases r with
  | error e => exact (show False from hq).elim
  | ok fl =>
    cases fl with
    | ret u => exact I1.after hq
    | next => exact False.elim hq
    | brk => exact False.elim hq
    | cont => exact False.elim hq
end
end RD

/-! RDHouse: House. -/
namespace RD
open PySem PySem.Spec PyProof.Rows L2
section
variable {P : Program} {w : World} {K : PySem.W.Frag} {mg : Str → Option Value} {base : Heap}
abbrev hf (b d v c : Addr) : List (Str × V) := [("plan", .ref b), ("shown", .ref d), ("visited", .ref v), ("calls", .ref c)]
/-- the house's own object -/
def HsAt (C : Addr) (H : Hp) (h dx b d v c : Addr) : Prop := H h = some (.ins C dx (hf b d v c))
/-- what its fields hold -/
structure HsIn (H : Hp) (d v c : Addr) (rs : List Str) (bg : Str → Int) (zs : List Str) (cs : List Int) : Prop where
  shown : H d = some (.dK (iD rs bg))
  visited : H v = some (.lst (zs.map V.str))
  calls : H c = some (.lst (cs.map V.int))
theorem HsIn.mono {H H' : Hp} {d v c : Addr} {rs : List Str} {bg : Str → Int} {zs : List Str} {cs : List Int} (h : HsIn H d v c rs bg zs cs) (e : Same H H') : HsIn H' d v c rs bg zs cs := ⟨e _ _ h.shown, e _ _ h.visited, e _ _ h.calls⟩
/-! ### __init__ -/
def spHouse (Cb C : Addr) : Sp := fun vs H Q _ => ∃ h b pl d0 dx rs sz E ds dv H0, vs = [.ref h, .ref b, .str pl, .ref d0] ∧ H h = some (.ins C dx []) ∧ Same H0 H ∧ H0 h = none ∧ H0 d0 = none ∧ BldAt Cb H0 b rs sz E ∧ pl ∈ rs ∧ H d0 = some (.dK (iD ds dv)) ∧ (∀ r ∈ ds, r ∈ rs) ∧ (∀ r ∈ ds, 0 ≤ dv r ∧ dv r ≤ sz r - 1) ∧
  ∀ d v c H', Same H0 H' → HsAt C H' h dx b d v c → HsIn H' d v c rs (fun r => if r ∈ ds then dv r else 0) [pl] [] → Q .non H'
theorem sc_House_init : FnScope ["self", "building", "place", "dials", "room", "number"] ["self", "building", "place", "dials"] (defScope sHouse_init) := ⟨rfl, rfl, rfl, by decide +kernel, rfl, by decide +kernel, by decide +kernel⟩
theorem body_House (T : Says w K mg) {f : Addr} : Body P w K mg base "House.__init__" sHouse_init ["self", "building", "place", "dials", "room", "number"]
 4 f (spHouse (He.ga K "Building") (He.ga K "LoggedHouse")) := by
  intro cdv A outer s H vs Q E hr h
  refine ⟨_, (pss_cons (ps_if (pt_cmpR (op_notInM (okBuilding_contains T) hr (by decide)) (pv 2) (pv 1) (by rfl)) (pss_one ps_never) pss_nil)
    (pss_cons (ps_lock (ps_for PassesOwn.never rfl (pi_keys (pv 3)) (pg_name (i := 4) sc_House_init.nd rfl (Or.inl rfl)) (pss_one (ps_if (pt_cmpR (op_notInM (okBuilding_contains T) hr (by decide)) (pv 4) (pv 1) (by rfl)) (pss_one ps_never) pss_nil))))
    (pss_cons (ps_lock (ps_for PassesOwn.never rfl (pi_items (pv 3)) (pg_tup rfl (pgs_cons (pg_name (i := 4) sc_House_init.nd rfl (Or.inl rfl)) (pgs_cons (pg_name (i := 5) sc_House_init.nd rfl (Or.inl rfl)) pgs_nil))) (pss_one (ps_if (pt_not (pt_val (C8.pe_c (ok_is_between T) hr (by decide) rfl (pa_cons (pv 5) (pa_cons pe_int (pa_cons (pe_op op_sub (pe_subM (okBuilding_getitem T) (fnBuilding T) hr (by decide) (pv 1) (pv 4)) pe_int) pa_nil)))))) (pss_one ps_never) pss_nil))))
    (pss_cons (ps_fld (pv 0) (pv 1) rfl)
    (pss_cons (ps_fld (pv 0) (pe_dc (own := [("room", 4)]) (g := (gName 4)) (tt := tYes) rfl sc_House_init.nd (pi_tup (pe_pp (okBuilding_rooms T) hr (by decide) (pv 1))) (blkOk_by (own := [("room", 4)]) (N := ["self", "building", "place", "dials", "room", "number"]) (sc := defScope sHouse_init) (by decide +kernel)) (fun _ _ _ _ _ => (pg_name (i := 4) sc_House_init.nd rfl (Or.inl rfl))) (fun _ _ _ _ _ => pts_nil) (fun _ _ _ _ _ => (pv 4)) (fun _ _ _ _ _ => (pe_dget2 (hu_of hr) (pv 3) (pv 4) pe_int ⟨by rfl, by rfl, by rfl, by rfl⟩))) rfl)
    (pss_cons (ps_fld (pv 0) (pe_lst (pa_cons (pv 2) pa_nil)) rfl)
    (pss_one (ps_fld (pv 0) (pe_lst pa_nil) rfl)))))))), ?_⟩
  obtain ⟨h, b, pl, d0, dx, rs, sz, E0', ds, dv, H0, rfl, hh, s0, hct, hcd, hB, hpl, hd0, hds, hdv, k⟩ := h
  have hbig : sizeLine = 16777216 := sizeLine_eq
  have hnm := hB.nm
  have ndh : d0 ≠ h := fun z => by rw [z, hh] at hd0; cases hd0
  refine ⟨_, rfl, _, rfl, in_room (hB.mono s0).sz hnm hpl fun H1 s1 => ⟨_, rfl, _, rfl, iteF ?_⟩⟩
  have t1 := s0.trans s1
  have h1 := s1 _ _ hh
  have d1 := s1 _ _ hd0
  -- the dials' rooms
  refine ⟨d0, _, d1, trivial, fun od => ⟨_, rfl, d0, od, rfl, .inl ⟨_, upd_same, ?_⟩⟩⟩
  have tl : Same H0 (upd H1 d0 (.frz od (.dK (iD ds dv)))) := t1.mut hcd
  refine for_it (walk_keys (kvs := iD ds dv)) (fun i σ H' => Same (upd H1 d0 (.frz od (.dK (iD ds dv)))) H' ∧ ∃ x, σ = [some (.ref h), some (.ref b), some (.str pl), some (.ref d0), x, none]) ⟨Same.refl _, _, rfl⟩ (fun i σ H' _ h => h.1 _ _ upd_same) ?_ ?_
  · rintro i x σ H2 H2' hi ⟨s2, y, rfl⟩ ⟨rfl, k', v', hk', rfl⟩
    obtain ⟨r, hr', rfl, rfl⟩ := iD_at hk'
    refine ⟨_, rfl, _, rfl, in_room (hB.mono (tl.trans s2)).sz hnm (hds r hr') fun H' s' => ⟨_, rfl, _, rfl, iteF ⟨s2.trans s', _, rfl⟩⟩⟩
  rintro σ H2 ⟨s2, x2, rfl⟩
  refine ⟨s2 _ _ upd_same, ?_⟩
  have t3 : Same H0 (upd H2 d0 (.dK (iD ds dv))) := (tl.trans s2).mut hcd
  have h3 : upd H2 d0 (.dK (iD ds dv)) h = some (.ins (He.ga K "LoggedHouse") dx []) := lock_at s2 h1 (Ne.symm ndh)
  have d3 : upd H2 d0 (.dK (iD ds dv)) d0 = some (.dK (iD ds dv)) := upd_same
  generalize upd H2 d0 (.dK (iD ds dv)) = H3 at t3 h3 d3
  -- the dials' numbers
  refine ⟨d0, _, d3, trivial, fun od2 => ⟨_, rfl, d0, od2, _, rfl, upd_same, ?_⟩⟩
  have tl2 : Same H0 (upd H3 d0 (.frz od2 (.dK (iD ds dv)))) := t3.mut hcd
  refine for_it (walk_items (kvs := iD ds dv)) (fun i σ H' => Same (upd H3 d0 (.frz od2 (.dK (iD ds dv)))) H' ∧ ∃ x y, σ = [some (.ref h), some (.ref b), some (.str pl), some (.ref d0), x, y]) ⟨Same.refl _, _, _, rfl⟩ (fun i σ H' _ h => h.1 _ _ upd_same) ?_ ?_
  · rintro i x σ H4 H4' hi ⟨s4, y1, y2, rfl⟩ ⟨q, x1, x2, rfl, hq, rfl, g1, g2⟩
    obtain ⟨kv, hkv, rfl⟩ := Option.map_eq_some_iff.mp g1
    obtain ⟨kv2, hkv2, rfl⟩ := Option.map_eq_some_iff.mp g2
    obtain rfl : kv = kv2 := Option.some.inj (hkv.symm.trans hkv2)
    obtain ⟨kk, vv⟩ := kv
    obtain ⟨r, hr', rfl, rfl⟩ := iD_at hkv
    have s5 := s4.then_ (o := .tup [kV (Sum.inr r), .int (dv r)]) hq
    refine ⟨q, _, rfl, SqT.of upd_same, rfl, _, _, rfl, _, _, rfl, rfl, ?_⟩
    refine ⟨_, rfl, _, rfl, _, rfl, get_room (hB.mono (tl2.trans s5)).sz hnm (hds r hr') fun H' s' => ⟨_, _, rfl, rfl, dv r, 0, sz r - 1, rfl, _, rfl, ?_⟩⟩
    rw [decide_eq_true (hdv r hr').1, decide_eq_true (hdv r hr').2]
    exact iteF ⟨s5.trans s', _, _, rfl⟩
  rintro σ H4 ⟨s4, x4, y4, rfl⟩
  refine ⟨s4 _ _ upd_same, ?_⟩
  have t5 : Same H0 (upd H4 d0 (.dK (iD ds dv))) := (tl2.trans s4).mut hcd
  have h5 : upd H4 d0 (.dK (iD ds dv)) h = some (.ins (He.ga K "LoggedHouse") dx []) := lock_at s4 h3 (Ne.symm ndh)
  have d5 : upd H4 d0 (.dK (iD ds dv)) d0 = some (.dK (iD ds dv)) := upd_same
  generalize upd H4 d0 (.dK (iD ds dv)) = H5 at t5 h5 d5
  refine ⟨_, rfl, _, rfl, h, _, dx, [], rfl, h5, T.cl_LoggedHouse, T.naLoggedHouse_plan, (by show 0 < 1000; decide), ?_⟩
  have t6 : Same H0 (upd H5 h (.ins (He.ga K "LoggedHouse") dx (putF "plan" (.ref b) []))) := t5.mut hct
  have h6 : upd H5 h (.ins (He.ga K "LoggedHouse") dx (putF "plan" (.ref b) [])) h = some (.ins (He.ga K "LoggedHouse") dx [("plan", .ref b)]) := upd_same
  have d6 : upd H5 h (.ins (He.ga K "LoggedHouse") dx (putF "plan" (.ref b) [])) d0 = some (.dK (iD ds dv)) := by rw [upd_ne ndh]; exact d5
  generalize upd H5 h (.ins (He.ga K "LoggedHouse") dx (putF "plan" (.ref b) [])) = H6 at t6 h6 d6
  -- shown
  obtain ⟨dxb, fsb, sb, hb1, hb2, hb3⟩ := (hB.mono t6).sz
  refine ⟨_, rfl, b, dxb, fsb, rfl, hb1, b, rs, sz, rfl, (hB.mono t6).sz, fun p1 hp1 => ?_⟩
  refine ⟨p1, rfl, ⟨_, SqT.of upd_same⟩, fun D hD => ?_⟩
  have s7 : Same H6 (upd H6 p1 (.tup (rs.map V.str))) := Same.new hp1
  have e7 : upd H6 p1 (.tup (rs.map V.str)) p1 = some (.tup (rs.map V.str)) := upd_same
  generalize upd H6 p1 (.tup (rs.map V.str)) = H7 at s7 e7 hD
  refine dc_it (walk_tup (xs := rs.map V.str)) (fun i H' => Same H7 H' ∧ H' D = some (.dK (iD (rs.take i) fun r => if r ∈ ds then dv r else 0))) ⟨Same.new hD, upd_same⟩ (fun i H' _ h => SqT.of (h.1 _ _ e7)) ?_ ?_
  · rintro i x H8 H8' hi ⟨s8, f8⟩ ⟨rfl, hx⟩
    obtain ⟨z, hz, rfl⟩ := str_at hx
    have hi' : i < rs.length := (List.getElem?_eq_some_iff.mp hz).1
    have d8 := s8 _ _ (s7 _ _ d6)
    refine ⟨rfl, _, rfl, _, rfl, d0, rfl, .inl ⟨_, .inl d8⟩, _, rfl, _, DGet.is z (.inl d8), _, .inr z, rfl, f8, by rw [iD_len, List.length_take]; have := hnm.few; omega, s8.mut hD, ?_⟩
    have ev : (valV (iD ds dv) (.inr z)).getD (.int 0) = .int (if z ∈ ds then dv z else 0) := by
      rw [iD_val]
      by_cases c : z ∈ ds
      · rw [if_pos c, if_pos c]; rfl
      · rw [if_neg c, if_neg c]; rfl
    rw [ev, upd_same, iD_new (not_take hnm.nd hz), take_one hz]
    refine congrArg (fun o => some (HO.dK o)) (iD_congr fun r _ => ?_)
    by_cases e : r = z
    · rw [if_pos e, e]
    · rw [if_neg e]
  rintro H8 ⟨s8, f8⟩
  rw [List.length_map, List.take_length] at f8
  have h8 := s8 _ _ (s7 _ _ h6)
  have nDh : D ≠ h := fun z => by rw [z, h8] at f8; cases f8
  refine ⟨_, rfl, h, _, dx, _, rfl, h8, T.cl_LoggedHouse, T.naLoggedHouse_shown, (by show 1 < 1000; decide), ?_⟩
  have t9 : Same H0 (upd H8 h (.ins (He.ga K "LoggedHouse") dx (putF "shown" (.ref D) [("plan", .ref b)]))) := ((t6.trans s7).trans s8).mut hct
  have h9 : upd H8 h (.ins (He.ga K "LoggedHouse") dx (putF "shown" (.ref D) [("plan", .ref b)])) h = some (.ins (He.ga K "LoggedHouse") dx [("plan", .ref b), ("shown", .ref D)]) := upd_same
  have f9 : upd H8 h (.ins (He.ga K "LoggedHouse") dx (putF "shown" (.ref D) [("plan", .ref b)])) D = some (.dK (iD rs fun r => if r ∈ ds then dv r else 0)) := by rw [upd_ne nDh]; exact f8
  generalize upd H8 h (.ins (He.ga K "LoggedHouse") dx (putF "shown" (.ref D) [("plan", .ref b)])) = H9 at t9 h9 f9
  -- visited
  refine ⟨_, rfl, by show 1 ≤ sizeLine; omega, fun v hv => ?_⟩
  have nvh : v ≠ h := fun z => by rw [z, h9] at hv; cases hv
  refine ⟨_, rfl, h, _, dx, _, rfl, (Same.new hv) _ _ h9, T.cl_LoggedHouse, T.naLoggedHouse_visited, (by show 2 < 1000; decide), ?_⟩
  have t10 : Same H0 (upd (upd H9 v (.lst [.str pl])) h (.ins (He.ga K "LoggedHouse") dx (putF "visited" (.ref v) [("plan", .ref b), ("shown", .ref D)]))) := (t9.then_ hv).mut hct
  have h10 : upd (upd H9 v (.lst [.str pl])) h (.ins (He.ga K "LoggedHouse") dx (putF "visited" (.ref v) [("plan", .ref b), ("shown", .ref D)])) h = some (.ins (He.ga K "LoggedHouse") dx [("plan", .ref b), ("shown", .ref D), ("visited", .ref v)]) := upd_same
  have f10 : upd (upd H9 v (.lst [.str pl])) h (.ins (He.ga K "LoggedHouse") dx (putF "visited" (.ref v) [("plan", .ref b), ("shown", .ref D)])) D = some (.dK (iD rs fun r => if r ∈ ds then dv r else 0)) := by rw [upd_ne nDh]; exact (Same.new hv) _ _ f9
  have v10 : upd (upd H9 v (.lst [.str pl])) h (.ins (He.ga K "LoggedHouse") dx (putF "visited" (.ref v) [("plan", .ref b), ("shown", .ref D)])) v = some (.lst [.str pl]) := by rw [upd_ne nvh, upd_same]
  generalize upd (upd H9 v (.lst [.str pl])) h (.ins (He.ga K "LoggedHouse") dx (putF "visited" (.ref v) [("plan", .ref b), ("shown", .ref D)])) = H10 at t10 h10 f10 v10
  -- calls
  refine ⟨by show 0 ≤ sizeLine; omega, fun c hc => ?_⟩
  have nch : c ≠ h := fun z => by rw [z, h10] at hc; cases hc
  refine ⟨_, rfl, h, _, dx, _, rfl, (Same.new hc) _ _ h10, T.cl_LoggedHouse, T.naLoggedHouse_calls, (by show 3 < 1000; decide), ?_⟩
  exact k D v c _ ((t10.then_ hc).mut hct) upd_same ⟨by rw [upd_ne nDh]; exact (Same.new hc) _ _ f10, by rw [upd_ne nvh]; exact (Same.new hc) _ _ v10, by rw [upd_ne nch, upd_same]; rfl⟩
/-- how it binds -/
theorem kr_House (T : Says w K mg) (ks : List Str) (hks : ks.Nodup) (hkl : ks.length ≤ 30) (b : ∀ (kV doc pm : Value) (an : Option Addr) (cdv ct : Value) (us ws : List Value), us.length = (["self", "building", "place"] : List Str).length → ws.length = ks.length →
      bindArgs (PySem.W.fnOf "__init__" "House.__init__" (defArgs sHouse_init) (defBody sHouse_init) (defScope sHouse_init) .none kV doc pm an cdv ct) ⟨us, ks.zip ws⟩ =
        ((alloc ({ cls := .type "dict", data := .dict #[] } : Obj) : Sem Addr) >>= fun d => (forIn (ks.zip ws) PUnit.unit fun x _ => (nsSet d x.1 x.2 >>= fun _ => pure (ForInStep.yield PUnit.unit))) >>= fun _ => pure ((["self", "building", "place"] : List Str).zip us ++ [(("dials" : Str), Value.ref d)]))) :
    FnKR P w K mg base CX0 5 (He.ma K (He.ga K "LoggedHouse") "__init__") ks (fun vs zs H Q E => vs.length = (["self", "building", "place"] : List Str).length ∧ ∀ d, H d = none → spHouse (He.ga K "Building") (He.ga K "LoggedHouse") (vs ++ [.ref d]) (upd H d (.dK (kwD ks zs))) Q E) :=
  kw_of (ps := ["self", "building", "place"]) (pd := "dials") T.dHouse_init sc_House_init StX.cxUp_none hks hkl b (Body.c (body_House T))
theorem kr_House0 (T : Says w K mg) : FnKR P w K mg base CX0 5 (He.ma K (He.ga K "LoggedHouse") "__init__") [] (fun vs zs H Q E => vs.length = (["self", "building", "place"] : List Str).length ∧ ∀ d, H d = none → spHouse (He.ga K "Building") (He.ga K "LoggedHouse") (vs ++ [.ref d]) (upd H d (.dK (kwD [] zs))) Q E) :=
  kr_House T [] (by simp) (by simp) fun kV doc pm an cdv ct us ws h1 h2 => match us, ws, h1, h2 with | [a, b, c], [], _, _ => rfl
theorem kr_House3 (T : Says w K mg) : FnKR P w K mg base CX0 5 (He.ma K (He.ga K "LoggedHouse") "__init__") ["a", "b", "c"] (fun vs zs H Q E => vs.length = (["self", "building", "place"] : List Str).length ∧ ∀ d, H d = none → spHouse (He.ga K "Building") (He.ga K "LoggedHouse") (vs ++ [.ref d]) (upd H d (.dK (kwD ["a", "b", "c"] zs))) Q E) :=
  kr_House T ["a", "b", "c"] (by decide +kernel) (by simp) fun kV doc pm an cdv ct us ws h1 h2 => match us, ws, h1, h2 with | [a, b, c], [x, y, z], _, _ => rfl
/-! ### properties -/
def spHBuilding (C : Addr) : Sp := fun vs H Q _ => ∃ h dx b d v c, vs = [.ref h] ∧ HsAt C H h dx b d v c ∧ Q (.ref b) H
theorem sc_House_building : FnScope ["self"] ["self"] (defScope sHouse_building) := ⟨rfl, rfl, rfl, by decide +kernel, rfl, by decide +kernel, by decide +kernel⟩
theorem okHouse_building (T : Says w K mg) : Prp P w K mg base 1 (He.ga K "LoggedHouse") "building" (spHBuilding (He.ga K "LoggedHouse")) := by
  refine prp_of T.dHouse_building T.cl_LoggedHouse T.pHouse_building sc_House_building (lenSelf fun vs H Q E h => let ⟨b, _, _, _, _, _, e, _⟩ := h; ⟨b, e⟩) (fun _ _ _ _ _ _ us hl => match us, hl with | [_], _ => rfl) (fun cdv A outer s H vs Q E hr h => ?_)
  refine ⟨_, (pss_one (ps_ret (pe_fld (pv 0) rfl))), ?_⟩
  obtain ⟨h, dx, b, d, v, c, rfl, hh, k⟩ := h
  exact ⟨_, rfl, h, _, dx, _, _, rfl, hh, T.cl_LoggedHouse, T.naLoggedHouse_plan, rfl, k⟩
def spHPlace (C : Addr) : Sp := fun vs H Q _ => ∃ (h dx b d v c : Addr) (zs : List Str) (la : Str), vs = [.ref h] ∧ HsAt C H h dx b d v c ∧ H v = some (.lst (zs.map V.str)) ∧ zs.getLast? = some la ∧ Q (.str la) H
theorem sc_House_place : FnScope ["self"] ["self"] (defScope sHouse_place) := ⟨rfl, rfl, rfl, by decide +kernel, rfl, by decide +kernel, by decide +kernel⟩
theorem okHouse_place (T : Says w K mg) : Prp P w K mg base 1 (He.ga K "LoggedHouse") "place" (spHPlace (He.ga K "LoggedHouse")) := by
  refine prp_of T.dHouse_place T.cl_LoggedHouse T.pHouse_place sc_House_place (lenSelf fun vs H Q E h => let ⟨b, _, _, _, _, _, _, _, e, _⟩ := h; ⟨b, e⟩) (fun _ _ _ _ _ _ us hl => match us, hl with | [_], _ => rfl) (fun cdv A outer s H vs Q E hr h => ?_)
  refine ⟨_, (pss_one (ps_ret (pe_ix (r := rIxL K) ix_list (pe_fld (pv 0) rfl) (pe_un un_neg pe_int) (fun _ _ => rfl)))), ?_⟩
  obtain ⟨h, dx, b, d, v, c, zs, la, rfl, hh, hv, hla, k⟩ := h
  have hal : atI (zs.map V.str) (-1) = some (.str la) := by
    obtain ⟨ini, rfl⟩ : ∃ ini, zs = ini ++ [la] := List.getLast?_eq_some_iff.mp hla
    rw [List.map_append]
    exact atI_last _ _
  exact ⟨_, rfl, h, _, dx, _, _, rfl, hh, T.cl_LoggedHouse, T.naLoggedHouse_visited, rfl, 1, rfl, v, _, -1, _, rfl, rfl, SqL.of hv, hal, k⟩
def spHCount (C : Addr) : Sp := fun vs H Q _ => ∃ (h dx b d v c : Addr) (zs : List Str), vs = [.ref h] ∧ HsAt C H h dx b d v c ∧ H v = some (.lst (zs.map V.str)) ∧ Q (.int ((zs.length : Int) - 1)) H
theorem sc_House_step_count : FnScope ["self"] ["self"] (defScope sHouse_step_count) := ⟨rfl, rfl, rfl, by decide +kernel, rfl, by decide +kernel, by decide +kernel⟩
theorem okHouse_step_count (T : Says w K mg) : Prp P w K mg base 1 (He.ga K "LoggedHouse") "step_count" (spHCount (He.ga K "LoggedHouse")) := by
  refine prp_of T.dHouse_step_count T.cl_LoggedHouse T.pHouse_step_count sc_House_step_count (lenSelf fun vs H Q E h => let ⟨b, _, _, _, _, _, _, e, _⟩ := h; ⟨b, e⟩) (fun _ _ _ _ _ _ us hl => match us, hl with | [_], _ => rfl) (fun cdv A outer s H vs Q E hr h => ?_)
  refine ⟨_, (pss_one (ps_ret (pe_op op_sub (pe_callB (id := "len") call_len_seq (by rfl) T.z_len PySem.boot_len (pa_cons (pe_fld (pv 0) rfl) pa_nil)) pe_int))), ?_⟩
  obtain ⟨h, dx, b, d, v, c, zs, rfl, hh, hv, k⟩ := h
  refine ⟨_, rfl, h, _, dx, _, _, rfl, hh, T.cl_LoggedHouse, T.naLoggedHouse_visited, rfl, v, _, rfl, .inl (SqL.of hv), _, _, rfl, rfl, ?_⟩
  rw [List.length_map]
  exact k
/-! ### dials -/
theorem count_take_one {zs : List Str} {i : Nat} {z : Str} (h : zs[i]? = some z) (r : Str) : (zs.take (i + 1)).count r = (zs.take i).count r + if z = r then 1 else 0 := by
  rw [take_one h, List.count_append]
  by_cases c : z = r
  · subst c; simp
  · simp [c]
def spHDials (Cb C : Addr) : Sp := fun vs H Q _ => ∃ h dx b d v c rs sz E bg zs cs, vs = [.ref h] ∧ HsAt C H h dx b d v c ∧ HsIn H d v c rs bg zs cs ∧ BldAt Cb H b rs sz E ∧ Way rs zs ∧ (∀ r ∈ rs, 0 ≤ bg r ∧ bg r < sz r) ∧ ∀ q H', Same H H' → H' q = some (.dK (iD rs fun r => (bg r + cnt zs r) % sz r)) → Q (.ref q) H'
theorem sc_House_dials : FnScope ["self", "found", "room"] ["self"] (defScope sHouse_dials) := ⟨rfl, rfl, rfl, by decide +kernel, rfl, by decide +kernel, by decide +kernel⟩
theorem okHouse_dials (T : Says w K mg) : Prp P w K mg base 5 (He.ga K "LoggedHouse") "dials" (spHDials (He.ga K "Building") (He.ga K "LoggedHouse")) := by
  refine prp_of T.dHouse_dials T.cl_LoggedHouse T.pHouse_dials sc_House_dials (lenSelf fun vs H Q E h => let ⟨b, _, _, _, _, _, _, _, _, _, _, _, e, _⟩ := h; ⟨b, e⟩) (fun _ _ _ _ _ _ us hl => match us, hl with | [_], _ => rfl) (fun cdv A outer s H vs Q E hr h => ?_)
  refine ⟨_, (pss_cons (ps_set (i := 1) sc_House_dials.nd rfl (Or.inl rfl) (pe_callTy (T := "dict") call_dictD (by rfl) T.z_dict (by decide +kernel) (pa_cons (pe_fld (pv 0) rfl) pa_nil)))
    (pss_cons (ps_for PassesOwn.never rfl (pi_list (pe_slice (r := rSlL K) sl_list (pe_fld (pv 0) rfl) (po_some pe_int) po_none)) (pg_name (i := 2) sc_House_dials.nd rfl (Or.inl rfl)) (pss_one (ps_dput (hu_of hr) (pv 1) (pv 2) (pe_op op_mod (pe_op op_add (pe_dget (hu_of hr) (pv 1) (pv 2) (fun _ _ => rfl)) pe_int) (pe_subM (okBuilding_getitem T) (fnBuilding T) hr (by decide) (pe_fld (pv 0) rfl) (pv 2))) rfl)))
    (pss_one (ps_ret (pv 1))))), ?_⟩
  obtain ⟨h, dx, b, d, v, c, rs, sz, E0', bg, zs, cs, rfl, hh, hI, hB, hw, hbg, k⟩ := h
  have hnm := hB.nm
  refine ⟨_, rfl, h, _, dx, _, _, rfl, hh, T.cl_LoggedHouse, T.naLoggedHouse_shown, rfl, d, _, rfl, .inl hI.shown, fun q hq => ?_⟩
  have s1 : Same H (upd H q (.dK (iD rs bg))) := Same.new hq
  have q1 : upd H q (.dK (iD rs bg)) q = some (.dK (iD rs bg)) := upd_same
  generalize upd H q (.dK (iD rs bg)) = H1 at s1 q1
  refine ⟨_, rfl, h, _, dx, _, _, rfl, s1 _ _ hh, T.cl_LoggedHouse, T.naLoggedHouse_visited, rfl, 1, rfl, v, _, rfl, SqL.of (s1 _ _ hI.visited), fun p hp => ?_⟩
  rw [show ((1 : Int)) = ((1 : Nat) : Int) from rfl, cut_from, ← List.map_drop]
  have p2 : upd H1 p (.lst ((zs.drop 1).map V.str)) p = some (.lst ((zs.drop 1).map V.str)) := upd_same
  have s2 : Same H (upd H1 p (.lst ((zs.drop 1).map V.str))) := s1.then_ hp
  have q2 : upd H1 p (.lst ((zs.drop 1).map V.str)) q = some (.dK (iD rs bg)) := (Same.new hp) _ _ q1
  generalize upd H1 p (.lst ((zs.drop 1).map V.str)) = H2 at s2 p2 q2
  have npq : p ≠ q := fun z => by rw [z, q2] at p2; cases p2
  refine ⟨p, rfl, ⟨_, SqL.of p2⟩, for_it (walk_list (xs := (zs.drop 1).map V.str)) (fun i σ H' => Same H H' ∧ H' p = some (.lst ((zs.drop 1).map V.str)) ∧ H' q = some (.dK (iD rs fun r => (bg r + ((((zs.drop 1).take i).count r : Nat) : Int)) % sz r)) ∧ ∃ x, σ = [some (.ref h), some (.ref q), x]) ⟨s2, p2, ?_, _, rfl⟩ (fun i σ H' _ h => SqL.of h.2.1) ?_ ?_⟩
  · rw [q2]
    refine congrArg (fun o => some (HO.dK o)) (iD_congr fun r hr => ?_)
    have := hbg r hr
    rw [List.take_zero, List.count_nil]
    simp only [Int.natCast_zero, Int.add_zero]
    exact (Int.emod_eq_of_lt this.1 this.2).symm
  · rintro i x σ H3 H3' hi ⟨s3, p3, q3, y, rfl⟩ ⟨rfl, hx⟩
    obtain ⟨z, hz, rfl⟩ := str_at hx
    have hzr : z ∈ rs := hw.mem z (List.mem_of_mem_drop (List.mem_of_getElem? hz))
    have hpos : 0 < sz z := by have := (hB.pos z hzr).1; omega
    have hlen : rs.length ≤ 24 := hnm.few
    refine ⟨_, rfl, _, rfl, q, _, rfl, DGet.i (.inl q3) hzr, _, _, rfl, rfl, _, rfl, h, _, dx, _, _, rfl, s3 _ _ hh, T.cl_LoggedHouse, T.naLoggedHouse_plan, rfl, _, rfl, get_room (hB.mono s3).sz hnm hzr fun H4 s4 => ?_⟩
    refine ⟨_, _, rfl, rfl, hpos, _, rfl, _, rfl, q, _, rfl, DPut.k (k := .inr z) (s4 _ _ q3) (by rw [iD_len, sizeLine_eq]; omega), (s3.trans s4).mut hq, ?_, ?_, _, rfl⟩
    · rw [upd_ne npq]; exact s4 _ _ p3
    · rw [upd_same, iD_put hzr]
      refine congrArg (fun o => some (HO.dK o)) (iD_congr fun r hr => ?_)
      show (if r = z then _ else _) = _
      rw [count_take_one hz]
      by_cases e : r = z
      · subst e
        rw [if_pos rfl, if_pos rfl, Int.emod_add_emod, Int.natCast_add]
        congr 1
        omega
      · rw [if_neg e, if_neg (Ne.symm e)]
        simp
  · rintro σ H3 ⟨s3, p3, q3, y, rfl⟩
    refine ⟨_, rfl, k q H3 s3 ?_⟩
    rw [List.length_map, List.take_length] at q3
    exact q3
/-! ### walk, trace, log -/
def spHWalk (Cw C : Addr) : Sp := fun vs H Q _ => ∃ (h dx b d v c : Addr) (zs : List Str), vs = [.ref h] ∧ HsAt C H h dx b d v c ∧ H v = some (.lst (zs.map V.str)) ∧ Steps zs ∧ zs ≠ [] ∧ zs.length ≤ 1000 ∧ ∀ a H', Same H H' → WlkAt Cw H' a zs → Q (.ref a) H'
theorem sc_House_walk : FnScope ["self", "rooms"] ["self"] (defScope sHouse_walk) := ⟨rfl, rfl, rfl, by decide +kernel, rfl, by decide +kernel, by decide +kernel⟩
theorem okHouse_walk (T : Says w K mg) : Prp P w K mg base 6 (He.ga K "LoggedHouse") "walk" (spHWalk (He.ga K "Walk") (He.ga K "LoggedHouse")) := by
  refine prp_of T.dHouse_walk T.cl_LoggedHouse T.pHouse_walk sc_House_walk (lenSelf fun vs H Q E h => let ⟨b, _, _, _, _, _, _, e, _⟩ := h; ⟨b, e⟩) (fun _ _ _ _ _ _ us hl => match us, hl with | [_], _ => rfl) (fun cdv A outer s H vs Q E hr h => ?_)
  refine ⟨_, (pss_cons (ps_set (i := 1) sc_House_walk.nd rfl (Or.inl rfl) (pe_callTy (T := "tuple") call_tuple_of (by rfl) T.z_tuple (by decide +kernel) (pa_cons (pe_fld (pv 0) rfl) pa_nil)))
    (pss_one (ps_ret (pe_makeS1 T.mk_Walk (okWalk_init T) hr (by decide) rfl T.g_Walk (pv 1))))), ?_⟩
  obtain ⟨h, dx, b, d, v, c, zs, rfl, hh, hv, hs, hne, hl, k⟩ := h
  refine ⟨_, rfl, h, _, dx, _, _, rfl, hh, T.cl_LoggedHouse, T.naLoggedHouse_visited, rfl, v, _, rfl, .inl ⟨SqL.of hv, fun t ht => ?_⟩⟩
  have s1 : Same H (upd H t (.tup (zs.map V.str))) := Same.new ht
  refine ⟨_, rfl, t, _, rfl, .inl (SqT.of upd_same), fun x dx' hx hdx hne' => ⟨_, _, rfl, by rw [List.length_map, sizeLine_eq]; omega, fun p hp => ?_⟩⟩
  have sn : Same (upd H t (.tup (zs.map V.str))) (upd (upd (upd (upd H t (.tup (zs.map V.str))) dx' (.own x)) x (.ins (He.ga K "Walk") dx' [])) p (.tup (zs.map V.str))) := ((Same.new hdx).then_ (by rw [upd_ne (Ne.symm hne')]; exact hx)).then_ hp
  have npx : x ≠ p := fun z => by rw [← z, upd_same] at hp; cases hp
  refine ⟨x, p, dx', zs, rfl, by rw [upd_ne npx]; exact upd_same, upd_same, hs, hne, hl, fun H' fr hW => ⟨rfl, k x H' (s1.trans ?_) hW⟩⟩
  intro y o hy
  have n1 : y ≠ x := ne_of_none hy hx
  exact fr y o (sn y o hy) (by simp [n1])
def spHTrace (K : PySem.W.Frag) : Sp := fun vs H Q _ => ∃ (h dx b d v c : Addr) (zs rs : List Str) (sz : Str → Int) (E : List Cor), vs = [.ref h] ∧ HsAt (He.ga K "LoggedHouse") H h dx b d v c ∧ H v = some (.lst (zs.map V.str)) ∧ BldAt (He.ga K "Building") H b rs sz E ∧ Way rs zs ∧
  ∀ t H' f la, Same H H' → zs.head? = some f → zs.getLast? = some la → TrcAt (He.ga K "Trace") H' t b f la rs (fun r => cnt zs r % sz r) → Q (.ref t) H'
theorem sc_House_trace : FnScope ["self"] ["self"] (defScope sHouse_trace) := ⟨rfl, rfl, rfl, by decide +kernel, rfl, by decide +kernel, by decide +kernel⟩
theorem okHouse_trace (T : Says w K mg) : Prp P w K mg base 8 (He.ga K "LoggedHouse") "trace" (spHTrace K) := by
  refine prp_of T.dHouse_trace T.cl_LoggedHouse T.pHouse_trace sc_House_trace (lenSelf fun vs H Q E h => let ⟨b, _, _, _, _, _, _, _, _, _, e, _⟩ := h; ⟨b, e⟩) (fun _ _ _ _ _ _ us hl => match us, hl with | [_], _ => rfl) (fun cdv A outer s H vs Q E hr h => ?_)
  refine ⟨_, (pss_one (ps_ret (C8.pe_c (ok_trace_along T) hr (by decide) rfl (pa_cons (pe_fld (pv 0) rfl) (pa_cons (pe_fld (pv 0) rfl) pa_nil))))), ?_⟩
  obtain ⟨h, dx, b, d, v, c, zs, rs, sz, E0', rfl, hh, hv, hB, hw, k⟩ := h
  exact ⟨_, rfl, h, _, dx, _, _, rfl, hh, T.cl_LoggedHouse, T.naLoggedHouse_plan, rfl, _, rfl, h, _, dx, _, _, rfl, hh, T.cl_LoggedHouse, T.naLoggedHouse_visited, rfl, b, v, zs, rs, sz, E0', rfl, hB, hv, hw, k⟩
theorem pair_get {α β : Type} {F : α → β → Prop} {l : List α} {m : List β} (h : Paired F l m) {i : Nat} {a : α} (e : l[i]? = some a) : ∃ b, m[i]? = some b ∧ F a b := by
  induction h generalizing i with
  | nil => simp at e
  | cons h t ih => cases i with
    | zero => simp at e; subst e; exact ⟨_, rfl, h⟩
    | succ i => simp at e; exact ih e
/-- the rooms of each call -/
def partsOf (zs : List Str) (ns : List Nat) : List (List Str) := (List.zip (0 :: ns) ns).map fun p => (zs.take (p.2 + 1)).drop p.1
/-- traces of those rooms -/
def Traces (C : Addr) (H : Hp) (b : Addr) (rs : List Str) (sz : Str → Int) (ts : List Addr) (ps : List (List Str)) : Prop :=
  Paired (fun t p => ∃ f la, p.head? = some f ∧ p.getLast? = some la ∧ TrcAt C H t b f la rs (fun r => cnt p r % sz r)) ts ps
theorem Traces.mono {C : Addr} {H H' : Hp} {b : Addr} {rs : List Str} {sz : Str → Int} {ts : List Addr} {ps : List (List Str)} (h : Traces C H b rs sz ts ps) (e : Same H H') : Traces C H' b rs sz ts ps :=
  pair_map h fun _ _ ⟨f, la, h1, h2, h3⟩ => ⟨f, la, h1, h2, h3.mono e⟩
def spHLog (K : PySem.W.Frag) : Sp := fun vs H Q _ => ∃ (h dx b d v c : Addr) (zs rs : List Str) (sz : Str → Int) (E : List Cor) (ns : List Nat), vs = [.ref h] ∧ HsAt (He.ga K "LoggedHouse") H h dx b d v c ∧ H v = some (.lst (zs.map V.str)) ∧ H c = some (.lst (ns.map fun n => V.int (n : Nat))) ∧
  BldAt (He.ga K "Building") H b rs sz E ∧ (∀ p ∈ partsOf zs ns, Way rs p) ∧ ns.length ≤ 1000 ∧ ∀ q ts H', Same H H' → H' q = some (.lst (ts.map V.ref)) → Traces (He.ga K "Trace") H' b rs sz ts (partsOf zs ns) → Q (.ref q) H'
theorem sc_LoggedHouse_log : FnScope ["self", "parts", "begin", "end", "rooms"] ["self"] (defScope sLoggedHouse_log) := ⟨rfl, rfl, rfl, by decide +kernel, rfl, by decide +kernel, by decide +kernel⟩
theorem okLoggedHouse_log (T : Says w K mg) : Prp P w K mg base 8 (He.ga K "LoggedHouse") "log" (spHLog K) := by
  refine prp_of T.dLoggedHouse_log T.cl_LoggedHouse T.pLoggedHouse_log sc_LoggedHouse_log (lenSelf fun vs H Q E h => let ⟨b, _, _, _, _, _, _, _, _, _, _, e, _⟩ := h; ⟨b, e⟩) (fun _ _ _ _ _ _ us hl => match us, hl with | [_], _ => rfl) (fun cdv A outer s H vs Q E hr h => ?_)
  refine ⟨_, (pss_cons (ps_setLc (i := 1) (own := [("begin", 2), ("end", 3)]) (g := (gTup K 2 (gCons (gName 2) (gCons (gName 3) gNil)))) (tt := tYes) rfl sc_LoggedHouse_log.nd rfl rfl (sw_true rfl rfl rfl (by decide +kernel)) (pi_zip (by rfl) T.z_zip (pa_cons (pe_lst (pa_cons pe_int (StX.pa_star (pe_fld (pv 0) rfl) pa_nil))) (pa_cons (pe_fld (pv 0) rfl) pa_nil))) (blkOk_by (own := [("begin", 2), ("end", 3)]) (N := ["self", "parts", "begin", "end", "rooms"]) (sc := defScope sLoggedHouse_log) (by decide +kernel)) (fun _ _ _ _ _ => (pg_tup rfl (pgs_cons (pg_name (i := 2) sc_LoggedHouse_log.nd rfl (Or.inl rfl)) (pgs_cons (pg_name (i := 3) sc_LoggedHouse_log.nd rfl (Or.inl rfl)) pgs_nil)))) (fun _ _ _ _ _ => pts_nil) (fun _ _ _ _ _ => (pe_slice (r := rSlL K) sl_list (show PE _ _ (tFld K _ "visited") from (pe_fld (pv 0) rfl)) (po_some (pv 2)) (po_some (pe_op op_add (pv 3) pe_int)))))
    (pss_one (ps_ret (pe_lc (own := [("rooms", 4)]) (g := (gName 4)) (tt := tYes) rfl sc_LoggedHouse_log.nd (pi_list (pv 1)) (blkOk_by (own := [("rooms", 4)]) (N := ["self", "parts", "begin", "end", "rooms"]) (sc := defScope sLoggedHouse_log) (by decide +kernel)) (fun _ _ _ _ _ => (pg_name (i := 4) sc_LoggedHouse_log.nd rfl (Or.inl rfl))) (fun _ _ _ _ _ => pts_nil) (fun _ _ _ _ _ => (C8.pe_c (ok_trace_along T) hr (by decide) rfl (pa_cons (show PE _ _ (tFld K _ "plan") from (pe_fld (pv 0) rfl)) (pa_cons (pv 4) pa_nil)))))))), ?_⟩
  obtain ⟨h, dx, b, d, v, c, zs, rs, sz, E0', ns, rfl, hh, hv, hc, hB, hw, hl, k⟩ := h
  have hbig : sizeLine = 16777216 := sizeLine_eq
  refine ⟨_, rfl, h, _, dx, _, _, rfl, hh, T.cl_LoggedHouse, T.naLoggedHouse_calls, rfl, ?_⟩
  refine ⟨c, _, rfl, .inr (SqL.of hc), by simp only [List.length_cons, List.length_append, List.length_map, List.length_nil]; omega, fun z hz => ?_⟩
  rw [List.append_nil]
  have s1 : Same H (upd H z (.lst (V.int 0 :: ns.map fun n => V.int (n : Nat)))) := Same.new hz
  have z1 : upd H z (.lst (V.int 0 :: ns.map fun n => V.int (n : Nat))) z = some (.lst ((0 :: ns).map fun n => V.int (n : Nat))) := upd_same
  generalize upd H z (.lst (V.int 0 :: ns.map fun n => V.int (n : Nat))) = H1 at s1 z1
  refine ⟨_, rfl, h, _, dx, _, _, rfl, s1 _ _ hh, T.cl_LoggedHouse, T.naLoggedHouse_calls, rfl, z, c, _, _, rfl, SqL.of z1, SqL.of (s1 _ _ hc), fun D hD => ?_⟩
  have hzl : (List.zip (0 :: ns) ns).length = ns.length := by rw [List.length_zip]; simp
  refine lc_it (walk_zip (n := ns.length) (by simp)) (fun i H' => Same H1 H' ∧ ∃ ls : List Addr, H' D = some (.lst (ls.map V.ref)) ∧ Paired (fun l p => l ≠ D ∧ H' l = some (.lst (p.map V.str))) ls ((partsOf zs ns).take i)) ⟨Same.new hD, [], upd_same, by rw [List.take_zero]; exact .nil⟩ (fun i H' _ h => ⟨SqL.of (h.1 _ _ z1), SqL.of (h.1 _ _ (s1 _ _ hc))⟩) ?_ ?_
  · rintro i x H2 H2' hi ⟨s2, ls, e1, e2⟩ ⟨t, x1, x2, rfl, ht, rfl, g1, g2⟩
    have g1 : ((0 :: ns).map fun n => V.int (n : Nat))[i]? = some x1 := g1
    have g2 : (ns.map fun n => V.int (n : Nat))[i]? = some x2 := g2
    rw [List.getElem?_map] at g1 g2
    obtain ⟨bi, hbi, rfl⟩ := Option.map_eq_some_iff.mp g1
    obtain ⟨ei, hei, rfl⟩ := Option.map_eq_some_iff.mp g2
    have hpi : (partsOf zs ns)[i]? = some ((zs.take (ei + 1)).drop bi) := by
      unfold partsOf
      have hz : (List.zip (0 :: ns) ns)[i]? = some (bi, ei) := List.getElem?_zip_eq_some.mpr ⟨hbi, hei⟩
      rw [List.getElem?_map, hz]
      rfl
    have hlsl : ls.length = i := by
      rw [e2.length, List.length_take]
      have := (List.getElem?_eq_some_iff.mp hpi).1
      omega
    have s3 := s1.trans (s2.then_ (o := .tup [.int (bi : Nat), .int (ei : Nat)]) ht)
    refine ⟨t, _, rfl, SqT.of upd_same, rfl, _, _, rfl, _, _, rfl, rfl, rfl, _, rfl, h, _, dx, _, _, rfl, s3 _ _ hh, T.cl_LoggedHouse, T.naLoggedHouse_visited, rfl, _, rfl, _, rfl, _, rfl, _, _, rfl, rfl, _, rfl, v, _, rfl, SqL.of (s3 _ _ hv), fun p hp => ?_⟩
    rw [show ((ei : Nat) : Int) + 1 = ((ei + 1 : Nat) : Int) from by omega, cut_ft, ← List.map_take, ← List.map_drop]
    have nDt : D ≠ t := fun z => by rw [← z, e1] at ht; cases ht
    have nDp : D ≠ p := fun z => by rw [← z, (Same.new ht) _ _ e1] at hp; cases hp
    refine ⟨_, (Same.new hp) _ _ ((Same.new ht) _ _ e1), by rw [List.length_map]; omega, (((s2.then_ ht).then_ hp).mut hD), ls ++ [p], by rw [upd_same, List.map_append]; rfl, ?_⟩
    rw [take_one hpi]
    refine Paired.snoc (pair_map e2 fun l q hl => ⟨hl.1, ?_⟩) ⟨Ne.symm nDp, by rw [upd_ne (Ne.symm nDp)]; exact upd_same⟩
    rw [upd_ne hl.1]
    exact (Same.new hp) _ _ ((Same.new ht) _ _ hl.2)
  rintro H2 ⟨s2, ls, e1, e2⟩
  have hpl : (partsOf zs ns).length = ns.length := by unfold partsOf; rw [List.length_map, hzl]
  rw [← hpl, List.take_length] at e2
  have s12 := s1.trans s2
  refine ⟨_, rfl, D, rfl, ⟨_, SqL.of e1⟩, fun D2 hD2 => ?_⟩
  refine lc_it (walk_list (xs := ls.map V.ref)) (fun i H' => Same H2 H' ∧ ∃ ts : List Addr, H' D2 = some (.lst (ts.map V.ref)) ∧ Traces (He.ga K "Trace") H' b rs sz ts ((partsOf zs ns).take i)) ⟨Same.new hD2, [], upd_same, by rw [List.take_zero]; exact .nil⟩ (fun i H' _ h => SqL.of (h.1 _ _ e1)) ?_ ?_
  · rintro i x H3 H3' hi ⟨s3, ts, f1, f2⟩ ⟨rfl, hx⟩
    rw [List.getElem?_map] at hx
    obtain ⟨l, hl', rfl⟩ := Option.map_eq_some_iff.mp hx
    have hil : i < ls.length := (List.getElem?_eq_some_iff.mp hl').1
    have hip : i < (partsOf zs ns).length := by rw [← e2.length]; exact hil
    have hp : (partsOf zs ns)[i]? = some (partsOf zs ns)[i] := List.getElem?_eq_getElem hip
    generalize (partsOf zs ns)[i] = part at hp
    have hlp : H2 l = some (.lst (part.map V.str)) := by
      obtain ⟨q, hq, hq2⟩ := pair_get e2 hl'
      rw [hp] at hq
      rw [Option.some.inj hq]
      exact hq2.2
    have s4 := s12.trans s3
    have htl : ts.length = i := by rw [f2.length, List.length_take]; omega
    refine ⟨rfl, _, rfl, h, _, dx, _, _, rfl, s4 _ _ hh, T.cl_LoggedHouse, T.naLoggedHouse_plan, rfl, _, rfl, b, l, part, rs, sz, E0', rfl, hB.mono s4, s3 _ _ hlp, hw part (List.mem_of_getElem? hp), fun t H5 f la s5 hf hla hT => ?_⟩
    have nDt : D2 ≠ t := fun z => by
      obtain ⟨_, _, _, _, _, q1, _⟩ := hT
      rw [← z, s5 _ _ f1] at q1
      cases q1
    refine ⟨_, s5 _ _ f1, by rw [List.length_map]; omega, ((s3.trans s5).mut hD2), ts ++ [t], by rw [upd_same, List.map_append]; rfl, ?_⟩
    rw [take_one hp]
    have go : ∀ {a p}, (∃ f la, p.head? = some f ∧ p.getLast? = some la ∧ TrcAt (He.ga K "Trace") H5 a b f la rs (fun r => cnt p r % sz r)) → ∃ f la, p.head? = some f ∧ p.getLast? = some la ∧ TrcAt (He.ga K "Trace") (upd H5 D2 (.lst (ts.map V.ref ++ [V.ref t]))) a b f la rs (fun r => cnt p r % sz r) := by
      rintro a p ⟨f, la, k1, k2, dx', d', k', v1, v2, k3, k4, k5⟩
      have n1 : a ≠ D2 := fun z => by rw [z, s5 _ _ f1] at k3; cases k3
      have n2 : d' ≠ D2 := fun z => by rw [z, s5 _ _ f1] at k4; cases k4
      have n3 : k' ≠ D2 := fun z => by rw [z, s5 _ _ f1] at k5; cases k5
      exact ⟨f, la, k1, k2, dx', d', k', v1, v2, by rw [upd_ne n1]; exact k3, by rw [upd_ne n2]; exact k4, by rw [upd_ne n3]; exact k5⟩
    exact Paired.snoc (pair_map (f2.mono s5) fun a p h => go h) (go ⟨f, la, hf, hla, hT⟩)
  · rintro H3 ⟨s3, ts, f1, f2⟩
    rw [List.length_map, e2.length, List.take_length] at f2
    exact k D2 ts H3 (s12.trans s3) f1 f2
end
end RD

/-! RDTape: the tape of the law. -/
namespace RD
open PySem PySem.Spec PyProof.Rows L2
section
variable {P : Program} {w : World} {K : PySem.W.Frag} {mg : Str → Option Value} {base : Heap}
def tapeD (c : Addr) (place : Nat) (left : Int) : List (Key × V) := [(.inr "cells", .ref c), (.inr "place", .int (place : Nat)), (.inr "left", .int left)]
/-- a tape: its cells' list, its place, what is left of a number -/
structure TapeAt (H : Hp) (t c : Addr) (ns : List Int) (place : Nat) (left : Int) : Prop where
  dict : H t = some (.dK (tapeD c place left))
  cells : H c = some (.lst (ns.map V.int))
  ne : ns ≠ []
  few : ns.length ≤ 63
  pos : 0 ≤ left
  small : place ≤ 100000
theorem sc_begin : FnScope ["_law_script"] ["_law_script"] (defScope s_begin) := ⟨rfl, rfl, rfl, by decide +kernel, rfl, by decide +kernel, by decide +kernel⟩
theorem ok_begin (T : Says w K mg) : C8.Cal P w K mg base 1 "_law_begin" (fun vs H Q _ => ∃ (a : Addr) (ns : List Int), vs = [.ref a] ∧ SqL K H a (ns.map V.int) ∧ ∀ t c ms H', Same H H' → H t = none → TapeAt H' t c ms 0 0 → Q (.ref t) H') [] := by
  refine cal_of T.d_begin T.g_begin sc_begin (fun vs H Q E h => ?_) (fun _ _ _ _ _ _ us hl => match us, hl with | [_], _ => rfl) (fun cdv A outer s H vs Q E hr h => ?_)
  · obtain ⟨x, y, rfl, _⟩ := h; rfl
  refine ⟨_, (pss_one (ps_ret (pe_disp (pps_cons pe_str (pe_orT (pe_slice (r := rSlL K) sl_list (pv 0) po_none (po_some pe_int)) (pe_one (pe_lst (pa_cons pe_int pa_nil)))) (pps_cons pe_str pe_int (pps_cons pe_str pe_int pps_nil))) (by rfl) (by rfl) (fun z => by cases z) (by decide)))), ?_⟩
  obtain ⟨a, ns, rfl, ha, k⟩ := h
  have hbig : sizeLine = 16777216 := sizeLine_eq
  intro t ht
  have s0 : Same H (upd H t (.dK [])) := Same.new ht
  have ext : ∀ {H'}, Same H H' → SqL K H' a (ns.map V.int) := fun e => ha.ext e
  refine ⟨_, rfl, 63, rfl, a, _, rfl, ext s0, fun p hp => ?_⟩
  rw [show ((63 : Int)) = ((63 : Nat) : Int) from rfl, cut_to, ← List.map_take]
  have npt : p ≠ t := fun z => by rw [z, upd_same] at hp; cases hp
  have s1 := s0.then_ (o := .lst ((ns.take 63).map V.int)) hp
  have p1 : upd (upd H t (.dK [])) p (.lst ((ns.take 63).map V.int)) p = some (.lst ((ns.take 63).map V.int)) := upd_same
  have t1 : upd (upd H t (.dK [])) p (.lst ((ns.take 63).map V.int)) t = some (.dK []) := (Same.new hp) _ _ upd_same
  generalize upd (upd H t (.dK [])) p (.lst ((ns.take 63).map V.int)) = H1 at s1 p1 t1
  have fin : ∀ (c : Addr) (ms : List Int) H2, Same H H2 → H2 t = some (.dK []) → H2 c = some (.lst (ms.map V.int)) → ms ≠ [] → ms.length ≤ 63 → H2 t = some (.dK []) ∧ ∃ kvs : List (Key × V), [(V.str "cells", V.ref c), (V.str "place", V.int 0), (V.str "left", V.int 0)] = kvs.map (fun kv => (kV kv.1, kv.2)) ∧ kvs.length ≤ 15 ∧ Q (.ref t) (upd H2 t (.dK (mergeK [] kvs))) := fun c ms H2 s2 t2 c2 hne hl => by
    refine ⟨t2, [(.inr "cells", .ref c), (.inr "place", .int 0), (.inr "left", .int 0)], rfl, by show 3 ≤ 15; decide, ?_⟩
    have nct : c ≠ t := fun z => by rw [z, t2] at c2; cases c2
    exact k t c ms _ (s2.mut ht) ht ⟨upd_same, by rw [upd_ne nct]; exact c2, hne, hl, Int.le_refl _, Nat.zero_le _⟩
  refine ⟨!(ns.take 63).isEmpty, .inl ⟨_, SqL.of p1, by cases ns <;> rfl⟩, ite2 (fun c => ?_) (fun c => ?_)⟩
  · exact fin p (ns.take 63) H1 s1 t1 p1 (by simpa using c) (by rw [List.length_take]; omega)
  · refine ⟨by show 1 ≤ sizeLine; omega, fun q hq => ?_⟩
    exact fin q [0] _ (s1.then_ hq) ((Same.new hq) _ _ t1) upd_same (by simp) (by simp)
theorem tape_left {H : Hp} {t c : Addr} {place : Nat} {left : Int} (h : H t = some (.dK (tapeD c place left))) : DGet H t (.str "left") (some (.int left)) := by
  have := DGet.k (k := .inr "left") h
  exact this
theorem tape_place {H : Hp} {t c : Addr} {place : Nat} {left : Int} (h : H t = some (.dK (tapeD c place left))) : DGet H t (.str "place") (some (.int (place : Nat))) := by
  have := DGet.k (k := .inr "place") h
  exact this
theorem tape_cells {H : Hp} {t c : Addr} {place : Nat} {left : Int} (h : H t = some (.dK (tapeD c place left))) : DGet H t (.str "cells") (some (.ref c)) := by
  have := DGet.k (k := .inr "cells") h
  exact this
theorem put_left (c : Addr) (place : Nat) (left l' : Int) : putK (tapeD c place left) (.inr "left") (.int l') = tapeD c place l' := rfl
theorem put_place (c : Addr) (place : Nat) (left : Int) : putK (tapeD c place left) (.inr "place") (.int ((place : Int) + 1)) = tapeD c (place + 1) left := rfl
theorem sc_draw : FnScope ["_law_tape", "_law_many", "_law_place", "_law_cells", "_law_cell", "_law_found"] ["_law_tape", "_law_many"] (defScope s_draw) := ⟨rfl, rfl, rfl, by decide +kernel, rfl, by decide +kernel, by decide +kernel⟩
def spDraw : Sp := fun vs H Q _ => ∃ (t c : Addr) (ns : List Int) (place : Nat) (left many : Int), vs = [.ref t, .int many] ∧ TapeAt H t c ns place left ∧ place < 100000 ∧ 0 < many ∧ many ≤ 1000000000 ∧
  ∀ (r : Int) place' left' H', 0 ≤ r → r < many → place' ≤ place + 1 → Frm [t] H H' → TapeAt H' t c ns place' left' → Q (.int r) H'
theorem ok_draw (T : Says w K mg) : C8.Cal P w K mg base 1 "_law_draw" spDraw [] := by
  refine cal_of T.d_draw T.g_draw sc_draw (fun vs H Q E h => ?_) (fun _ _ _ _ _ _ us hl => match us, hl with | [_, _], _ => rfl) (fun cdv A outer s H vs Q E hr h => ?_)
  · obtain ⟨_, _, _, _, _, _, rfl, _⟩ := h; rfl
  refine ⟨_, (pss_cons (ps_if (pt_cmpR op_lt (pe_dget (hu_of hr) (pv 0) pe_str (fun _ _ => rfl)) (pv 1) (nomark _)) (pss_cons (ps_par (i := 2) (j := 3) (by rfl) sc_draw.nd rfl rfl (by decide) rfl rfl (pa_cons (pe_dget (hu_of hr) (pv 0) pe_str (fun _ _ => rfl)) (pa_cons (pe_dget (hu_of hr) (pv 0) pe_str (fun _ _ => rfl)) pa_nil)) (by rfl))
    (pss_cons (ps_asg (pe_tup (pa_cons (pe_ix (r := rIxL K) ix_list (pv 3) (pe_op op_mod (pe_callTy (T := "int") call_int1 (by rfl) T.z_int (by decide +kernel) (pa_cons (pv 2) pa_nil)) (pe_callB (id := "len") call_len_seq (by rfl) T.z_len PySem.boot_len (pa_cons (pv 3) pa_nil))) (fun _ _ => rfl)) (pa_cons (pe_op op_add (pv 2) pe_int) pa_nil))) (pg_tup rfl (pgs_cons (pg_name (i := 4) sc_draw.nd rfl (Or.inl rfl)) (pgs_cons (pg_sub (pv 0) pe_str (set_dict (hu_of hr))) pgs_nil))))
    (pss_cons (ps_dput (hu_of hr) (pv 0) pe_str (pe_op op_mod (pe_callTy (T := "int") call_int1 (by rfl) T.z_int (by decide +kernel) (pa_cons (pe_op op_pow (pe_op op_add (pe_op op_add (pe_op op_mod (pe_callTy (T := "int") call_int1 (by rfl) T.z_int (by decide +kernel) (pa_cons (pv 4) pa_nil)) pe_int) (pe_op op_mul pe_int (pv 2))) pe_int) pe_int) pa_nil)) (pe_op op_add (pe_op op_pow pe_int pe_int) pe_int)) rfl)
    (pss_one (ps_if (PW.pt (pw_and (pt_cmpR op_ge (pv 4) (pe_op op_pow pe_int pe_int) (nomark _)) (pw_and1 (pt_cmpR op_lt (pv 2) (pe_callB (id := "len") call_len_seq (by rfl) T.z_len PySem.boot_len (pa_cons (pv 3) pa_nil)) (nomark _))))) (pss_one (ps_dput (hu_of hr) (pv 0) pe_str (pe_op op_sub (pv 4) (pe_op op_pow pe_int pe_int)) rfl)) pss_nil))))) pss_nil)
    (pss_cons (ps_asg (pe_tup (pa_cons (pe_op op_mod (pe_callTy (T := "int") call_int1 (by rfl) T.z_int (by decide +kernel) (pa_cons (pe_dget (hu_of hr) (pv 0) pe_str (fun _ _ => rfl)) pa_nil)) (pv 1)) (pa_cons (pe_op op_fdiv (pe_dget (hu_of hr) (pv 0) pe_str (fun _ _ => rfl)) (pv 1)) pa_nil))) (pg_tup rfl (pgs_cons (pg_name (i := 5) sc_draw.nd rfl (Or.inl rfl)) (pgs_cons (pg_sub (pv 0) pe_str (set_dict (hu_of hr))) pgs_nil))))
    (pss_one (ps_ret (pv 5))))), ?_⟩
  obtain ⟨t, c, ns, place, left, many, rfl, hT, hpl, hm, hm9, k⟩ := h
  have hbig : sizeLine = 16777216 := sizeLine_eq
  have hlen : 0 < ns.length := List.length_pos_iff.mpr hT.ne
  refine ⟨_, rfl, _, _, rfl, tape_left hT.dict, _, rfl, _, _, rfl, rfl, _, rfl, ite2d (fun _ => ?_) (fun _ => ?_)⟩
  · refine ⟨_, rfl, _, _, rfl, tape_place hT.dict, _, rfl, _, _, rfl, tape_cells hT.dict, _, _, rfl, ?_⟩
    have hlt : (place : Int) % ns.length < ns.length := Int.emod_lt_of_pos _ (by omega)
    have hge : 0 ≤ (place : Int) % ns.length := Int.emod_nonneg _ (by omega)
    obtain ⟨j, hj⟩ : ∃ j : Nat, (place : Int) % ns.length = j := ⟨((place : Int) % ns.length).toNat, by omega⟩
    have hjl : j < ns.length := by omega
    obtain ⟨cell, hcell⟩ : ∃ cell, ns[j]? = some cell := ⟨ns[j], List.getElem?_eq_getElem hjl⟩
    have hat : atI (ns.map V.int) ((place : Int) % (ns.map V.int).length) = some (.int cell) := by
      rw [List.length_map, hj]
      exact atI_nat (by rw [List.getElem?_map, hcell]; rfl)
    refine ⟨_, rfl, _, rfl, .inl ⟨_, rfl, _, rfl, c, _, rfl, .inl (SqL.of hT.cells), _, _, rfl, rfl, (by rw [List.length_map]; omega), c, _, _, _, rfl, rfl, SqL.of hT.cells, hat, ?_⟩⟩
    refine ⟨_, rfl, _, _, rfl, rfl, by show 2 ≤ sizeLine; omega, fun q hq => ?_⟩
    have nqt : q ≠ t := fun z => by rw [z, hT.dict] at hq; cases hq
    have nct : c ≠ t := fun z => by have := hT.cells; rw [z, hT.dict] at this; cases this
    refine ⟨q, _, rfl, SqT.of upd_same, rfl, _, _, rfl, _, _, rfl, _, rfl, t, _, rfl, DPut.k (k := .inr "place") ((Same.new hq) _ _ hT.dict) (by show 3 < sizeLine; omega), rfl, ?_⟩
    rw [put_place]
    have f1 : Frm [t] H (upd (upd H q (.tup [.int cell, .int ((place : Int) + 1)])) t (.dK (tapeD c (place + 1) left))) := ((Frm.of (Same.refl H)).then_ hq).put (by simp)
    have d1 : (upd (upd H q (.tup [.int cell, .int ((place : Int) + 1)])) t (.dK (tapeD c (place + 1) left))) t = some (.dK (tapeD c (place + 1) left)) := upd_same
    have c1 : (upd (upd H q (.tup [.int cell, .int ((place : Int) + 1)])) t (.dK (tapeD c (place + 1) left))) c = some (.lst (ns.map V.int)) := by rw [upd_ne nct]; exact (Same.new hq) _ _ hT.cells
    generalize upd (upd H q (.tup [.int cell, .int ((place : Int) + 1)])) t (.dK (tapeD c (place + 1) left)) = H1 at f1 d1 c1
    have m1 : 0 ≤ cell % 2147483647 := Int.emod_nonneg _ (by omega)
    have m2 : cell % 2147483647 < 2147483647 := Int.emod_lt_of_pos _ (by omega)
    have hpw : (0 : Int) < 10 ^ (50 : Int).toNat + 151 := by decide
    refine ⟨_, rfl, .inl ⟨_, rfl, _, _, rfl, rfl, (show (0 : Int) < 2147483647 by decide), _, rfl, _, _, rfl, rfl, .inl ⟨by decide, by decide⟩, _, _, rfl, rfl, _, _, rfl, rfl, _, _, rfl, rfl, ⟨by decide, by decide, by omega⟩, .inl ⟨_, rfl, _, _, rfl, rfl, ⟨by decide, by decide, by decide⟩, _, _, rfl, rfl, _, _, rfl, rfl, hpw, ?_⟩⟩⟩
    obtain ⟨l0, hl0⟩ : ∃ l0 : Int, l0 = (cell % 2147483647 + 69621 * (place : Int) + 48271) ^ (17 : Int).toNat % (10 ^ (50 : Int).toNat + 151) := ⟨_, rfl⟩
    have l0p : 0 ≤ l0 := by rw [hl0]; exact Int.emod_nonneg _ (by omega)
    have hput : DPut H1 t (V.str "left") (V.int ((cell % 2147483647 + 69621 * (place : Int) + 48271) ^ (17 : Int).toNat % (10 ^ (50 : Int).toNat + 151))) (upd H1 t (.dK (tapeD c (place + 1) l0))) := by
      rw [← hl0]
      exact DPut.k (k := .inr "left") d1 (by show 3 < sizeLine; omega)
    refine ⟨_, rfl, t, _, rfl, hput, ?_⟩
    have T2 : TapeAt (upd H1 t (.dK (tapeD c (place + 1) l0))) t c ns (place + 1) l0 := ⟨upd_same, by rw [upd_ne nct]; exact c1, hT.ne, hT.few, l0p, by omega⟩
    have f2 : Frm [t] H (upd H1 t (.dK (tapeD c (place + 1) l0))) := f1.put (by simp)
    generalize upd H1 t (.dK (tapeD c (place + 1) l0)) = H2 at T2 f2
    refine ⟨_, rfl, _, _, rfl, rfl, ⟨by decide, by decide, by decide⟩, _, _, rfl, rfl, _, rfl, ite2d (fun hbig18 => ?_) (fun _ => iteF ?_)⟩
    · refine ⟨_, rfl, _, rfl, c, _, rfl, .inl (SqL.of T2.cells), _, _, rfl, rfl, _, rfl, ite2d (fun _ => ?_) (fun _ => ?_)⟩
      · have hput2 : DPut H2 t (V.str "left") (V.int (cell - 10 ^ (18 : Int).toNat)) (upd H2 t (.dK (tapeD c (place + 1) (cell - 10 ^ (18 : Int).toNat)))) := DPut.k (k := .inr "left") T2.dict (by show 3 < sizeLine; omega)
        refine ⟨_, rfl, _, _, rfl, rfl, ⟨by decide, by decide, by decide⟩, _, _, rfl, rfl, _, rfl, t, _, rfl, hput2, ?_⟩
        have T3 : TapeAt (upd H2 t (.dK (tapeD c (place + 1) (cell - 10 ^ (18 : Int).toNat)))) t c ns (place + 1) (cell - 10 ^ (18 : Int).toNat) := ⟨upd_same, by rw [upd_ne nct]; exact T2.cells, hT.ne, hT.few, by omega, by omega⟩
        have f3 : Frm [t] H (upd H2 t (.dK (tapeD c (place + 1) (cell - 10 ^ (18 : Int).toNat)))) := f2.put (by simp)
        generalize upd H2 t (.dK (tapeD c (place + 1) (cell - 10 ^ (18 : Int).toNat))) = H3 at T3 f3
        refine ⟨_, rfl, _, _, rfl, tape_left T3.dict, .inl ⟨_, rfl, _, rfl, _, _, rfl, rfl, hm, _, rfl, _, _, rfl, tape_left T3.dict, _, rfl, _, _, rfl, rfl, ⟨hm, by omega⟩, by show 2 ≤ sizeLine; omega, fun q hq => ?_⟩⟩
        have nqt : q ≠ t := fun z => by rw [z, T3.dict] at hq; cases hq
        refine ⟨q, _, rfl, SqT.of upd_same, rfl, _, _, rfl, _, _, rfl, _, rfl, t, _, rfl, DPut.k (k := .inr "left") ((Same.new hq) _ _ T3.dict) (by show 3 < sizeLine; omega), rfl, ?_⟩
        rw [put_left]
        exact ⟨_, rfl, k _ (place + 1) _ _ (Int.emod_nonneg _ (by omega)) (Int.emod_lt_of_pos _ hm) (by omega) ((f3.then_ hq).put (by simp)) ⟨upd_same, by rw [upd_ne nct]; exact (Same.new hq) _ _ T3.cells, hT.ne, hT.few, Int.ediv_nonneg T3.pos (by omega), by omega⟩⟩
      · refine ⟨_, rfl, _, _, rfl, tape_left T2.dict, .inl ⟨_, rfl, _, rfl, _, _, rfl, rfl, hm, _, rfl, _, _, rfl, tape_left T2.dict, _, rfl, _, _, rfl, rfl, ⟨hm, by omega⟩, by show 2 ≤ sizeLine; omega, fun q hq => ?_⟩⟩
        have nqt : q ≠ t := fun z => by rw [z, T2.dict] at hq; cases hq
        refine ⟨q, _, rfl, SqT.of upd_same, rfl, _, _, rfl, _, _, rfl, _, rfl, t, _, rfl, DPut.k (k := .inr "left") ((Same.new hq) _ _ T2.dict) (by show 3 < sizeLine; omega), rfl, ?_⟩
        rw [put_left]
        exact ⟨_, rfl, k _ (place + 1) _ _ (Int.emod_nonneg _ (by omega)) (Int.emod_lt_of_pos _ hm) (by omega) ((f2.then_ hq).put (by simp)) ⟨upd_same, by rw [upd_ne nct]; exact (Same.new hq) _ _ T2.cells, hT.ne, hT.few, Int.ediv_nonneg T2.pos (by omega), by omega⟩⟩
    · refine ⟨_, rfl, _, _, rfl, tape_left T2.dict, .inl ⟨_, rfl, _, rfl, _, _, rfl, rfl, hm, _, rfl, _, _, rfl, tape_left T2.dict, _, rfl, _, _, rfl, rfl, ⟨hm, by omega⟩, by show 2 ≤ sizeLine; omega, fun q hq => ?_⟩⟩
      have nqt : q ≠ t := fun z => by rw [z, T2.dict] at hq; cases hq
      refine ⟨q, _, rfl, SqT.of upd_same, rfl, _, _, rfl, _, _, rfl, _, rfl, t, _, rfl, DPut.k (k := .inr "left") ((Same.new hq) _ _ T2.dict) (by show 3 < sizeLine; omega), rfl, ?_⟩
      rw [put_left]
      exact ⟨_, rfl, k _ (place + 1) _ _ (Int.emod_nonneg _ (by omega)) (Int.emod_lt_of_pos _ hm) (by omega) ((f2.then_ hq).put (by simp)) ⟨upd_same, by rw [upd_ne nct]; exact (Same.new hq) _ _ T2.cells, hT.ne, hT.few, Int.ediv_nonneg T2.pos (by omega), by omega⟩⟩
  · refine ⟨_, rfl, _, _, rfl, tape_left hT.dict, .inl ⟨_, rfl, _, rfl, _, _, rfl, rfl, hm, _, rfl, _, _, rfl, tape_left hT.dict, _, rfl, _, _, rfl, rfl, ⟨hm, by omega⟩, by show 2 ≤ sizeLine; omega, fun q hq => ?_⟩⟩
    have nqt : q ≠ t := fun z => by rw [z, hT.dict] at hq; cases hq
    refine ⟨q, _, rfl, SqT.of upd_same, rfl, _, _, rfl, _, _, rfl, _, rfl, t, _, rfl, DPut.k (k := .inr "left") ((Same.new hq) _ _ hT.dict) (by show 3 < sizeLine; omega), rfl, ?_⟩
    rw [put_left]
    have nct : c ≠ t := fun z => by have := hT.cells; rw [z, hT.dict] at this; cases this
    exact ⟨_, rfl, k _ place _ _ (Int.emod_nonneg _ (by omega)) (Int.emod_lt_of_pos _ hm) (by omega) (((Frm.of (Same.refl H)).then_ hq).put (by simp)) ⟨upd_same, by rw [upd_ne nct]; exact (Same.new hq) _ _ hT.cells, hT.ne, hT.few, Int.ediv_nonneg hT.pos (by omega), by omega⟩⟩
/-! ### pick -/
theorem sc_pick : FnScope ["_law_tape", "_law_items"] ["_law_tape", "_law_items"] (defScope s_pick) := ⟨rfl, rfl, rfl, by decide +kernel, rfl, by decide +kernel, by decide +kernel⟩
def spPick (K : PySem.W.Frag) : Sp := fun vs H Q _ => ∃ (t c l : Addr) (ns : List Int) (place : Nat) (left : Int) (xs : List V), vs = [.ref t, .ref l] ∧ TapeAt H t c ns place left ∧ place < 100000 ∧ H l = some (.lst xs) ∧ xs ≠ [] ∧ xs.length ≤ 1000 ∧
  ∀ x place' left' H', x ∈ xs → place' ≤ place + 1 → Frm [t] H H' → TapeAt H' t c ns place' left' → Q x H'
theorem ok_pick (T : Says w K mg) : C8.Cal P w K mg base 2 "_law_pick" (spPick K) [] := by
  refine cal_of T.d_pick T.g_pick sc_pick (fun vs H Q E h => ?_) (fun _ _ _ _ _ _ us hl => match us, hl with | [_, _], _ => rfl) (fun cdv A outer s H vs Q E hr h => ?_)
  · obtain ⟨_, _, _, _, _, _, _, rfl, _⟩ := h; rfl
  refine ⟨_, (pss_one (ps_ret (pe_ix (r := rIxL K) ix_list (pv 1) (C8.pe_c (ok_draw T) hr (by decide) rfl (pa_cons (pv 0) (pa_cons (pe_callB (id := "len") call_len_seq (by rfl) T.z_len PySem.boot_len (pa_cons (pv 1) pa_nil)) pa_nil))) (fun _ _ => rfl)))), ?_⟩
  obtain ⟨t, c, l, ns, place, left, xs, rfl, hT, hpl, hl, hne, hlen, k⟩ := h
  have hpos : 0 < xs.length := List.length_pos_iff.mpr hne
  have ntl : l ≠ t := fun z => by rw [z, hT.dict] at hl; cases hl
  refine ⟨_, rfl, _, rfl, _, rfl, l, _, rfl, .inl (SqL.of hl), t, c, ns, place, left, xs.length, rfl, hT, hpl, by omega, by omega, fun r place' left' H' h0 hr' hp' fr hT' => ?_⟩
  obtain ⟨j, rfl⟩ : ∃ j : Nat, r = j := ⟨r.toNat, by omega⟩
  have hj : j < xs.length := by omega
  exact ⟨l, xs, _, _, rfl, rfl, SqL.of (fr _ _ hl (by simp [ntl])), atI_nat (List.getElem?_eq_getElem hj), k _ place' left' H' (List.getElem_mem hj) hp' fr hT'⟩
def spPickS : Sp := fun vs H Q _ => ∃ (t c : Addr) (z : Str) (ns : List Int) (place : Nat) (left : Int), vs = [.ref t, .str z] ∧ TapeAt H t c ns place left ∧ place < 100000 ∧ 0 < z.length ∧ z.length ≤ 1000 ∧
  ∀ x place' left' H', x ∈ z.cps.toList → place' ≤ place + 1 → Frm [t] H H' → TapeAt H' t c ns place' left' → Q (.str ⟨#[x]⟩) H'
theorem ok_pickS (T : Says w K mg) : C8.Cal P w K mg base 2 "_law_pick" spPickS [] := by
  refine cal_of T.d_pick T.g_pick sc_pick (fun vs H Q E h => ?_) (fun _ _ _ _ _ _ us hl => match us, hl with | [_, _], _ => rfl) (fun cdv A outer s H vs Q E hr h => ?_)
  · obtain ⟨_, _, _, _, _, _, rfl, _⟩ := h; rfl
  refine ⟨_, (pss_one (ps_ret (pe_ix ix_str (pv 1) (C8.pe_c (ok_draw T) hr (by decide) rfl (pa_cons (pv 0) (pa_cons (pe_callB (id := "len") call_len_str (by rfl) T.z_len PySem.boot_len (pa_cons (pv 1) pa_nil)) pa_nil))) (fun _ _ => rfl)))), ?_⟩
  obtain ⟨t, c, z, ns, place, left, rfl, hT, hpl, hz, hz2, k⟩ := h
  refine ⟨_, rfl, _, rfl, _, rfl, z, rfl, by rw [sizeLine_eq]; omega, t, c, ns, place, left, z.length, rfl, hT, hpl, by omega, by omega, fun r place' left' H' h0 hr' hp' fr hT' => ?_⟩
  obtain ⟨j, rfl⟩ : ∃ j : Nat, r = j := ⟨r.toNat, by omega⟩
  have hj : j < z.cps.toList.length := by have : z.length = z.cps.toList.length := by simp [Str.length]
                                          omega
  exact ⟨z, _, _, rfl, rfl, by rw [sizeLine_eq]; omega, atI_nat (List.getElem?_eq_getElem hj), k _ place' left' H' (List.getElem_mem hj) hp' fr hT'⟩
/-! ### shuffled -/
theorem erase_map {α β : Type} (f : α → β) (l : List α) (i : Nat) : (l.map f).eraseIdx i = (l.eraseIdx i).map f := by
  induction l generalizing i with
  | nil => rfl
  | cons a l ih => cases i with
    | zero => rfl
    | succ i => show f a :: (l.map f).eraseIdx i = f a :: (l.eraseIdx i).map f; rw [ih]
theorem erase_perm {α : Type} {l : List α} {i : Nat} (h : i < l.length) : (l[i] :: l.eraseIdx i).Perm l := by
  induction l generalizing i with
  | nil => exact absurd h (Nat.not_lt_zero _)
  | cons a l ih => cases i with
    | zero => exact .refl _
    | succ i =>
      have h' : i < l.length := Nat.lt_of_succ_lt_succ h
      show (l[i] :: a :: l.eraseIdx i).Perm (a :: l)
      exact (List.Perm.swap a l[i] _).trans ((ih h').cons a)
theorem sc_shuffled : FnScope ["_law_tape", "_law_items", "_law_rest", "_law_found"] ["_law_tape", "_law_items"] (defScope s_shuffled) := ⟨rfl, rfl, rfl, by decide +kernel, rfl, by decide +kernel, by decide +kernel⟩
def spShuffled (K : PySem.W.Frag) : Sp := fun vs H Q _ => ∃ (t c l : Addr) (ns : List Int) (place : Nat) (left : Int) (zs : List Str), vs = [.ref t, .ref l] ∧ TapeAt H t c ns place left ∧ place < 99000 ∧ H l = some (.lst (zs.map V.str)) ∧ (∀ z ∈ zs, nameB z = true) ∧ zs.length ≤ 30 ∧
  ∀ (q : Addr) (ys : List Str) place' left' H', ys.Perm zs → H' q = some (.lst (ys.map V.str)) → place' ≤ place + zs.length → Frm [t] H H' → TapeAt H' t c ns place' left' → Q (.ref q) H'
theorem ok_shuffled (T : Says w K mg) : C8.Cal P w K mg base 2 "_law_shuffled" (spShuffled K) [] := by
  refine cal_of T.d_shuffled T.g_shuffled sc_shuffled (fun vs H Q E h => ?_) (fun _ _ _ _ _ _ us hl => match us, hl with | [_, _], _ => rfl) (fun cdv A outer s H vs Q E hr h => ?_)
  · obtain ⟨_, _, _, _, _, _, _, rfl, _⟩ := h; rfl
  refine ⟨_, (pss_cons (ps_par (i := 2) (j := 3) (by rfl) sc_shuffled.nd rfl rfl (by decide) rfl rfl (pa_cons (pe_callTy (T := "list") call_list_of (by rfl) T.z_list (by decide +kernel) (pa_cons (pv 1) pa_nil)) (pa_cons (pe_lst pa_nil) pa_nil)) (by rfl))
    (pss_cons (ps_while PassesOwn.never (pt_cmpR (r := rNeD K) (op_neD (hu64 hr)) (pv 2) (pe_lst pa_nil) (nomark _)) (pss_one (ps_expr (pe_bm PySem.F.plainAttrs_list PySem.F.slot_list_append PySem.F.type_list_append mt_append (pv 3) (pa_cons (pe_bm PySem.F.plainAttrs_list PySem.F.slot_list_pop PySem.F.type_list_pop mt_popAt (pv 2) (pa_cons (C8.pe_c (ok_draw T) hr (by decide) rfl (pa_cons (pv 0) (pa_cons (pe_callB (id := "len") call_len_seq (by rfl) T.z_len PySem.boot_len (pa_cons (pv 2) pa_nil)) pa_nil))) pa_nil)) pa_nil)))))
    (pss_one (ps_ret (pv 3))))), ?_⟩
  obtain ⟨t, c, l, ns, place, left, zs, rfl, hT, hpl, hl, hnm, hlen, k⟩ := h
  have hbig : sizeLine = 16777216 := sizeLine_eq
  refine ⟨_, rfl, l, _, rfl, .inl (SqL.of hl), fun r hr => ?_⟩
  refine ⟨by show 0 ≤ sizeLine; omega, fun f hf => ⟨_, _, rfl, ?_⟩⟩
  have nrt : r ≠ t := fun z => by rw [z, hT.dict] at hr; cases hr
  have nft : f ≠ t := fun z => by rw [z, (Same.new hr) _ _ hT.dict] at hf; cases hf
  have nfr : f ≠ r := fun z => by rw [z, upd_same] at hf; cases hf
  have nrc : r ≠ c := fun z => by rw [z, hT.cells] at hr; cases hr
  have nfc : f ≠ c := fun z => by rw [z, (Same.new hr) _ _ hT.cells] at hf; cases hf
  have hr0 : H r = none := hr
  have hf0 : H f = none := (Same.new hr).free hf
  refine while_by (fun σ H' => ∃ (ys fs : List Str) (place' : Nat) (left' : Int), σ = [some (.ref t), some (.ref l), some (.ref r), some (.ref f)] ∧ Frm [t] H H' ∧ TapeAt H' t c ns place' left' ∧ H' r = some (.lst (ys.map V.str)) ∧ H' f = some (.lst (fs.map V.str)) ∧ (ys ++ fs).Perm zs ∧ place' + ys.length ≤ place + zs.length)
    (fun σ H' => match H' r with | some (.lst ys) => ys.length | _ => 0) ⟨zs, [], place, left, rfl, Frm.of ((Same.new hr).then_ hf), ⟨((Same.new hr).then_ hf) _ _ hT.dict, ((Same.new hr).then_ hf) _ _ hT.cells, hT.ne, hT.few, hT.pos, hT.small⟩, (Same.new hf) _ _ upd_same, upd_same, by simp, Nat.le_refl _⟩ ?_ ?_
  · rintro σ H2 ⟨ys, fs, place', left', rfl, fr, hT2, r2, f2, hp, hple⟩
    have hyn : ∀ z ∈ ys, nameB z = true := fun z hz => hnm z (hp.mem_iff.mp (List.mem_append_left _ hz))
    have hyl : ys.length + fs.length = zs.length := by rw [← List.length_append]; exact hp.length_eq
    refine ⟨_, rfl, by show 0 ≤ sizeLine; omega, fun e he => ?_⟩
    have r3 := (Same.new (o := .lst []) he) _ _ r2
    have f3 := (Same.new (o := .lst []) he) _ _ f2
    refine ⟨.list (ys.map PyData.str), .list (([] : List Str).map PyData.str), .lst (SqL.of r3) (strs_dp ys), .lst (SqL.of upd_same) .nil, strs_shapedL hyn, strs_shapedL (by simp), ?_⟩
    rw [strs_eqvL]
    have T3 : TapeAt (upd H2 e (.lst [])) t c ns place' left' := ⟨(Same.new he) _ _ hT2.dict, (Same.new he) _ _ hT2.cells, hT2.ne, hT2.few, hT2.pos, hT2.small⟩
    have fr3 := fr.then_ (o := .lst []) he
    generalize upd H2 e (.lst []) = H3 at r3 f3 T3 fr3
    refine ⟨_, rfl, ite2n (fun hne => ?_) (fun heq => ?_)⟩
    · have hpos : 0 < ys.length := List.length_pos_iff.mpr hne
      refine ⟨_, rfl, tyList f3, _, rfl, tyList r3, _, rfl, _, rfl, r, _, rfl, .inl (SqL.of r3), t, c, ns, place', left', ys.length, by rw [List.length_map]; rfl, T3, by omega, by omega, by omega, fun i p2 l2 H4 h0 h1 hp2 fr4 T4 => ?_⟩
      obtain ⟨j, rfl⟩ : ∃ j : Nat, i = j := ⟨i.toNat, by omega⟩
      have hj : j < ys.length := by omega
      obtain ⟨m, hsq, hget, hm', _, _⟩ := atI_get (xs := ys.map V.str) (i := (j : Int)) (v := .str ys[j]) (atI_nat (by rw [List.getElem?_map, List.getElem?_eq_getElem hj]; rfl))
      rw [List.length_map] at hm'
      have hgm : (ys.map V.str)[m]? = some (.str ys[m]) := by rw [List.getElem?_map, List.getElem?_eq_getElem hm']; rfl
      have r4 := fr4 _ _ r3 (by simp [nrt])
      have f4 := fr4 _ _ f3 (by simp [nft])
      have er : (ys.map V.str).eraseIdx m = (ys.eraseIdx m).map V.str := erase_map _ _ _
      refine ⟨r, _, (j : Int), m, .str ys[m], rfl, rfl, r4, by omega, by omega, hsq, hgm, ?_⟩
      rw [er]
      refine ⟨f, _, _, rfl, rfl, by rw [upd_ne nfr]; exact f4, by rw [List.length_map]; omega, ⟨ys.eraseIdx m, fs ++ [ys[m]], p2, l2, rfl, ?_, ?_, ?_, ?_, ?_, ?_⟩, ?_⟩
      · exact ((fr3.trans fr4).mut hr0).mut hf0
      · exact ⟨by rw [upd_ne (Ne.symm nft), upd_ne (Ne.symm nrt)]; exact T4.dict, by rw [upd_ne (Ne.symm nfc), upd_ne (Ne.symm nrc)]; exact T4.cells, T4.ne, T4.few, T4.pos, T4.small⟩
      · rw [upd_ne (Ne.symm nfr), upd_same]
      · rw [upd_same, List.map_append]; rfl
      · have h5 := erase_perm hm'
        refine List.Perm.trans ?_ hp
        refine List.Perm.trans (List.Perm.symm ?_) (h5.append_right fs)
        rw [← List.append_assoc]
        exact (List.perm_append_comm (l₁ := ys.eraseIdx m ++ fs) (l₂ := [ys[m]])).symm
      · rw [List.length_eraseIdx_of_lt hm']; omega
      · rw [upd_ne (Ne.symm nfr), upd_same, r2]
        show ((ys.eraseIdx m).map V.str).length < (ys.map V.str).length
        rw [List.length_map, List.length_map, List.length_eraseIdx_of_lt hm']
        omega
    · subst heq
      refine ⟨_, rfl, k f fs place' left' H3 (by simpa using hp) f3 (by simpa using hple) fr3 T3⟩
  · intro σ H2 Q1 Q2 hq h
    obtain ⟨v, e, hle, h⟩ := h
    refine ⟨v, e, hle, fun p hp => ?_⟩
    obtain ⟨d, e', a1, a2, a3, a4, b, eb, h⟩ := h p hp
    exact ⟨d, e', a1, a2, a3, a4, b, eb, hq _ _ h⟩
end
end RD

/-! RDNames: the names that the law draws. -/
namespace RD
open PySem PySem.Spec PyProof.Rows L2 TL
/-! ### texts as lists of signs -/
theorem str_ext {x y : Str} (h : tl x = tl y) : x = y := by
  obtain ⟨⟨l⟩⟩ := x
  obtain ⟨⟨m⟩⟩ := y
  have h : l = m := h
  rw [h]
theorem tl_len (x : Str) : (tl x).length = x.length := by simp [Str.length]
theorem cutS_to (z : Str) (k : Nat) : tl (cutS z none (some (k : Int))) = (tl z).take k := by
  unfold cutS
  rw [tl_mk, HT.sIx_none, HT.sIx_nat, List.drop_zero, Nat.sub_zero, ← tl_len]
  rcases Nat.le_total k (tl z).length with h | h
  · rw [Nat.min_eq_left h]
  · rw [Nat.min_eq_right h, List.take_of_length_le (Nat.le_refl _), List.take_of_length_le h]
theorem cutS_from (z : Str) (k : Nat) : tl (cutS z (some (k : Int)) none) = (tl z).drop k := by
  unfold cutS
  rw [tl_mk, HT.sIx_none, HT.sIx_nat, ← tl_len]
  rcases Nat.le_total k (tl z).length with h | h
  · rw [Nat.min_eq_left h, List.take_of_length_le (by simp)]
  · rw [Nat.min_eq_right h, List.drop_of_length_le (Nat.le_refl _), List.drop_of_length_le h, List.take_nil]
theorem joinL_nil (ls : List (List Nat)) : joinL [] ls = ls.flatten := by
  induction ls with
  | nil => rfl
  | cons p r ih => cases r with
    | nil => simp [joinL]
    | cons q r =>
      show p ++ ([] ++ joinL [] (q :: r)) = _
      rw [ih]
      simp
/-- letters -/
abbrev lts : List Nat := tl letters
theorem lts_len : lts.length = 26 := by decide +kernel
theorem lts_nodup : lts.Nodup := by decide +kernel
theorem nameB_iff (z : Str) : nameB z = true ↔ 1 ≤ (tl z).length ∧ (tl z).length ≤ 8 ∧ ∀ c ∈ tl z, c ∈ lts := by
  unfold nameB isLetter
  rw [← tl_len]
  simp only [Bool.and_eq_true, decide_eq_true_eq, List.all_eq_true]
  constructor
  · rintro ⟨⟨a, b⟩, c⟩; exact ⟨a, b, c⟩
  · rintro ⟨a, b, c⟩; exact ⟨⟨a, b⟩, c⟩
/-- the k-th name -/
def nmL (bl : List Nat) (a : Nat) (l : Nat) : List Nat := bl.take a ++ [l] ++ bl.drop (a + 1)
theorem nmL_len {bl : List Nat} {a l : Nat} (h : a < bl.length) : (nmL bl a l).length = bl.length := by
  unfold nmL
  simp only [List.length_append, List.length_take, List.length_drop, List.length_cons, List.length_nil]
  omega
theorem nmL_inj {bl : List Nat} {a l m : Nat} (h : a < bl.length) (e : nmL bl a l = nmL bl a m) : l = m := by
  unfold nmL at e
  rw [List.append_assoc, List.append_assoc] at e
  have := List.append_cancel_left e
  simpa using this
def steps8 : List Int := [1, 3, 5, 7, 9, 11, 15, 17]
/-- letters of different turns differ -/
theorem turn_ne {f s : Int} (hs : s ∈ steps8) {i j : Nat} (hij : i < j) (hj : j < 6) : (f + s * i) % 26 ≠ (f + s * j) % 26 := by
  intro e
  have h : (s * (j - i : Nat)) % 26 = 0 := by
    have : (s * ((j - i : Nat) : Int)) = (f + s * j) - (f + s * i) := by
      have e1 : ((j - i : Nat) : Int) = (j : Int) - i := by omega
      rw [e1, Int.mul_sub]
      omega
    rw [this]
    omega
  have hd : j - i = 1 ∨ j - i = 2 ∨ j - i = 3 ∨ j - i = 4 ∨ j - i = 5 := by omega
  simp only [steps8, List.mem_cons, List.not_mem_nil, or_false] at hs
  rcases hs with rfl | rfl | rfl | rfl | rfl | rfl | rfl | rfl <;> rcases hd with d | d | d | d | d <;> rw [d] at h <;> revert h <;> decide
def mk1 (b : Nat) : Str := ⟨#[b]⟩
theorem join_mk1 (bs : List Nat) : tl (Txt.join (Str.ofString "") (bs.map mk1)) = bs := by
  rw [join_eq, tl_join, show tl (Str.ofString "") = [] from by decide +kernel, joinL_nil, List.map_map]
  induction bs with
  | nil => rfl
  | cons b r ih =>
    rw [List.map_cons, List.flatten_cons, ih]
    rfl
theorem sum_mk1 (bs : List Nat) : ((bs.map mk1).map (fun x => x.length)).sum = bs.length := by
  induction bs with
  | nil => rfl
  | cons b r ih =>
    rw [List.map_cons, List.map_cons, List.sum_cons, ih, List.length_cons]
    show 1 + r.length = r.length + 1
    omega
def ltr (f s : Int) (j : Nat) : Nat := lts.getD ((f + s * j) % 26).toNat 0
theorem ltr_at (f s : Int) (j : Nat) : atI (tl letters) ((f + s * j) % 26) = some (ltr f s j) := by
  have h1 : 0 ≤ (f + s * j) % 26 := Int.emod_nonneg _ (by decide)
  have h2 : (f + s * j) % 26 < 26 := Int.emod_lt_of_pos _ (by decide)
  obtain ⟨m, hm⟩ : ∃ m : Nat, (f + s * j) % 26 = m := ⟨((f + s * j) % 26).toNat, by omega⟩
  unfold ltr
  rw [hm]
  have hl := lts_len
  have : m < lts.length := by omega
  refine atI_nat ?_
  rw [Int.toNat_natCast, List.getD_eq_getElem?_getD, List.getElem?_eq_getElem this]
  rfl
theorem ltr_mem (f s : Int) (j : Nat) : ltr f s j ∈ lts := by
  obtain ⟨k, _, h, _⟩ := atI_get (ltr_at f s j)
  exact List.mem_of_getElem? h
theorem ltr_ne {f s : Int} (hs : s ∈ steps8) {i j : Nat} (hij : i < j) (hj : j < 6) : ltr f s i ≠ ltr f s j := fun e => by
  have hl := lts_len
  have a1 : 0 ≤ (f + s * i) % 26 := Int.emod_nonneg _ (by decide)
  have a2 : (f + s * i) % 26 < 26 := Int.emod_lt_of_pos _ (by decide)
  have b1 : 0 ≤ (f + s * j) % 26 := Int.emod_nonneg _ (by decide)
  have b2 : (f + s * j) % 26 < 26 := Int.emod_lt_of_pos _ (by decide)
  unfold ltr at e
  rw [List.getD_eq_getElem?_getD, List.getD_eq_getElem?_getD, List.getElem?_eq_getElem (by omega), List.getElem?_eq_getElem (by omega)] at e
  have := (List.getElem_inj lts_nodup).mp e
  exact turn_ne (f := f) hs hij hj (by omega)
/-- the k-th name as a text -/
def nmS (bl : List Nat) (a : Nat) (f s : Int) (j : Nat) : Str := ⟨(nmL bl a (ltr f s j)).toArray⟩
theorem nmS_eq {z : Str} {a : Nat} {f s : Int} {j : Nat} : cutS z none (some (a : Int)) ++ mk1 (ltr f s j) ++ cutS z (some ((a : Int) + 1)) none = nmS (tl z) a f s j := by
  refine str_ext ?_
  rw [tl_append, tl_append, cutS_to, show ((a : Int) + 1) = ((a + 1 : Nat) : Int) from by omega, cutS_from]
  rfl
theorem nmS_name {bl : List Nat} {a : Nat} {f s : Int} {j : Nat} (ha : a < bl.length) (h8 : bl.length ≤ 8) (hb : ∀ c ∈ bl, c ∈ lts) : nameB (nmS bl a f s j) = true := by
  rw [nameB_iff]
  have e : tl (nmS bl a f s j) = nmL bl a (ltr f s j) := rfl
  rw [e, nmL_len ha]
  refine ⟨by omega, h8, fun c hc => ?_⟩
  unfold nmL at hc
  simp only [List.mem_append, List.mem_cons, List.not_mem_nil, or_false] at hc
  rcases hc with (hc | rfl) | hc
  · exact hb c (List.mem_of_mem_take hc)
  · exact ltr_mem f s j
  · exact hb c (List.mem_of_mem_drop hc)
def nmAll (bl : List Nat) (a : Nat) (f s : Int) (n : Nat) : List Str := (List.range n).map (nmS bl a f s)
theorem nmAll_nodup {bl : List Nat} {a : Nat} {f s : Int} {n : Nat} (ha : a < bl.length) (hs : s ∈ steps8) (hn : n ≤ 6) : (nmAll bl a f s n).Nodup := by
  unfold nmAll
  rw [List.nodup_iff_pairwise_ne, List.pairwise_map]
  refine List.Pairwise.imp_of_mem (fun {i j} hi hj (hij : i < j) e => ?_) List.pairwise_lt_range
  have hj' : j < n := List.mem_range.mp hj
  exact ltr_ne hs hij (by omega) (nmL_inj ha (congrArg tl e))
theorem nmAll_names {bl : List Nat} {a : Nat} {f s : Int} {n : Nat} (ha : a < bl.length) (h8 : bl.length ≤ 8) (hb : ∀ c ∈ bl, c ∈ lts) (hs : s ∈ steps8) (hn : n ≤ 6) : Names (nmAll bl a f s n) :=
  ⟨nmAll_nodup ha hs hn, fun r hr => by
    obtain ⟨j, _, rfl⟩ := List.mem_map.mp hr
    exact nmS_name ha h8 hb, by unfold nmAll; rw [List.length_map, List.length_range]; omega⟩
/-- one of them made shorter -/
theorem nmAll_set {bl : List Nat} {a : Nat} {f s : Int} {n m : Nat} {z : Str} (ha : a < bl.length) (h0 : 0 < a) (h8 : bl.length ≤ 8) (hb : ∀ c ∈ bl, c ∈ lts) (hs : s ∈ steps8) (hn : n ≤ 6) (hz : tl z = bl.take a) : Names ((nmAll bl a f s n).set m z) := by
  have N := nmAll_names (f := f) ha h8 hb hs hn
  have hzl : (tl z).length = a := by rw [hz, List.length_take]; omega
  have hnz : z ∉ nmAll bl a f s n := fun h => by
    obtain ⟨j, _, e⟩ := List.mem_map.mp h
    have : (tl (nmS bl a f s j)).length = bl.length := nmL_len ha
    rw [e] at this
    omega
  refine ⟨?_, fun r hr => ?_, by rw [List.length_set]; exact N.few⟩
  · have gen : ∀ (l : List Str) (m : Nat), l.Nodup → z ∉ l → (l.set m z).Nodup := by
      intro l
      induction l with
      | nil => intro m h _; exact h
      | cons x l ih =>
        intro m h1 h2
        obtain ⟨h3, h4⟩ := List.nodup_cons.mp h1
        have h5 : z ∉ l := fun q => h2 (List.mem_cons_of_mem _ q)
        cases m with
        | zero => exact List.nodup_cons.mpr ⟨h5, h4⟩
        | succ m =>
          refine List.nodup_cons.mpr ⟨fun q => ?_, ih m h4 h5⟩
          rcases List.mem_or_eq_of_mem_set q with q | q
          · exact h3 q
          · exact h2 (by rw [← q]; exact List.mem_cons_self ..)
    exact gen _ m N.nd hnz
  · rcases List.mem_or_eq_of_mem_set hr with q | q
    · exact N.nm r q
    · rw [q, nameB_iff, hzl]
      refine ⟨by omega, by omega, fun c hc => ?_⟩
      rw [hz] at hc
      exact hb c (List.mem_of_mem_take hc)
section
variable {P : Program} {w : World} {K : PySem.W.Frag} {mg : Str → Option Value} {base : Heap}
theorem TapeAt.mono {H H' : Hp} {t c : Addr} {ns : List Int} {place : Nat} {left : Int} (h : TapeAt H t c ns place left) (e : Same H H') : TapeAt H' t c ns place left := ⟨e _ _ h.dict, e _ _ h.cells, h.ne, h.few, h.pos, h.small⟩
theorem TapeAt.keep {H : Hp} {t c l : Addr} {ns : List Int} {place : Nat} {left : Int} {o : HO} (h : TapeAt H t c ns place left) (n1 : l ≠ t) (n2 : l ≠ c) : TapeAt (upd H l o) t c ns place left := ⟨by rw [upd_ne (Ne.symm n1)]; exact h.dict, by rw [upd_ne (Ne.symm n2)]; exact h.cells, h.ne, h.few, h.pos, h.small⟩
def spNames : Sp := fun vs H Q _ => ∃ (t c : Addr) (ns : List Int) (place : Nat) (left : Int) (many : Nat), vs = [.ref t, .int (many : Nat)] ∧ TapeAt H t c ns place left ∧ place < 90000 ∧ 1 ≤ many ∧ many ≤ 6 ∧
  ∀ (q : Addr) (names : List Str) place' left' H', H' q = some (.lst (names.map V.str)) → names.length = many → Names names → place' ≤ place + 14 → Frm [t] H H' → TapeAt H' t c ns place' left' → Q (.ref q) H'
theorem sc_names : FnScope ["_law_tape", "_law_many", "_law_letters", "_law_base", "_law_at", "_law_first", "_law_step", "_law_found", "_law_k", "_law_letter"] ["_law_tape", "_law_many"] (defScope s_names) := ⟨rfl, rfl, rfl, by decide +kernel, rfl, by decide +kernel, by decide +kernel⟩
theorem ok_names (T : Says w K mg) : C8.Cal P w K mg base 3 "_law_names" spNames [] := by
  refine cal_of T.d_names T.g_names sc_names (fun vs H Q E h => ?_) (fun _ _ _ _ _ _ us hl => match us, hl with | [_, _], _ => rfl) (fun cdv A outer s H vs Q E hr h => ?_)
  · obtain ⟨_, _, _, _, _, _, rfl, _⟩ := h; rfl
  refine ⟨_, (pss_cons (ps_set (i := 2) sc_names.nd rfl (Or.inr rfl) pe_str)
    (pss_cons (ps_set (i := 3) sc_names.nd rfl (Or.inl rfl) (pe_join pe_str (pe_lc (own := [("_law_k", 8)]) (g := (gName 8)) (tt := tYes) rfl sc_names.nd (pi_range1 (by rfl) T.z_range (pa_cons (pe_op op_add pe_int (C8.pe_c (ok_draw T) hr (by decide) rfl (pa_cons (pv 0) (pa_cons pe_int pa_nil)))) pa_nil)) (blkOk_by (own := [("_law_k", 8)]) (N := ["_law_tape", "_law_many", "_law_letters", "_law_base", "_law_at", "_law_first", "_law_step", "_law_found", "_law_k", "_law_letter"]) (sc := defScope s_names) (by decide +kernel)) (fun _ _ _ _ _ => (pg_name (i := 8) sc_names.nd rfl (Or.inl rfl))) (fun _ _ _ _ _ => pts_nil) (fun _ _ _ _ _ => (C8.pe_c (ok_pickS T) hr (by decide) rfl (pa_cons (pv 0) (pa_cons (pv 2) pa_nil)))))))
    (pss_cons (ps_par3 (i := 4) (j := 5) (l := 6) rfl sc_names.nd rfl rfl rfl (by decide) (by decide) (by decide) rfl rfl rfl (pa_cons (C8.pe_c (ok_draw T) hr (by decide) rfl (pa_cons (pv 0) (pa_cons (pe_callB (id := "len") call_len_str (by rfl) T.z_len PySem.boot_len (pa_cons (pv 3) pa_nil)) pa_nil))) (pa_cons (C8.pe_c (ok_draw T) hr (by decide) rfl (pa_cons (pv 0) (pa_cons pe_int pa_nil))) (pa_cons (C8.pe_c (ok_pick T) hr (by decide) rfl (pa_cons (pv 0) (pa_cons (pe_lst (pa_cons pe_int (pa_cons pe_int (pa_cons pe_int (pa_cons pe_int (pa_cons pe_int (pa_cons pe_int (pa_cons pe_int (pa_cons pe_int pa_nil))))))))) pa_nil))) pa_nil))) (by rfl))
    (pss_cons (ps_set (i := 7) sc_names.nd rfl (Or.inl rfl) (pe_lst pa_nil))
    (pss_cons (ps_for PassesOwn.never rfl (pi_range1 (by rfl) T.z_range (pa_cons (pv 1) pa_nil)) (pg_name (i := 8) sc_names.nd rfl (Or.inl rfl)) (pss_cons (ps_set (i := 9) sc_names.nd rfl (Or.inl rfl) (pe_ix ix_str (pv 2) (pe_op op_mod (pe_callTy (T := "int") call_int1 (by rfl) T.z_int (by decide +kernel) (pa_cons (pe_op op_add (pv 5) (pe_op op_mul (pv 6) (pv 8))) pa_nil)) pe_int) (fun _ _ => rfl)))
    (pss_one (ps_expr (pe_bm PySem.F.plainAttrs_list PySem.F.slot_list_append PySem.F.type_list_append mt_append (pv 7) (pa_cons (pe_op op_add_str (pe_op op_add_str (pe_slice L2.sl_str (pv 3) po_none (po_some (pv 4))) (pv 9)) (pe_slice L2.sl_str (pv 3) (po_some (pe_op op_add (pv 4) pe_int)) po_none)) pa_nil))))))
    (pss_cons (ps_if (PW.pt (pw_and (pt_cmpR op_gt (pv 4) pe_int (nomark _)) (pw_and (pt_cmpR op_gt (pv 1) pe_int (nomark _)) (pw_and1 (pt_cmpR op_eq (C8.pe_c (ok_draw T) hr (by decide) rfl (pa_cons (pv 0) (pa_cons pe_int pa_nil))) pe_int (nomark _)))))) (pss_one (ps_asg (pe_slice L2.sl_str (pv 3) po_none (po_some (pv 4))) (pg_sub (pv 7) (C8.pe_c (ok_draw T) hr (by decide) rfl (pa_cons (pv 0) (pa_cons (pv 1) pa_nil))) set_list))) pss_nil)
    (pss_one (ps_ret (pv 7))))))))), ?_⟩
  obtain ⟨t, c, ns, place, left, many, rfl, hT, hpl, hm1, hm6, k⟩ := h
  have hbig : sizeLine = 16777216 := sizeLine_eq
  obtain ⟨le, hle⟩ : ∃ z : Str, z = letters := ⟨_, rfl⟩
  have h26 : letters.length = 26 := by rw [← tl_len]; exact lts_len
  refine ⟨⟨_, rfl⟩, _, rfl, t, c, ns, place, left, 8, rfl, hT, by omega, by omega, by omega, fun r p1 l1 H1 h0 h8 hp1 fr1 T1 => ?_⟩
  refine ⟨_, _, rfl, rfl, 1 + r, rfl, by omega, by omega, fun D hD => ?_⟩
  have nDt : D ≠ t := fun z => by rw [z, T1.dict] at hD; cases hD
  have nDc : D ≠ c := fun z => by rw [z, T1.cells] at hD; cases hD
  have hD0 : H D = none := fr1.free hD (by simp [nDt])
  have hn8 : (1 + r).toNat ≤ 8 := by omega
  have hn1 : 1 ≤ (1 + r).toNat := by omega
  refine lc_it (walk_range (lo := 0) (n := (1 + r).toNat)) (fun i H' => Frm [t] H H' ∧ (∃ p l, TapeAt H' t c ns p l ∧ p ≤ place + 1 + i) ∧ ∃ bs : List Nat, H' D = some (.lst ((bs.map mk1).map V.str)) ∧ bs.length = i ∧ ∀ b ∈ bs, b ∈ lts)
    ⟨fr1.then_ hD, ⟨p1, l1, T1.keep nDt nDc, by omega⟩, [], upd_same, rfl, by simp⟩ (fun _ _ _ _ => trivial) ?_ ?_
  · rintro i x H2 H2' hi ⟨fr2, ⟨p2, l2, T2, hp2⟩, bs, e1, e2, e3⟩ ⟨rfl, rfl⟩
    refine ⟨rfl, _, rfl, _, rfl, t, c, letters, ns, p2, l2, rfl, T2, by omega, by omega, by omega, fun x p3 l3 H3 hx hp3 fr3 T3 => ?_⟩
    refine ⟨_, fr3 _ _ e1 (by simp [nDt]), by rw [List.length_map, List.length_map]; omega, (fr2.trans fr3).mut hD0, ⟨p3, l3, T3.keep nDt nDc, by omega⟩, bs ++ [x], ?_, by rw [List.length_append, e2]; rfl, fun b hb => ?_⟩
    · rw [upd_same, List.map_append, List.map_append]; rfl
    · rcases List.mem_append.mp hb with q | q
      · exact e3 b q
      · rw [show b = x by simpa using q]; exact hx
  rintro H2 ⟨fr2, ⟨p2, l2, T2, hp2⟩, bs, e1, e2, e3⟩
  refine ⟨_, D, bs.map mk1, rfl, rfl, .inl (SqL.of e1), ?_, ?_⟩
  · rw [sum_mk1]
    show bs.length + (bs.map mk1).length * 0 ≤ 16777216
    omega
  have hbase := join_mk1 bs
  generalize Txt.join (Str.ofString "") (bs.map mk1) = bz at hbase
  have hbl : bz.length = bs.length := by rw [← tl_len, hbase]
  have hbz : bz.length ≤ sizeLine := by omega
  refine ⟨_, rfl, _, rfl, bz, rfl, hbz, t, c, ns, p2, l2, bz.length, rfl, T2, by omega, by omega, by omega, fun at_ p3 l3 H3 ha0 haL hp3 fr3 T3 => ?_⟩
  obtain ⟨a, rfl⟩ : ∃ a : Nat, at_ = a := ⟨at_.toNat, by omega⟩
  refine ⟨_, rfl, t, c, ns, p3, l3, 26, rfl, T3, by omega, by omega, by omega, fun f p4 l4 H4 hf0 hf26 hp4 fr4 T4 => ?_⟩
  refine ⟨_, rfl, by show 8 ≤ sizeLine; omega, fun q hq => ?_⟩
  have nqt : q ≠ t := fun z => by rw [z, T4.dict] at hq; cases hq
  have nqc : q ≠ c := fun z => by rw [z, T4.cells] at hq; cases hq
  refine ⟨t, c, q, ns, p4, l4, _, rfl, T4.keep nqt nqc, by omega, upd_same, by simp, by decide, fun x p5 l5 H5 hx hp5 fr5 T5 => ?_⟩
  obtain ⟨s, hs, rfl⟩ : ∃ s, s ∈ steps8 ∧ x = .int s := by
    have : x ∈ steps8.map V.int := hx
    obtain ⟨s, h1, h2⟩ := List.mem_map.mp this
    exact ⟨s, h1, h2.symm⟩
  have frA : Frm [t] H H5 := (((fr2.trans fr3).trans fr4).then_ hq).trans fr5
  refine ⟨_, _, _, rfl, ?_⟩
  refine ⟨by show 0 ≤ sizeLine; omega, fun fl hfl => ?_⟩
  have nft : fl ≠ t := fun z => by rw [z, T5.dict] at hfl; cases hfl
  have nfc : fl ≠ c := fun z => by rw [z, T5.cells] at hfl; cases hfl
  have hfl0 : H fl = none := frA.free hfl (by simp [nft])
  have hs18 : -(2 ^ 64) < s ∧ s < 2 ^ 64 := by
    simp only [steps8, List.mem_cons, List.not_mem_nil, or_false] at hs
    omega
  have haL' : a < bs.length := by omega
  have hb8 : bs.length ≤ 8 := by omega
  refine ⟨_, rfl, (many : Int), rfl, by omega, by omega, ?_⟩
  refine for_it (walk_range (lo := 0) (n := ((many : Nat) : Int).toNat)) (fun i σ H' => Frm [t] H H' ∧ TapeAt H' t c ns p5 l5 ∧ H' fl = some (.lst ((nmAll bs a f s i).map V.str)) ∧ ∃ x y, σ = [some (.ref t), some (.int (many : Nat)), some (.str letters), some (.str bz), some (.int (a : Nat)), some (.int f), some (.int s), some (.ref fl), x, y])
    ⟨frA.then_ hfl, T5.keep nft nfc, upd_same, _, _, rfl⟩ (fun _ _ _ _ _ => trivial) ?_ ?_
  · rintro i x σ H6 H6' hi ⟨fr6, T6, e6, x1, y1, rfl⟩ ⟨rfl, hx⟩
    have hx : x = .int (0 + (i : Int)) := hx
    rw [Int.zero_add] at hx
    subst hx
    have hi6 : i < 6 := by omega
    have c1 : (cutS bz none (some (a : Int))).length ≤ 8 := Nat.le_trans (cutS_length _ _ _) (by omega)
    have c2 : (cutS bz (some ((a : Int) + 1)) none).length ≤ 8 := Nat.le_trans (cutS_length _ _ _) (by omega)
    have c3 : ∀ x, (mk1 x).length = 1 := fun x => rfl
    have c4 : (cutS bz none (some (a : Int)) ++ mk1 (ltr f s i)).length ≤ 9 := by
      rw [← tl_len, tl_append, List.length_append, tl_len, tl_len, c3]
      omega
    have hnl : (nmAll bs a f s i).length = i := by unfold nmAll; rw [List.length_map, List.length_range]
    refine ⟨_, rfl, _, rfl, _, rfl, _, rfl, _, _, rfl, rfl, .inl hs18, _, _, rfl, rfl, .inl ⟨_, rfl, _, _, rfl, rfl, (show (0 : Int) < 26 by decide), letters, (f + s * i) % 26, ltr f s i, rfl, rfl, by omega, ltr_at f s i, ?_⟩⟩
    refine ⟨_, rfl, tyList e6, _, rfl, _, rfl, (a : Int), rfl, bz, rfl, hbz, _, rfl, _, mk1 (ltr f s i), rfl, rfl, by rw [c3]; omega, _, rfl, _, rfl, _, _, rfl, rfl, (a : Int) + 1, rfl, bz, rfl, hbz, _, _, rfl, rfl, by omega, fl, _, _, rfl, rfl, e6, by rw [List.length_map, hnl]; omega, fr6.mut hfl0, T6.keep nft nfc, ?_, _, _, rfl⟩
    rw [upd_same, nmS_eq, hbase]
    show some (HO.lst ((nmAll bs a f s i).map V.str ++ [V.str (nmS bs a f s i)])) = _
    unfold nmAll
    rw [List.range_succ, List.map_append, List.map_append]
    rfl
  rintro σ H6 ⟨fr6, T6, e6, x1, y1, rfl⟩
  rw [Int.toNat_natCast] at e6
  have hnl : (nmAll bs a f s many).length = many := by unfold nmAll; rw [List.length_map, List.length_range]
  have NA : Names (nmAll bs a f s many) := nmAll_names haL' hb8 e3 hs hm6
  refine ⟨_, rfl, _, _, rfl, rfl, _, rfl, ite2d (fun hap => ?_) (fun _ => iteF ?_)⟩
  · refine ⟨_, rfl, _, _, rfl, rfl, _, rfl, ite2d (fun _ => ?_) (fun _ => iteF ?_)⟩
    · refine ⟨_, rfl, t, c, ns, p5, l5, 3, rfl, T6, by omega, by omega, by omega, fun r6 p6 l6 H7 _ _ hp6 fr7 T7 => ?_⟩
      have e7 := fr7 _ _ e6 (by simp [nft])
      refine ⟨rfl, _, rfl, ite2 (fun _ => ?_) (fun _ => ?_)⟩
      · refine ⟨_, rfl, _, rfl, (a : Int), rfl, bz, rfl, hbz, _, rfl, _, rfl, _, rfl, t, c, ns, p6, l6, (many : Nat), rfl, T7, by omega, by omega, by omega, fun m p7 l7 H8 hm0 hmm hp7 fr8 T8 => ?_⟩
        obtain ⟨mj, rfl⟩ : ∃ mj : Nat, m = mj := ⟨m.toNat, by omega⟩
        have e8 := fr8 _ _ e7 (by simp [nft])
        have hix : ixN ((nmAll bs a f s many).map V.str).length (mj : Int) = some mj := by
          unfold ixN
          rw [if_pos (by omega), if_pos (by rw [List.length_map, hnl]; omega)]
          simp
        refine ⟨fl, _, (mj : Int), mj, rfl, rfl, e8, hix, ?_⟩
        refine ⟨_, rfl, k fl ((nmAll bs a f s many).set mj (cutS bz none (some (a : Int)))) p7 l7 _ ?_ (by rw [List.length_set]; exact hnl) (nmAll_set haL' (by omega) hb8 e3 hs hm6 (by rw [cutS_to, hbase])) (by omega) ((((fr6.trans fr7).trans fr8).mut hfl0)) (T8.keep nft nfc)⟩
        rw [upd_same, List.map_set]
      · exact ⟨_, rfl, k fl _ p6 l6 H7 e7 hnl NA (by omega) (fr6.trans fr7) T7⟩
    · exact ⟨_, rfl, k fl _ p5 l5 H6 e6 hnl NA (by omega) fr6 T6⟩
  · exact ⟨_, rfl, k fl _ p5 l5 H6 e6 hnl NA (by omega) fr6 T6⟩
end
end RD

/-! RDDrawn: the plan that the law draws. -/
namespace RD
open PySem PySem.Spec PyProof.Rows L2
/-! ### a tuple that is laid is known to have no dict -/
def tTupZ (t : TA) : TE := fun σ H Q => t σ H fun xs H1 => xs.length ≤ sizeLine ∧ ∀ p o, H1 p = none → o.cls = .type "tuple" → o.dict = none → Q (.ref p) (upd H1 p (.frz o (.tup xs)))
theorem pe_tupZ {X : Cx} {es : List Expr} {t : TA} {pos : Pos} {x1} (h : PA X es t) : PE X (.Tuple es x1 pos) (tTupZ t) := by
  refine ⟨fun pins s σ H Q I hq => ?_⟩
  refine wpAny_Tuple_spliced (thn (h.run pos pins s σ H _ I hq) fun us s1 ⟨xs, H1, I1, r, z, q⟩ => ⟨by rw [← r.length]; exact z, ?_⟩)
  have hf : H1 s1.heap.objs.size = none := I1.hok.fresh (Nat.le_refl _)
  refine ⟨.ref s1.heap.objs.size, upd H1 s1.heap.objs.size (.frz _ (.tup xs)), I1.laid (t' := s1.toks) (fun b u e => Heap.get?_push_of_some _ e) (Nat.le_refl _) ⟨Heap.get?_push_size _ rfl, z, us, r, ⟨_, Heap.get?_push_size _ rfl, rfl, _, rfl⟩⟩, rfl, q _ _ hf rfl rfl⟩
/-- a frozen tuple of two texts without a dict -/
def Bare (H : Hp) (a : Addr) (q : Cor) : Prop := ∃ o : Obj, H a = some (.frz o (.tup (prV q))) ∧ o.cls = .type "tuple" ∧ o.dict = none
theorem Bare.rd {H : Hp} {a : Addr} {q : Cor} (h : Bare H a q) : Rd H a (.tup (prV q)) := let ⟨o, h, _⟩ := h; .inr ⟨o, h⟩
theorem Bare.mono {H H' : Hp} {a : Addr} {q : Cor} (h : Bare H a q) (e : Same H H') : Bare H' a q := let ⟨o, h1, h2⟩ := h; ⟨o, e _ _ h1, h2⟩
theorem Bare.frm {H H' : Hp} {a : Addr} {q : Cor} {M : List Addr} (h : Bare H a q) (e : Frm M H H') (n : a ∉ M) : Bare H' a q := let ⟨o, h1, h2⟩ := h; ⟨o, e _ _ h1 n, h2⟩
theorem Bare.upd {H : Hp} {a b : Addr} {q : Cor} {u : HO} (h : Bare H a q) (n : a ≠ b) : Bare (L2.upd H b u) a q := let ⟨o, h1, h2⟩ := h; ⟨o, by rw [upd_ne n]; exact h1, h2⟩
theorem Bare.ne {H : Hp} {a b : Addr} {q : Cor} {u : HO} (h : Bare H a q) (h2 : H b = some u) (n : ∀ o, u ≠ .frz o (.tup (prV q))) : a ≠ b := fun z => by
  obtain ⟨o, h1, _⟩ := h
  rw [z, h2] at h1
  exact n o (Option.some.inj h1)
theorem lt_tri (a b : List Nat) : a < b ∨ a = b ∨ b < a := by
  induction a generalizing b with
  | nil => cases b with
    | nil => exact .inr (.inl rfl)
    | cons y b => exact .inl (List.nil_lt_cons ..)
  | cons x a ih => cases b with
    | nil => exact .inr (.inr (List.nil_lt_cons ..))
    | cons y b =>
      rcases Nat.lt_trichotomy x y with h | h | h
      · exact .inl (List.cons_lt_cons_iff.mpr (.inl h))
      · subst h
        rcases ih b with q | q | q
        · exact .inl (List.cons_lt_cons_iff.mpr (.inr ⟨rfl, q⟩))
        · exact .inr (.inl (by rw [q]))
        · exact .inr (.inr (List.cons_lt_cons_iff.mpr (.inr ⟨rfl, q⟩)))
      · exact .inr (.inr (List.cons_lt_cons_iff.mpr (.inl h)))
theorem pairS_lt {a b : Str} (h : a ≠ b) : (pairS a b).1.cps.toList < (pairS a b).2.cps.toList := by
  unfold pairS
  by_cases c : a.cps.toList < b.cps.toList
  · rw [if_pos c]; exact c
  · rw [if_neg c]
    rcases lt_tri a.cps.toList b.cps.toList with q | q | q
    · exact absurd q c
    · exact absurd (str_ext q) h
    · exact q
theorem pairS_mem (a b : Str) : ((pairS a b).1 = a ∧ (pairS a b).2 = b) ∨ ((pairS a b).1 = b ∧ (pairS a b).2 = a) := by
  unfold pairS
  by_cases c : a.cps.toList < b.cps.toList
  · rw [if_pos c]; exact .inl ⟨rfl, rfl⟩
  · rw [if_neg c]; exact .inr ⟨rfl, rfl⟩
/-- the edges of a tree: the m-th joins the room m + 1 to an earlier one -/
def TreeE (names : List Str) (es : List Cor) : Prop := ∀ m e, es[m]? = some e → ∃ j a b, j ≤ m ∧ names[m + 1]? = some a ∧ names[j]? = some b ∧ e = pairS a b
theorem TreeE.conn {names : List Str} {es : List Cor} (t : TreeE names es) (hl : es.length + 1 = names.length) : Conn es names := fun S hS hc => by
  have step : ∀ (m : Nat) (a : Str), names[m + 1]? = some a → ∃ j b, j ≤ m ∧ names[j]? = some b ∧ adj es a b := fun m a ha => by
    have hm : m < es.length := by have := (List.getElem?_eq_some_iff.mp ha).1; omega
    obtain ⟨j, a', b, hj, h1, h2, h3⟩ := t m es[m] (List.getElem?_eq_getElem hm)
    rw [ha] at h1
    cases h1
    refine ⟨j, b, hj, h2, ?_⟩
    have hmem : es[m] ∈ es := List.getElem_mem hm
    rw [h3] at hmem
    unfold adj
    rcases pairS_mem a b with ⟨q1, q2⟩ | ⟨q1, q2⟩
    · exact .inl ((show pairS a b = (a, b) from Prod.ext q1 q2) ▸ hmem)
    · exact .inr ((show pairS a b = (b, a) from Prod.ext q1 q2) ▸ hmem)
  have down : ∀ (m : Nat) (a : Str), names[m]? = some a → S a → ∃ z, names[0]? = some z ∧ S z := by
    intro m
    induction m using Nat.strongRecOn with
    | ind m ih =>
      intro a ha hs
      cases m with
      | zero => exact ⟨a, ha, hs⟩
      | succ m =>
        obtain ⟨j, b, hj, hb, hab⟩ := step m a ha
        exact ih j (by omega) b hb (hc a b hs hab)
  obtain ⟨r0, hr0, hs0⟩ := hS
  obtain ⟨i0, hi0, e0⟩ := List.mem_iff_getElem.mp hr0
  obtain ⟨z, hz, hsz⟩ := down i0 r0 (by rw [List.getElem?_eq_getElem hi0, e0]) hs0
  have up : ∀ (m : Nat) (a : Str), names[m]? = some a → S a := by
    intro m
    induction m using Nat.strongRecOn with
    | ind m ih =>
      intro a ha
      cases m with
      | zero => rw [hz] at ha; cases ha; exact hsz
      | succ m =>
        obtain ⟨j, b, hj, hb, hab⟩ := step m a ha
        exact hc b a (ih j (by omega) b hb) hab.symm
  intro r hr
  obtain ⟨i, hi, e⟩ := List.mem_iff_getElem.mp hr
  exact up i r (by rw [List.getElem?_eq_getElem hi, e])
theorem TreeE.cors {names : List Str} {es : List Cor} (t : TreeE names es) (hn : names.Nodup) : Cors es names := by
  have inj : ∀ {i j : Nat} {a : Str}, names[i]? = some a → names[j]? = some a → i = j := fun {i j a} h1 h2 => by
    obtain ⟨p1, q1⟩ := List.getElem?_eq_some_iff.mp h1
    obtain ⟨p2, q2⟩ := List.getElem?_eq_some_iff.mp h2
    exact (List.getElem_inj hn).mp (q1.trans q2.symm)
  refine ⟨fun q hq => ?_, fun q hq => ?_, ?_⟩
  · obtain ⟨m, hm, e⟩ := List.mem_iff_getElem.mp hq
    obtain ⟨j, a, b, hj, h1, h2, rfl⟩ := t m q (by rw [List.getElem?_eq_getElem hm, e])
    have m1 := List.mem_of_getElem? h1
    have m2 := List.mem_of_getElem? h2
    rcases pairS_mem a b with ⟨q1, q2⟩ | ⟨q1, q2⟩ <;> rw [q1, q2]
    · exact ⟨m1, m2⟩
    · exact ⟨m2, m1⟩
  · obtain ⟨m, hm, e⟩ := List.mem_iff_getElem.mp hq
    obtain ⟨j, a, b, hj, h1, h2, rfl⟩ := t m q (by rw [List.getElem?_eq_getElem hm, e])
    exact pairS_lt fun z => by
      subst z
      have := inj h1 h2
      omega
  · refine List.pairwise_iff_getElem.mpr fun i k hi hk hik e => ?_
    obtain ⟨j, a, b, hj, h1, h2, h3⟩ := t i es[i] (List.getElem?_eq_getElem hi)
    obtain ⟨j', a', b', hj', h1', h2', h3'⟩ := t k es[k] (List.getElem?_eq_getElem hk)
    rw [h3, h3'] at e
    have e1 := congrArg Prod.fst e
    have e2 := congrArg Prod.snd e
    -- the later room a' is one of a, b
    have : a' = a ∨ a' = b := by
      rcases pairS_mem a b with ⟨q1, q2⟩ | ⟨q1, q2⟩ <;> rcases pairS_mem a' b' with ⟨r1, r2⟩ | ⟨r1, r2⟩
      · left; rw [← r1, ← e1, q1]
      · right; rw [← r2, ← e2, q2]
      · right; rw [← r1, ← e1, q1]
      · left; rw [← r2, ← e2, q2]
    rcases this with z | z
    · subst z; have := inj h1 h1'; omega
    · subst z; have := inj h2 h1'; omega
theorem TreeE.snoc {names : List Str} {es : List Cor} (t : TreeE names es) {j : Nat} {a b : Str} (hj : j ≤ es.length) (ha : names[es.length + 1]? = some a) (hb : names[j]? = some b) : TreeE names (es ++ [pairS a b]) := fun m e he => by
  by_cases h : m < es.length
  · rw [List.getElem?_append_left h] at he
    exact t m e he
  · rw [List.getElem?_append_right (by omega)] at he
    have h0 : m - es.length = 0 := by
      rcases Nat.eq_zero_or_pos (m - es.length) with q | q
      · exact q
      · rw [List.getElem?_eq_none (by simp; omega)] at he; cases he
    rw [h0] at he
    have hm : m = es.length := by omega
    subst hm
    exact ⟨j, a, b, hj, ha, hb, by simpa using he.symm⟩
theorem Conn.more {E : List Cor} {rs : List Str} (h : Conn E rs) (e : Cor) : Conn (E ++ [e]) rs := fun S hS hc => h S hS fun r x hr ha => hc r x hr (by
  unfold adj at ha ⊢
  rcases ha with q | q
  · exact .inl (List.mem_append_left _ q)
  · exact .inr (List.mem_append_left _ q))
theorem Conn.perm {E E' : List Cor} {rs : List Str} (h : Conn E rs) (p : E'.Perm E) : Conn E' rs := fun S hS hc => h S hS fun r x hr ha => hc r x hr (by
  unfold adj at ha ⊢
  rcases ha with q | q
  · exact .inl (p.mem_iff.mpr q)
  · exact .inr (p.mem_iff.mpr q))
theorem Cors.perm {E E' : List Cor} {rs : List Str} (h : Cors E rs) (p : E'.Perm E) : Cors E' rs :=
  ⟨fun q hq => h.ends q (p.mem_iff.mp hq), fun q hq => h.lt q (p.mem_iff.mp hq), p.nodup_iff.mpr h.nd⟩
theorem Cors.more {E : List Cor} {rs : List Str} (h : Cors E rs) {a b : Str} (ha : a ∈ rs) (hb : b ∈ rs) (n : a ≠ b) (hn : pairS a b ∉ E) : Cors (E ++ [pairS a b]) rs := by
  refine ⟨fun q hq => ?_, fun q hq => ?_, ?_⟩
  · rcases List.mem_append.mp hq with z | z
    · exact h.ends q z
    · rw [show q = pairS a b by simpa using z]
      rcases pairS_mem a b with ⟨q1, q2⟩ | ⟨q1, q2⟩ <;> rw [q1, q2]
      · exact ⟨ha, hb⟩
      · exact ⟨hb, ha⟩
  · rcases List.mem_append.mp hq with z | z
    · exact h.lt q z
    · rw [show q = pairS a b by simpa using z]; exact pairS_lt n
  · rw [List.nodup_append]
    refine ⟨h.nd, by simp, fun x hx y hy e => hn ?_⟩
    rw [show y = pairS a b by simpa using hy] at e
    exact e ▸ hx
/-- the edges while they are drawn -/
structure Edges (H : Hp) (fl : Addr) (L : List (Addr × Cor)) : Prop where
  at_ : H fl = some (.lst (L.map fun q => V.ref q.1))
  each : ∀ q ∈ L, Bare H q.1 q.2 ∧ q.1 ≠ fl
theorem Edges.snoc {H : Hp} {fl p : Addr} {L : List (Addr × Cor)} {e : Cor} (h : Edges H fl L) (hp : Bare H p e) : Edges (upd H fl (.lst ((L.map fun q => V.ref q.1) ++ [V.ref p]))) fl (L ++ [(p, e)]) := by
  have np : p ≠ fl := hp.ne h.at_ (by simp)
  refine ⟨by rw [upd_same, List.map_append]; rfl, fun q hq => ?_⟩
  rcases List.mem_append.mp hq with z | z
  · exact ⟨(h.each q z).1.upd (h.each q z).2, (h.each q z).2⟩
  · rw [show q = (p, e) by simpa using z]
    exact ⟨hp.upd np, np⟩
theorem Edges.mono {H H' : Hp} {fl : Addr} {L : List (Addr × Cor)} (h : Edges H fl L) (e : Same H H') : Edges H' fl L := ⟨e _ _ h.at_, fun q hq => ⟨(h.each q hq).1.mono e, (h.each q hq).2⟩⟩
theorem Edges.frm {H H' : Hp} {fl : Addr} {L : List (Addr × Cor)} {M : List Addr} (h : Edges H fl L) (e : Frm M H H') (n : fl ∉ M) (n2 : ∀ q ∈ L, q.1 ∉ M) : Edges H' fl L := ⟨e _ _ h.at_ n, fun q hq => ⟨(h.each q hq).1.frm e (n2 q hq), (h.each q hq).2⟩⟩
section
variable {P : Program} {w : World} {K : PySem.W.Frag} {mg : Str → Option Value} {base : Heap}
/-- a plan that a building is made of -/
structure Good (names : List Str) (sz : Str → Int) (E : List Cor) : Prop where
  nm : Names names
  ne : names ≠ []
  pos : ∀ r ∈ names, 1 ≤ sz r ∧ sz r ≤ 1000000000
  cs : Cors E names
  cn : Conn E names
/-- the corridors of a plan are tuples without a dict -/
def BareL (H : Hp) (L : List (Addr × Cor)) : Prop := ∀ q ∈ L, Bare H q.1 q.2
def spPairZ : Sp := fun vs H Q _ => ∃ a b : Str, vs = [.str a, .str b] ∧ ∀ p H', H p = none → Same H H' → (∀ c, c ≠ p → H' c = H c) → Bare H' p (pairS a b) → Q (.ref p) H'
theorem ok_pairZ (T : Says w K mg) : C8.Cal P w K mg base 1 "_law_pair" spPairZ [] := by
  refine cal_of T.d_pair T.g_pair sc_pair (fun vs H Q E h => ?_) (fun _ _ _ _ _ _ us hl => match us, hl with | [_, _], _ => rfl) (fun cdv A outer s H vs Q E hr h => ?_)
  · obtain ⟨x, y, rfl, _⟩ := h; rfl
  refine ⟨_, (pss_one (ps_ret (pe_ifExp (pt_cmpR op_lt_str (pv 0) (pv 1) (nomark _)) (pe_tupZ (pa_cons (pv 0) (pa_cons (pv 1) pa_nil))) (pe_tupZ (pa_cons (pv 1) (pa_cons (pv 0) pa_nil)))))), ?_⟩
  obtain ⟨a, b, rfl, k⟩ := h
  refine ⟨_, rfl, _, rfl, _, _, rfl, rfl, _, rfl, ?_⟩
  unfold pairS at k
  by_cases c : a.cps.toList < b.cps.toList
  · rw [if_pos c] at k
    rw [if_pos (decide_eq_true c)]
    exact ⟨_, rfl, _, rfl, by show 2 ≤ sizeLine; decide, fun p o hp h1 h2 => k p _ hp (Same.new hp) (fun c hc => upd_ne hc) ⟨o, upd_same, h1, h2⟩⟩
  · rw [if_neg c] at k
    rw [if_neg (by simpa using c)]
    exact ⟨_, rfl, _, rfl, by show 2 ≤ sizeLine; decide, fun p o hp h1 h2 => k p _ hp (Same.new hp) (fun c hc => upd_ne hc) ⟨o, upd_same, h1, h2⟩⟩
def spDrawn : Sp := fun vs H Q _ => ∃ (t c zl : Addr) (ns : List Int) (place : Nat) (left : Int) (szs : List Int), vs = [.ref t, .int 2, .int 6, .int 3, .ref zl] ∧ TapeAt H t c ns place left ∧ place < 80000 ∧ H zl = some (.lst (szs.map V.int)) ∧ szs ≠ [] ∧ szs.length ≤ 1000 ∧ (∀ s ∈ szs, 1 ≤ s ∧ s ≤ 1000000000) ∧
  ∀ p d c' names sz L place' left' H', Frm [t] H H' → PlanAt H' p names sz L d c' → BareL H' L → Good names sz (cors L) → place' ≤ place + 100 → TapeAt H' t c ns place' left' → Q (.ref p) H'
theorem sc_drawn : FnScope ["_law_tape", "_law_least", "_law_most", "_law_more", "_law_sizes_here", "_law_names_here", "_law_plan", "_law_found", "_law_turn", "_law_one", "_law_other", "_law_k", "_law_name"] ["_law_tape", "_law_least", "_law_most", "_law_more", "_law_sizes_here"] (defScope s_drawn) := ⟨rfl, rfl, rfl, by decide +kernel, rfl, by decide +kernel, by decide +kernel⟩
theorem ok_drawn (T : Says w K mg) : C8.Cal P w K mg base 4 "_law_drawn" spDrawn [] := by
  refine cal_of T.d_drawn T.g_drawn sc_drawn (fun vs H Q E h => ?_) (fun _ _ _ _ _ _ us hl => match us, hl with | [_, _, _, _, _], _ => rfl) (fun cdv A outer s H vs Q E hr h => ?_)
  · obtain ⟨_, _, _, _, _, _, _, rfl, _⟩ := h; rfl
  refine ⟨_, (pss_cons (ps_set (i := 5) sc_drawn.nd rfl (Or.inr rfl) (C8.pe_c (ok_names T) hr (by decide) rfl (pa_cons (pv 0) (pa_cons (pe_op op_add (pv 1) (C8.pe_c (ok_draw T) hr (by decide) rfl (pa_cons (pv 0) (pa_cons (pe_op op_add (pe_op op_sub (pv 2) (pv 1)) pe_int) pa_nil)))) pa_nil))))
    (pss_cons (ps_set (i := 6) sc_drawn.nd rfl (Or.inl rfl) (pe_callTy (T := "dict") (call_dictP rfl) (by rfl) T.z_dict (by decide +kernel) (pa_cons (pe_lc (own := [("_law_name", 12)]) (g := (gName 12)) (tt := tYes) rfl sc_drawn.nd (pi_list (pv 5)) (blkOk_by (own := [("_law_name", 12)]) (N := ["_law_tape", "_law_least", "_law_most", "_law_more", "_law_sizes_here", "_law_names_here", "_law_plan", "_law_found", "_law_turn", "_law_one", "_law_other", "_law_k", "_law_name"]) (sc := defScope s_drawn) (by decide +kernel)) (fun _ _ _ _ _ => (pg_name (i := 12) sc_drawn.nd rfl (Or.inl rfl))) (fun _ _ _ _ _ => pts_nil) (fun _ _ _ _ _ => (pe_tup (pa_cons (pv 12) (pa_cons (C8.pe_c (ok_pick T) hr (by decide) rfl (pa_cons (pv 0) (pa_cons (pv 4) pa_nil))) pa_nil))))) pa_nil)))
    (pss_cons (ps_setLc (i := 7) (own := [("_law_k", 11)]) (g := (gName 11)) (tt := tYes) rfl sc_drawn.nd rfl rfl (sw_true rfl rfl rfl (by decide +kernel)) (pi_range2 (by rfl) T.z_range (pa_cons pe_int (pa_cons (pe_callB (id := "len") call_len_seq (by rfl) T.z_len PySem.boot_len (pa_cons (pv 5) pa_nil)) pa_nil))) (blkOk_by (own := [("_law_k", 11)]) (N := ["_law_tape", "_law_least", "_law_most", "_law_more", "_law_sizes_here", "_law_names_here", "_law_plan", "_law_found", "_law_turn", "_law_one", "_law_other", "_law_k", "_law_name"]) (sc := defScope s_drawn) (by decide +kernel)) (fun _ _ _ _ _ => (pg_name (i := 11) sc_drawn.nd rfl (Or.inl rfl))) (fun _ _ _ _ _ => pts_nil) (fun _ _ _ _ _ => (C8.pe_c (ok_pairZ T) hr (by decide) rfl (pa_cons (pe_ix (r := rIxL K) ix_list (pv 5) (pv 11) (fun _ _ => rfl)) (pa_cons (pe_ix (r := rIxL K) ix_list (pv 5) (C8.pe_c (ok_draw T) hr (by decide) rfl (pa_cons (pv 0) (pa_cons (pv 11) pa_nil))) (fun _ _ => rfl)) pa_nil)))))
    (pss_cons (ps_for PassesOwn.never rfl (pi_range1 (by rfl) T.z_range (pa_cons (pe_op op_mul (C8.pe_c (ok_draw T) hr (by decide) rfl (pa_cons (pv 0) (pa_cons (pe_op op_add (pv 3) pe_int) pa_nil))) (pe_callTy (T := "int") call_int1 (by rfl) T.z_int (by decide +kernel) (pa_cons (pe_cmpR op_gt (pe_callB (id := "len") call_len_seq (by rfl) T.z_len PySem.boot_len (pa_cons (pv 5) pa_nil)) pe_int (nomark _)) pa_nil))) pa_nil)) (pg_name (i := 8) sc_drawn.nd rfl (Or.inl rfl)) (pss_cons (ps_asg (pe_slice (r := rSlL K) sl_list (C8.pe_c (ok_shuffled T) hr (by decide) rfl (pa_cons (pv 0) (pa_cons (pv 5) pa_nil))) po_none (po_some pe_int)) (pg_unl rfl (pgs_cons (pg_name (i := 9) sc_drawn.nd rfl (Or.inl rfl)) (pgs_cons (pg_name (i := 10) sc_drawn.nd rfl (Or.inl rfl)) pgs_nil))))
    (pss_one (ps_if (PW.pt (pw_and (pt_cmpR (r := rNotInD K) (op_notInD (hu65 hr)) (C8.pe_c (ok_pairZ T) hr (by decide) rfl (pa_cons (pv 9) (pa_cons (pv 10) pa_nil))) (pv 7) (by rfl)) (pw_and1 (pt_cmpR op_lt (pe_callB (id := "len") call_len_seq (by rfl) T.z_len PySem.boot_len (pa_cons (pv 7) pa_nil)) pe_int (nomark _))))) (pss_one (ps_expr (pe_bm PySem.F.plainAttrs_list PySem.F.slot_list_append PySem.F.type_list_append mt_append (pv 7) (pa_cons (C8.pe_c (ok_pairZ T) hr (by decide) rfl (pa_cons (pv 9) (pa_cons (pv 10) pa_nil))) pa_nil)))) pss_nil))))
    (pss_one (ps_ret (pe_tup (pa_cons (pv 6) (pa_cons (pe_callB (id := "sorted") (r := rSortedC K) (cr_sortedC hr) (by rfl) T.z_sorted (by decide +kernel) (pa_cons (pv 7) pa_nil)) pa_nil))))))))), ?_⟩
  obtain ⟨t, c, zl, ns, place, left, szs, rfl, hT, hpl, hz, hzne, hzl, hzs, k⟩ := h
  have hbig : sizeLine = 16777216 := sizeLine_eq
  refine ⟨_, rfl, _, rfl, _, rfl, _, rfl, _, rfl, _, _, rfl, rfl, _, _, rfl, rfl, t, c, ns, place, left, 5, rfl, hT, by omega, by omega, by omega, fun r p1 l1 H1 hr0 hr5 hp1 fr1 T1 => ?_⟩
  refine ⟨_, _, rfl, rfl, t, c, ns, p1, l1, (2 + r).toNat, ?_, T1, by omega, by omega, by omega, fun q names p2 l2 H2 eq hql hN hp2 fr2 T2 => ?_⟩
  · rw [Int.toNat_of_nonneg (by omega)]; rfl
  have hn2 : 2 ≤ names.length := by omega
  have hn6 : names.length ≤ 6 := by omega
  have nqt : q ≠ t := fun z => by rw [z, T2.dict] at eq; cases eq
  have nqc : q ≠ c := fun z => by rw [z, T2.cells] at eq; injection eq with e; injection e with e; cases ns <;> cases names <;> simp at e hn2
  have frA : Frm [t] H H2 := fr1.trans fr2
  refine ⟨_, rfl, q, rfl, ⟨_, SqL.of eq⟩, fun D hD => ?_⟩
  have nDt : D ≠ t := fun z => by rw [z, T2.dict] at hD; cases hD
  have nDc : D ≠ c := fun z => by rw [z, T2.cells] at hD; cases hD
  have hD0 : H D = none := frA.free hD (by simp [nDt])
  have nqD : q ≠ D := fun z => by rw [z, hD] at eq; cases eq
  have nzD : zl ≠ D := fun z => by rw [z, hD0] at hz; cases hz
  have nzt : zl ≠ t := fun z => by rw [z, hT.dict] at hz; cases hz
  refine lc_it (walk_list (xs := names.map V.str)) (fun i H' => Frm [t] H H' ∧ H' q = some (.lst (names.map V.str)) ∧ (∃ p l, TapeAt H' t c ns p l ∧ p ≤ place + 15 + i) ∧ ∃ (ts : List Addr) (f : Str → Int), H' D = some (.lst (ts.map V.ref)) ∧ (∀ r ∈ names.take i, 1 ≤ f r ∧ f r ≤ 1000000000) ∧ Paired (fun q' kv => q' ≠ D ∧ H' q' = some (.tup [kV kv.1, kv.2])) ts (iD (names.take i) f))
    ⟨frA.then_ hD, by rw [upd_ne nqD]; exact eq, ⟨p2, l2, T2.keep nDt nDc, by omega⟩, [], fun _ => 0, upd_same, by simp, .nil⟩ (fun i H' _ h => SqL.of h.2.1) ?_ ?_
  · rintro i v H3 H4 hi ⟨fr3, q3, ⟨p3, l3, T3, hp3⟩, ts, f, e1, e2, e3⟩ ⟨rfl, hv⟩
    obtain ⟨z, hzz, rfl⟩ : ∃ z, names[i]? = some z ∧ v = .str z := by
      rw [List.getElem?_map] at hv
      obtain ⟨n, h1, h2⟩ := Option.map_eq_some_iff.mp hv
      exact ⟨n, h1, h2.symm⟩
    rw [List.length_map] at hi
    have hzn : z ∉ names.take i := fun h => by
      obtain ⟨j, hj, ej⟩ := List.mem_iff_getElem.mp h
      rw [List.getElem_take] at ej
      rw [List.length_take] at hj
      have := (List.getElem?_eq_some_iff.mp hzz).2
      have := (List.getElem_inj hN.nd).mp (ej.trans this.symm)
      omega
    refine ⟨rfl, _, rfl, _, rfl, _, rfl, t, c, zl, ns, p3, l3, _, rfl, T3, by omega, fr3 _ _ hz (by simp [nzt]), by simpa using hzne, by rw [List.length_map]; exact hzl, fun x p4 l4 H5 hx hp4 fr5 T5 => ?_⟩
    obtain ⟨s, hs, rfl⟩ := List.mem_map.mp hx
    refine ⟨by show 2 ≤ sizeLine; omega, fun p hp => ?_⟩
    have e1' := fr5 _ _ e1 (by simp [nDt])
    have q5 := fr5 _ _ q3 (by simp [nqt])
    have npD : p ≠ D := fun w => by rw [w, e1'] at hp; cases hp
    have npt : p ≠ t := fun w => by rw [w, T5.dict] at hp; cases hp
    have npc : p ≠ c := fun w => by rw [w, T5.cells] at hp; cases hp
    have hts : ts.length = i := by rw [e3.length, iD_len, List.length_take]; omega
    let f' : Str → Int := fun r => if r = z then s else f r
    have ef : iD (names.take i) f' = iD (names.take i) f := iD_congr fun r hr => if_neg (fun (e : r = z) => hzn (e ▸ hr))
    have fz : f' z = s := if_pos rfl
    refine ⟨_, (Same.new hp) _ _ e1', by rw [List.length_map]; omega, ((fr3.trans fr5).then_ hp).mut hD0, by rw [upd_ne nqD]; exact (Same.new hp) _ _ q5, ⟨p4, l4, (T5.keep npt npc).keep nDt nDc, by omega⟩, ts ++ [p], f', by rw [upd_same, List.map_append]; rfl, ?_, ?_⟩
    · rw [take_one hzz]
      intro r hr
      rcases List.mem_append.mp hr with w | w
      · have : f' r = f r := if_neg (fun (e : r = z) => hzn (e ▸ w))
        rw [this]; exact e2 r w
      · rw [show r = z by simpa using w, fz]; exact hzs s hs
    · rw [take_one hzz]
      unfold iD
      rw [List.map_append]
      refine Paired.snoc (b := (Sum.inr z, V.int (f' z))) ?_ ⟨npD, by rw [upd_ne npD, upd_same, fz]; rfl⟩
      show Paired _ ts (iD (names.take i) f')
      rw [ef]
      refine pair_map e3 fun q' kv h => ⟨h.1, ?_⟩
      rw [upd_ne h.1]
      exact (Same.new hp) _ _ (fr5 _ _ h.2 (by
        have : q' ≠ t := fun w => by have := h.2; rw [w, T3.dict] at this; cases this
        simp [this]))
  · rintro H3 ⟨fr3, q3, ⟨p3, l3, T3, hp3⟩, ts, f, e1, e2, e3⟩
    rw [List.length_map] at hp3 e2 e3
    rw [List.take_length] at e2 e3
    refine ⟨D, ts, iD names f, rfl, SqL.of e1, pair_map e3 fun q' kv h => SqT.of h.2, fun d hd => ?_⟩
    rw [mergeK_iD hN.nd]
    have ndt : d ≠ t := fun w => by rw [w, T3.dict] at hd; cases hd
    have ndc : d ≠ c := fun w => by rw [w, T3.cells] at hd; cases hd
    have nqd : q ≠ d := fun w => by rw [w, hd] at q3; cases q3
    have fr4 := fr3.then_ (o := .dK (iD names f)) hd
    have q4 := (Same.new (o := .dK (iD names f)) hd) _ _ q3
    have d4 : (upd H3 d (.dK (iD names f))) d = some (.dK (iD names f)) := upd_same
    have T4 := T3.keep (o := .dK (iD names f)) ndt ndc
    generalize upd H3 d (.dK (iD names f)) = H4 at fr4 q4 d4 T4
    clear e1 e3
    have hnl : (names.map V.str).length = names.length := List.length_map ..
    refine ⟨_, rfl, q, _, rfl, .inl (SqL.of q4), 1, _, rfl, by rw [hnl]; omega, fun fl hfl => ?_⟩
    have nft : fl ≠ t := fun w => by rw [w, T4.dict] at hfl; cases hfl
    have nfc : fl ≠ c := fun w => by rw [w, T4.cells] at hfl; cases hfl
    have nfq : q ≠ fl := fun w => by rw [w, hfl] at q4; cases q4
    have nfd : d ≠ fl := fun w => by rw [w, hfl] at d4; cases d4
    have hfl0 : H fl = none := fr4.free hfl (by simp [nft])
    have nidx : ∀ (j : Nat) (hj : j < names.length), atI (names.map V.str) (j : Int) = some (.str names[j]) := fun j hj => atI_nat (by rw [List.getElem?_map, List.getElem?_eq_getElem hj]; rfl)
    refine lc_it (walk_range (lo := 1) (n := (((names.map V.str).length : Int) - 1).toNat)) (fun i H' => Frm [t] H H' ∧ H' q = some (.lst (names.map V.str)) ∧ H' d = some (.dK (iD names f)) ∧ (∃ p l, TapeAt H' t c ns p l ∧ p ≤ place + 21 + i) ∧ ∃ L : List (Addr × Cor), Edges H' fl L ∧ L.length = i ∧ TreeE names (cors L))
      ⟨fr4.then_ hfl, by rw [upd_ne nfq]; exact q4, by rw [upd_ne nfd]; exact d4, ⟨p3, l3, T4.keep nft nfc, by omega⟩, [], ⟨upd_same, by simp⟩, rfl, fun m e h => by simp [cors] at h⟩ (fun _ _ _ _ => trivial) ?_ ?_
    · rintro i x H5 H5' hi ⟨fr5, q5, d5, ⟨p5, l5, T5, hp5⟩, L, hE, hLl, hT5⟩ ⟨rfl, hx⟩
      have hx : x = .int (1 + (i : Int)) := hx
      have hx : x = .int ((i + 1 : Nat) : Int) := by rw [hx]; congr 1; omega
      subst hx
      rw [hnl] at hi
      have hi1 : i + 1 < names.length := by omega
      refine ⟨rfl, _, rfl, _, rfl, q, _, _, _, rfl, rfl, SqL.of q5, nidx (i + 1) hi1, ?_⟩
      refine ⟨_, rfl, _, rfl, _, rfl, t, c, ns, p5, l5, _, rfl, T5, by omega, by omega, by omega, fun r p6 l6 H6 hr0 hr1 hp6 fr6 T6 => ?_⟩
      obtain ⟨j, rfl⟩ : ∃ j : Nat, r = j := ⟨r.toNat, by omega⟩
      have hj : j < names.length := by omega
      have q6 := fr6 _ _ q5 (by simp [nqt])
      have d6 := fr6 _ _ d5 (by
        have : d ≠ t := ndt
        simp [this])
      have E6 : Edges H6 fl L := hE.frm fr6 (by simp [nft]) fun z hz => by
        have : z.1 ≠ t := (hE.each z hz).1.ne T5.dict (by simp [tapeD])
        simp [this]
      refine ⟨q, _, _, _, rfl, rfl, SqL.of q6, nidx j hj, _, _, rfl, fun p H7 hp s7 _ b7 => ?_⟩
      have E7 := E6.mono s7
      have T7 := T6.mono s7
      refine ⟨_, E7.at_, by rw [List.length_map]; omega, ((fr5.trans fr6).trans (Frm.of s7)).mut hfl0, by rw [upd_ne nfq]; exact s7 _ _ q6, by rw [upd_ne nfd]; exact s7 _ _ d6, ⟨p6, l6, T7.keep nft nfc, by omega⟩, _, E7.snoc b7, by rw [List.length_append, hLl]; rfl, ?_⟩
      unfold cors at hT5 ⊢
      rw [List.map_append]
      refine TreeE.snoc hT5 (j := j) (by rw [List.length_map]; omega) ?_ (List.getElem?_eq_getElem hj)
      rw [List.length_map, hLl]
      exact List.getElem?_eq_getElem hi1
    · rintro H5 ⟨fr5, q5, d5, ⟨p5, l5, T5, hp5⟩, L, hE, hLl, hT5⟩
      rw [hnl] at hp5 hLl
      have hcl : (cors L).length + 1 = names.length := by unfold cors; rw [List.length_map]; omega
      have C0 := hT5.cors hN.nd
      have N0 := hT5.conn hcl
      refine ⟨_, rfl, _, rfl, _, _, rfl, rfl, t, c, ns, p5, l5, 4, rfl, T5, by omega, by omega, by omega, fun r p6 l6 H6 hr0 hr4 hp6 fr6 T6 => ?_⟩
      have q6 := fr6 _ _ q5 (by simp [nqt])
      have d6 := fr6 _ _ d5 (by simp [ndt])
      have E6 : Edges H6 fl L := hE.frm fr6 (by simp [nft]) fun z hz => by
        have : z.1 ≠ t := (hE.each z hz).1.ne T5.dict (by simp [tapeD])
        simp [this]
      refine ⟨_, rfl, q, _, rfl, .inl (SqL.of q6), _, _, rfl, rfl, .inr ⟨_, rfl, _, _, rfl, rfl, .inl (by omega), ?_⟩⟩
      obtain ⟨cn, hcnt⟩ : ∃ cn : Int, r * (if decide ((2 : Int) < ((names.map V.str).length : Int)) = true then 1 else 0) = cn := ⟨_, rfl⟩
      have hc0 : 0 ≤ cn ∧ cn ≤ 3 := by
        rw [← hcnt]
        split <;> omega
      refine ⟨cn, by rw [← hcnt], by omega, by omega, ?_⟩
      refine for_it (walk_range (lo := 0) (n := cn.toNat)) (fun i σ H' => Frm [t] H H' ∧ H' q = some (.lst (names.map V.str)) ∧ H' d = some (.dK (iD names f)) ∧ (∃ p l, TapeAt H' t c ns p l ∧ p ≤ place + 30 + 6 * i) ∧ (∃ L : List (Addr × Cor), Edges H' fl L ∧ L.length ≤ 5 + i ∧ Cors (cors L) names ∧ Conn (cors L) names) ∧ ∃ x y z, σ = [some (.ref t), some (.int 2), some (.int 6), some (.int 3), some (.ref zl), some (.ref q), some (.ref d), some (.ref fl), x, y, z, none, none])
        ⟨fr5.trans fr6, q6, d6, ⟨p6, l6, T6, by omega⟩, ⟨L, E6, by omega, C0, N0⟩, _, _, _, rfl⟩ (fun _ _ _ _ _ => trivial) ?_ ?_
      · rintro i x σ H7 H7' hi ⟨fr7, q7, d7, ⟨p7, l7, T7, hp7⟩, ⟨L7, E7, hl7, C7, N7⟩, x1, y1, z1, rfl⟩ ⟨rfl, hx⟩
        have hi3 : i < 3 := by omega
        refine ⟨_, rfl, _, rfl, t, c, q, ns, p7, l7, names, rfl, T7, by omega, q7, hN.nm, by omega, fun ys zs p8 l8 H8 hperm hys hp8 fr8 T8 => ?_⟩
        obtain ⟨a, b, rest, rfl⟩ : ∃ a b rest, zs = a :: b :: rest := by
          have := hperm.length_eq
          match zs, this with
          | [], h => simp at h; omega
          | [_], h => simp at h; omega
          | a :: b :: rest, _ => exact ⟨a, b, rest, rfl⟩
        have ham : a ∈ names := hperm.mem_iff.mp (by simp)
        have hbm : b ∈ names := hperm.mem_iff.mp (by simp)
        have hab : a ≠ b := fun w => by
          have := hperm.nodup_iff.mpr hN.nd
          rw [w] at this
          simp at this
        refine ⟨2, rfl, ys, _, rfl, SqL.of hys, fun p hp => ⟨p, [.str a, .str b], rfl, ?_, rfl, ?_⟩⟩
        · rw [show cutV ((a :: b :: rest).map V.str) none (some (2 : Int)) = [.str a, .str b] from cut_to _ 2]
          exact SqL.of upd_same
        have frB : Frm [t] H (upd H8 p (.lst (cutV ((a :: b :: rest).map V.str) none (some (2 : Int))))) := (fr7.trans fr8).then_ hp
        have npt : p ≠ t := fun w => by rw [w, T8.dict] at hp; cases hp
        have npc : p ≠ c := fun w => by rw [w, T8.cells] at hp; cases hp
        have T9 := T8.keep (o := .lst (cutV ((a :: b :: rest).map V.str) none (some (2 : Int)))) npt npc
        have S9 : Same H8 (upd H8 p (.lst (cutV ((a :: b :: rest).map V.str) none (some (2 : Int))))) := Same.new hp
        have q9 := S9 _ _ (fr8 _ _ q7 (by simp [nqt]))
        have d9 := S9 _ _ (fr8 _ _ d7 (by simp [ndt]))
        have E9 : Edges (upd H8 p (.lst (cutV ((a :: b :: rest).map V.str) none (some (2 : Int))))) fl L7 := (E7.frm fr8 (by simp [nft]) fun z hz => by
          have : z.1 ≠ t := (E7.each z hz).1.ne T7.dict (by simp [tapeD])
          simp [this]).mono S9
        generalize upd H8 p (.lst (cutV ((a :: b :: rest).map V.str) none (some (2 : Int)))) = H9 at frB T9 q9 d9 E9
        have okq : okC (pairS a b) := by
          rcases pairS_mem a b with ⟨q1, q2⟩ | ⟨q1, q2⟩
          · exact ⟨by rw [q1]; exact hN.nm _ ham, by rw [q2]; exact hN.nm _ hbm⟩
          · exact ⟨by rw [q1]; exact hN.nm _ hbm, by rw [q2]; exact hN.nm _ ham⟩
        have okL : ∀ z ∈ cors L7, okC z := fun z hz => ⟨hN.nm _ (C7.ends z hz).1, hN.nm _ (C7.ends z hz).2⟩
        refine ⟨_, _, rfl, _, _, rfl, rfl, _, rfl, _, rfl, a, b, rfl, fun p2 H10 hp2 s10 _ b10 => ?_⟩
        have E10 := E9.mono s10
        refine ⟨_, rfl, _, _, cor_dpR b10.rd, .lst (SqL.of E10.at_) (cors_dpR fun z hz => (E10.each z hz).1.rd), corD_shaped okq, corDs_shaped okL, ?_⟩
        rw [cors_any]
        have fr10 := frB.trans (Frm.of (M := [t]) s10)
        have q10 := s10 _ _ q9
        have d10 := s10 _ _ d9
        have T10 := T9.mono s10
        clear q9 d9
        refine ⟨_, rfl, ite2n (fun hnew => ?_) (fun _ => iteF ?_)⟩
        · refine ⟨_, rfl, fl, _, rfl, .inl (SqL.of E10.at_), _, _, rfl, rfl, _, rfl, ite2d (fun _ => ?_) (fun _ => ?_)⟩
          · refine ⟨_, rfl, tyList E10.at_, _, rfl, _, rfl, a, b, rfl, fun p3 H11 hp3 s11 _ b11 => ?_⟩
            have E11 := E10.mono s11
            refine ⟨fl, _, _, rfl, rfl, E11.at_, by rw [List.length_map]; omega, (fr10.trans (Frm.of s11)).mut hfl0, by rw [upd_ne nfq]; exact s11 _ _ q10, by rw [upd_ne nfd]; exact s11 _ _ d10, ⟨p8, l8, (T10.mono s11).keep nft nfc, by omega⟩, ⟨_, E11.snoc b11, by rw [List.length_append]; simp; omega, ?_, ?_⟩, _, _, _, rfl⟩
            · unfold cors at C7 hnew ⊢
              rw [List.map_append]
              exact C7.more ham hbm hab hnew
            · unfold cors at N7 ⊢
              rw [List.map_append]
              exact N7.more _
          · exact ⟨fr10, q10, d10, ⟨p8, l8, T10, by omega⟩, ⟨L7, E10, by omega, C7, N7⟩, _, _, _, rfl⟩
        · exact ⟨fr10, q10, d10, ⟨p8, l8, T10, by omega⟩, ⟨L7, E10, by omega, C7, N7⟩, _, _, _, rfl⟩
      · rintro σ H7 ⟨fr7, q7, d7, ⟨p7, l7, T7, hp7⟩, ⟨L7, E7, hl7, C7, N7⟩, x1, y1, z1, rfl⟩
        have fr8 : Frm [t] H H7 := fr7
        refine ⟨_, rfl, _, rfl, fl, L7, rfl, SqL.of E7.at_, fun z hz => (E7.each z hz).1.rd, fun L' p hperm hp => ?_⟩
        refine ⟨by show 2 ≤ sizeLine; omega, fun o ho => ?_⟩
        have hpc : (cors L').Perm (cors L7) := hperm.map _
        have npt : p ≠ t := fun w => by rw [w, T7.dict] at hp; cases hp
        have npc : p ≠ c := fun w => by rw [w, T7.cells] at hp; cases hp
        have T9 := T7.keep (o := .lst (L'.map fun q => V.ref q.1)) npt npc
        have not : o ≠ t := fun w => by rw [w, T9.dict] at ho; cases ho
        have noc : o ≠ c := fun w => by rw [w, T9.cells] at ho; cases ho
        have S9 : Same H7 _ := Same.new (o := .lst (L'.map fun q => V.ref q.1)) hp
        refine k o d p names f L' p7 l7 _ ((fr8.then_ hp).then_ ho) ⟨upd_same, (Same.new ho) _ _ (S9 _ _ d7), (Same.new ho) _ _ upd_same, fun z hz => rd_mono (rd_mono (E7.each z (hperm.mem_iff.mp hz)).1.rd S9) (Same.new ho), by rw [hperm.length_eq]; omega⟩ (fun z hz => ((E7.each z (hperm.mem_iff.mp hz)).1.mono S9).mono (Same.new ho)) ⟨hN, by intro w; rw [w] at hn2; simp at hn2, e2, C7.perm hpc, N7.perm hpc⟩ (by omega) (T9.keep not noc)
end
end RD

/-! RDBuilt: the building of a plan, near rooms, wandered walks, sizes. -/
namespace RD
open PySem PySem.Spec PyProof.Rows L2
section
variable {P : Program} {w : World} {K : PySem.W.Frag} {mg : Str → Option Value} {base : Heap}
def spBuilt (K : PySem.W.Frag) : Sp := fun vs H Q _ => ∃ p names sz L d c, vs = [.ref p] ∧ PlanAt H p names sz L d c ∧ Good names sz (cors L) ∧
  ∀ b rs H', rs.Perm names → Same H H' → BldAt (He.ga K "Building") H' b rs sz (cors L) → Q (.ref b) H'
theorem sc_built : FnScope ["_law_plan"] ["_law_plan"] (defScope s_built) := ⟨rfl, rfl, rfl, by decide +kernel, rfl, by decide +kernel, by decide +kernel⟩
theorem ok_built (T : Says w K mg) : C8.Cal P w K mg base 7 "_law_built" (spBuilt K) [] := by
  refine cal_of T.d_built T.g_built sc_built (fun vs H Q E h => ?_) (fun _ _ _ _ _ _ us hl => match us, hl with | [_], _ => rfl) (fun cdv A outer s H vs Q E hr h => ?_)
  · obtain ⟨_, _, _, _, _, _, rfl, _⟩ := h; rfl
  refine ⟨_, (pss_one (ps_ret (C8.pe_mk (okBuilding_init T) hr (by decide) rfl (pa_cons (pe_ix (r := rIxT K) ix_tup (pv 0) pe_int (fun _ _ => rfl)) (pa_cons (pe_ix (r := rIxT K) ix_tup (pv 0) pe_int (fun _ _ => rfl)) pa_nil))))), ?_⟩
  obtain ⟨p, names, sz, L, d, c, rfl, hP, hG, k⟩ := h
  refine ⟨_, rfl, p, _, 0, _, rfl, rfl, SqT.of hP.tup, rfl, _, rfl, p, _, 1, _, rfl, rfl, SqT.of hP.tup, rfl, ?_⟩
  refine fun b dx hb hdx hne => ?_
  have sn : Same H (upd (upd H dx (.own b)) b (.ins (He.ga K "Building") dx [])) := (Same.new hdx).then_ (by rw [upd_ne (Ne.symm hne)]; exact hb)
  exact ⟨b, d, c, dx, names, sz, L, rfl, upd_same, sn _ _ hP.dict, hG.nm, hG.ne, hG.pos, hP.cors.mono sn, hG.cs, hG.cn, fun rs H' hp fr hB => ⟨rfl, k b rs H' hp (fr.fresh hb hdx) hB⟩⟩
/-- a method of a frozen thing that is known to have no dict -/
def tBMZ (T : String) (r : V → List V → Hp → VK → Prop) (to : TE) (t : TA) : TE := fun σ H Q => to σ H fun x H1 => (∃ p o u, x = .ref p ∧ H1 p = some (.frz o u) ∧ o.cls = .type T ∧ o.dict = none) ∧ t σ H1 fun xs H2 => r x xs H2 Q
theorem pe_bmZ {X : Cx} {o e : Expr} {es : List Expr} {to : TE} {t : TA} {name : Str} {apos cpos : Pos} {T id : String} {r : V → List V → Hp → VK → Prop}
    (pa : PlainAttrs T) (slot : Slot T name id) (hty : typeOf (.builtin id) = pure (.type "method_descriptor")) (hm : MtR X id r) (ho : PE X o to) (ha : PA X (e :: es) t)
    (hbase : attributeBase o name X.env (eval o X.env) = eval o X.env := by rfl)
    (hfew : ((backTo cpos (starEach (e :: es) X.env)).all (fun x => !x.1) && (backToKw cpos (keywordEach [] X.env)).all (fun x => x.1.isSome)
      && decide ((e :: es).length + ([] : List Keyword).length + (if ([] : List Keyword).isEmpty then 0 else 1) < 30)) = true := by rfl)
    (hline : (apos.endLine == cpos.line) = true := by rfl) (hs : starEach (e :: es) X.env = (false, eval e X.env) :: starEach es X.env := by rfl) (hplain : (backTo cpos (starEach es X.env)).any (·.1) = false := by rfl) :
    PE X (.Call (.Attribute o name apos) (e :: es) [] cpos) (tBMZ T r to t) := by
  refine ⟨fun pins s σ H Q I h => ?_⟩
  refine wpAny_Call_method_late hbase hfew hline rfl (thn (ho.run pins s σ H _ I h) fun v s1 ⟨x, H1, I1, r1, ⟨p, ob, u, ex, hp, hc, hd⟩, q1⟩ => ?_)
  subst ex
  have ev : v = .ref p := r1
  have hg : s1.heap.get? p = some ob := (I1.hok p _ hp).1
  refine ⟨T, id, pa, slot, hty, by rw [ev]; exact ⟨ob, hg, hc⟩, fun a e => ?_, ?_⟩
  · rw [ev] at e
    cases e
    exact ⟨ob, hg, hd⟩
  have hA := ha.run cpos pins s1 σ H1 _ I1 q1
  rw [hs] at hA ⊢
  refine Calls.callWith_builtin (by show (false || (backTo cpos (starEach es X.env)).any (·.1)) = false; rw [hplain] <;> rfl) (Calls.evalArgs_plain ?_)
  exact thn hA fun us s2 ⟨vs, H2, I2, r2, q2⟩ => hm pins s2 σ H2 _ vs v us Q I2 r1 r2 q2
def rTIx (K : PySem.W.Frag) : V → List V → Hp → VK → Prop := fun x xs H Q => ∃ p, ∃ ys : List Str, ∃ z j, x = .ref p ∧ xs = [.str z] ∧ SqT K H p (ys.map V.str) ∧ ys[j]? = some z ∧ (∀ m, m < j → ys[m]? ≠ some z) ∧ Q (.int (j : Nat)) H
theorem mt_tupIx {X : Cx} : MtR X "tuple.index" (rTIx X.K) := mt_tup_index
def spNear : Sp := fun vs H Q _ => ∃ p names sz L d c r, vs = [.ref p, .str r] ∧ PlanAt H p names sz L d c ∧ BareL H L ∧ Cors (cors L) names ∧ Names names ∧
  ∀ (q : Addr) (ys : List Str) H', Same H H' → H' q = some (.lst (ys.map V.str)) → ys.length ≤ 20 → (∀ x, x ∈ ys ↔ adj (cors L) r x) → Q (.ref q) H'
theorem sc_near : FnScope ["_law_plan", "_law_room", "_law_two"] ["_law_plan", "_law_room"] (defScope s_near) := ⟨rfl, rfl, rfl, by decide +kernel, rfl, by decide +kernel, by decide +kernel⟩
theorem ok_near (T : Says w K mg) : C8.Cal P w K mg base 1 "_law_near" spNear [] := by
  refine cal_of T.d_near T.g_near sc_near (fun vs H Q E h => ?_) (fun _ _ _ _ _ _ us hl => match us, hl with | [_, _], _ => rfl) (fun cdv A outer s H vs Q E hr h => ?_)
  · obtain ⟨_, _, _, _, _, _, _, rfl, _⟩ := h; rfl
  refine ⟨_, (pss_one (ps_ret (pe_callB (id := "sorted") (r := rSortedS K) cr_sortedS (by rfl) T.z_sorted (by decide +kernel) (pa_cons (pe_lc (own := [("_law_two", 2)]) (g := (gName 2)) rfl sc_near.nd (pi_list (pe_ix (r := rIxT K) ix_tup (pv 0) pe_int (fun _ _ => rfl))) (blkOk_by (own := [("_law_two", 2)]) (N := ["_law_plan", "_law_room", "_law_two"]) (sc := defScope s_near) (by decide +kernel)) (fun _ _ _ _ _ => (pg_name (i := 2) sc_near.nd rfl (Or.inl rfl))) (fun _ _ _ _ _ => (pts_one (pt_cmpR (r := rIn K false) op_in_seq (pv 1) (pv 2) (by rfl)))) (fun _ _ _ _ _ => (pe_ix (r := rIxT K) ix_tup (pv 2) (pe_op op_sub pe_int (show PE _ _ (tBMZ "tuple" (rTIx K) _ _) from (pe_bmZ (r := rTIx K) PySem.F.plainAttrs_tuple PySem.F.slot_tuple_index PySem.F.type_tuple_index mt_tupIx (pv 2) (pa_cons (pv 1) pa_nil)))) (fun _ _ => rfl)))) pa_nil)))), ?_⟩
  obtain ⟨p, names, sz, L, d, c, r, rfl, hP, hBr, hC, hN, k⟩ := h
  have hbig : sizeLine = 16777216 := sizeLine_eq
  refine ⟨_, rfl, p, _, 1, _, rfl, rfl, SqT.of hP.tup, rfl, c, rfl, ⟨_, SqL.of hP.cors.at_⟩, fun D hD => ?_⟩
  have nDc : c ≠ D := fun z => by rw [← z, hP.cors.at_] at hD; cases hD
  refine lc_it (walk_list (xs := L.map fun q => V.ref q.1)) (fun i H' => Same H H' ∧ ∃ ys : List Str, H' D = some (.lst (ys.map V.str)) ∧ ys.length ≤ i ∧ ∀ x, x ∈ ys ↔ adj (cors (L.take i)) r x) ⟨Same.new hD, [], upd_same, by simp, fun x => by simp [adj, cors]⟩ (fun i H' _ h => SqL.of (h.1 _ _ hP.cors.at_)) ?_ ?_
  · rintro i v H1 H2 hi ⟨s1, ys, e1, e2, e3⟩ ⟨rfl, hv⟩
    obtain ⟨q, hq, rfl⟩ : ∃ q, L[i]? = some q ∧ v = .ref q.1 := by
      rw [List.getElem?_map] at hv
      obtain ⟨n, h1, h2⟩ := Option.map_eq_some_iff.mp hv
      exact ⟨n, h1, h2.symm⟩
    rw [List.length_map] at hi
    have hqm : q ∈ L := List.mem_of_getElem? hq
    obtain ⟨ob, ht0, hoc, hod⟩ := hBr q hqm
    have htf := s1 _ _ ht0
    have ht : SqT K H2 q.1 (prV q.2) := .inl (.inr ⟨ob, htf⟩)
    have hlt := lt_ne (hC.lt q.2 (List.mem_map_of_mem hqm))
    have few := hP.cors.few
    have htk : cors (L.take (i + 1)) = cors (L.take i) ++ [q.2] := by rw [take_one hq]; unfold cors; rw [List.map_append]; rfl
    refine ⟨rfl, _, rfl, _, rfl, q.1, prV q.2, rfl, .inr (ht), rfl, rfl, _, rfl, ite2 (fun hin => ?_) (fun hout => ?_)⟩
    · have hor : q.2.1 = r ∨ q.2.2 = r := by
        have : ((q.2.1 == r) || ((q.2.2 == r) || false)) = true := hin
        simpa using this
      rcases hor with hr1 | hr2
      · refine ⟨_, rfl, _, rfl, ⟨q.1, ob, _, rfl, htf, hoc, hod⟩, _, rfl, q.1, [q.2.1, q.2.2], r, 0, rfl, rfl, ht, by rw [← hr1]; rfl, fun m h => absurd h (Nat.not_lt_zero _), _, _, rfl, rfl, q.1, _, _, .str q.2.2, rfl, rfl, ht, rfl, ?_⟩
        refine ⟨_, e1, by rw [List.length_map]; omega, s1.mut hD, ys ++ [q.2.2], by rw [upd_same, List.map_append]; rfl, by rw [List.length_append]; simp; omega, fun x => ?_⟩
        rw [htk]
        unfold adj
        rw [List.mem_append, e3]
        unfold adj
        constructor
        · rintro (h | h)
          · rcases h with h | h
            · exact .inl (List.mem_append_left _ h)
            · exact .inr (List.mem_append_left _ h)
          · rw [show x = q.2.2 by simpa using h, ← hr1]
            exact .inl (List.mem_append_right _ (List.mem_singleton.mpr rfl))
        · rintro (h | h)
          · rcases List.mem_append.mp h with h | h
            · exact .inl (.inl h)
            · have := congrArg Prod.snd (List.mem_singleton.mp h)
              exact .inr (List.mem_singleton.mpr this)
          · rcases List.mem_append.mp h with h | h
            · exact .inl (.inr h)
            · have := congrArg Prod.snd (List.mem_singleton.mp h)
              exact absurd (hr1.trans this) hlt
      · refine ⟨_, rfl, _, rfl, ⟨q.1, ob, _, rfl, htf, hoc, hod⟩, _, rfl, q.1, [q.2.1, q.2.2], r, 1, rfl, rfl, ht, by rw [← hr2]; rfl, fun m h => ?_, _, _, rfl, rfl, q.1, _, _, .str q.2.1, rfl, rfl, ht, rfl, ?_⟩
        · have : m = 0 := by omega
          rw [this, ← hr2]
          exact fun z => hlt (Option.some.inj z)
        refine ⟨_, e1, by rw [List.length_map]; omega, s1.mut hD, ys ++ [q.2.1], by rw [upd_same, List.map_append]; rfl, by rw [List.length_append]; simp; omega, fun x => ?_⟩
        rw [htk]
        unfold adj
        rw [List.mem_append, e3]
        unfold adj
        constructor
        · rintro (h | h)
          · rcases h with h | h
            · exact .inl (List.mem_append_left _ h)
            · exact .inr (List.mem_append_left _ h)
          · rw [show x = q.2.1 by simpa using h, ← hr2]
            exact .inr (List.mem_append_right _ (List.mem_singleton.mpr rfl))
        · rintro (h | h)
          · rcases List.mem_append.mp h with h | h
            · exact .inl (.inl h)
            · have := congrArg Prod.fst (List.mem_singleton.mp h)
              exact absurd (this.symm.trans hr2.symm) hlt
          · rcases List.mem_append.mp h with h | h
            · exact .inl (.inr h)
            · have := congrArg Prod.fst (List.mem_singleton.mp h)
              exact .inr (List.mem_singleton.mpr this)
    · have hno : q.2.1 ≠ r ∧ q.2.2 ≠ r := by
        have : ((q.2.1 == r) || ((q.2.2 == r) || false)) = false := hout
        simpa using this
      refine ⟨s1, ys, e1, by omega, fun x => ?_⟩
      rw [htk, e3]
      unfold adj
      constructor
      · rintro (h | h)
        · exact .inl (List.mem_append_left _ h)
        · exact .inr (List.mem_append_left _ h)
      · rintro (h | h)
        · rcases List.mem_append.mp h with h | h
          · exact .inl h
          · exact absurd (congrArg Prod.fst (List.mem_singleton.mp h)).symm hno.1
        · rcases List.mem_append.mp h with h | h
          · exact .inr h
          · exact absurd (congrArg Prod.snd (List.mem_singleton.mp h)).symm hno.2
  · rintro H1 ⟨s1, ys, e1, e2, e3⟩
    rw [List.length_map, List.take_length] at *
    have few := hP.cors.few
    refine ⟨D, ys, rfl, SqL.of e1, by omega, fun zs q hp _ hq => k q zs _ (s1.then_ hq) upd_same (by rw [hp.length_eq]; omega) fun x => ?_⟩
    rw [hp.mem_iff, e3]
/-! ### walks that are drawn -/
theorem BareL.frm {H H' : Hp} {L : List (Addr × Cor)} {t c : Addr} {ns : List Int} {place : Nat} {left : Int} (h : BareL H L) (e : Frm [t] H H') (hT : TapeAt H t c ns place left) : BareL H' L := fun q hq => (h q hq).frm e (by
  have : q.1 ≠ t := (h q hq).ne hT.dict (by simp [tapeD])
  simp [this])
theorem BareL.mono {H H' : Hp} {L : List (Addr × Cor)} (h : BareL H L) (e : Same H H') : BareL H' L := fun q hq => (h q hq).mono e
theorem PlanAt.frm {H H' : Hp} {p d cc : Addr} {names : List Str} {sz : Str → Int} {L : List (Addr × Cor)} {t c : Addr} {ns : List Int} {place : Nat} {left : Int} (h : PlanAt H p names sz L d cc) (e : Frm [t] H H') (hT : TapeAt H t c ns place left) : PlanAt H' p names sz L d cc := by
  have n1 : p ≠ t := fun z => by have := h.tup; rw [z, hT.dict] at this; cases this
  have n2 : d ≠ t := fun z => by
    have := h.dict
    rw [z, hT.dict] at this
    injection this with this
    injection this with this
    unfold tapeD iD at this
    cases names with
    | nil => simp at this
    | cons a l => simp at this
  have n3 : cc ≠ t := fun z => by have := h.cors.at_; rw [z, hT.dict] at this; cases this
  exact ⟨e _ _ h.tup (by simp [n1]), e _ _ h.dict (by simp [n2]), e _ _ h.cors.at_ (by simp [n3]), fun q hq => rd_frm (h.cors.each q hq) e (by
    have : q.1 ≠ t := rd_ne (h.cors.each q hq) hT.dict (by simp) (by simp)
    simp [this]), h.cors.few⟩
def Chain (E : List Cor) (zs : List Str) : Prop := ∀ (i : Nat) (a b : Str), zs[i]? = some a → zs[i + 1]? = some b → adj E a b
theorem Chain.one (E : List Cor) (z : Str) : Chain E [z] := fun i a b _ h => by simp at h
theorem Chain.snoc {E : List Cor} {zs : List Str} {l x : Str} (h : Chain E zs) (hl : zs.getLast? = some l) (hx : adj E l x) : Chain E (zs ++ [x]) := fun i a b ha hb => by
  obtain ⟨hi, _⟩ := List.getElem?_eq_some_iff.mp hb
  rw [List.length_append, List.length_singleton] at hi
  rw [List.getElem?_append_left (by omega)] at ha
  by_cases c : i + 1 < zs.length
  · rw [List.getElem?_append_left c] at hb
    exact h i a b ha hb
  · have hi' : i + 1 = zs.length := by omega
    rw [hi', List.getElem?_append_right (Nat.le_refl _), Nat.sub_self] at hb
    have e1 : b = x := by simpa using hb.symm
    rw [List.getLast?_eq_getElem?, show zs.length - 1 = i from by omega, ha] at hl
    rw [e1, Option.some.inj hl]
    exact hx
theorem near_ex {E : List Cor} {names : List Str} (hC : Cors E names) (hc : Conn E names) (he : E ≠ []) {r : Str} (hr : r ∈ names) : ∃ x, adj E r x := Classical.byContradiction fun hno => by
  obtain ⟨q, hq⟩ := List.exists_mem_of_ne_nil E he
  obtain ⟨m1, m2⟩ := hC.ends q hq
  have key := hc (fun z => z = r) ⟨r, hr, rfl⟩ (fun y x hy hyx => absurd ⟨x, hy ▸ hyx⟩ hno)
  exact lt_ne (hC.lt q hq) ((key _ m1).trans (key _ m2).symm)
theorem adj_mem {E : List Cor} {names : List Str} (hC : Cors E names) {a b : Str} (h : adj E a b) : a ∈ names ∧ b ∈ names := by
  rcases h with h | h
  · exact hC.ends _ h
  · exact (hC.ends _ h).symm
def spWandered : Sp := fun vs H Q _ => ∃ (t c p : Addr) (ns : List Int) (place : Nat) (left : Int) (names : List Str) (sz : Str → Int) (L : List (Addr × Cor)) (d cc : Addr) (f : Str) (n : Nat), vs = [.ref t, .ref p, .str f, .int (n : Nat)] ∧ TapeAt H t c ns place left ∧ place < 90000 ∧ n ≤ 10 ∧ PlanAt H p names sz L d cc ∧ BareL H L ∧ Good names sz (cors L) ∧ f ∈ names ∧
  ∀ (q : Addr) (zs : List Str) place' left' H', Frm [t] H H' → H' q = some (.lst (zs.map V.str)) → H q = none → zs[0]? = some f → zs.length ≤ n + 1 → Chain (cors L) zs → (∀ z ∈ zs, z ∈ names) → place' ≤ place + n → TapeAt H' t c ns place' left' → Q (.ref q) H'
theorem sc_wandered : FnScope ["_law_tape", "_law_plan", "_law_first", "_law_steps", "_law_found", "_law_turn"] ["_law_tape", "_law_plan", "_law_first", "_law_steps"] (defScope s_wandered) := ⟨rfl, rfl, rfl, by decide +kernel, rfl, by decide +kernel, by decide +kernel⟩
theorem ok_wandered (T : Says w K mg) : C8.Cal P w K mg base 3 "_law_wandered" spWandered [] := by
  refine cal_of T.d_wandered T.g_wandered sc_wandered (fun vs H Q E h => ?_) (fun _ _ _ _ _ _ us hl => match us, hl with | [_, _, _, _], _ => rfl) (fun cdv A outer s H vs Q E hr h => ?_)
  · obtain ⟨_, _, _, _, _, _, _, _, _, _, _, _, _, rfl, _⟩ := h; rfl
  refine ⟨_, (pss_cons (ps_set (i := 4) sc_wandered.nd rfl (Or.inl rfl) (pe_lst (pa_cons (pv 2) pa_nil)))
    (pss_cons (ps_for PassesOwn.never rfl (pi_range1 (by rfl) T.z_range (pa_cons (pe_op op_mul (pv 3) (pe_callTy (T := "int") call_int1 (by rfl) T.z_int (by decide +kernel) (pa_cons (pe_cmpR (r := rNeD K) (op_neD (hu64 hr)) (pe_ix (r := rIxT K) ix_tup (pv 1) pe_int (fun _ _ => rfl)) (pe_lst pa_nil) (nomark _)) pa_nil))) pa_nil)) (pg_name (i := 5) sc_wandered.nd rfl (Or.inl rfl)) (pss_one (ps_expr (pe_bm PySem.F.plainAttrs_list PySem.F.slot_list_append PySem.F.type_list_append mt_append (pv 4) (pa_cons (C8.pe_c (ok_pick T) hr (by decide) rfl (pa_cons (pv 0) (pa_cons (C8.pe_c (ok_near T) hr (by decide) rfl (pa_cons (pv 1) (pa_cons (pe_ix (r := rIxL K) ix_list (pv 4) (pe_un un_neg pe_int) (fun _ _ => rfl)) pa_nil))) pa_nil))) pa_nil)))))
    (pss_one (ps_ret (pv 4))))), ?_⟩
  obtain ⟨t, c, p, ns, place, left, names, sz, L, d, cc, f, n, rfl, hT, hpl, hn, hP, hB, hG, hf, k⟩ := h
  have hbig : sizeLine = 16777216 := sizeLine_eq
  refine ⟨_, rfl, by show 1 ≤ sizeLine; omega, fun q hq => ?_⟩
  have nqt : q ≠ t := fun z => by rw [z, hT.dict] at hq; cases hq
  have nqc : q ≠ c := fun z => by rw [z, hT.cells] at hq; cases hq
  have S1 : Same H (upd H q (.lst [.str f])) := Same.new hq
  refine ⟨_, rfl, _, rfl, p, _, 1, _, rfl, rfl, SqT.of (S1 _ _ hP.tup), rfl, by show 0 ≤ sizeLine; omega, fun e he => ?_⟩
  have S2 : Same H (upd (upd H q (.lst [.str f])) e (.lst [])) := S1.then_ he
  have okL : ∀ z ∈ cors L, okC z := fun z hz => ⟨hG.nm.nm _ (hG.cs.ends z hz).1, hG.nm.nm _ (hG.cs.ends z hz).2⟩
  have net : e ≠ t := fun z => by rw [z, S1 _ _ hT.dict] at he; cases he
  have nec : e ≠ c := fun z => by rw [z, S1 _ _ hT.cells] at he; cases he
  have q2 : (upd (upd H q (.lst [.str f])) e (.lst [])) q = some (.lst ([f].map V.str)) := (Same.new he) _ _ upd_same
  have T2 : TapeAt (upd (upd H q (.lst [.str f])) e (.lst [])) t c ns place left := hT.mono S2
  have P2 := hP.mono S2
  refine ⟨.list ((cors L).map corD), .list [], .lst (SqL.of P2.cors.at_) (cors_dpR P2.cors.each), .lst (SqL.of upd_same) .nil, corDs_shaped okL, rfl, ?_⟩
  generalize upd (upd H q (.lst [.str f])) e (.lst []) = H2 at S2 q2 T2 P2
  refine .inr ⟨_, rfl, _, _, rfl, rfl, .inl (by omega), ?_⟩
  obtain ⟨cn, hcn⟩ : ∃ cn : Int, (n : Int) * (if (!PyData.eqv (.list ((cors L).map corD)) (.list [])) = true then 1 else 0) = cn := ⟨_, rfl⟩
  have hcn2 : 0 ≤ cn ∧ cn ≤ n ∧ (cors L = [] → cn = 0) := by
    rw [← hcn]
    refine ⟨?_, ?_, fun h => ?_⟩
    · split <;> omega
    · split <;> omega
    · rw [h]
      simp [PyData.eqv, PyData.eqvAll]
  refine ⟨cn, by rw [← hcn], by omega, by omega, ?_⟩
  refine for_it (walk_range (lo := 0) (n := cn.toNat)) (fun i σ H' => Frm [t] H H' ∧ (∃ p l, TapeAt H' t c ns p l ∧ p ≤ place + i) ∧ (∃ zs : List Str, H' q = some (.lst (zs.map V.str)) ∧ zs[0]? = some f ∧ zs.length = i + 1 ∧ Chain (cors L) zs ∧ ∀ z ∈ zs, z ∈ names) ∧ ∃ x, σ = [some (.ref t), some (.ref p), some (.str f), some (.int (n : Nat)), some (.ref q), x])
    ⟨Frm.of S2, ⟨_, _, T2, by omega⟩, ⟨[f], q2, rfl, rfl, Chain.one _ _, by simpa using hf⟩, _, rfl⟩ (fun _ _ _ _ _ => trivial) ?_ ?_
  · rintro i x σ H3 H4 hi ⟨fr3, ⟨p3, l3, T3, hp3⟩, ⟨zs, e1, e2, e3, e4, e5⟩, x1, rfl⟩ ⟨rfl, hx⟩
    have hE : cors L ≠ [] := fun z => by have := hcn2.2.2 z; omega
    have hlen : zs ≠ [] := fun z => by rw [z] at e3; simp at e3
    obtain ⟨la, hla⟩ : ∃ la, zs.getLast? = some la := ⟨zs.getLast hlen, List.getLast?_eq_some_getLast hlen⟩
    have hal : atI (zs.map V.str) (-1) = some (.str la) := by
      obtain ⟨ini, rfl⟩ : ∃ ini, zs = ini ++ [la] := List.getLast?_eq_some_iff.mp hla
      rw [List.map_append]
      exact atI_last _ _
    have P3 : PlanAt H4 p names sz L d cc := hP.frm fr3 hT
    have B3 : BareL H4 L := hB.frm fr3 hT
    obtain ⟨nx, hnx⟩ := near_ex hG.cs hG.cn hE (e5 la (List.mem_of_getLast? hla))
    refine ⟨_, rfl, tyList e1, _, rfl, _, rfl, _, rfl, 1, rfl, q, _, -1, .str la, rfl, rfl, SqL.of e1, hal, p, names, sz, L, d, cc, la, rfl, P3, B3, hG.cs, hG.nm, fun q5 ys H5 s5 hq5 hyl hys => ?_⟩
    refine ⟨t, c, q5, ns, p3, l3, _, rfl, T3.mono s5, by omega, hq5, ?_, by rw [List.length_map]; omega, fun y p6 l6 H6 hy hp6 fr6 T6 => ?_⟩
    · intro z
      have := (hys nx).mpr hnx
      rw [List.map_eq_nil_iff.mp z] at this
      cases this
    obtain ⟨ny, hny, rfl⟩ := List.mem_map.mp hy
    have hadj := (hys ny).mp hny
    have e6 := fr6 _ _ (s5 _ _ e1) (by simp [nqt])
    refine ⟨q, _, _, rfl, rfl, e6, by rw [List.length_map]; omega, ((fr3.trans (Frm.of s5)).trans fr6).mut hq, ⟨p6, l6, T6.keep nqt nqc, by omega⟩, ⟨zs ++ [ny], by rw [upd_same, List.map_append]; rfl, by rw [List.getElem?_append_left (by omega)]; exact e2, by rw [List.length_append, e3]; rfl, e4.snoc hla hadj, fun z hz => ?_⟩, _, rfl⟩
    rcases List.mem_append.mp hz with h | h
    · exact e5 z h
    · rw [show z = ny by simpa using h]; exact (adj_mem hG.cs hadj).2
  · rintro σ H3 ⟨fr3, ⟨p3, l3, T3, hp3⟩, ⟨zs, e1, e2, e3, e4, e5⟩, x1, rfl⟩
    exact ⟨_, rfl, k q zs p3 l3 H3 fr3 e1 hq e2 (by omega) e4 e5 (by omega) T3⟩
/-! ### sizes -/
def OkSz (szs : List Int) : Prop := szs ≠ [] ∧ szs.length ≤ 10 ∧ ∀ s ∈ szs, 1 ≤ s ∧ s ≤ 1000000000
def spSizes : Sp := fun vs H Q _ => ∃ (t c : Addr) (ns : List Int) (place : Nat) (left : Int), vs = [.ref t] ∧ TapeAt H t c ns place left ∧ place < 90000 ∧
  ∀ (q : Addr) (szs : List Int) place' left' H', Frm [t] H H' → H' q = some (.lst (szs.map V.int)) → OkSz szs → place' ≤ place + 1 → TapeAt H' t c ns place' left' → Q (.ref q) H'
theorem sc_sizes : FnScope ["_law_tape", "_law_some"] ["_law_tape"] (defScope s_sizes) := ⟨rfl, rfl, rfl, by decide +kernel, rfl, by decide +kernel, by decide +kernel⟩
theorem ok_sizes (T : Says w K mg) : C8.Cal P w K mg base 3 "_law_sizes" spSizes [] := by
  refine cal_of T.d_sizes T.g_sizes sc_sizes (fun vs H Q E h => ?_) (fun _ _ _ _ _ _ us hl => match us, hl with | [_], _ => rfl) (fun cdv A outer s H vs Q E hr h => ?_)
  · obtain ⟨_, _, _, _, _, rfl, _⟩ := h; rfl
  refine ⟨_, (pss_cons (ps_set (i := 1) sc_sizes.nd rfl (Or.inl rfl) (pe_lst (pa_cons (pe_lst (pa_cons pe_int (pa_cons pe_int (pa_cons pe_int (pa_cons pe_int pa_nil))))) (pa_cons (pe_lst (pa_cons pe_int (pa_cons pe_int (pa_cons pe_int (pa_cons pe_int (pa_cons pe_int pa_nil)))))) (pa_cons (pe_lst (pa_cons pe_int (pa_cons pe_int (pa_cons pe_int (pa_cons pe_int pa_nil))))) (pa_cons (pe_lst (pa_cons pe_int (pa_cons pe_int (pa_cons pe_int (pa_cons pe_int pa_nil))))) (pa_cons (pe_lst (pa_cons pe_int pa_nil)) (pa_cons (pe_lst (pa_cons pe_int (pa_cons pe_int (pa_cons pe_int (pa_cons pe_int pa_nil))))) pa_nil))))))))
    (pss_one (ps_ret (C8.pe_c (ok_pick T) hr (by decide) rfl (pa_cons (pv 0) (pa_cons (pv 1) pa_nil)))))), ?_⟩
  obtain ⟨t, c, ns, place, left, rfl, hT, hpl, k⟩ := h
  have hbig : sizeLine = 16777216 := sizeLine_eq
  refine ⟨by show 4 ≤ sizeLine; omega, fun a1 h1 => ⟨by show 5 ≤ sizeLine; omega, fun a2 h2 => ⟨by show 4 ≤ sizeLine; omega, fun a3 h3 => ⟨by show 4 ≤ sizeLine; omega, fun a4 h4 => ⟨by show 1 ≤ sizeLine; omega, fun a5 h5 => ⟨by show 4 ≤ sizeLine; omega, fun a6 h6 => ⟨by show 6 ≤ sizeLine; omega, fun l hl => ?_⟩⟩⟩⟩⟩⟩⟩
  have e1 := (Same.new (o := .lst [.ref a1, .ref a2, .ref a3, .ref a4, .ref a5, .ref a6]) hl) _ _ ((Same.new h6) _ _ ((Same.new h5) _ _ ((Same.new h4) _ _ ((Same.new h3) _ _ ((Same.new h2) _ _ (upd_same (H := H) (a := a1) (o := .lst [.int 1, .int 2, .int 3, .int 4])))))))
  have e2 := (Same.new (o := .lst [.ref a1, .ref a2, .ref a3, .ref a4, .ref a5, .ref a6]) hl) _ _ ((Same.new h6) _ _ ((Same.new h5) _ _ ((Same.new h4) _ _ ((Same.new h3) _ _ (upd_same (H := _) (a := a2) (o := .lst [.int 1, .int 2, .int 5, .int 7, .int 12]))))))
  have e3 := (Same.new (o := .lst [.ref a1, .ref a2, .ref a3, .ref a4, .ref a5, .ref a6]) hl) _ _ ((Same.new h6) _ _ ((Same.new h5) _ _ ((Same.new h4) _ _ (upd_same (H := _) (a := a3) (o := .lst [.int 6, .int 10, .int 15, .int 30])))))
  have e4 := (Same.new (o := .lst [.ref a1, .ref a2, .ref a3, .ref a4, .ref a5, .ref a6]) hl) _ _ ((Same.new h6) _ _ ((Same.new h5) _ _ (upd_same (H := _) (a := a4) (o := .lst [.int 2, .int 4, .int 8, .int 12]))))
  have e5 := (Same.new (o := .lst [.ref a1, .ref a2, .ref a3, .ref a4, .ref a5, .ref a6]) hl) _ _ ((Same.new h6) _ _ (upd_same (H := _) (a := a5) (o := .lst [.int 3])))
  have e6 := (Same.new (o := .lst [.ref a1, .ref a2, .ref a3, .ref a4, .ref a5, .ref a6]) hl) _ _ (upd_same (H := _) (a := a6) (o := .lst [.int 1000000000, .int 999999937, .int 600000, .int 35]))
  have S : Same H _ := ((((((Same.new h1).then_ h2).then_ h3).then_ h4).then_ h5).then_ h6).then_ (o := .lst [.ref a1, .ref a2, .ref a3, .ref a4, .ref a5, .ref a6]) hl
  refine ⟨_, rfl, _, rfl, t, c, l, ns, place, left, _, rfl, hT.mono S, by omega, upd_same, by simp, by show 6 ≤ 1000; decide, fun x p' l' H' hx hp' fr T' => ?_⟩
  have T0 := (hT.mono S).dict
  have got : ∀ {a : Addr} {szs : List Int} , _ → OkSz szs → Q (.ref a) H' := fun {a szs} (e : _ = some (HO.lst (szs.map V.int))) ok => k a szs p' l' H' ((Frm.of S).trans fr) (fr a _ e (by
    have : a ≠ t := fun z => by rw [z, T0] at e; cases e
    simp [this])) ok hp' T'
  have hx' : x = .ref a1 ∨ x = .ref a2 ∨ x = .ref a3 ∨ x = .ref a4 ∨ x = .ref a5 ∨ x = .ref a6 := by simpa using hx
  rcases hx' with rfl | rfl | rfl | rfl | rfl | rfl
  · exact got (szs := [1, 2, 3, 4]) e1 ⟨by simp, by decide, by decide⟩
  · exact got (szs := [1, 2, 5, 7, 12]) e2 ⟨by simp, by decide, by decide⟩
  · exact got (szs := [6, 10, 15, 30]) e3 ⟨by simp, by decide, by decide⟩
  · exact got (szs := [2, 4, 8, 12]) e4 ⟨by simp, by decide, by decide⟩
  · exact got (szs := [3]) e5 ⟨by simp, by decide, by decide⟩
  · exact got (szs := [1000000000, 999999937, 600000, 35]) e6 ⟨by simp, by decide, by decide⟩
end
end RD

/-! RDLawB: calls cut, the log that is due, the dials that are due. -/
namespace RD
open PySem PySem.Spec PyProof.Rows L2
/-- calls without the last step -/
def cut1 (cs : List Int) : List Int := match cs.getLast? with
  | none => []
  | some l => if l - 1 = 0 then cs.dropLast else cs.dropLast ++ [l - 1]
def cutN : Nat → List Int → List Int
  | 0, cs => cs
  | n + 1, cs => cut1 (cutN n cs)
def PosL (cs : List Int) : Prop := ∀ c ∈ cs, 1 ≤ c
theorem cut1_snoc (cs : List Int) (l : Int) : cut1 (cs ++ [l]) = if l - 1 = 0 then cs else cs ++ [l - 1] := by
  unfold cut1
  simp
theorem cut1_facts {cs : List Int} (h : PosL cs) (hne : cs ≠ []) : PosL (cut1 cs) ∧ (cut1 cs).sum = cs.sum - 1 ∧ (cut1 cs).length ≤ cs.length := by
  obtain ⟨ini, l, rfl⟩ : ∃ ini l, cs = ini ++ [l] := ⟨cs.dropLast, cs.getLast hne, (List.dropLast_concat_getLast hne).symm⟩
  rw [cut1_snoc]
  have hl : 1 ≤ l := h l (by simp)
  have hi : PosL ini := fun c hc => h c (List.mem_append_left _ hc)
  split
  · refine ⟨hi, ?_, by simp⟩
    rw [List.sum_append]
    simp
    omega
  · refine ⟨fun c hc => ?_, ?_, by simp⟩
    · rcases List.mem_append.mp hc with q | q
      · exact hi c q
      · rw [show c = l - 1 by simpa using q]; omega
    · rw [List.sum_append, List.sum_append]
      simp
      omega
theorem sum_pos_ne {cs : List Int} (h : 0 < cs.sum) : cs ≠ [] := fun z => by rw [z] at h; simp at h
theorem cutN_facts {cs : List Int} (h : PosL cs) : ∀ n : Nat, (n : Int) ≤ cs.sum → PosL (cutN n cs) ∧ (cutN n cs).sum = cs.sum - n ∧ (cutN n cs).length ≤ cs.length
  | 0, _ => ⟨h, by simp [cutN], Nat.le_refl _⟩
  | n + 1, hn => by
    obtain ⟨h1, h2, h3⟩ := cutN_facts h n (by omega)
    have hne : cutN n cs ≠ [] := sum_pos_ne (by rw [h2]; omega)
    obtain ⟨g1, g2, g3⟩ := cut1_facts h1 hne
    refine ⟨g1, ?_, Nat.le_trans g3 h3⟩
    show (cut1 (cutN n cs)).sum = _
    rw [g2, h2]
    omega
section
variable {P : Program} {w : World} {K : PySem.W.Frag} {mg : Str → Option Value} {base : Heap}
def spCut : Sp := fun vs H Q _ => ∃ (l : Addr) (cs : List Int) (n : Nat), vs = [.ref l, .int (n : Nat)] ∧ H l = some (.lst (cs.map V.int)) ∧ PosL cs ∧ (n : Int) ≤ cs.sum ∧ n ≤ 1000 ∧ cs.length ≤ 1000 ∧
  ∀ (q : Addr) H', H q = none → Same H H' → H' q = some (.lst ((cutN n cs).map V.int)) → Q (.ref q) H'
theorem sc_cut_calls : FnScope ["_law_calls", "_law_many", "_law_found", "_law_turn"] ["_law_calls", "_law_many"] (defScope s_cut_calls) := ⟨rfl, rfl, rfl, by decide +kernel, rfl, by decide +kernel, by decide +kernel⟩
theorem ok_cut_calls (T : Says w K mg) : C8.Cal P w K mg base 1 "_law_cut_calls" spCut [] := by
  refine cal_of T.d_cut_calls T.g_cut_calls sc_cut_calls (fun vs H Q E h => ?_) (fun _ _ _ _ _ _ us hl => match us, hl with | [_, _], _ => rfl) (fun cdv A outer s H vs Q E hr h => ?_)
  · obtain ⟨_, _, _, rfl, _⟩ := h; rfl
  refine ⟨_, (pss_cons (ps_set (i := 2) sc_cut_calls.nd rfl (Or.inl rfl) (pe_callTy (T := "list") call_list_of (by rfl) T.z_list (by decide +kernel) (pa_cons (pv 0) pa_nil)))
    (pss_cons (ps_for PassesOwn.never rfl (pi_range1 (by rfl) T.z_range (pa_cons (pv 1) pa_nil)) (pg_name (i := 3) sc_cut_calls.nd rfl (Or.inl rfl)) (pss_cons (ps_asg (pe_op op_sub (pe_ix (r := rIxL K) ix_list (pv 2) (pe_un un_neg pe_int) (fun _ _ => rfl)) pe_int) (pg_sub (pv 2) (pe_un un_neg pe_int) set_list))
    (pss_one (ps_if (pt_cmpR op_eq (pe_ix (r := rIxL K) ix_list (pv 2) (pe_un un_neg pe_int) (fun _ _ => rfl)) pe_int (nomark _)) (pss_one (ps_expr (pe_bm0 PySem.F.plainAttrs_list PySem.F.slot_list_pop PySem.F.type_list_pop mt_pop (pv 2)))) pss_nil))))
    (pss_one (ps_ret (pv 2))))), ?_⟩
  obtain ⟨l, cs, n, rfl, hl, hpos, hn, hn1, hcl, k⟩ := h
  have hbig : sizeLine = 16777216 := sizeLine_eq
  refine ⟨_, rfl, l, _, rfl, .inl (SqL.of hl), fun q hq => ?_⟩
  refine ⟨_, rfl, (n : Int), rfl, by omega, by omega, ?_⟩
  refine for_it (walk_range (lo := 0) (n := ((n : Nat) : Int).toNat)) (fun i σ H' => Same H H' ∧ H' q = some (.lst ((cutN i cs).map V.int)) ∧ ∃ x, σ = [some (.ref l), some (.int (n : Nat)), some (.ref q), x])
    ⟨Same.new hq, upd_same, _, rfl⟩ (fun _ _ _ _ _ => trivial) ?_ ?_
  · rintro i x σ H1 H2 hi ⟨s1, e1, x1, rfl⟩ ⟨rfl, hx⟩
    rw [Int.toNat_natCast] at hi
    obtain ⟨h1, h2, h3⟩ := cutN_facts hpos i (by omega)
    have hne : cutN i cs ≠ [] := sum_pos_ne (by rw [h2]; omega)
    obtain ⟨ini, la, hc⟩ : ∃ ini la, cutN i cs = ini ++ [la] := ⟨(cutN i cs).dropLast, (cutN i cs).getLast hne, (List.dropLast_concat_getLast hne).symm⟩
    have hcut : cutN (i + 1) cs = if la - 1 = 0 then ini else ini ++ [la - 1] := by
      show cut1 (cutN i cs) = _
      rw [hc, cut1_snoc]
    rw [hc, List.map_append] at e1
    have hlen : (ini.map V.int ++ [la].map V.int).length = ini.length + 1 := by simp
    have hix : ixN (ini.map V.int ++ [la].map V.int).length (-1) = some ini.length := by
      unfold ixN
      rw [hlen, if_neg (by omega), if_pos (by omega)]
      congr 1
      omega
    have hset : (ini.map V.int ++ [la].map V.int).set ini.length (V.int (la - 1)) = ini.map V.int ++ [V.int (la - 1)] := by
      rw [List.set_append_right _ _ (by rw [List.length_map]; exact Nat.le_refl _), List.length_map, Nat.sub_self]
      rfl
    refine ⟨_, rfl, 1, rfl, q, _, -1, .int la, rfl, rfl, SqL.of e1, atI_last _ _, _, _, rfl, rfl, _, rfl, 1, rfl, q, _, -1, ini.length, rfl, rfl, e1, hix, ?_⟩
    rw [hset]
    refine ⟨_, rfl, 1, rfl, q, _, -1, .int (la - 1), rfl, rfl, SqL.of upd_same, atI_last _ _, ?_⟩
    refine ⟨rfl, _, rfl, ite2 (fun hc0 => ?_) (fun hc0 => ?_)⟩
    · have h0 : la - 1 = 0 := by
        have := of_decide_eq_true hc0
        injection this
      rw [if_pos h0] at hcut
      refine ⟨_, rfl, tyList upd_same, q, _, .int (la - 1), rfl, rfl, upd_same, by simp, ?_⟩
      refine ⟨(s1.mut hq).mut hq, by rw [upd_same, List.dropLast_concat, hcut], _, rfl⟩
    · have h0 : ¬ la - 1 = 0 := fun z => by
        have := of_decide_eq_false hc0
        exact this (by rw [z])
      rw [if_neg h0] at hcut
      exact ⟨s1.mut hq, by rw [upd_same, hcut, List.map_append]; rfl, _, rfl⟩
  · rintro σ H1 ⟨s1, e1, x1, rfl⟩
    rw [Int.toNat_natCast] at e1
    exact ⟨_, rfl, k q H1 hq s1 e1⟩
/-! ### the log that is due -/
/-- the rooms of each call, from the lengths of calls -/
def lawParts (zs : List Str) (ms : List Nat) : List (List Str) := (List.range ms.length).map fun i => (zs.take ((ms.take (i + 1)).sum + 1)).drop (ms.take i).sum
def cumL (ms : List Nat) : List Nat := (List.range ms.length).map fun i => (ms.take (i + 1)).sum
theorem parts_eq (zs : List Str) (ms : List Nat) : partsOf zs (cumL ms) = lawParts zs ms := by
  unfold partsOf lawParts cumL
  refine List.ext_getElem (by simp) fun i h1 h2 => ?_
  have hi : i < ms.length := by simpa using h2
  simp only [List.getElem_map, List.getElem_zip, List.getElem_range]
  congr 1
  cases i with
  | zero => simp
  | succ i => simp
theorem lawParts_len (zs : List Str) (ms : List Nat) : (lawParts zs ms).length = ms.length := by simp [lawParts]
theorem lawParts_get {zs : List Str} {ms : List Nat} {i : Nat} (h : i < ms.length) : (lawParts zs ms)[i]? = some ((zs.take ((ms.take (i + 1)).sum + 1)).drop (ms.take i).sum) := by
  unfold lawParts
  rw [List.getElem?_map, List.getElem?_range h]
  rfl
theorem sum_take_one {ms : List Nat} {i : Nat} (h : i < ms.length) : (ms.take (i + 1)).sum = (ms.take i).sum + ms[i] := by
  rw [List.take_add_one, List.getElem?_eq_getElem h, List.sum_append]
  simp
theorem Traces.upd {C : Addr} {H : Hp} {b D : Addr} {rs : List Str} {sz : Str → Int} {ts : List Addr} {ps : List (List Str)} {xs : List V} {o : HO} (h : Traces C H b rs sz ts ps) (hD : H D = some (.lst xs)) : Traces C (L2.upd H D o) b rs sz ts ps :=
  pair_map h fun a p => by
    rintro ⟨f, la, k1, k2, dx', d', k', v1, v2, k3, k4, k5⟩
    have n1 : a ≠ D := fun z => by rw [z, hD] at k3; cases k3
    have n2 : d' ≠ D := fun z => by rw [z, hD] at k4; cases k4
    have n3 : k' ≠ D := fun z => by rw [z, hD] at k5; cases k5
    exact ⟨f, la, k1, k2, dx', d', k', v1, v2, by rw [upd_ne n1]; exact k3, by rw [upd_ne n2]; exact k4, by rw [upd_ne n3]; exact k5⟩
def spDue (K : PySem.W.Frag) : Sp := fun vs H Q _ => ∃ (p b l cl : Addr) (zs names : List Str) (sz : Str → Int) (L : List (Addr × Cor)) (d c : Addr) (rs : List Str) (E : List Cor) (ms : List Nat), vs = [.ref p, .ref b, .ref l, .ref cl] ∧ PlanAt H p names sz L d c ∧ BldAt (He.ga K "Building") H b rs sz E ∧ rs.Perm names ∧ Names names ∧ H l = some (.lst (zs.map V.str)) ∧
  H cl = some (.lst (ms.map fun m => V.int (m : Nat))) ∧ (∀ q ∈ lawParts zs ms, Way rs q) ∧ ms.length ≤ 1000 ∧
  ∀ q ts H', H q = none → Same H H' → H' q = some (.lst (ts.map V.ref)) → Traces (He.ga K "Trace") H' b rs sz ts (lawParts zs ms) → Q (.ref q) H'
theorem sc_log_due : FnScope ["_law_plan", "_law_building", "_law_taken", "_law_calls", "_law_found", "_law_at", "_law_many"] ["_law_plan", "_law_building", "_law_taken", "_law_calls"] (defScope s_log_due) := ⟨rfl, rfl, rfl, by decide +kernel, rfl, by decide +kernel, by decide +kernel⟩
theorem ok_log_due (T : Says w K mg) : C8.Cal P w K mg base 8 "_law_log_due" (spDue K) [] := by
  refine cal_of T.d_log_due T.g_log_due sc_log_due (fun vs H Q E h => ?_) (fun _ _ _ _ _ _ us hl => match us, hl with | [_, _, _, _], _ => rfl) (fun cdv A outer s H vs Q E hr h => ?_)
  · obtain ⟨_, _, _, _, _, _, _, _, _, _, _, _, _, rfl, _⟩ := h; rfl
  refine ⟨_, (pss_cons (ps_par (i := 4) (j := 5) (by rfl) sc_log_due.nd rfl rfl (by decide) rfl rfl (pa_cons (pe_lst pa_nil) (pa_cons pe_int pa_nil)) (by rfl))
    (pss_cons (ps_for PassesOwn.never rfl (pi_list (pv 3)) (pg_name (i := 6) sc_log_due.nd rfl (Or.inl rfl)) (pss_cons (ps_expr (pe_bm PySem.F.plainAttrs_list PySem.F.slot_list_append PySem.F.type_list_append mt_append (pv 4) (pa_cons (C8.pe_c (ok_traced T) hr (by decide) rfl (pa_cons (pv 0) (pa_cons (pv 1) (pa_cons (pe_slice (r := rSlL K) sl_list (pv 2) (po_some (pv 5)) (po_some (pe_op op_add (pe_op op_add (pv 5) (pv 6)) pe_int))) pa_nil)))) pa_nil)))
    (pss_one (ps_set (i := 5) sc_log_due.nd rfl (Or.inl rfl) (pe_op op_add (pv 5) (pv 6))))))
    (pss_one (ps_ret (pv 4))))), ?_⟩
  obtain ⟨p, b, l, cl, zs, names, sz, L, d, c, rs, E0', ms, rfl, hP, hB, hperm, hN, hl, hcl, hw, hm, k⟩ := h
  have hbig : sizeLine = 16777216 := sizeLine_eq
  refine ⟨by show 0 ≤ sizeLine; omega, fun D hD => ?_⟩
  have S1 : Same H (upd H D (.lst [])) := Same.new hD
  refine ⟨_, _, rfl, _, rfl, cl, rfl, ⟨_, SqL.of (S1 _ _ hcl)⟩, ?_⟩
  refine for_it (walk_list (xs := ms.map fun m => V.int (m : Nat))) (fun i σ H' => Same H H' ∧ (∃ ts : List Addr, H' D = some (.lst (ts.map V.ref)) ∧ Traces (He.ga K "Trace") H' b rs sz ts ((lawParts zs ms).take i)) ∧ ∃ x, σ = [some (.ref p), some (.ref b), some (.ref l), some (.ref cl), some (.ref D), some (.int ((ms.take i).sum : Nat)), x])
    ⟨S1, ⟨[], upd_same, by rw [List.take_zero]; exact .nil⟩, _, rfl⟩ (fun i σ H' _ h => SqL.of (h.1 _ _ hcl)) ?_ ?_
  · rintro i x σ H2 H3 hi ⟨s2, ⟨ts, e1, e2⟩, x1, rfl⟩ ⟨rfl, hx⟩
    rw [List.length_map] at hi
    have hx' : x = .int (ms[i] : Nat) := by
      rw [List.getElem?_map, List.getElem?_eq_getElem hi] at hx
      exact (Option.some.inj hx).symm
    subst hx'
    have hpi := lawParts_get (zs := zs) hi
    refine ⟨_, rfl, tyList e1, _, rfl, _, rfl, _, rfl, _, rfl, (((ms.take i).sum : Nat) : Int), rfl, _, rfl, _, rfl, _, _, rfl, rfl, _, _, rfl, rfl, (((ms.take (i + 1)).sum + 1 : Nat) : Int), ?_, l, _, rfl, SqL.of (s2 _ _ hl), fun a ha => ?_⟩
    · rw [sum_take_one hi]
      show V.int ((((ms.take i).sum : Nat) : Int) + (ms[i] : Nat) + 1) = _
      congr 1
    rw [cut_ft, ← List.map_take, ← List.map_drop]
    generalize hpart : (zs.take ((ms.take (i + 1)).sum + 1)).drop (ms.take i).sum = part at hpi
    have sa := s2.then_ (o := .lst (part.map V.str)) ha
    refine ⟨p, b, a, part, names, sz, L, d, c, rs, E0', rfl, hP.mono sa, hB.mono sa, hperm, hN, upd_same, hw part (List.mem_of_getElem? hpi), fun t H5 f la s5 hf hla hT => ?_⟩
    have f1 := s5 _ _ ((Same.new ha) _ _ e1)
    have htl : ts.length = i := by rw [e2.length, List.length_take, lawParts_len]; omega
    refine ⟨D, _, _, rfl, rfl, f1, by rw [List.length_map]; omega, ?_⟩
    have T' : Traces (He.ga K "Trace") H5 b rs sz (ts ++ [t]) ((lawParts zs ms).take (i + 1)) := by
      rw [take_one hpi]
      exact Paired.snoc (e2.mono ((Same.new ha).trans s5)) ⟨f, la, hf, hla, hT⟩
    refine ⟨_, rfl, _, rfl, _, _, rfl, rfl, (sa.trans s5).mut hD, ⟨ts ++ [t], by rw [upd_same, List.map_append]; rfl, T'.upd f1⟩, some (.int (ms[i] : Nat)), ?_⟩
    rw [sum_take_one hi]
    rfl
  · rintro σ H2 ⟨s2, ⟨ts, e1, e2⟩, x1, rfl⟩
    rw [List.length_map, ← lawParts_len zs ms, List.take_length] at e2
    exact ⟨_, rfl, k D ts H2 hD s2 e1 e2⟩
/-! ### the dials that are due -/
def spShown (K : PySem.W.Frag) : Sp := fun vs H Q _ => ∃ (p g l : Addr) (zs names ds : List Str) (dv sz : Str → Int) (L : List (Addr × Cor)) (d c : Addr), vs = [.ref p, .ref g, .ref l] ∧ PlanAt H p names sz L d c ∧ H g = some (.dK (iD ds dv)) ∧ H l = some (.lst (zs.map V.str)) ∧ Names names ∧ (∀ r ∈ names, 1 ≤ sz r) ∧
  ∀ (q : Addr) (ys : List Str) H', ys.Perm names → Same H H' → H' q = some (.dK (iD ys fun r => ((if r ∈ ds then dv r else 0) + cnt zs r) % sz r)) → Q (.ref q) H'
theorem sc_shown : FnScope ["_law_plan", "_law_begin_here", "_law_taken", "_law_room"] ["_law_plan", "_law_begin_here", "_law_taken"] (defScope s_shown) := ⟨rfl, rfl, rfl, by decide +kernel, rfl, by decide +kernel, by decide +kernel⟩
theorem ok_shown (T : Says w K mg) : C8.Cal P w K mg base 1 "_law_shown" (spShown K) [] := by
  refine cal_of T.d_shown T.g_shown sc_shown (fun vs H Q E h => ?_) (fun _ _ _ _ _ _ us hl => match us, hl with | [_, _, _], _ => rfl) (fun cdv A outer s H vs Q E hr h => ?_)
  · obtain ⟨_, _, _, _, _, _, _, _, _, _, _, rfl, _⟩ := h; rfl
  refine ⟨_, (pss_one (ps_ret (pe_callTy (T := "dict") (call_dictP rfl) (by rfl) T.z_dict (by decide +kernel) (pa_cons (pe_lc (own := [("_law_room", 3)]) (g := (gName 3)) (tt := tYes) rfl sc_shown.nd (pi_list (pe_callB (id := "sorted") (call_sortedD rfl) (by rfl) T.z_sorted (by decide +kernel) (pa_cons (pe_ix (r := rIxT K) ix_tup (pv 0) pe_int (fun _ _ => rfl)) pa_nil))) (blkOk_by (own := [("_law_room", 3)]) (N := ["_law_plan", "_law_begin_here", "_law_taken", "_law_room"]) (sc := defScope s_shown) (by decide +kernel)) (fun _ _ _ _ _ => (pg_name (i := 3) sc_shown.nd rfl (Or.inl rfl))) (fun _ _ _ _ _ => pts_nil) (fun _ _ _ _ _ => (pe_tup (pa_cons (pv 3) (pa_cons (pe_op op_mod (pe_callTy (T := "int") call_int1 (by rfl) T.z_int (by decide +kernel) (pa_cons (pe_op op_add (pe_dget2 (hu_of hr) (pv 1) (pv 3) pe_int ⟨by rfl, by rfl, by rfl, by rfl⟩) (show PE _ _ (tBM K "list" _ _ _) from (pe_bm (r := rCntF K) PySem.F.plainAttrs_list PySem.F.slot_list_count PySem.F.type_list_count mt_countF (pe_slice (r := rSlL K) sl_list (pv 2) (po_some pe_int) po_none) (pa_cons (pv 3) pa_nil)))) pa_nil)) (pe_dget (hu_of hr) (pe_ix (r := rIxT K) ix_tup (pv 0) pe_int (fun _ _ => rfl)) (pv 3) (fun _ _ => rfl))) pa_nil))))) pa_nil)))), ?_⟩
  obtain ⟨p, g, l, zs, names, ds, dv, sz, L, d, c, rfl, hP, hg, hl, hN, hpos, k⟩ := h
  have hbig : sizeLine = 16777216 := sizeLine_eq
  have npd : p ≠ d := fun z => by have := hP.tup; rw [z, hP.dict] at this; cases this
  have few := hN.few
  refine ⟨_, rfl, p, _, 0, _, rfl, rfl, SqT.of hP.tup, rfl, d, iD names sz, names, rfl, .inl hP.dict, iD_keys names sz, by omega, fun ys a hy _ ha => ?_⟩
  have hyl : ys.length = names.length := hy.length_eq
  have hyn : ys.Nodup := hy.nodup_iff.mpr hN.nd
  have S1 : Same H (upd H a (.lst (ys.map V.str))) := Same.new ha
  refine ⟨a, rfl, ⟨_, SqL.of upd_same⟩, fun D hD => ?_⟩
  refine lc_it (walk_list (xs := ys.map V.str)) (fun i H' => Same (upd H a (.lst (ys.map V.str))) H' ∧ ∃ ts : List Addr, H' D = some (.lst (ts.map V.ref)) ∧ Paired (fun q kv => H' q = some (.tup [kV kv.1, kv.2])) ts (iD (ys.take i) fun r => ((if r ∈ ds then dv r else 0) + cnt zs r) % sz r)) ⟨Same.new hD, [], upd_same, .nil⟩ (fun i H' _ h => SqL.of (h.1 _ _ upd_same)) ?_ ?_
  · rintro i v H1 H2 hi ⟨s1, ts, e1, e2⟩ ⟨rfl, hv⟩
    obtain ⟨z, hz, rfl⟩ : ∃ z, ys[i]? = some z ∧ v = .str z := by
      rw [List.getElem?_map] at hv
      obtain ⟨n, h1, h2⟩ := Option.map_eq_some_iff.mp hv
      exact ⟨n, h1, h2.symm⟩
    rw [List.length_map] at hi
    have s2 := S1.trans s1
    have hzn : z ∈ names := hy.mem_iff.mp (List.mem_of_getElem? hz)
    have hts : ts.length = i := by rw [e2.length, iD_len, List.length_take]; omega
    have hv : (valV (iD ds dv) (.inr z)).getD (.int 0) = .int (if z ∈ ds then dv z else 0) := by
      rw [iD_val]
      by_cases c : z ∈ ds
      · rw [if_pos c, if_pos c]; rfl
      · rw [if_neg c, if_neg c]; rfl
    refine ⟨rfl, _, rfl, _, rfl, g, rfl, .inl ⟨_, .inl (s2 _ _ hg)⟩, _, rfl, _, DGet.is z (.inl (s2 _ _ hg)), _, rfl, 1, rfl, l, _, rfl, SqL.of (s2 _ _ hl), fun q hq => ?_⟩
    rw [show ((1 : Int)) = ((1 : Nat) : Int) from rfl, cut_from, ← List.map_drop]
    refine ⟨tyList upd_same, _, rfl, q, _, .str z, rfl, rfl, SqL.of upd_same, rfl, flat_strs _, ?_⟩
    rw [countP_str]
    have s3 := s2.then_ (o := .lst ((zs.drop 1).map V.str)) hq
    refine ⟨_, _, hv, rfl, .inl ⟨_, rfl, _, rfl, p, _, 0, _, rfl, rfl, SqT.of (s3 _ _ hP.tup), rfl, _, rfl, d, _, rfl, DGet.i (.inl (s3 _ _ hP.dict)) hzn, _, _, rfl, rfl, (show (0 : Int) < sz z from by have := hpos z hzn; omega), by show 2 ≤ sizeLine; omega, fun t ht => ?_⟩⟩
    have e1' := (Same.new (o := .lst ((zs.drop 1).map V.str)) hq) _ _ e1
    refine ⟨_, (Same.new ht) _ _ e1', by rw [List.length_map]; omega, (((s1.then_ hq).then_ ht).mut hD), ts ++ [t], by rw [upd_same, List.map_append]; rfl, ?_⟩
    have nDt : t ≠ D := fun z => by rw [z, e1'] at ht; cases ht
    rw [take_one hz]
    unfold iD
    rw [List.map_append]
    refine Paired.snoc (b := (Sum.inr z, V.int (((if z ∈ ds then dv z else 0) + cnt zs z) % sz z))) (pair_map e2 fun q' kv h => ?_) (by rw [upd_ne nDt, upd_same]; rfl)
    have n1 : q' ≠ D := fun z => by rw [z, e1] at h; cases h
    rw [upd_ne n1]
    exact (Same.new ht) _ _ ((Same.new hq) _ _ h)
  · rintro H1 ⟨s1, ts, e1, e2⟩
    rw [List.length_map, List.take_length] at e2
    refine ⟨D, ts, _, rfl, SqL.of e1, pair_map e2 fun q' kv h => SqT.of h, fun q hq => ?_⟩
    rw [mergeK_iD hyn]
    exact k q ys _ hy ((S1.trans s1).then_ hq) upd_same
end
end RD

/-! RDScene: the scenes that the law draws. -/
namespace RD
open PySem PySem.Spec PyProof.Rows L2
section
variable {P : Program} {w : World} {K : PySem.W.Frag} {mg : Str → Option Value} {base : Heap}
def cA : Str := Str.ofString "a"
def cB : Str := Str.ofString "b"
def cC : Str := Str.ofString "c"
def abc : List Str := [cA, cB, cC]
def E2 : List Cor := [(cA, cB), (cB, cC)]
def E3 : List Cor := [(cA, cB), (cA, cC), (cB, cC)]
theorem abc_names : Names abc := ⟨by decide +kernel, by decide +kernel, by decide +kernel⟩
theorem abc_cors2 : Cors E2 abc := ⟨by decide +kernel, by decide +kernel, by decide +kernel⟩
theorem abc_cors3 : Cors E3 abc := ⟨by decide +kernel, by decide +kernel, by decide +kernel⟩
theorem abc_conn {E : List Cor} (h1 : adj E cA cB) (h2 : adj E cB cC) : Conn E abc := fun S hS hc => by
  have ab := hc cA cB
  have bc := hc cB cC
  have ba := hc cB cA
  have cb := hc cC cB
  obtain ⟨r, hr, hs⟩ := hS
  have hB : S cB := by
    simp only [abc, List.mem_cons, List.not_mem_nil, or_false] at hr
    rcases hr with rfl | rfl | rfl
    · exact ab hs h1
    · exact hs
    · exact cb hs h2.symm
  intro x hx
  simp only [abc, List.mem_cons, List.not_mem_nil, or_false] at hx
  rcases hx with rfl | rfl | rfl
  · exact ba hB h1.symm
  · exact hB
  · exact bc hB h2
theorem abc_conn2 : Conn E2 abc := abc_conn (.inl (by decide +kernel)) (.inl (by decide +kernel))
theorem abc_conn3 : Conn E3 abc := abc_conn (.inl (by decide +kernel)) (.inl (by decide +kernel))
theorem _root_.RD.PlanAt.upd {H : Hp} {p d cc D : Addr} {names : List Str} {sz : Str → Int} {L : List (Addr × Cor)} {o : HO} (h : PlanAt H p names sz L d cc) (n : p ≠ D ∧ d ≠ D ∧ cc ≠ D ∧ ∀ q ∈ L, q.1 ≠ D) : PlanAt (L2.upd H D o) p names sz L d cc :=
  ⟨by rw [upd_ne n.1]; exact h.tup, by rw [upd_ne n.2.1]; exact h.dict, by rw [upd_ne n.2.2.1]; exact h.cors.at_, fun q hq => rd_upd (h.cors.each q hq) (n.2.2.2 q hq), h.cors.few⟩
theorem _root_.RD.PlanAt.apart {H : Hp} {p d cc D : Addr} {names : List Str} {sz : Str → Int} {L : List (Addr × Cor)} (h : PlanAt H p names sz L d cc) (e : H D = none) : p ≠ D ∧ d ≠ D ∧ cc ≠ D ∧ ∀ q ∈ L, q.1 ≠ D :=
  ⟨ne_of_none h.tup e, ne_of_none h.dict e, ne_of_none h.cors.at_ e, fun q hq => rd_none (h.cors.each q hq) e⟩
def spScene : Sp := fun vs H Q _ => ∃ (t c : Addr) (ns : List Int) (place : Nat) (left : Int) (turn : Int), vs = [.ref t, .int turn, .int 2] ∧ TapeAt H t c ns place left ∧ place < 70000 ∧
  ∀ (a p g d c' : Addr) (names ds : List Str) (sz dv : Str → Int) (L : List (Addr × Cor)) (place' : Nat) (left' : Int) H', Frm [t] H H' → H' a = some (.tup [.ref p, .ref g]) → PlanAt H' p names sz L d c' → BareL H' L → Good names sz (cors L) → H' g = some (.dK (iD ds dv)) →
    (ds = [] ∨ ds = abc ∧ names = abc ∧ ∀ r ∈ ds, 0 ≤ dv r ∧ dv r ≤ sz r - 1) → place' ≤ place + 200 → TapeAt H' t c ns place' left' → Q (.ref a) H'
theorem sc_scene : FnScope ["_law_tape", "_law_turn", "_law_least", "_law_joined", "_law_sizes_here", "_law_plan", "_law_name"] ["_law_tape", "_law_turn", "_law_least"] (defScope s_scene) := ⟨rfl, rfl, rfl, by decide +kernel, rfl, by decide +kernel, by decide +kernel⟩
theorem ok_scene (T : Says w K mg) : C8.Cal P w K mg base 5 "_law_scene" spScene [] := by
  refine cal_of T.d_scene T.g_scene sc_scene (fun vs H Q E h => ?_) (fun _ _ _ _ _ _ us hl => match us, hl with | [_, _, _], _ => rfl) (fun cdv A outer s H vs Q E hr h => ?_)
  · obtain ⟨_, _, _, _, _, _, rfl, _⟩ := h; rfl
  refine ⟨_, (pss_cons (ps_if (pt_cmpR op_ne (pv 1) pe_int (nomark _)) (pss_one (ps_ret (pe_tup (pa_cons (C8.pe_c (ok_drawn T) hr (by decide) rfl (pa_cons (pv 0) (pa_cons (pv 2) (pa_cons pe_int (pa_cons pe_int (pa_cons (C8.pe_c (ok_sizes T) hr (by decide) rfl (pa_cons (pv 0) pa_nil)) pa_nil)))))) (pa_cons pe_dnewK pa_nil))))) pss_nil)
    (pss_cons (ps_asg (pe_tup (pa_cons (C8.pe_c (ok_pick T) hr (by decide) rfl (pa_cons (pv 0) (pa_cons (pe_lst (pa_cons (pe_lst (pa_cons (pe_tupZ (pa_cons pe_str (pa_cons pe_str pa_nil))) (pa_cons (pe_tupZ (pa_cons pe_str (pa_cons pe_str pa_nil))) pa_nil))) (pa_cons (pe_lst (pa_cons (pe_tupZ (pa_cons pe_str (pa_cons pe_str pa_nil))) (pa_cons (pe_tupZ (pa_cons pe_str (pa_cons pe_str pa_nil))) (pa_cons (pe_tupZ (pa_cons pe_str (pa_cons pe_str pa_nil))) pa_nil)))) pa_nil))) pa_nil))) (pa_cons (C8.pe_c (ok_sizes T) hr (by decide) rfl (pa_cons (pv 0) pa_nil)) pa_nil))) (pg_tup rfl (pgs_cons (pg_name (i := 3) sc_scene.nd rfl (Or.inl rfl)) (pgs_cons (pg_name (i := 4) sc_scene.nd rfl (Or.inr rfl)) pgs_nil))))
    (pss_cons (ps_set (i := 5) sc_scene.nd rfl (Or.inr rfl) (pe_tup (pa_cons (pe_callTy (T := "dict") (call_dictP rfl) (by rfl) T.z_dict (by decide +kernel) (pa_cons (pe_lc (own := [("_law_name", 6)]) (g := (gName 6)) (tt := tYes) rfl sc_scene.nd (pi_list (pe_lst (pa_cons pe_str (pa_cons pe_str (pa_cons pe_str pa_nil))))) (blkOk_by (own := [("_law_name", 6)]) (N := ["_law_tape", "_law_turn", "_law_least", "_law_joined", "_law_sizes_here", "_law_plan", "_law_name"]) (sc := defScope s_scene) (by decide +kernel)) (fun _ _ _ _ _ => (pg_name (i := 6) sc_scene.nd rfl (Or.inl rfl))) (fun _ _ _ _ _ => pts_nil) (fun _ _ _ _ _ => (pe_tup (pa_cons (pv 6) (pa_cons (C8.pe_c (ok_pick T) hr (by decide) rfl (pa_cons (pv 0) (pa_cons (pv 4) pa_nil))) pa_nil))))) pa_nil)) (pa_cons (pv 3) pa_nil))))
    (pss_one (ps_ret (pe_tup (pa_cons (pv 5) (pa_cons (pe_callTy (T := "dict") (call_dictP rfl) (by rfl) T.z_dict (by decide +kernel) (pa_cons (pe_lc (own := [("_law_name", 6)]) (g := (gName 6)) (tt := tYes) rfl sc_scene.nd (pi_list (pe_lst (pa_cons pe_str (pa_cons pe_str (pa_cons pe_str pa_nil))))) (blkOk_by (own := [("_law_name", 6)]) (N := ["_law_tape", "_law_turn", "_law_least", "_law_joined", "_law_sizes_here", "_law_plan", "_law_name"]) (sc := defScope s_scene) (by decide +kernel)) (fun _ _ _ _ _ => (pg_name (i := 6) sc_scene.nd rfl (Or.inl rfl))) (fun _ _ _ _ _ => pts_nil) (fun _ _ _ _ _ => (pe_tup (pa_cons (pv 6) (pa_cons (C8.pe_c (ok_draw T) hr (by decide) rfl (pa_cons (pv 0) (pa_cons (pe_dget (hu_of hr) (pe_ix (r := rIxT K) ix_tup (pv 5) pe_int (fun _ _ => rfl)) (pv 6) (fun _ _ => rfl)) pa_nil))) pa_nil))))) pa_nil)) pa_nil)))))))), ?_⟩
  obtain ⟨t, c, ns, place, left, turn, rfl, hT, hpl, k⟩ := h
  have hbig : sizeLine = 16777216 := sizeLine_eq
  refine ⟨_, rfl, rfl, _, rfl, ite2 (fun hne => ?_) (fun heq => ?_)⟩
  · refine ⟨_, rfl, _, rfl, _, rfl, t, c, ns, place, left, rfl, hT, by omega, fun q szs p1 l1 H1 fr1 hq hs hp1 T1 => ?_⟩
    refine ⟨t, c, q, ns, p1, l1, szs, rfl, T1, by omega, hq, hs.1, by have := hs.2.1; omega, hs.2.2, fun p d c' names sz L p2 l2 H2 fr2 hP hB hG hp2 T2 => ?_⟩
    refine fun g hg => ?_
    refine ⟨by show 2 ≤ sizeLine; omega, fun a ha => ?_⟩
    have S : Same H2 (upd (upd H2 g (.dK [])) a (.tup [.ref p, .ref g])) := (Same.new hg).then_ ha
    exact k a p g d c' names [] sz (fun _ => 0) L p2 l2 _ ((fr1.trans fr2).trans (Frm.of S)) upd_same (hP.mono S) (hB.mono S) hG ((Same.new ha) _ _ upd_same) (.inl rfl) (by omega) (T2.mono S)
  · have z2 : 2 ≤ sizeLine := by omega
    have z3 : 3 ≤ sizeLine := by omega
    refine ⟨_, rfl, z2, fun p1 o1 h1 c1 d1 => ⟨z2, fun p2 o2 h2 c2 d2 => ⟨z2, fun l1 hl1 => ⟨z2, fun p3 o3 h3 c3 d3 => ⟨z2, fun p4 o4 h4 c4 d4 => ⟨z2, fun p5 o5 h5 c5 d5 => ⟨z3, fun l2 hl2 => ⟨z2, fun l3 hl3 => ?_⟩⟩⟩⟩⟩⟩⟩⟩
    have t8 := Same.new (o := .lst [.ref l1, .ref l2]) hl3
    have t7 := (Same.new (o := .lst [.ref p3, .ref p4, .ref p5]) hl2).trans t8
    have t6 := (Same.new (o := .frz o5 (.tup [.str (Str.ofString "b"), .str (Str.ofString "c")])) h5).trans t7
    have t5 := (Same.new (o := .frz o4 (.tup [.str (Str.ofString "a"), .str (Str.ofString "c")])) h4).trans t6
    have t4 := (Same.new (o := .frz o3 (.tup [.str (Str.ofString "a"), .str (Str.ofString "b")])) h3).trans t5
    have t3 := (Same.new (o := .lst [.ref p1, .ref p2]) hl1).trans t4
    have t2 := (Same.new (o := .frz o2 (.tup [.str (Str.ofString "b"), .str (Str.ofString "c")])) h2).trans t3
    have t1 := (Same.new (o := .frz o1 (.tup [.str (Str.ofString "a"), .str (Str.ofString "b")])) h1).trans t2
    have b1 : Bare _ p1 (cA, cB) := ⟨o1, t2 _ _ upd_same, c1, d1⟩
    have b2 : Bare _ p2 (cB, cC) := ⟨o2, t3 _ _ upd_same, c2, d2⟩
    have g1 := t4 _ _ (upd_same (o := .lst [.ref p1, .ref p2]))
    have b3 : Bare _ p3 (cA, cB) := ⟨o3, t5 _ _ upd_same, c3, d3⟩
    have b4 : Bare _ p4 (cA, cC) := ⟨o4, t6 _ _ upd_same, c4, d4⟩
    have b5 : Bare _ p5 (cB, cC) := ⟨o5, t7 _ _ upd_same, c5, d5⟩
    have g2 := t8 _ _ (upd_same (o := .lst [.ref p3, .ref p4, .ref p5]))
    have TG := hT.mono t1
    refine ⟨t, c, l3, ns, place, left, [.ref l1, .ref l2], rfl, TG, by omega, upd_same, by simp, by show 2 ≤ 1000; omega, fun x q1 r1 H1 hx hq1 fr1 T1 => ?_⟩
    have got : ∃ (jl : Addr) (L : List (Addr × Cor)), x = .ref jl ∧ H1 jl = some (.lst (L.map fun q => V.ref q.1)) ∧ BareL H1 L ∧ L.length ≤ 20 ∧ Cors (cors L) abc ∧ Conn (cors L) abc := by
      have hx' : x = .ref l1 ∨ x = .ref l2 := by simpa using hx
      rcases hx' with rfl | rfl
      · refine ⟨l1, [(p1, (cA, cB)), (p2, (cB, cC))], rfl, fr1 _ _ g1 ?_, BareL.frm ?_ fr1 TG, by show 2 ≤ 20; omega, abc_cors2, abc_conn2⟩
        · have : l1 ≠ t := fun z => by have e := TG.dict; rw [← z] at e; have := g1.symm.trans e; cases this
          simp [this]
        · intro q hq
          simp only [List.mem_cons, List.not_mem_nil, or_false] at hq
          rcases hq with rfl | rfl
          · exact b1
          · exact b2
      · refine ⟨l2, [(p3, (cA, cB)), (p4, (cA, cC)), (p5, (cB, cC))], rfl, fr1 _ _ g2 ?_, BareL.frm ?_ fr1 TG, by show 3 ≤ 20; omega, abc_cors3, abc_conn3⟩
        · have : l2 ≠ t := fun z => by have e := TG.dict; rw [← z] at e; have := g2.symm.trans e; cases this
          simp [this]
        · intro q hq
          simp only [List.mem_cons, List.not_mem_nil, or_false] at hq
          rcases hq with rfl | rfl | rfl
          · exact b3
          · exact b4
          · exact b5
    obtain ⟨jl, L, rfl, hj, hBL, hLl, hCo, hCn⟩ := got
    have frA : Frm [t] H H1 := (Frm.of t1).trans fr1
    clear hx g1 g2 b1 b2 b3 b4 b5
    have nhj : jl ≠ t := fun z => by rw [z, T1.dict] at hj; cases hj
    refine ⟨_, rfl, t, c, ns, q1, r1, rfl, T1, by omega, fun zl szs q2 r2 H2 fr2 hz hs hq2 T2 => ⟨z2, fun pr hpr => ⟨pr, _, rfl, SqT.of upd_same, rfl, _, _, rfl, _, _, rfl, rfl, ?_⟩⟩⟩
    have S3 := Same.new (o := .tup [.ref jl, .ref zl]) hpr
    have hj3 := S3 _ _ (fr2 _ _ hj (by simp [nhj]))
    have hB3 := (hBL.frm fr2 T1).mono S3
    have hz3 := S3 _ _ hz
    have T3 := T2.mono S3
    have frB := (frA.trans fr2).trans (Frm.of S3)
    generalize upd H2 pr (.tup [.ref jl, .ref zl]) = H3 at hj3 hB3 hz3 T3 frB
    refine ⟨z3, fun nl hnl => ⟨nl, rfl, ⟨_, SqL.of upd_same⟩, fun D hD => ?_⟩⟩
    have hN := abc_names
    have ntn : nl ≠ t := fun z => by rw [z, T3.dict] at hnl; cases hnl
    have ncn : nl ≠ c := fun z => by rw [z, T3.cells] at hnl; cases hnl
    have S4 : Same H3 (upd H3 nl (.lst (abc.map V.str))) := Same.new hnl
    have T4 : TapeAt (upd H3 nl (.lst (abc.map V.str))) t c ns q2 r2 := T3.mono S4
    have fr4 : Frm [t] H (upd H3 nl (.lst (abc.map V.str))) := frB.then_ hnl
    have n4 : (upd H3 nl (.lst (abc.map V.str))) nl = some (.lst (abc.map V.str)) := upd_same
    have hz4 := S4 _ _ hz3
    have hj4 := S4 _ _ hj3
    have hB4 := hB3.mono S4
    have nDt : D ≠ t := fun z => by rw [z] at hD; have := hD.symm.trans T4.dict; cases this
    have nDc : D ≠ c := fun z => by rw [z] at hD; have := hD.symm.trans T4.cells; cases this
    have hD0 : H D = none := fr4.free hD (by simp [nDt])
    have nqD : nl ≠ D := fun z => by rw [← z] at hD; have := hD.symm.trans n4; cases this
    have nzD : zl ≠ D := fun z => by rw [← z] at hD; have := hD.symm.trans hz4; cases this
    have nzt : zl ≠ t := fun z => by rw [z] at hz3; have := hz3.symm.trans T3.dict; cases this
    have njD : jl ≠ D := fun z => by rw [← z] at hD; have := hD.symm.trans hj4; cases this
    refine lc_it (walk_list (xs := abc.map V.str)) (fun i H' => Frm [t] H H' ∧ H' nl = some (.lst (abc.map V.str)) ∧ H' zl = some (.lst (szs.map V.int)) ∧ H' jl = some (.lst (L.map fun q => V.ref q.1)) ∧ BareL H' L ∧ (∃ p l, TapeAt H' t c ns p l ∧ p ≤ q2 + i) ∧ ∃ (ts : List Addr) (f : Str → Int), H' D = some (.lst (ts.map V.ref)) ∧ (∀ r ∈ abc.take i, 1 ≤ f r ∧ f r ≤ 1000000000) ∧ Paired (fun q' kv => q' ≠ D ∧ H' q' = some (.tup [kV kv.1, kv.2])) ts (iD (abc.take i) f)) ?_ (fun i H' _ h => SqL.of h.2.1) ?_ ?_
    · refine ⟨fr4.then_ hD, by rw [upd_ne nqD]; exact n4, by rw [upd_ne nzD]; exact hz4, by rw [upd_ne njD]; exact hj4, hB4.mono (Same.new hD), ⟨q2, r2, T4.keep nDt nDc, by omega⟩, [], fun _ => 0, upd_same, by simp, .nil⟩
    · rintro i v H5 H6 hi ⟨fr5, n5, z5, j5, hB5, ⟨p5', l5', T5, hp5⟩, ts, f, e1, e2, e3⟩ ⟨rfl, hv⟩
      obtain ⟨z, hzz, rfl⟩ : ∃ z, abc[i]? = some z ∧ v = .str z := by
        rw [List.getElem?_map] at hv
        obtain ⟨n, h1, h2⟩ := Option.map_eq_some_iff.mp hv
        exact ⟨n, h1, h2.symm⟩
      rw [List.length_map] at hi
      have hi3 : i < 3 := hi
      have hzn : z ∉ abc.take i := fun h => by
        obtain ⟨j, hj', ej⟩ := List.mem_iff_getElem.mp h
        rw [List.getElem_take] at ej
        rw [List.length_take] at hj'
        have := (List.getElem?_eq_some_iff.mp hzz).2
        have := (List.getElem_inj hN.nd).mp (ej.trans this.symm)
        omega
      refine ⟨rfl, _, rfl, _, rfl, _, rfl, t, c, zl, ns, p5', l5', _, rfl, T5, by omega, z5, by simpa using hs.1, by rw [List.length_map]; have := hs.2.1; omega, fun x p6 l6 H7 hx hp6 fr7 T7 => ?_⟩
      obtain ⟨sv, hsv, rfl⟩ := List.mem_map.mp hx
      refine ⟨by show 2 ≤ sizeLine; omega, fun p hp => ?_⟩
      have e1' := fr7 _ _ e1 (by simp [nDt])
      have n7 := fr7 _ _ n5 (by simp [ntn])
      have z7 := fr7 _ _ z5 (by simp [nzt])
      have j7 := fr7 _ _ j5 (by simp [nhj])
      have B7 := hB5.frm fr7 T5
      have npD : p ≠ D := fun w => by rw [w, e1'] at hp; cases hp
      have npt : p ≠ t := fun w => by rw [w, T7.dict] at hp; cases hp
      have npc : p ≠ c := fun w => by rw [w, T7.cells] at hp; cases hp
      have hts : ts.length = i := by rw [e3.length, iD_len, List.length_take]; show min i 3 = i; omega
      have hBD : BareL (upd H7 p (.tup [.str z, .int sv])) L := B7.mono (Same.new hp)
      let f' : Str → Int := fun r => if r = z then sv else f r
      have ef : iD (abc.take i) f' = iD (abc.take i) f := iD_congr fun r hr => if_neg (fun (e : r = z) => hzn (e ▸ hr))
      have fz : f' z = sv := if_pos rfl
      have hBD2 : BareL (upd (upd H7 p (.tup [.str z, .int sv])) D (.lst (ts.map V.ref ++ [.ref p]))) L := fun q hq => (hBD q hq).upd ((hBD q hq).ne ((Same.new hp) _ _ e1') (by simp))
      refine ⟨_, (Same.new hp) _ _ e1', by rw [List.length_map]; omega, ((fr5.trans fr7).then_ hp).mut hD0, by rw [upd_ne nqD]; exact (Same.new hp) _ _ n7, by rw [upd_ne nzD]; exact (Same.new hp) _ _ z7, by rw [upd_ne njD]; exact (Same.new hp) _ _ j7, hBD2, ⟨p6, l6, (T7.keep npt npc).keep nDt nDc, by omega⟩, ts ++ [p], f', by rw [upd_same, List.map_append]; rfl, ?_, ?_⟩
      · rw [take_one hzz]
        intro r hr
        rcases List.mem_append.mp hr with w | w
        · have : f' r = f r := if_neg (fun (e : r = z) => hzn (e ▸ w))
          rw [this]; exact e2 r w
        · rw [show r = z by simpa using w, fz]; exact hs.2.2 sv hsv
      · rw [take_one hzz]
        unfold iD
        rw [List.map_append]
        refine Paired.snoc (b := (Sum.inr z, V.int (f' z))) ?_ ⟨npD, by rw [upd_ne npD, upd_same, fz]; rfl⟩
        show Paired _ ts (iD (abc.take i) f')
        rw [ef]
        refine pair_map e3 fun q' kv h => ⟨h.1, ?_⟩
        rw [upd_ne h.1]
        exact (Same.new hp) _ _ (fr7 _ _ h.2 (by
          have : q' ≠ t := fun w => by have := h.2; rw [w, T5.dict] at this; cases this
          simp [this]))
    · rintro H5 ⟨fr5, n5, z5, j5, hB5, ⟨p5', l5', T5, hp5⟩, ts, f, e1, e2, e3⟩
      rw [List.length_map] at hp5 e2 e3
      rw [List.take_length] at e2 e3
      have h3 : abc.length = 3 := rfl
      refine ⟨D, ts, iD abc f, rfl, SqL.of e1, pair_map e3 fun q' kv h => SqT.of h.2, fun d hd => ?_⟩
      rw [mergeK_iD hN.nd]
      refine ⟨_, rfl, z2, fun p hp => ⟨_, rfl, z3, fun nl2 hnl2 => ⟨nl2, rfl, ⟨_, SqL.of upd_same⟩, fun D2 hD2 => ?_⟩⟩⟩
      have nhd : d ≠ t := fun z => by rw [z, T5.dict] at hd; cases hd
      have nhc : d ≠ c := fun z => by rw [z, T5.cells] at hd; cases hd
      have u1 := Same.new (o := .dK (iD abc f)) hd
      have u2 := Same.new (o := .tup [.ref d, .ref jl]) hp
      have u3 := Same.new (o := .lst (abc.map V.str)) hnl2
      have U := (u1.trans u2).trans u3
      have d6 := (u2.trans u3) _ _ (upd_same (o := .dK (iD abc f)))
      have p6 := u3 _ _ (upd_same (o := .tup [.ref d, .ref jl]))
      have n6 : (upd (upd (upd H5 d (.dK (iD abc f))) p (.tup [.ref d, .ref jl])) nl2 (.lst (abc.map V.str))) nl2 = some (.lst (abc.map V.str)) := upd_same
      have P6 : PlanAt (upd (upd (upd H5 d (.dK (iD abc f))) p (.tup [.ref d, .ref jl])) nl2 (.lst (abc.map V.str))) p abc f L d jl := ⟨p6, d6, U _ _ j5, fun q hq => ((hB5 q hq).mono U).rd, hLl⟩
      have B6 := hB5.mono U
      have T6 := T5.mono U
      have fr6 := fr5.trans (Frm.of U)
      have hD6 : (upd (upd (upd H5 d (.dK (iD abc f))) p (.tup [.ref d, .ref jl])) nl2 (.lst (abc.map V.str))) D2 = none := hD2
      have mD : D2 ≠ t := fun z => by rw [z, T6.dict] at hD6; cases hD6
      have mDc : D2 ≠ c := fun z => by rw [z, T6.cells] at hD6; cases hD6
      have hD20 : H D2 = none := fr6.free hD6 (by simp [mD])
      have nlD : nl2 ≠ D2 := fun z => by rw [← z, n6] at hD6; cases hD6
      have nlt : nl2 ≠ t := Ne.symm (ne_of_none ((u1.trans u2) _ _ T5.dict) hnl2)
      have gd : Good abc f (cors L) := ⟨hN, by simp [abc], e2, hCo, hCn⟩
      have apD := P6.apart hD6
      refine lc_it (walk_list (xs := abc.map V.str)) (fun i H' => Frm [t] H H' ∧ H' nl2 = some (.lst (abc.map V.str)) ∧ PlanAt H' p abc f L d jl ∧ BareL H' L ∧ (∃ p l, TapeAt H' t c ns p l ∧ p ≤ p5' + i) ∧ ∃ (ts : List Addr) (g : Str → Int), H' D2 = some (.lst (ts.map V.ref)) ∧ (∀ r ∈ abc.take i, 0 ≤ g r ∧ g r ≤ f r - 1) ∧ Paired (fun q' kv => q' ≠ D2 ∧ H' q' = some (.tup [kV kv.1, kv.2])) ts (iD (abc.take i) g)) ?_ (fun i H' _ h => SqL.of h.2.1) ?_ ?_
      · have S := Same.new (o := .lst []) hD6
        exact ⟨fr6.then_ hD6, S _ _ n6, P6.mono S, B6.mono S, ⟨p5', l5', T6.keep mD mDc, by omega⟩, [], fun _ => 0, upd_same, by simp, .nil⟩
      · rintro i v H7 H8 hi ⟨fr7, n7, P7, B7, ⟨p7', l7', T7, hp7⟩, us, g, a1, a2, a3⟩ ⟨rfl, hv⟩
        obtain ⟨z, hzz, rfl⟩ : ∃ z, abc[i]? = some z ∧ v = .str z := by
          rw [List.getElem?_map] at hv
          obtain ⟨n, h1, h2⟩ := Option.map_eq_some_iff.mp hv
          exact ⟨n, h1, h2.symm⟩
        rw [List.length_map] at hi
        have hi3 : i < 3 := hi
        have hzm : z ∈ abc := List.mem_of_getElem? hzz
        have hzn : z ∉ abc.take i := not_take hN.nd hzz
        have hps := e2 z hzm
        refine ⟨rfl, _, rfl, _, rfl, _, rfl, p, _, 0, _, rfl, rfl, SqT.of P7.tup, rfl, _, rfl, d, _, rfl, DGet.i (.inl P7.dict) hzm, t, c, ns, p7', l7', f z, rfl, T7, by omega, by omega, hps.2, fun r p8 l8 H9 hr0 hr1 hp8 fr9 T9 => ?_⟩
        refine ⟨by show 2 ≤ sizeLine; omega, fun q hq => ?_⟩
        have a1' := fr9 _ _ a1 (by simp [mD])
        have n9 := fr9 _ _ n7 (by simp [nlt])
        have P9 := P7.frm fr9 T7
        have B9 := B7.frm fr9 T7
        have nqD2 : q ≠ D2 := fun w => by rw [w, a1'] at hq; cases hq
        have hts : us.length = i := by rw [a3.length, iD_len, List.length_take]; show min i 3 = i; omega
        have Sq := Same.new (o := .tup [.str z, .int r]) hq
        have f9 := fr7.trans fr9
        let g' : Str → Int := fun x => if x = z then r else g x
        have ef : iD (abc.take i) g' = iD (abc.take i) g := iD_congr fun x hx => if_neg (fun (e : x = z) => hzn (e ▸ hx))
        have gz : g' z = r := if_pos rfl
        have Pq := P9.mono Sq
        have P10 : PlanAt (upd (upd H9 q (.tup [.str z, .int r])) D2 (.lst (us.map V.ref ++ [.ref q]))) p abc f L d jl := Pq.upd apD
        have B10 : BareL (upd (upd H9 q (.tup [.str z, .int r])) D2 (.lst (us.map V.ref ++ [.ref q]))) L := fun x hx => ((B9.mono Sq) x hx).upd (apD.2.2.2 x hx)
        have nqt : q ≠ t := fun w => by rw [w, T9.dict] at hq; cases hq
        have nqc : q ≠ c := fun w => by rw [w, T9.cells] at hq; cases hq
        refine ⟨_, Sq _ _ a1', by rw [List.length_map]; omega, (f9.then_ hq).mut hD20, by rw [upd_ne nlD]; exact Sq _ _ n9, P10, B10, ⟨p8, l8, (T9.keep nqt nqc).keep mD mDc, by omega⟩, us ++ [q], g', by rw [upd_same, List.map_append]; rfl, ?_, ?_⟩
        · rw [take_one hzz]
          intro x hx
          rcases List.mem_append.mp hx with w | w
          · have : g' x = g x := if_neg (fun (e : x = z) => hzn (e ▸ w))
            rw [this]; exact a2 x w
          · rw [show x = z by simpa using w, gz]; omega
        · rw [take_one hzz]
          unfold iD
          rw [List.map_append]
          refine Paired.snoc (b := (Sum.inr z, V.int (g' z))) ?_ ⟨nqD2, by rw [upd_ne nqD2, upd_same, gz]; rfl⟩
          show Paired _ us (iD (abc.take i) g')
          rw [ef]
          refine pair_map a3 fun q' kv h => ⟨h.1, ?_⟩
          rw [upd_ne h.1]
          exact Sq _ _ (fr9 _ _ h.2 (by
            have : q' ≠ t := fun w => by have := h.2; rw [w, T7.dict] at this; cases this
            simp [this]))
      · rintro H7 ⟨fr7, n7, P7, B7, ⟨p7', l7', T7, hp7⟩, us, g, a1, a2, a3⟩
        rw [List.length_map] at hp7 a2 a3
        rw [List.take_length] at a2 a3
        refine ⟨D2, us, iD abc g, rfl, SqL.of a1, pair_map a3 fun q' kv h => SqT.of h.2, fun gd' hgd => ?_⟩
        rw [mergeK_iD hN.nd]
        refine ⟨z2, fun a ha => ?_⟩
        have v1 := Same.new (o := .dK (iD abc g)) hgd
        have v2 := Same.new (o := .tup [.ref p, .ref gd']) ha
        have V' := v1.trans v2
        have ngt : gd' ≠ t := fun w => by rw [w, T7.dict] at hgd; cases hgd
        exact k a p gd' d jl abc abc f g L p7' l7' _ (fr7.trans (Frm.of V')) upd_same (P7.mono V') (B7.mono V') gd (v2 _ _ upd_same) (.inr ⟨rfl, rfl, a2⟩) (by omega) (T7.mono V')
end
end RD

/-! RDHouse2: the errors that a house raises; go, undo, attempt. -/
namespace RD
open PySem PySem.Spec PyProof.Rows L2
/-! ### the errors -/
section
variable {P : Program} {w : World} {K : PySem.W.Frag} {mg : Str → Option Value} {base : Heap}
theorem xbase (T : Says w K mg) : XBase K (He.ga K "RoomdialsError") := ⟨T.eRd_find, T.eRd_reads, T.eRd_ga⟩
theorem xcIW (T : Says w K mg) : XC K (He.ga K "InvalidWalk") := ⟨T.eInvalidWalk_new, T.eInvalidWalk_over, T.eInvalidWalk_keep, T.eInvalidWalk_sub, T.eInvalidWalk_typ, T.eInvalidWalk_sa⟩
theorem xcNU (T : Says w K mg) : XC K (He.ga K "NothingToUndo") := ⟨T.eNothingToUndo_new, T.eNothingToUndo_over, T.eNothingToUndo_keep, T.eNothingToUndo_sub, T.eNothingToUndo_typ, T.eNothingToUndo_sa⟩
theorem xfIW (T : Says w K mg) : XF K (He.ga K "InvalidWalk") "index" := ⟨T.eInvalidWalk_dict, T.eInvalidWalk_tak⟩
theorem type_fn {f : Addr} (h : PySem.W.isFn K (.ref f) = true) : PySem.W.typeIn K (.ref f) = some (.type "function") := beq_iff_eq.mp h
def spIW : Sp := fun vs H Q _ => ∃ (a C : Addr) (y : V), vs = [.ref a, y] ∧ XC K C ∧ XF K C "index" ∧ H a = some (exo a C none) ∧ Q .non (upd H a (xo a C))
theorem sc_InvalidWalk_init : FnScope ["self", "index"] ["self", "index"] (defScope sInvalidWalk_init) := ⟨rfl, rfl, rfl, by decide +kernel, rfl, by decide +kernel, by decide +kernel⟩
theorem fn_IW (T : Says w K mg) : ∃ fd, FnOk P w K mg base CX0 1 (He.ma K (He.ga K "InvalidWalk") "__init__") fd ["self", "index"] (spIW (K := K)) ∧ Binds K fd ["self", "index"] [] := by
  obtain ⟨fd, F⟩ := T.dInvalidWalk_init
  refine ⟨fd, fnok_of (k := 0) F sc_InvalidWalk_init (fun vs H Q E h => ?_) (fun cdv A outer s H vs Q E hr h => ?_), FunD.bindsN F (fun _ _ _ _ _ _ us hl => match us, hl with | [_, _], _ => rfl)⟩
  · obtain ⟨_, _, _, rfl, _⟩ := h; rfl
  refine ⟨_, (pss_cons (ps_expr (pe_baseInit (xbase T) rfl T.g_RoomdialsError (pa_cons (pv 0) (pa_cons pe_str pa_nil))))
    (pss_one (ps_field (pv 0) (pv 1)))), ?_⟩
  obtain ⟨a, C, y, rfl, hx, hf, ha, k⟩ := h
  exact ⟨_, rfl, a, C, _, rfl, by decide, hx, ha, _, rfl, _, rfl, a, C, rfl, hx, hf, ha, k⟩
def spNU : Sp := fun vs H Q _ => ∃ (a C : Addr), vs = [.ref a] ∧ XC K C ∧ H a = some (exo a C none) ∧ Q .non H
theorem sc_NothingToUndo_init : FnScope ["self"] ["self"] (defScope sNothingToUndo_init) := ⟨rfl, rfl, rfl, by decide +kernel, rfl, by decide +kernel, by decide +kernel⟩
theorem fn_NU (T : Says w K mg) : ∃ fd, FnOk P w K mg base CX0 1 (He.ma K (He.ga K "NothingToUndo") "__init__") fd ["self"] (spNU (K := K)) ∧ Binds K fd ["self"] [] := by
  obtain ⟨fd, F⟩ := T.dNothingToUndo_init
  refine ⟨fd, fnok_of (k := 0) F sc_NothingToUndo_init (fun vs H Q E h => ?_) (fun cdv A outer s H vs Q E hr h => ?_), FunD.bindsN F (fun _ _ _ _ _ _ us hl => match us, hl with | [_], _ => rfl)⟩
  · obtain ⟨_, _, rfl, _⟩ := h; rfl
  refine ⟨_, (pss_one (ps_expr (pe_baseInit (xbase T) rfl T.g_RoomdialsError (pa_cons (pv 0) (pa_cons pe_str pa_nil))))), ?_⟩
  obtain ⟨a, C, rfl, hx, ha, k⟩ := h
  exact ⟨_, rfl, a, C, _, rfl, by decide, hx, ha, k⟩
theorem del_upd2 {H : Hp} {a : Addr} {o u : HO} (h : H a = none) : del (upd (upd H a o) a u) a = H := by
  funext b
  by_cases hb : b = a
  · rw [hb, del_same, h]
  · rw [del_ne hb, upd_ne hb, upd_ne hb]
theorem del_upd1 {H : Hp} {a : Addr} {o : HO} (h : H a = none) : del (upd H a o) a = H := by
  funext b
  by_cases hb : b = a
  · rw [hb, del_same, h]
  · rw [del_ne hb, upd_ne hb]
/-- what is asked behind the argument -/
def IWk (K : PySem.W.Frag) (y : V) (H : Hp) (Q : XK) : Prop := [y].length ≤ 1000 ∧ ∀ a, H a = none → spIW (K := K) [.ref a, y] (upd H a (exo a (He.ga K "InvalidWalk") none)) (fun v H2 => v = .non ∧ XAt H2 a (He.ga K "InvalidWalk") ∧ ∀ d, Q (.ref (He.ga K "InvalidWalk")) d (del H2 a)) E0
def NUk (K : PySem.W.Frag) (H : Hp) (Q : XK) : Prop := ([] : List V).length ≤ 1000 ∧ ∀ a, H a = none → spNU (K := K) [.ref a] (upd H a (exo a (He.ga K "NothingToUndo") none)) (fun v H2 => v = .non ∧ XAt H2 a (He.ga K "NothingToUndo") ∧ ∀ d, Q (.ref (He.ga K "NothingToUndo")) d (del H2 a)) E0
theorem iwk (T : Says w K mg) {y : V} {H : Hp} {Q : XK} (h : ∀ d, Q (.ref (He.ga K "InvalidWalk")) d H) : IWk K y H Q := ⟨by show 1 ≤ 1000; decide, fun a ha => ⟨a, _, y, rfl, xcIW T, xfIW T, upd_same, rfl, .inl upd_same, fun d => by rw [del_upd2 ha]; exact h d⟩⟩
theorem nuk (T : Says w K mg) {H : Hp} {Q : XK} (h : ∀ d, Q (.ref (He.ga K "NothingToUndo")) d H) : NUk K H Q := ⟨by show 0 ≤ 1000; decide, fun a ha => ⟨a, _, rfl, xcNU T, upd_same, rfl, .inr upd_same, fun d => by rw [del_upd1 ha]; exact h d⟩⟩
theorem pmk_IW {X : Cx} {j : Nat} {e : Expr} {te : TE} {p pos : Pos} (T : Says X.w X.K X.mg) (hr : Room j X.A) (hk : 2 ≤ j) (hg : Gl X "InvalidWalk") (he : PE X e te)
    (hst : starEach [e] X.env = (false, eval e X.env) :: starEach [] X.env := by rfl) : PMk X (.Call (.Name "InvalidWalk" p) [e] [] pos) (fun σ H Q => te σ H fun y H1 => IWk X.K y H1 Q) := by
  obtain ⟨fd, F, b⟩ := fn_IW (P := X.prog) (base := X.base) T
  exact pmk_x (x := "InvalidWalk") (xcIW T) T.eInvalidWalk_init (type_fn T.eInvalidWalk_fn) F hr hk b hg T.g_InvalidWalk (pa_cons he pa_nil (hs := hst)) (he := hst)
theorem pmk_NU {X : Cx} {j : Nat} {p pos : Pos} (T : Says X.w X.K X.mg) (hr : Room j X.A) (hk : 2 ≤ j) (hg : Gl X "NothingToUndo") : PMk X (.Call (.Name "NothingToUndo" p) [] [] pos) (fun σ H Q => NUk X.K H Q) := by
  obtain ⟨fd, F, b⟩ := fn_NU (P := X.prog) (base := X.base) T
  exact pmk_x0 (x := "NothingToUndo") (xcNU T) T.eNothingToUndo_init (type_fn T.eNothingToUndo_fn) F hr hk b hg T.g_NothingToUndo
/-! ### the state of a house -/
/-- a walk so far and the lengths of its calls -/
structure Trip (E : List Cor) (rs zs : List Str) (ms : List Nat) : Prop where
  ne : zs ≠ []
  mem : ∀ z ∈ zs, z ∈ rs
  ch : Chain E zs
  len : zs.length = ms.sum + 1
  pos : ∀ m ∈ ms, 1 ≤ m
def callsL (ms : List Nat) : List Int := (cumL ms).map fun (n : Nat) => (n : Int)
/-- go -/
def bad (rs : List Str) (x : V) : Prop := x = .non ∨ ∃ z : Str, x = .str z ∧ z ∉ rs ∧ z.length ≤ 1000
def addM (ms : List Nat) (way : List Str) : List Nat := if way = [] then ms else ms ++ [way.length]
def spGo (K : PySem.W.Frag) : Sp := fun vs H Q E => ∃ (h t dx b d v c : Addr) (rs : List Str) (sz : Str → Int) (Eb : List Cor) (bg : Str → Int) (zs : List Str) (ms : List Nat) (la : Str), vs = [.ref h, .ref t] ∧ HsAt (He.ga K "LoggedHouse") H h dx b d v c ∧ HsIn H d v c rs bg zs (callsL ms) ∧ BldAt (He.ga K "Building") H b rs sz Eb ∧
  Trip Eb rs zs ms ∧ zs.getLast? = some la ∧ ((∃ way : List Str, H t = some (.tup (way.map V.str)) ∧ Chain Eb (la :: way) ∧ (∀ z ∈ way, z ∈ rs) ∧ zs.length + way.length ≤ 1000 ∧
      ∀ v' c' H', Frm [h] H H' → HsAt (He.ga K "LoggedHouse") H' h dx b d v' c' → HsIn H' d v' c' rs bg (zs ++ way) (callsL (addM ms way)) → Q .non H') ∨
    ∃ x, bad rs x ∧ H t = some (.tup [x]) ∧ ∀ dd H', Same H H' → E (.ref (He.ga K "InvalidWalk")) dd H')
theorem cumL_snoc (ms : List Nat) (k : Nat) : cumL (ms ++ [k]) = cumL ms ++ [ms.sum + k] := by
  unfold cumL
  rw [List.length_append, List.length_singleton, List.range_succ, List.map_append]
  refine congr (congrArg _ (List.map_congr_left fun i hi => ?_)) ?_
  · have : i < ms.length := List.mem_range.mp hi
    rw [List.take_append_of_le_length (by omega)]
  · rw [List.map_cons, List.map_nil, List.take_of_length_le (by simp), List.sum_append]
    simp
theorem callsL_snoc (ms : List Nat) (k : Nat) : callsL (ms ++ [k]) = callsL ms ++ [((ms.sum + k : Nat) : Int)] := by
  unfold callsL
  rw [cumL_snoc, List.map_append]
  rfl
theorem callsL_len (ms : List Nat) : (callsL ms).length = ms.length := by simp [callsL, cumL]
theorem sum_ge {ms : List Nat} (h : ∀ m ∈ ms, 1 ≤ m) : ms.length ≤ ms.sum := by
  induction ms with
  | nil => simp
  | cons a l ih =>
    have h1 := ih fun m hm => h m (.tail _ hm)
    have h2 := h a (.head _)
    rw [List.length_cons, List.sum_cons]
    omega
theorem out_room {C : Addr} {H : Hp} {b : Addr} {rs : List Str} {sz : Str → Int} (h : SzAt C H b rs sz) (hn : Names rs) {x : V} (hx : bad rs x) {Q : VK} (k : ∀ H', Same H H' → Q (.bl false) H') : rSpec C (spContains C) [x] (.ref b) H Q := by
  obtain ⟨dx, fs, s, h1, h2, h3⟩ := id h
  refine ⟨b, dx, fs, rfl, h1, b, rs, sz, x, rfl, h, hn, ?_⟩
  rcases hx with rfl | ⟨z, rfl, hz, hl⟩
  · exact .inr ⟨rfl, k⟩
  · refine .inl ⟨z, rfl, hl, fun H' s' => ?_⟩
    rw [decide_eq_false hz]
    exact k H' s'
theorem beq_of_eqV {y z : Str} (e : eqV (.str y) (.str z) = true) : (y == z) = true := e
theorem inV_strs (z : Str) (ys : List Str) : inV (.str z) (ys.map V.str) = decide (z ∈ ys) := by
  unfold inV
  induction ys with
  | nil => rfl
  | cons y l ih =>
    rw [List.map_cons, List.any_cons, ih, Bool.eq_iff_iff, Bool.or_eq_true, decide_eq_true_eq, decide_eq_true_eq, List.mem_cons]
    refine or_congr_left ⟨fun e => (beq_iff_eq.mp (beq_of_eqV e)).symm, fun e => ?_⟩
    rw [e]
    exact beq_iff_eq.mpr rfl
theorem sc_House_go : FnScope ["self", "rooms", "here", "index", "room"] ["self", "rooms"] (defScope sHouse_go) := ⟨rfl, rfl, rfl, by decide +kernel, rfl, by decide +kernel, by decide +kernel⟩
theorem okHouse_go (T : Says w K mg) : FnR P w K mg base (L2.CX P w) 5 (He.ma K (He.ga K "LoggedHouse") "go") (spStar (spGo K)) := by
  refine star_of T.dHouse_go sc_House_go StX.cxUp (fun kV doc pm an cdv ct us rest hl => ?_) (fun cdv A outer s H vs Q E hr h => ?_)
  · exact StX.bind_star1 (p1 := "self") (pv := "rooms") (B := fun us => bindArgs (PySem.W.fnOf "go" "House.go" (defArgs sHouse_go) (defBody sHouse_go) (defScope sHouse_go) .none kV doc pm an cdv ct) ⟨us, []⟩) (fun _ => rfl) (fun _ _ _ => rfl) us rest hl
  refine ⟨_, (pss_cons (ps_set (i := 2) sc_House_go.nd rfl (Or.inl rfl) (pe_ix (r := rIxL K) ix_list (pe_fld (pv 0) rfl) (pe_un un_neg pe_int) (fun _ _ => rfl)))
    (pss_cons (ps_for (passes_of rfl) rfl (pi_enumT (by rfl) T.z_enumerate (pa_cons (pv 1) pa_nil)) (pg_tup rfl (pgs_cons (pg_name (i := 3) sc_House_go.nd rfl (Or.inl rfl)) (pgs_cons (pg_name (i := 4) sc_House_go.nd rfl (Or.inl rfl)) pgs_nil))) (pss_cons (ps_if (PW.pt (pw_or (pt_cmpR (op_notInM (okBuilding_contains T) hr (by decide)) (pv 4) (pe_fld (pv 0) rfl) (by rfl)) (pw_or1 (pt_cmpR (r := rIn K true) op_notIn_seq (pv 4) (C8.pe_mt (okBuilding_neighbours T) hr (by decide) (pe_fld (pv 0) rfl) (pa_cons (pv 2) pa_nil)) (by rfl))))) (pss_one (ps_raise rfl (takes_of rfl rfl rfl rfl) (pmk_IW T hr (by decide) rfl (pv 3)))) pss_nil)
    (pss_one (ps_set (i := 2) sc_House_go.nd rfl (Or.inl rfl) (pv 4)))))
    (pss_cons (ps_if (pt_cmpR op_gt (pe_op op_add (pe_callB (id := "len") call_len_seq (by rfl) T.z_len PySem.boot_len (pa_cons (pe_fld (pv 0) rfl) pa_nil)) (pe_callB (id := "len") call_len_seq (by rfl) T.z_len PySem.boot_len (pa_cons (pv 1) pa_nil))) (pe_gi T.i_MOST rfl) (nomark _)) (pss_one ps_never) pss_nil)
    (pss_cons (ps_fld (pv 0) (pe_op op_cat (pe_fld (pv 0) rfl) (pe_callTy (T := "list") call_list_of (by rfl) T.z_list (by decide +kernel) (pa_cons (pv 1) pa_nil))) rfl)
    (pss_one (ps_if (pt_cmpR (r := rNeD K) (op_neD (hu64 hr)) (pv 1) (pe_tup pa_nil) (nomark _)) (pss_one (ps_fld (pv 0) (pe_op op_cat (pe_fld (pv 0) rfl) (pe_lst (pa_cons (pe_pp (okHouse_step_count T) hr (by decide) (pv 0)) pa_nil))) rfl)) pss_nil)))))), ?_⟩
  obtain ⟨h, t, dx, b, d, v, c, rs, sz, Eb, bg, zs, ms, la, rfl, hh, hI, hB, hT, hla, hq⟩ := h
  have hbig : sizeLine = 16777216 := sizeLine_eq
  have hnm := hB.nm
  have hal : atI (zs.map V.str) (-1) = some (.str la) := by
    obtain ⟨ini, rfl⟩ : ∃ ini, zs = ini ++ [la] := List.getLast?_eq_some_iff.mp hla
    rw [List.map_append]
    exact atI_last _ _
  refine ⟨_, rfl, h, _, dx, _, _, rfl, hh, T.cl_LoggedHouse, T.naLoggedHouse_visited, rfl, 1, rfl, v, _, -1, _, rfl, rfl, SqL.of hI.visited, hal, ?_⟩
  obtain ⟨⟨dxb, sa, pa, na, v1, v2, v3, L, kvs, hb1, hb2, hb3, hb4, hb5⟩, hb6, hb7⟩ := id hB
  rcases hq with ⟨way, ht, hch, hway, hlen, k⟩ | ⟨x, hbad, ht, k⟩
  · refine ⟨_, rfl, t, _, rfl, SqT.of ht, ?_⟩
    refine for_it (walk_enumT (xs := way.map V.str)) (fun i σ H' => Same H H' ∧ ∃ x y he, (la :: way)[i]? = some he ∧ σ = [some (.ref h), some (.ref t), some (.str he), x, y]) ⟨Same.refl _, _, _, la, rfl, rfl⟩ (fun i σ H' _ h => SqT.of (h.1 _ _ ht)) ?_ ?_
    · rintro i x σ H1 H1' hi ⟨s1, x1, y1, he, hhe, rfl⟩ ⟨p, x2, y2, rfl, hp, rfl, e1, e2⟩
      obtain ⟨z, hz, rfl⟩ := str_at e2
      cases e1
      have hzr := hway z (List.mem_of_getElem? hz)
      have hadj : adj Eb he z := hch i he z hhe (by rw [List.getElem?_cons_succ]; exact hz)
      have her : he ∈ rs := by
        rcases List.mem_cons.mp (List.mem_of_getElem? hhe) with e | e
        · rw [e]; exact hT.mem la (List.mem_of_getLast? hla)
        · exact hway he e
      have s2 := s1.then_ (o := .tup [.int (i : Nat), .str z]) hp
      refine ⟨p, _, rfl, SqT.of upd_same, rfl, _, _, rfl, _, _, rfl, rfl, ?_⟩
      refine ⟨_, rfl, _, rfl, h, _, dx, _, _, rfl, s2 _ _ hh, T.cl_LoggedHouse, T.naLoggedHouse_plan, rfl, in_room (hB.mono s2).sz hnm hzr fun H2 s3 => ⟨_, rfl, _, rfl, iteF ?_⟩⟩
      have s4 := s2.trans s3
      refine ⟨_, rfl, _, rfl, h, _, dx, _, _, rfl, s4 _ _ hh, T.cl_LoggedHouse, T.naLoggedHouse_plan, rfl, b, dxb, _, rfl, s4 _ _ hb1, rfl, _, rfl, b, rs, sz, Eb, na, kvs, dxb, _, he, rfl, (hB.mono s4).sz, hnm, her, s4 _ _ hb1, rfl, hb4.mono s4, fun q ys H3 s5 hq hiff => ?_⟩
      refine ⟨q, _, rfl, .inr (SqT.of hq), rfl, flat_strs _, _, rfl, ?_⟩
      have hin : (!inV (.str z) (ys.map V.str)) = false := by
        rw [inV_strs, decide_eq_true ((hiff z).mpr hadj)]
        rfl
      rw [if_pos rfl, hin]
      refine iteF ?_
      exact ⟨_, rfl, s4.trans s5, _, _, z, by rw [List.getElem?_cons_succ]; exact hz, rfl⟩
    · rintro σ H1 ⟨s1, x1, y1, he, hhe, rfl⟩
      have hv1 := s1 _ _ hI.visited
      have hh1 := s1 _ _ hh
      refine ⟨_, rfl, h, _, dx, _, _, rfl, hh1, T.cl_LoggedHouse, T.naLoggedHouse_visited, rfl, v, _, rfl, .inl (SqL.of hv1), _, rfl, t, _, rfl, .inr (SqT.of (s1 _ _ ht)), _, _, rfl, rfl, _, _, rfl, rfl, _, rfl, ite2d (fun hc => ?_) (fun _ => ?_)⟩
      · exfalso
        rw [List.length_map, List.length_map] at hc
        omega
      refine ⟨_, rfl, h, _, dx, _, _, rfl, hh1, T.cl_LoggedHouse, T.naLoggedHouse_visited, rfl, _, rfl, t, _, rfl, .inr (SqT.of (s1 _ _ ht)), fun q hq => ?_⟩
      have htx := s1 _ _ ht
      have S2 := Same.new (o := .lst (way.map V.str)) hq
      have q2 : upd H1 q (.lst (way.map V.str)) q = some (.lst (way.map V.str)) := upd_same
      have s2 := s1.trans S2
      generalize upd H1 q (.lst (way.map V.str)) = H2 at S2 q2 s2
      refine ⟨v, q, _, _, rfl, rfl, s2 _ _ hI.visited, q2, by rw [List.length_map, List.length_map]; omega, fun p hp => ?_⟩
      rw [← List.map_append]
      have s3 := s2.then_ (o := .lst ((zs ++ way).map V.str)) hp
      have p3 : upd H2 p (.lst ((zs ++ way).map V.str)) p = some (.lst ((zs ++ way).map V.str)) := upd_same
      generalize upd H2 p (.lst ((zs ++ way).map V.str)) = H3 at s3 p3
      refine ⟨_, rfl, h, _, dx, _, rfl, s3 _ _ hh, T.cl_LoggedHouse, T.naLoggedHouse_visited, (by show 4 < 1000; decide), ?_⟩
      have nhp : p ≠ h := fun z => by rw [z, s3 _ _ hh] at p3; cases p3
      have nhc : c ≠ h := fun z => by have := hI.calls; rw [z, hh] at this; cases this
      have nhd : d ≠ h := fun z => by have := hI.shown; rw [z, hh] at this; cases this
      have nht : t ≠ h := fun z => by rw [z, hh] at ht; cases ht
      have fr4 : Frm [h] H (upd H3 h (.ins (He.ga K "LoggedHouse") dx (putF "visited" (.ref p) (hf b d v c)))) := (Frm.of s3).put (by simp)
      have h4 : upd H3 h (.ins (He.ga K "LoggedHouse") dx (putF "visited" (.ref p) (hf b d v c))) h = some (.ins (He.ga K "LoggedHouse") dx (hf b d p c)) := upd_same
      have p4 : upd H3 h (.ins (He.ga K "LoggedHouse") dx (putF "visited" (.ref p) (hf b d v c))) p = some (.lst ((zs ++ way).map V.str)) := by rw [upd_ne nhp]; exact p3
      generalize upd H3 h (.ins (He.ga K "LoggedHouse") dx (putF "visited" (.ref p) (hf b d v c))) = H4 at fr4 h4 p4
      have c4 := fr4 _ _ hI.calls (by simp [nhc])
      have d4 := fr4 _ _ hI.shown (by simp [nhd])
      have t4 := fr4 _ _ ht (by simp [nht])
      have hwn : ∀ z ∈ way, nameB z = true := fun z hz => hnm.nm z (hway z hz)
      refine ⟨_, rfl, by show 0 ≤ sizeLine; omega, fun e he2 => ?_⟩
      have S5 := Same.new (o := .tup []) he2
      refine ⟨.tuple (way.map PyData.str), .tuple (([] : List Str).map PyData.str), .tup (SqT.of (S5 _ _ t4)) (strs_dp way), .tup (SqT.of upd_same) .nil, strs_shapedT hwn, strs_shapedT (by simp), ?_⟩
      rw [strs_eqvT]
      have fr5 : Frm [h] H (upd H4 e (.tup [])) := fr4.then_ he2
      have h5 := S5 _ _ h4
      have p5 := S5 _ _ p4
      have c5 := S5 _ _ c4
      have d5 := S5 _ _ d4
      generalize upd H4 e (.tup []) = H5 at S5 fr5 h5 p5 c5 d5
      by_cases hw0 : way = []
      · rw [decide_eq_true hw0]
        refine ⟨_, rfl, iteF ?_⟩
        have e1 : addM ms way = ms := if_pos hw0
        refine k p c H5 fr5 h5 ⟨d5, p5, ?_⟩
        rw [e1]
        exact c5
      · rw [decide_eq_false hw0]
        refine ⟨_, rfl, iteT ?_⟩
        have e1 : addM ms way = ms ++ [way.length] := if_neg hw0
        have hml := sum_ge hT.pos
        have hzl := hT.len
        refine ⟨_, rfl, h, _, dx, _, _, rfl, h5, T.cl_LoggedHouse, T.naLoggedHouse_calls, rfl, _, rfl, h, dx, _, rfl, h5, h, dx, b, d, p, c, zs ++ way, rfl, h5, p5, by show 1 ≤ sizeLine; omega, fun l hl => ?_⟩
        have S6 := Same.new (o := .lst [V.int (((zs ++ way).length : Int) - 1)]) hl
        have l6 : upd H5 l (.lst [V.int (((zs ++ way).length : Int) - 1)]) l = some (.lst [V.int (((zs ++ way).length : Int) - 1)]) := upd_same
        generalize upd H5 l (.lst [V.int (((zs ++ way).length : Int) - 1)]) = H6 at S6 l6
        refine ⟨c, l, _, _, rfl, rfl, S6 _ _ c5, l6, by rw [List.length_map, callsL_len]; show ms.length + 1 ≤ sizeLine; omega, fun c2 hc2 => ?_⟩
        have e2 : (callsL ms).map V.int ++ [V.int (((zs ++ way).length : Int) - 1)] = (callsL (addM ms way)).map V.int := by
          rw [e1, callsL_snoc, List.map_append]
          refine congrArg _ ?_
          show [V.int _] = [V.int _]
          congr 2
          rw [List.length_append]
          omega
        rw [e2]
        have S7 := S6.then_ (o := .lst ((callsL (addM ms way)).map V.int)) hc2
        have c7 : upd H6 c2 (.lst ((callsL (addM ms way)).map V.int)) c2 = some (.lst ((callsL (addM ms way)).map V.int)) := upd_same
        generalize upd H6 c2 (.lst ((callsL (addM ms way)).map V.int)) = H7 at S7 c7
        have n1 : p ≠ h := nhp
        have n2 : c2 ≠ h := fun z => by rw [z, S7 _ _ h5] at c7; cases c7
        refine ⟨_, rfl, h, _, dx, _, rfl, S7 _ _ h5, T.cl_LoggedHouse, T.naLoggedHouse_calls, (by show 4 < 1000; decide), ?_⟩
        exact k p c2 _ ((fr5.trans (Frm.of S7)).put (by simp)) upd_same ⟨by rw [upd_ne nhd]; exact S7 _ _ d5, by rw [upd_ne nhp]; exact S7 _ _ p5, by rw [upd_ne n2]; exact c7⟩
  · refine ⟨_, rfl, t, _, rfl, SqT.of ht, ?_⟩
    refine for_it (walk_enumT (xs := [x])) (fun i σ H' => i = 0 ∧ Same H H' ∧ ∃ x y, σ = [some (.ref h), some (.ref t), some (.str la), x, y]) ⟨rfl, Same.refl _, _, _, rfl⟩ (fun i σ H' _ h => SqT.of (h.2.1 _ _ ht)) ?_ ?_
    · rintro i x' σ H1 H1' hi ⟨rfl, s1, x1, y1, rfl⟩ ⟨p, x2, y2, rfl, hp, rfl, e1, e2⟩
      cases e1
      cases e2
      have s2 := s1.then_ (o := .tup [.int (0 : Nat), x]) hp
      refine ⟨p, _, rfl, SqT.of upd_same, rfl, _, _, rfl, _, _, rfl, rfl, ?_⟩
      refine ⟨_, rfl, _, rfl, h, _, dx, _, _, rfl, s2 _ _ hh, T.cl_LoggedHouse, T.naLoggedHouse_plan, rfl, out_room (hB.mono s2).sz hnm hbad fun H2 s3 => ⟨_, rfl, _, rfl, iteT (iteT ?_)⟩⟩
      exact ⟨_, rfl, iwk T fun dd => k dd H2 (s2.trans s3)⟩
    · rintro σ H1 ⟨h0, _⟩
      exact absurd h0 (by simp)
/-! ### undo -/
def cut1M (ms : List Nat) : List Nat := match ms.getLast? with
  | none => []
  | some l => if l = 1 then ms.dropLast else ms.dropLast ++ [l - 1]
def cutM : Nat → List Nat → List Nat
  | 0, ms => ms
  | n + 1, ms => cut1M (cutM n ms)
theorem cut1M_snoc (ms : List Nat) (l : Nat) : cut1M (ms ++ [l]) = if l = 1 then ms else ms ++ [l - 1] := by
  unfold cut1M
  simp
theorem last_of {ms : List Nat} (h : ms ≠ []) : ∃ ini l, ms = ini ++ [l] := ⟨ms.dropLast, ms.getLast h, (List.dropLast_concat_getLast h).symm⟩
theorem sum_ne {ms : List Nat} (h : 0 < ms.sum) : ms ≠ [] := fun z => by rw [z] at h; simp at h
def PosM (ms : List Nat) : Prop := ∀ m ∈ ms, 1 ≤ m
theorem cut1M_facts {ms : List Nat} (h : PosM ms) (hs : 0 < ms.sum) : PosM (cut1M ms) ∧ (cut1M ms).sum = ms.sum - 1 ∧ (cut1M ms).length ≤ ms.length := by
  obtain ⟨ini, l, rfl⟩ := last_of (sum_ne hs)
  rw [cut1M_snoc]
  have hl : 1 ≤ l := h l (by simp)
  have hi : PosM ini := fun c hc => h c (List.mem_append_left _ hc)
  split
  · refine ⟨hi, ?_, by simp⟩
    rw [List.sum_append]
    simp
    omega
  · refine ⟨fun c hc => ?_, ?_, by simp⟩
    · rcases List.mem_append.mp hc with q | q
      · exact hi c q
      · rw [show c = l - 1 by simpa using q]; omega
    · rw [List.sum_append, List.sum_append]
      simp
      omega
theorem cutM_facts {ms : List Nat} (h : PosM ms) : ∀ n : Nat, n ≤ ms.sum → PosM (cutM n ms) ∧ (cutM n ms).sum = ms.sum - n ∧ (cutM n ms).length ≤ ms.length
  | 0, _ => ⟨h, by simp [cutM], Nat.le_refl _⟩
  | n + 1, hn => by
    obtain ⟨h1, h2, h3⟩ := cutM_facts h n (by omega)
    obtain ⟨g1, g2, g3⟩ := cut1M_facts h1 (by rw [h2]; omega)
    refine ⟨g1, ?_, Nat.le_trans g3 h3⟩
    show (cut1M (cutM n ms)).sum = _
    rw [g2, h2]
    omega
def natL (ms : List Nat) : List Int := ms.map fun (n : Nat) => (n : Int)
theorem cutN_nat {ms : List Nat} (h : PosM ms) : ∀ n : Nat, n ≤ ms.sum → cutN n (natL ms) = natL (cutM n ms)
  | 0, _ => rfl
  | n + 1, hn => by
    obtain ⟨h1, h2, h3⟩ := cutM_facts h n (by omega)
    obtain ⟨ini, l, e⟩ := last_of (sum_ne (show 0 < (cutM n ms).sum by rw [h2]; omega))
    have hl : 1 ≤ l := h1 l (by rw [e]; simp)
    show cut1 (cutN n (natL ms)) = natL (cut1M (cutM n ms))
    rw [cutN_nat h n (by omega), e, cut1M_snoc]
    unfold natL
    rw [List.map_append, List.map_cons, List.map_nil, cut1_snoc]
    by_cases c : l = 1
    · rw [if_pos (by omega), if_pos c]
    · rw [if_neg (by omega), if_neg c, List.map_append, List.map_cons, List.map_nil]
      congr 2
      omega
/-- calls without what lies beyond -/
def uptoL (cs : List Int) (left : Int) : List Int := cs.filter (fun c => decide (c < left)) ++ if 0 < left then [left] else []
theorem callsL_le {ms : List Nat} : ∀ c ∈ callsL ms, c ≤ (ms.sum : Nat) := fun c hc => by
  unfold callsL cumL at hc
  obtain ⟨n, hn, rfl⟩ := List.mem_map.mp hc
  obtain ⟨i, hi, rfl⟩ := List.mem_map.mp hn
  have := congrArg List.sum (List.take_append_drop (i + 1) ms)
  rw [List.sum_append] at this
  omega
theorem upto_all {ms : List Nat} (h : PosM ms) : uptoL (callsL ms) (ms.sum : Nat) = callsL ms := by
  by_cases hs : 0 < ms.sum
  · obtain ⟨ini, l, rfl⟩ := last_of (sum_ne hs)
    have hl : 1 ≤ l := h l (by simp)
    have e : (ini ++ [l]).sum = ini.sum + l := by rw [List.sum_append]; simp
    unfold uptoL
    rw [if_pos (by omega), callsL_snoc, e, List.filter_append]
    have h1 : (callsL ini).filter (fun c => decide (c < ((ini.sum + l : Nat) : Int))) = callsL ini := List.filter_eq_self.mpr fun c hc => by
      have := callsL_le c hc
      exact decide_eq_true (by omega)
    have h2 : [((ini.sum + l : Nat) : Int)].filter (fun c => decide (c < ((ini.sum + l : Nat) : Int))) = [] := by simp
    rw [h1, h2, List.append_nil]
  · have e : ms = [] := by
      cases ms with
      | nil => rfl
      | cons a l => have := h a (.head _); rw [List.sum_cons] at hs; omega
    subst e
    rfl
theorem upto_cut1 {ms : List Nat} (h : PosM ms) {left : Nat} (hs : left < ms.sum) : uptoL (callsL (cut1M ms)) (left : Nat) = uptoL (callsL ms) (left : Nat) := by
  obtain ⟨ini, l, rfl⟩ := last_of (sum_ne (show 0 < ms.sum by omega))
  have hl : 1 ≤ l := h l (by simp)
  have e : (ini ++ [l]).sum = ini.sum + l := by rw [List.sum_append]; simp
  rw [e] at hs
  unfold uptoL
  congr 1
  rw [cut1M_snoc]
  have h2 : [((ini.sum + l : Nat) : Int)].filter (fun c => decide (c < (left : Int))) = [] := by
    rw [List.filter_cons, if_neg (by simp; omega), List.filter_nil]
  split
  · rw [callsL_snoc, List.filter_append, h2, List.append_nil]
  · have h3 : [((ini.sum + (l - 1) : Nat) : Int)].filter (fun c => decide (c < (left : Int))) = [] := by
      rw [List.filter_cons, if_neg (by simp; omega), List.filter_nil]
    rw [callsL_snoc, callsL_snoc, List.filter_append, List.filter_append, h2, h3]
theorem upto_cut {ms : List Nat} (h : PosM ms) : ∀ n : Nat, n ≤ ms.sum → uptoL (callsL (cutM n ms)) ((ms.sum - n : Nat) : Int) = uptoL (callsL ms) ((ms.sum - n : Nat) : Int) := fun n hn => by
  have gen : ∀ k : Nat, k ≤ n → uptoL (callsL (cutM k ms)) ((ms.sum - n : Nat) : Int) = uptoL (callsL ms) ((ms.sum - n : Nat) : Int) := by
    intro k
    induction k with
    | zero => intro _; rfl
    | succ k ih =>
      intro hk
      obtain ⟨h1, h2, h3⟩ := cutM_facts h k (by omega)
      show uptoL (callsL (cut1M (cutM k ms))) _ = _
      rw [upto_cut1 h1 (by rw [h2]; omega)]
      exact ih (by omega)
  exact gen n (Nat.le_refl _)
theorem undo_calls {ms : List Nat} (h : PosM ms) {n : Nat} (hn : n ≤ ms.sum) : uptoL (callsL ms) ((ms.sum - n : Nat) : Int) = callsL (cutM n ms) := by
  obtain ⟨h1, h2, h3⟩ := cutM_facts h n hn
  rw [← upto_cut h n hn, ← h2]
  exact upto_all h1
def spUndo (K : PySem.W.Frag) : Sp := fun vs H Q E => ∃ (h dx b d v c : Addr) (rs : List Str) (bg : Str → Int) (zs : List Str) (ms : List Nat) (n : Int), vs = [.ref h, .int n] ∧ HsAt (He.ga K "LoggedHouse") H h dx b d v c ∧ HsIn H d v c rs bg zs (callsL ms) ∧ zs.length = ms.sum + 1 ∧ PosM ms ∧ zs.length ≤ 1000 ∧
  ((∃ m : Nat, n = (m : Nat) ∧ 1 ≤ m ∧ m ≤ ms.sum ∧ ∀ v' c' H', Frm [h] H H' → HsAt (He.ga K "LoggedHouse") H' h dx b d v' c' → HsIn H' d v' c' rs bg (zs.take (zs.length - m)) (callsL (cutM m ms)) → Q .non H') ∨
    (1000 ≤ n ∧ ∀ dd H', Same H H' → E (.ref (He.ga K "NothingToUndo")) dd H'))
theorem sc_House_undo : FnScope ["self", "count", "left", "end"] ["self", "count"] (defScope sHouse_undo) := ⟨rfl, rfl, rfl, by decide +kernel, rfl, by decide +kernel, by decide +kernel⟩
theorem okHouse_undo (T : Says w K mg) : FnKR P w K mg base (L2.CX P w) 3 (He.ma K (He.ga K "LoggedHouse") "undo") ["count"] (fun vs zs H Q E => vs.length = 1 ∧ spUndo K (vs ++ zs) H Q E) := by
  obtain ⟨fd, F⟩ := T.dHouse_undo
  have ok : FnOk P w K mg base (L2.CX P w) 3 (He.ma K (He.ga K "LoggedHouse") "undo") fd ["self", "count"] (spUndo K) := by
    refine F.ok sc_House_undo (fun vs H Q E h => ?_) (fun cdv A outer s H vs Q E hr h => ?_)
    · obtain ⟨_, _, _, _, _, _, _, _, _, _, _, rfl, _⟩ := h; rfl
    refine ⟨_, (pss_cons (ps_if (pt_cmpR op_gt (pv 1) (pe_op op_sub (pe_callB (id := "len") call_len_seq (by rfl) T.z_len PySem.boot_len (pa_cons (pe_fld (pv 0) rfl) pa_nil)) pe_int) (nomark _)) (pss_one (ps_raise rfl (takes_of rfl rfl rfl rfl) (pmk_NU T hr (by decide) rfl))) pss_nil)
    (pss_cons (ps_fld (pv 0) (pe_slice (r := rSlL K) sl_list (pe_fld (pv 0) rfl) po_none (po_some (pe_op op_sub (pe_callB (id := "len") call_len_seq (by rfl) T.z_len PySem.boot_len (pa_cons (pe_fld (pv 0) rfl) pa_nil)) (pv 1)))) rfl)
    (pss_cons (ps_set (i := 2) sc_House_undo.nd rfl (Or.inr rfl) (pe_pp (okHouse_step_count T) hr (by decide) (pv 0)))
    (pss_one (ps_fld (pv 0) (pe_op op_cat (pe_lc (own := [("end", 3)]) (g := (gName 3)) rfl sc_House_undo.nd (pi_list (pe_fld (pv 0) rfl)) (blkOk_by (own := [("end", 3)]) (N := ["self", "count", "left", "end"]) (sc := defScope sHouse_undo) (by decide +kernel)) (fun _ _ _ _ _ => (pg_name (i := 3) sc_House_undo.nd rfl (Or.inl rfl))) (fun _ _ _ _ _ => (pts_one (pt_cmpR op_lt (pv 3) (pv 2) (nomark _)))) (fun _ _ _ _ _ => (pv 3))) (pe_op op_rep (pe_lst (pa_cons (pv 2) pa_nil)) (pe_callTy (T := "int") call_int1 (by rfl) T.z_int (by decide +kernel) (pa_cons (pe_cmpR op_gt (pv 2) pe_int (nomark _)) pa_nil)))) rfl))))), ?_⟩
    obtain ⟨h, dx, b, d, v, c, rs, bg, zs, ms, n, rfl, hh, hI, hzl, hpos, hl, hq⟩ := h
    have hbig : sizeLine = 16777216 := sizeLine_eq
    have hne : ms.length ≤ ms.sum := sum_ge hpos
    refine ⟨_, rfl, _, rfl, h, _, dx, _, _, rfl, hh, T.cl_LoggedHouse, T.naLoggedHouse_visited, rfl, v, _, rfl, .inl (SqL.of hI.visited), _, _, rfl, rfl, ?_⟩
    rw [List.length_map]
    rcases hq with ⟨m, rfl, hm1, hm2, k⟩ | ⟨hbad, k⟩
    · refine ⟨_, _, rfl, rfl, _, rfl, ite2d (fun hc => by exfalso; omega) (fun _ => ?_)⟩
      refine ⟨_, rfl, h, _, dx, _, _, rfl, hh, T.cl_LoggedHouse, T.naLoggedHouse_visited, rfl, _, rfl, h, _, dx, _, _, rfl, hh, T.cl_LoggedHouse, T.naLoggedHouse_visited, rfl, v, _, rfl, .inl (SqL.of hI.visited), _, rfl, _, _, rfl, rfl, ((zs.length - m : Nat) : Int), ?_, v, _, rfl, SqL.of hI.visited, fun p hp => ?_⟩
      · rw [List.length_map]
        show V.int _ = V.int _
        congr 1
        omega
      rw [cut_to, ← List.map_take]
      have s1 := Same.new (o := .lst ((zs.take (zs.length - m)).map V.str)) hp
      have p1 : upd H p (.lst ((zs.take (zs.length - m)).map V.str)) p = some (.lst ((zs.take (zs.length - m)).map V.str)) := upd_same
      generalize upd H p (.lst ((zs.take (zs.length - m)).map V.str)) = H1 at s1 p1
      refine ⟨_, rfl, h, _, dx, _, rfl, s1 _ _ hh, T.cl_LoggedHouse, T.naLoggedHouse_visited, (by show 4 < 1000; decide), ?_⟩
      have nhp : p ≠ h := fun z => by rw [z, s1 _ _ hh] at p1; cases p1
      have nhc : c ≠ h := fun z => by have := hI.calls; rw [z, hh] at this; cases this
      have nhd : d ≠ h := fun z => by have := hI.shown; rw [z, hh] at this; cases this
      have fr2 : Frm [h] H (upd H1 h (.ins (He.ga K "LoggedHouse") dx (putF "visited" (.ref p) (hf b d v c)))) := (Frm.of s1).put (by simp)
      have h2 : upd H1 h (.ins (He.ga K "LoggedHouse") dx (putF "visited" (.ref p) (hf b d v c))) h = some (.ins (He.ga K "LoggedHouse") dx (hf b d p c)) := upd_same
      have p2 : upd H1 h (.ins (He.ga K "LoggedHouse") dx (putF "visited" (.ref p) (hf b d v c))) p = some (.lst ((zs.take (zs.length - m)).map V.str)) := by rw [upd_ne nhp]; exact p1
      generalize upd H1 h (.ins (He.ga K "LoggedHouse") dx (putF "visited" (.ref p) (hf b d v c))) = H2 at fr2 h2 p2
      have c2 := fr2 _ _ hI.calls (by simp [nhc])
      have d2 := fr2 _ _ hI.shown (by simp [nhd])
      have elen : ((zs.take (zs.length - m)).length : Int) - 1 = ((ms.sum - m : Nat) : Int) := by
        rw [List.length_take]
        omega
      refine ⟨_, rfl, h, dx, _, rfl, h2, h, dx, b, d, p, c, _, rfl, h2, p2, ?_⟩
      rw [elen]
      have hcl : (callsL ms).length = ms.length := callsL_len ms
      refine ⟨_, rfl, h, _, dx, _, _, rfl, h2, T.cl_LoggedHouse, T.naLoggedHouse_calls, rfl, c, rfl, ⟨_, SqL.of c2⟩, fun D hD => ?_⟩
      refine lc_it (walk_list (xs := (callsL ms).map V.int)) (fun i H' => Same H2 H' ∧ H' D = some (.lst ((((callsL ms).take i).filter fun q => decide (q < ((ms.sum - m : Nat) : Int))).map V.int))) ⟨Same.new hD, upd_same⟩ (fun i H' _ h => SqL.of (h.1 _ _ c2)) ?_ ?_
      · rintro i x H3 H3' hi ⟨s3, e3⟩ ⟨rfl, hx⟩
        rw [List.getElem?_map] at hx
        obtain ⟨q, hq, rfl⟩ := Option.map_eq_some_iff.mp hx
        rw [List.length_map] at hi
        have tk := take_one hq
        refine ⟨rfl, _, rfl, _, rfl, _, _, rfl, rfl, _, rfl, ite2d (fun hlt => ?_) (fun hge => ⟨s3, ?_⟩)⟩
        · refine ⟨_, rfl, _, e3, ?_, s3.mut hD, ?_⟩
          · rw [List.length_map]
            refine Nat.lt_of_le_of_lt (List.length_filter_le _ _) ?_
            rw [List.length_take]
            omega
          · rw [upd_same, tk, List.filter_append, List.map_append, List.filter_cons, if_pos (decide_eq_true hlt), List.filter_nil]
            rfl
        · rw [e3, tk, List.filter_append, List.filter_cons, if_neg (by simpa using hge), List.filter_nil, List.append_nil]
      · rintro H3 ⟨s3, e3⟩
        rw [List.length_map, List.take_length] at e3
        refine ⟨_, rfl, by show 1 ≤ sizeLine; omega, fun l hl => ?_⟩
        have s4 := s3.then_ (o := .lst [V.int ((ms.sum - m : Nat) : Int)]) hl
        have l4 : upd H3 l (.lst [V.int ((ms.sum - m : Nat) : Int)]) l = some (.lst [V.int ((ms.sum - m : Nat) : Int)]) := upd_same
        have D4 := (Same.new (o := .lst [V.int ((ms.sum - m : Nat) : Int)]) hl) _ _ e3
        generalize upd H3 l (.lst [V.int ((ms.sum - m : Nat) : Int)]) = H4 at s4 l4 D4
        refine ⟨_, rfl, _, _, rfl, rfl, .inr ⟨_, rfl, ?_⟩⟩
        refine ⟨l, _, _, rfl, rfl, l4, by split <;> omega, by split <;> omega, ?_, fun r hr => ?_⟩
        · show 1 * _ ≤ sizeLine
          split <;> simp <;> omega
        have er : (List.replicate (if decide ((0 : Int) < ((ms.sum - m : Nat) : Int)) = true then (1 : Int) else 0).toNat [V.int ((ms.sum - m : Nat) : Int)]).flatten = (if (0 : Int) < ((ms.sum - m : Nat) : Int) then [((ms.sum - m : Nat) : Int)] else []).map V.int := by
          by_cases c0 : (0 : Int) < ((ms.sum - m : Nat) : Int)
          · rw [if_pos c0, if_pos (decide_eq_true c0)]; rfl
          · rw [if_neg c0, if_neg (by simpa using c0)]; rfl
        rw [er]
        have s5 := s4.then_ (o := .lst ((if (0 : Int) < ((ms.sum - m : Nat) : Int) then [((ms.sum - m : Nat) : Int)] else []).map V.int)) hr
        have r5 : upd H4 r (.lst ((if (0 : Int) < ((ms.sum - m : Nat) : Int) then [((ms.sum - m : Nat) : Int)] else []).map V.int)) r = some (.lst ((if (0 : Int) < ((ms.sum - m : Nat) : Int) then [((ms.sum - m : Nat) : Int)] else []).map V.int)) := upd_same
        have D5 := (Same.new (o := .lst ((if (0 : Int) < ((ms.sum - m : Nat) : Int) then [((ms.sum - m : Nat) : Int)] else []).map V.int)) hr) _ _ D4
        generalize upd H4 r (.lst ((if (0 : Int) < ((ms.sum - m : Nat) : Int) then [((ms.sum - m : Nat) : Int)] else []).map V.int)) = H5 at s5 r5 D5
        refine ⟨D, r, _, _, rfl, rfl, D5, r5, ?_, fun c2' hc2' => ?_⟩
        · rw [List.length_map, List.length_map]
          have h1 := List.length_filter_le (fun q => decide (q < ((ms.sum - m : Nat) : Int))) (callsL ms)
          have h2 : (if (0 : Int) < ((ms.sum - m : Nat) : Int) then [((ms.sum - m : Nat) : Int)] else []).length ≤ 1 := by split <;> simp
          omega
        rw [← List.map_append]
        have ec : ((callsL ms).filter fun q => decide (q < ((ms.sum - m : Nat) : Int))) ++ (if (0 : Int) < ((ms.sum - m : Nat) : Int) then [((ms.sum - m : Nat) : Int)] else []) = callsL (cutM m ms) := undo_calls hpos hm2
        rw [ec]
        have s6 := s5.then_ (o := .lst ((callsL (cutM m ms)).map V.int)) hc2'
        have c6 : upd H5 c2' (.lst ((callsL (cutM m ms)).map V.int)) c2' = some (.lst ((callsL (cutM m ms)).map V.int)) := upd_same
        generalize upd H5 c2' (.lst ((callsL (cutM m ms)).map V.int)) = H6 at s6 c6
        have n2 : c2' ≠ h := fun z => by rw [z, s6 _ _ h2] at c6; cases c6
        refine ⟨_, rfl, h, _, dx, _, rfl, s6 _ _ h2, T.cl_LoggedHouse, T.naLoggedHouse_calls, (by show 4 < 1000; decide), ?_⟩
        exact k p c2' _ ((fr2.trans (Frm.of s6)).put (by simp)) upd_same ⟨by rw [upd_ne nhd]; exact s6 _ _ d2, by rw [upd_ne nhp]; exact s6 _ _ p2, by rw [upd_ne n2]; exact c6⟩
    · refine ⟨_, _, rfl, rfl, _, rfl, ite2d (fun hc => ?_) (fun hc => by exfalso; omega)⟩
      exact nuk T fun dd => k dd H (Same.refl H)
  obtain ⟨oc, od, dV, kV, doc, pm, an, cdv, ct, osl, rfl, lk, hcd, hD, hK⟩ := F.ex
  obtain rfl : dV = Value.none := by
    rcases hD with ⟨_, e⟩ | ⟨e, _⟩
    · exact e
    · exact absurd rfl e
  refine kwo_of ok fun us ws h1 h2 => ?_
  match us, ws, h1, h2 with
  | [a], [b], _, _ => rfl
/-! ### attempt -/
def tMonoQ (t : TE) : TE := fun σ H Q => ∃ Q0 : VK, t σ H Q0 ∧ ∀ x H1, Q0 x H1 → Q x H1
theorem pe_monoQ {X : Cx} {e : Expr} {t : TE} (h : PE X e t) : PE X e (tMonoQ t) := ⟨fun pins s σ H Q I ⟨Q0, q, i⟩ => thn (h.run pins s σ H Q0 I q) fun _ _ ⟨v, H', J, r, z⟩ => ⟨v, H', J, r, i _ _ z⟩⟩
/-- attempt(function): what the function does; if it raises, the house's fields as before -/
def TAtt (K : PySem.W.Frag) : (XK → V → Hp → VK → Prop) → Addr → Hp → VK → XK → Prop := fun tl h H Q E => ∃ dx b d v c, HsAt (He.ga K "LoggedHouse") H h dx b d v c ∧
  tl (fun cls dd H' => ∃ v' c', HsAt (He.ga K "LoggedHouse") H' h dx b d v' c' ∧ E cls dd (upd H' h (.ins (He.ga K "LoggedHouse") dx (hf b d v c)))) (.ref h) H Q
theorem upd_upd {H : Hp} {a : Addr} {o u : HO} : upd (upd H a o) a u = upd H a u := by
  funext b
  by_cases hb : b = a
  · rw [hb, upd_same, upd_same]
  · rw [upd_ne hb, upd_ne hb, upd_ne hb]
theorem sc_House_attempt : FnScope ["self", "function", "visited", "calls", "is_done", "found"] ["self", "function"] (defScope sHouse_attempt) := ⟨rfl, rfl, rfl, by decide +kernel, rfl, by decide +kernel, by decide +kernel⟩
theorem attempt_gives {X : Cx} (T : Says X.w X.K X.mg) (qL : Str) (cdv : Value) : GivesM X ["self", "function", "visited", "calls", "is_done", "found"]
 "House.attempt" (defScope sHouse_attempt) (He.ma X.K (He.ga X.K "LoggedHouse") "attempt") cdv (defBody sHouse_attempt) "function" "self" qL (TAtt X.K) := by
  intro f c' h s H Q E tl hr act hc hq
  refine ⟨_, (pss_cons (ps_par3 (i := 2) (j := 3) (l := 4) rfl sc_House_attempt.nd rfl rfl rfl (by decide) (by decide) (by decide) rfl rfl rfl (pa_cons (pe_fld (pv 0) rfl) (pa_cons (pe_fld (pv 0) rfl) (pa_cons pe_non pa_nil))) (by rfl))
    (pss_cons (ps_finX rfl rfl rfl (takes_of rfl rfl rfl rfl) (fun W pn xe tk _ => (pss_cons (ps_set (i := 5) sc_House_attempt.nd rfl (Or.inl rfl) (pe_monoQ (act W pn xe _ _ _ tk)))
    (pss_one (ps_set (i := 4) sc_House_attempt.nd rfl (Or.inl rfl) pe_bl)))) (pss_one (ps_if (pt_cmpR op_isN (pv 4) pe_non (nomark _)) (pss_cons (show PS _ _ (sFld X.K (tVar 0) (tVar 2) "visited") from (ps_fld (pv 0) (pv 2) rfl))
    (pss_one (show PS _ _ (sFld X.K (tVar 0) (tVar 3) "calls") from (ps_fld (pv 0) (pv 3) rfl)))) pss_nil)) (fun _ _ => (pss_one (ps_if (pt_cmpR op_isN (pv 4) pe_non (nomark _)) (pss_cons (show PS _ _ (sFld X.K (tVar 0) (tVar 2) "visited") from (ps_fld (pv 0) (pv 2) rfl))
    (pss_one (show PS _ _ (sFld X.K (tVar 0) (tVar 3) "calls") from (ps_fld (pv 0) (pv 3) rfl)))) pss_nil))))
    (pss_one (ps_ret (pv 5))))), ?_⟩
  obtain ⟨dx, b, d, v, c, hh, ht⟩ := hq
  refine ⟨_, rfl, h, _, dx, _, _, rfl, hh, T.cl_LoggedHouse, T.naLoggedHouse_visited, rfl, _, rfl, h, _, dx, _, _, rfl, hh, T.cl_LoggedHouse, T.naLoggedHouse_calls, rfl, _, _, _, rfl, ?_⟩
  refine ⟨Q, ⟨rfl, _, rfl, hc, _, fun cls dd H' he => ?_, ht⟩, fun val H' hq => ?_⟩
  · obtain ⟨v', c', h', hE⟩ := he
    refine ⟨_, rfl, rfl, _, rfl, iteT ?_⟩
    refine ⟨_, rfl, _, rfl, h, _, dx, _, rfl, h', T.cl_LoggedHouse, T.naLoggedHouse_visited, (by show 4 < 1000; decide), ?_⟩
    refine ⟨_, rfl, _, rfl, h, _, dx, _, rfl, upd_same, T.cl_LoggedHouse, T.naLoggedHouse_calls, (by show 4 < 1000; decide), ?_⟩
    show E cls dd (upd (upd H' h (.ins (He.ga X.K "LoggedHouse") dx (hf b d v c'))) h (.ins (He.ga X.K "LoggedHouse") dx (hf b d v c)))
    rw [upd_upd]
    exact hE
  · refine ⟨_, rfl, rfl, _, rfl, iteF ?_⟩
    exact ⟨_, rfl, hq⟩
end
end RD

/-! RDRepr: repr of what an attempt returns; _law_tried; _law_noted. -/
namespace RD
open PySem PySem.Spec PyProof.Rows L2
/-! ### repr -/
inductive RepT (K : PySem.W.Frag) (H : Hp) : V → Str → Prop
  | str (x : Str) : (reprText x).length ≤ sizeLine → RepT K H (.str x) (reprText x)
  | int (i : Int) : i.natAbs.log2 < 1920 → RepT K H (.int i) (toString i)
  | bl (b : Bool) : RepT K H (.bl b) (if b then "True" else "False")
  | non : RepT K H .non "None"
  | data {a : Addr} {d : PyData} : Dp K H (.ref a) d → d.showable = true → d.hasDict = false → d.depth ≤ 60 → d.shown.length ≤ sizeLine → RepT K H (.ref a) d.shown
  | dict {a : Addr} : H a = some (.dK []) → RepT K H (.ref a) (PyData.dict []).shown
def rRep (K : PySem.W.Frag) : List V → Hp → VK → Prop := fun xs H Q => ∃ v z, xs = [v] ∧ RepT K H v z ∧ Q (.str z) H
theorem call_rep {X : Cx} {j : Nat} (hg : X.A.guards = some []) (hr : Room j X.A) : CallR X (.builtin "repr") (rRep X.K) := by
  intro pins s σ H xs us Q I r h
  obtain ⟨v, z, rfl, hz, q⟩ := h
  obtain ⟨u, rfl, ru⟩ := vals1 r
  have hun := hr.un
  cases hz with
  | str x hl =>
    obtain ⟨t, rfl⟩ := ru
    exact PySem.P.repr_of_str ⟨.str (reprText x), H, I.tok _, ⟨_, rfl⟩, q⟩ hl
  | int i hl =>
    obtain ⟨t, rfl⟩ := ru
    exact PySem.P.repr_of_int hl ⟨.str (toString i), H, I.tok _, ⟨_, rfl⟩, q⟩
  | bl b =>
    cases ru
    exact PySem.P.repr_of_bool ⟨.str (if b then "True" else "False"), H, I.tok _, ⟨_, rfl⟩, q⟩
  | non =>
    cases ru
    exact PySem.P.repr_of_none ⟨.str "None", H, I.tok _, ⟨_, rfl⟩, q⟩
  | @data a d hd hs hnd hdep hl =>
    obtain ⟨as, hR⟩ := Dp.reads I d _ _ hd ru
    cases ru
    exact repr_of_reads' hR hs (fun h => by rw [hnd] at h; cases h) hg (by omega) (fun _ _ e => e) (fun h' u tk k => ⟨.str d.shown, H, I.kept k, ⟨_, rfl⟩, q⟩) hl
  | @dict a ha =>
    cases ru
    obtain ⟨h1, h2, vl, h3, o, es, ep, h4, h5, h6, h7, h8, h9⟩ := I.hok a _ ha
    have hv : vl = [] := by cases h3; rfl
    subst hv
    have he : es.toList = [] := by
      generalize es.toList = l at h8
      cases h8
      rfl
    have hR : Reads s.heap (.ref a) (.dict []) (a :: [] ++ []) := .dict h4 h5.1 h6 (by rw [he]; exact .nil) (by rw [he]; exact .nil)
    have hne : sysModules ∉ (a :: [] ++ [] : List Addr) := fun m => by
      have : sysModules = a := by simpa using m
      rw [← this] at h2
      simp at h2
    exact repr_of_reads' hR rfl (fun _ => hne) hg (by show X.A.units + (1 + 1) < cLine; omega) (fun _ _ e => e) (fun h' u tk k => ⟨.str (PyData.dict []).shown, H, I.kept k, ⟨_, rfl⟩, q⟩) (by decide +kernel)
/-- a value that an attempt may return -/
inductive ValOk (H : Hp) : V → Prop
  | str (x : Str) : (reprText x).length ≤ 1000 → ValOk H (.str x)
  | int (i : Int) : 0 ≤ i → i ≤ 1 → ValOk H (.int i)
  | bl (b : Bool) : ValOk H (.bl b)
  | non : ValOk H .non
  | lst {a : Addr} : H a = some (.lst []) → ValOk H (.ref a)
  | tup {a : Addr} : H a = some (.tup []) → ValOk H (.ref a)
  | word {a : Addr} : H a = some (.tup [.str "return"]) → ValOk H (.ref a)
  | dic {a : Addr} : H a = some (.dK []) → ValOk H (.ref a)
theorem ValOk.mono {H H' : Hp} {v : V} (h : ValOk H v) (e : Same H H') : ValOk H' v := by
  cases h with
  | str x h => exact .str x h
  | int i h1 h2 => exact .int i h1 h2
  | bl b => exact .bl b
  | non => exact .non
  | lst h => exact .lst (e _ _ h)
  | tup h => exact .tup (e _ _ h)
  | word h => exact .word (e _ _ h)
  | dic h => exact .dic (e _ _ h)
theorem ValOk.rep {K : PySem.W.Frag} {H : Hp} {v : V} (h : ValOk H v) : ∃ z, RepT K H v z := by
  have hbig : sizeLine = 16777216 := sizeLine_eq
  cases h with
  | str x h => exact ⟨_, .str x (by omega)⟩
  | int i h1 h2 =>
    refine ⟨_, .int i ?_⟩
    have : i = 0 ∨ i = 1 := by omega
    rcases this with rfl | rfl <;> decide
  | bl b => exact ⟨_, .bl b⟩
  | non => exact ⟨_, .non⟩
  | lst h => exact ⟨_, .data (.lst (SqL.of h) .nil) rfl rfl (by decide) (by decide +kernel)⟩
  | tup h => exact ⟨_, .data (.tup (SqT.of h) .nil) rfl rfl (by decide) (by decide +kernel)⟩
  | word h => exact ⟨_, .data (.tup (SqT.of h) (.cons (.str _) .nil)) rfl rfl (by decide) (by decide +kernel)⟩
  | dic h => exact ⟨_, .dict h⟩
/-! ### _law_noted -/
section
variable {P : Program} {w : World} {K : PySem.W.Frag} {mg : Str → Option Value} {base : Heap}
def spNoted : Sp := fun vs H Q _ => ∃ (nl pr : Addr) (xs : List V) (a b : V), vs = [.ref nl, .ref pr] ∧ H nl = some (.lst xs) ∧ xs.length ≤ 1000 ∧ H pr = some (.lst [a, b]) ∧ Q (.ref pr) (upd H nl (.lst (xs ++ [b])))
theorem sc_noted : FnScope ["_law_noted_here", "_law_pair_here"] ["_law_noted_here", "_law_pair_here"] (defScope s_noted) := ⟨rfl, rfl, rfl, by decide +kernel, rfl, by decide +kernel, by decide +kernel⟩
theorem ok_noted (T : Says w K mg) : C8.Cal P w K mg base 1 "_law_noted" spNoted [] := by
  refine cal_of T.d_noted T.g_noted sc_noted (fun vs H Q E h => ?_) (fun _ _ _ _ _ _ us hl => match us, hl with | [_, _], _ => rfl) (fun cdv A outer s H vs Q E hr h => ?_)
  · obtain ⟨_, _, _, _, _, rfl, _⟩ := h; rfl
  refine ⟨_, (pss_cons (ps_expr (pe_bm PySem.F.plainAttrs_list PySem.F.slot_list_append PySem.F.type_list_append mt_append (pv 0) (pa_cons (pe_ix (r := rIxL K) ix_list (pv 1) pe_int (fun _ _ => rfl)) pa_nil)))
    (pss_one (ps_ret (pv 1)))), ?_⟩
  obtain ⟨nl, pr, xs, a, b, rfl, hn, hl, hp, k⟩ := h
  have hbig : sizeLine = 16777216 := sizeLine_eq
  refine ⟨_, rfl, tyList hn, _, rfl, pr, _, 1, _, rfl, rfl, SqL.of hp, rfl, ?_⟩
  exact ⟨nl, _, _, rfl, rfl, hn, by omega, _, rfl, k⟩
/-! ### _law_tried -/
def TTried (K : PySem.W.Frag) : (XK → Hp → VK → Prop) → Hp → VK → Prop := fun tl H Q =>
  tl (fun cls _ H' => (cls = .ref (He.ga K "InvalidWalk") ∧ Q (.str "walk") H') ∨ (cls = .ref (He.ga K "NothingToUndo") ∧ Q (.str "undo") H') ∨ (cls = .type "KeyError" ∧ Q (.str "key") H')) H Q
theorem sc_tried : FnScope ["_law_call", "e"] ["_law_call"] (defScope s_tried) := ⟨rfl, rfl, rfl, by decide +kernel, rfl, by decide +kernel, by decide +kernel⟩
theorem tried_gives {X : Cx} (T : Says X.w X.K X.mg) (q : Str) (cdv : Value) : LamX.GivesTo X ["_law_call", "e"]
 "_law_tried" (defScope s_tried) (He.ga X.K "_law_tried") cdv (defBody s_tried) "_law_call" q (TTried X.K) := by
  intro f c' s H Q tl act hc h
  have nIW : L2.Names (cxOf C8.CX0 X.prog X.w X.K X.mg X.base ["_law_call", "e"]
   "_law_tried" (defScope s_tried) (He.ga X.K "_law_tried") cdv X.A X.stack s H C8.E0).nox "InvalidWalk" (.ref (He.ga X.K "InvalidWalk")) := ⟨rfl, by decide, .inl T.g_InvalidWalk⟩
  have nNU : L2.Names (cxOf C8.CX0 X.prog X.w X.K X.mg X.base ["_law_call", "e"]
   "_law_tried" (defScope s_tried) (He.ga X.K "_law_tried") cdv X.A X.stack s H C8.E0).nox "NothingToUndo" (.ref (He.ga X.K "NothingToUndo")) := ⟨rfl, by decide, .inl T.g_NothingToUndo⟩
  have nKE : L2.Names (cxOf C8.CX0 X.prog X.w X.K X.mg X.base ["_law_call", "e"]
   "_law_tried" (defScope s_tried) (He.ga X.K "_law_tried") cdv X.A X.stack s H C8.E0).nox "KeyError" (.type "KeyError") := ⟨rfl, by decide, .inr ⟨T.z_KeyError, by decide +kernel, by decide⟩⟩
  refine ⟨_, pss_one (ps_tryCls (Wout := fun _ _ _ _ => False)
    (tb := fun W D σ H => ∃ Ec : XK, (∀ cls d σ' H', Ec cls d H' → W cls d σ' H') ∧ σ[0]? = some (some (.ref f)) ∧ H c' = some (LamX.CodeO c' q) ∧ tl Ec H D.rt)
    rfl rfl sc_tried.nd takes0 (fun W pn xe tk _ => ?_)
    (.named (i := 1) nIW rfl rfl (fun a oe cls d pn => pss_one (ps_ret pe_str)) (.named (i := 1) nNU rfl rfl (fun a oe cls d pn => pss_one (ps_ret pe_str)) (.bare nKE (fun a oe cls d pn => pss_one (ps_ret pe_str)) .nil)))), ?_⟩
  · refine ⟨fun pins s' σ H' D I h' => ?_⟩
    obtain ⟨Ec, hW, h1, h2, h3⟩ := h'
    exact (pss_one (ps_ret (act W pn xe Ec _ _ tk hW))).run pins s' σ H' D I ⟨h1, h2, h3⟩
  · refine ⟨_, fun cls d σ' H' he => ?_, rfl, hc, h⟩
    rcases he with ⟨rfl, hq⟩ | ⟨rfl, hq⟩ | ⟨rfl, hq⟩
    · exact ⟨true, T.xInvalidWalk_InvalidWalk, fun _ a _ => hq, nofun⟩
    · exact ⟨false, T.xNothingToUndo_InvalidWalk, nofun, fun _ => ⟨true, T.xNothingToUndo_NothingToUndo, fun _ a _ => hq, nofun⟩⟩
    · exact ⟨false, T.xKey_InvalidWalk, nofun, fun _ => ⟨false, T.xKey_NothingToUndo, nofun, fun _ => ⟨true, T.xKey_Key, fun _ a _ => hq, nofun⟩⟩⟩
end
end RD

/-! RDDone: deeds that are done, attempts of deeds. -/
namespace RD
open PySem PySem.Spec PyProof.Rows L2
section
variable {P : Program} {w : World} {K : PySem.W.Frag} {mg : Str → Option Value} {base : Heap}
/-! ### _law_go -/
def spLawGo (K : PySem.W.Frag) : Sp := fun vs H Q _ => ∃ (h wl dx b d v c : Addr) (rs : List Str) (sz : Str → Int) (Eb : List Cor) (bg : Str → Int) (zs : List Str) (ms : List Nat) (la : Str) (way : List Str), vs = [.ref h, .ref wl] ∧ HsAt (He.ga K "LoggedHouse") H h dx b d v c ∧ HsIn H d v c rs bg zs (callsL ms) ∧ BldAt (He.ga K "Building") H b rs sz Eb ∧
  Trip Eb rs zs ms ∧ zs.getLast? = some la ∧ H wl = some (.lst (way.map V.str)) ∧ way.length ≤ 5 ∧ Chain Eb (la :: way) ∧ (∀ z ∈ way, z ∈ rs) ∧ zs.length + way.length ≤ 1000 ∧
    ∀ v' c' H', Frm [h] H H' → HsAt (He.ga K "LoggedHouse") H' h dx b d v' c' → HsIn H' d v' c' rs bg (zs ++ way) (callsL (addM ms way)) → Q .non H'
theorem sc_go : FnScope ["_law_house", "_law_way"] ["_law_house", "_law_way"] (defScope s_go) := ⟨rfl, rfl, rfl, by decide +kernel, rfl, by decide +kernel, by decide +kernel⟩
theorem ok_go (T : Says w K mg) : C8.Cal P w K mg base 6 "_law_go" (spLawGo K) [] := by
  refine cal_of T.d_go T.g_go sc_go (fun vs H Q E h => ?_) (fun _ _ _ _ _ _ us hl => match us, hl with | [_, _], _ => rfl) (fun cdv A outer s H vs Q E hr h => ?_)
  · obtain ⟨_, _, _, _, _, _, _, _, _, _, _, _, _, _, _, rfl, _⟩ := h; rfl
  refine ⟨_, (pss_cons (ps_if (pt_cmpR op_eq (pe_callB (id := "len") call_len_seq (by rfl) T.z_len PySem.boot_len (pa_cons (pv 1) pa_nil)) pe_int (nomark _)) (pss_one (ps_ret (pe_methR0 (pv 0) T.cl_LoggedHouse T.mHouse_go (okHouse_go T) hr (by decide) pass_none))) pss_nil)
    (pss_cons (ps_if (pt_cmpR op_eq (pe_callB (id := "len") call_len_seq (by rfl) T.z_len PySem.boot_len (pa_cons (pv 1) pa_nil)) pe_int (nomark _)) (pss_one (ps_ret (pe_methR (pv 0) T.cl_LoggedHouse T.mHouse_go (okHouse_go T) hr (by decide) pass_none (pa_cons (pe_ix (r := rIxL K) ix_list (pv 1) pe_int (fun _ _ => rfl)) pa_nil)))) pss_nil)
    (pss_cons (ps_if (pt_cmpR op_eq (pe_callB (id := "len") call_len_seq (by rfl) T.z_len PySem.boot_len (pa_cons (pv 1) pa_nil)) pe_int (nomark _)) (pss_one (ps_ret (pe_methR (pv 0) T.cl_LoggedHouse T.mHouse_go (okHouse_go T) hr (by decide) pass_none (pa_cons (pe_ix (r := rIxL K) ix_list (pv 1) pe_int (fun _ _ => rfl)) (pa_cons (pe_ix (r := rIxL K) ix_list (pv 1) pe_int (fun _ _ => rfl)) pa_nil))))) pss_nil)
    (pss_cons (ps_if (pt_cmpR op_eq (pe_callB (id := "len") call_len_seq (by rfl) T.z_len PySem.boot_len (pa_cons (pv 1) pa_nil)) pe_int (nomark _)) (pss_one (ps_ret (pe_methR (pv 0) T.cl_LoggedHouse T.mHouse_go (okHouse_go T) hr (by decide) pass_none (pa_cons (pe_ix (r := rIxL K) ix_list (pv 1) pe_int (fun _ _ => rfl)) (pa_cons (pe_ix (r := rIxL K) ix_list (pv 1) pe_int (fun _ _ => rfl)) (pa_cons (pe_ix (r := rIxL K) ix_list (pv 1) pe_int (fun _ _ => rfl)) pa_nil)))))) pss_nil)
    (pss_cons (ps_if (pt_cmpR op_eq (pe_callB (id := "len") call_len_seq (by rfl) T.z_len PySem.boot_len (pa_cons (pv 1) pa_nil)) pe_int (nomark _)) (pss_one (ps_ret (pe_methR (pv 0) T.cl_LoggedHouse T.mHouse_go (okHouse_go T) hr (by decide) pass_none (pa_cons (pe_ix (r := rIxL K) ix_list (pv 1) pe_int (fun _ _ => rfl)) (pa_cons (pe_ix (r := rIxL K) ix_list (pv 1) pe_int (fun _ _ => rfl)) (pa_cons (pe_ix (r := rIxL K) ix_list (pv 1) pe_int (fun _ _ => rfl)) (pa_cons (pe_ix (r := rIxL K) ix_list (pv 1) pe_int (fun _ _ => rfl)) pa_nil))))))) pss_nil)
    (pss_one (ps_ret (pe_methR (pv 0) T.cl_LoggedHouse T.mHouse_go (okHouse_go T) hr (by decide) pass_none (pa_cons (pe_ix (r := rIxL K) ix_list (pv 1) pe_int (fun _ _ => rfl)) (pa_cons (pe_ix (r := rIxL K) ix_list (pv 1) pe_int (fun _ _ => rfl)) (pa_cons (pe_ix (r := rIxL K) ix_list (pv 1) pe_int (fun _ _ => rfl)) (pa_cons (pe_ix (r := rIxL K) ix_list (pv 1) pe_int (fun _ _ => rfl)) (pa_cons (pe_ix (r := rIxL K) ix_list (pv 1) pe_int (fun _ _ => rfl)) pa_nil))))))))))))), ?_⟩
  obtain ⟨h, wl, dx, b, d, v, c, rs, sz, Eb, bg, zs, ms, la, way, rfl, hh, hI, hB, hT, hla, hw, hw5, hch, hmem, hlen, k⟩ := h
  have hbig : sizeLine = 16777216 := sizeLine_eq
  have fin : ∀ (vs : List V), vs = way.map V.str → spStar (spGo K) (.ref h :: vs) H (fun v H' => Q v H') E0 := fun vs e => by
    refine ⟨.ref h, vs, rfl, by rw [e, List.length_map]; omega, fun t ht => ?_⟩
    have S := Same.new (o := .tup vs) ht
    refine ⟨h, t, dx, b, d, v, c, rs, sz, Eb, bg, zs, ms, la, rfl, S _ _ hh, hI.mono S, hB.mono S, hT, hla, .inl ⟨way, by rw [upd_same, e], hch, hmem, hlen, fun v' c' H' fr h1 h2 => k v' c' H' ((Frm.of S).trans fr) h1 h2⟩⟩
  match way, hw, hw5, fin with
  | [], hw, hw5, fin =>
    refine ⟨_, rfl, wl, _, rfl, .inl (SqL.of hw), rfl, _, rfl, iteT ?_⟩
    exact ⟨_, rfl, h, dx, _, rfl, hh, rfl, fin _ rfl⟩
  | [z0], hw, hw5, fin =>
    refine ⟨_, rfl, wl, _, rfl, .inl (SqL.of hw), rfl, _, rfl, iteF ?_⟩
    refine ⟨_, rfl, wl, _, rfl, .inl (SqL.of hw), rfl, _, rfl, iteT ?_⟩
    exact ⟨_, rfl, h, dx, _, rfl, hh, rfl, _, rfl, wl, _, 0, _, rfl, rfl, SqL.of hw, rfl, fin _ rfl⟩
  | [z0, z1], hw, hw5, fin =>
    refine ⟨_, rfl, wl, _, rfl, .inl (SqL.of hw), rfl, _, rfl, iteF ?_⟩
    refine ⟨_, rfl, wl, _, rfl, .inl (SqL.of hw), rfl, _, rfl, iteF ?_⟩
    refine ⟨_, rfl, wl, _, rfl, .inl (SqL.of hw), rfl, _, rfl, iteT ?_⟩
    exact ⟨_, rfl, h, dx, _, rfl, hh, rfl, _, rfl, wl, _, 0, _, rfl, rfl, SqL.of hw, rfl, _, rfl, wl, _, 1, _, rfl, rfl, SqL.of hw, rfl, fin _ rfl⟩
  | [z0, z1, z2], hw, hw5, fin =>
    refine ⟨_, rfl, wl, _, rfl, .inl (SqL.of hw), rfl, _, rfl, iteF ?_⟩
    refine ⟨_, rfl, wl, _, rfl, .inl (SqL.of hw), rfl, _, rfl, iteF ?_⟩
    refine ⟨_, rfl, wl, _, rfl, .inl (SqL.of hw), rfl, _, rfl, iteF ?_⟩
    refine ⟨_, rfl, wl, _, rfl, .inl (SqL.of hw), rfl, _, rfl, iteT ?_⟩
    exact ⟨_, rfl, h, dx, _, rfl, hh, rfl, _, rfl, wl, _, 0, _, rfl, rfl, SqL.of hw, rfl, _, rfl, wl, _, 1, _, rfl, rfl, SqL.of hw, rfl, _, rfl, wl, _, 2, _, rfl, rfl, SqL.of hw, rfl, fin _ rfl⟩
  | [z0, z1, z2, z3], hw, hw5, fin =>
    refine ⟨_, rfl, wl, _, rfl, .inl (SqL.of hw), rfl, _, rfl, iteF ?_⟩
    refine ⟨_, rfl, wl, _, rfl, .inl (SqL.of hw), rfl, _, rfl, iteF ?_⟩
    refine ⟨_, rfl, wl, _, rfl, .inl (SqL.of hw), rfl, _, rfl, iteF ?_⟩
    refine ⟨_, rfl, wl, _, rfl, .inl (SqL.of hw), rfl, _, rfl, iteF ?_⟩
    refine ⟨_, rfl, wl, _, rfl, .inl (SqL.of hw), rfl, _, rfl, iteT ?_⟩
    exact ⟨_, rfl, h, dx, _, rfl, hh, rfl, _, rfl, wl, _, 0, _, rfl, rfl, SqL.of hw, rfl, _, rfl, wl, _, 1, _, rfl, rfl, SqL.of hw, rfl, _, rfl, wl, _, 2, _, rfl, rfl, SqL.of hw, rfl, _, rfl, wl, _, 3, _, rfl, rfl, SqL.of hw, rfl, fin _ rfl⟩
  | [z0, z1, z2, z3, z4], hw, hw5, fin =>
    refine ⟨_, rfl, wl, _, rfl, .inl (SqL.of hw), rfl, _, rfl, iteF ?_⟩
    refine ⟨_, rfl, wl, _, rfl, .inl (SqL.of hw), rfl, _, rfl, iteF ?_⟩
    refine ⟨_, rfl, wl, _, rfl, .inl (SqL.of hw), rfl, _, rfl, iteF ?_⟩
    refine ⟨_, rfl, wl, _, rfl, .inl (SqL.of hw), rfl, _, rfl, iteF ?_⟩
    refine ⟨_, rfl, wl, _, rfl, .inl (SqL.of hw), rfl, _, rfl, iteF ?_⟩
    exact ⟨_, rfl, h, dx, _, rfl, hh, rfl, _, rfl, wl, _, 0, _, rfl, rfl, SqL.of hw, rfl, _, rfl, wl, _, 1, _, rfl, rfl, SqL.of hw, rfl, _, rfl, wl, _, 2, _, rfl, rfl, SqL.of hw, rfl, _, rfl, wl, _, 3, _, rfl, rfl, SqL.of hw, rfl, _, rfl, wl, _, 4, _, rfl, rfl, SqL.of hw, rfl, fin _ rfl⟩
  | _ :: _ :: _ :: _ :: _ :: _ :: _, _, hw5, _ => exact absurd hw5 (by simp)
end
/-! ### walks that grow and shrink -/
theorem Chain.app {E : List Cor} {zs way : List Str} {la : Str} (h : Chain E zs) (hl : zs.getLast? = some la) (hw : Chain E (la :: way)) : Chain E (zs ++ way) := fun i a b ha hb => by
  obtain ⟨ini, rfl⟩ := List.getLast?_eq_some_iff.mp hl
  by_cases c : i < ini.length
  · refine h i a b ?_ ?_
    · rw [List.getElem?_append_left (by rw [List.length_append, List.length_singleton]; omega)] at ha; exact ha
    · rw [List.getElem?_append_left (by rw [List.length_append, List.length_singleton]; omega)] at hb; exact hb
  · refine hw (i - ini.length) a b ?_ ?_
    · rw [List.append_assoc, List.getElem?_append_right (by omega)] at ha
      exact ha
    · rw [List.append_assoc, List.getElem?_append_right (by omega)] at hb
      rw [show i + 1 - ini.length = (i - ini.length) + 1 by omega] at hb
      exact hb
theorem Chain.take {E : List Cor} {zs : List Str} (h : Chain E zs) (n : Nat) : Chain E (zs.take n) := fun i a b ha hb => by
  rw [List.getElem?_take] at ha hb
  split at ha <;> split at hb <;> first | cases ha | cases hb | skip
  exact h i a b ha hb
theorem Trip.go {E : List Cor} {rs zs way : List Str} {ms : List Nat} {la : Str} (h : Trip E rs zs ms) (hl : zs.getLast? = some la) (hw : Chain E (la :: way)) (hm : ∀ z ∈ way, z ∈ rs) : Trip E rs (zs ++ way) (addM ms way) := by
  refine ⟨by simp [h.ne], fun z hz => ?_, h.ch.app hl hw, ?_, fun m hmm => ?_⟩
  · exact (List.mem_append.mp hz).elim (h.mem z) (hm z)
  · unfold addM
    split
    · rename_i e; rw [e, List.append_nil]; exact h.len
    · rw [List.length_append, List.sum_append, h.len]; simp; omega
  · unfold addM at hmm
    split at hmm
    · exact h.pos m hmm
    · rename_i e
      rcases List.mem_append.mp hmm with q | q
      · exact h.pos m q
      · rw [show m = way.length by simpa using q]
        exact List.length_pos_iff.mpr e
theorem Trip.undo {E : List Cor} {rs zs : List Str} {ms : List Nat} (h : Trip E rs zs ms) {m : Nat} (hm : m ≤ ms.sum) : Trip E rs (zs.take (zs.length - m)) (cutM m ms) := by
  obtain ⟨h1, h2, h3⟩ := cutM_facts h.pos m hm
  have hl := h.len
  refine ⟨fun z => ?_, fun z hz => h.mem z (List.mem_of_mem_take hz), h.ch.take _, ?_, h1⟩
  · have := congrArg List.length z
    rw [List.length_take, List.length_nil] at this
    omega
  · rw [List.length_take, h2]
    omega
/-! ### deeds on the heap -/
inductive EndW
  | ret
  | walk
  | undo
  | key
deriving DecidableEq
def EndW.word : EndW → Str
  | .ret => "return"
  | .walk => "walk"
  | .undo => "undo"
  | .key => "key"
def EndW.cls (K : PySem.W.Frag) : EndW → Value
  | .ret => .none
  | .walk => .ref (He.ga K "InvalidWalk")
  | .undo => .ref (He.ga K "NothingToUndo")
  | .key => .type "KeyError"
/-- what deeds lead to: heap, place, value, end, walk and calls ahead, walk and calls behind -/
abbrev DA := Hp → Addr → V → EndW → List Str → List Nat → List Str → List Nat → Prop
/-- one deed -/
inductive RowAt (D : DA) (E : List Cor) (rs : List Str) (G : Hp) (r : Addr) (zs : List Str) (ms : List Nat) : List Str → List Nat → Prop
  | go {k : Nat} {wl : Addr} {way : List Str} {la : Str} : k < 2 → G r = some (.tup [.str "go", .ref wl, .int (k : Nat)]) → G wl = some (.lst (way.map V.str)) → zs.getLast? = some la → Chain E (la :: way) → (∀ z ∈ way, z ∈ rs) → way.length ≤ 4 → RowAt D E rs G r zs ms (zs ++ way) (addM ms way)
  | undo {k m : Nat} : k < 2 → G r = some (.tup [.str "undo", .int (m : Nat), .int (k : Nat)]) → 1 ≤ m → m ≤ ms.sum → RowAt D E rs G r zs ms (zs.take (zs.length - m)) (cutM m ms)
  | caught {k : Nat} : k < 2 → G r = some (.tup [.str "caught", .str "none at all", .int (k : Nat)]) → RowAt D E rs G r zs ms zs ms
  | attempt {k : Nat} {a : Addr} {val : V} {en : EndW} {zs' : List Str} {ms' : List Nat} : k < 2 → G r = some (.tup [.str "attempt", .ref a, .int (k : Nat)]) → D G a val en zs ms zs' ms' → RowAt D E rs G r zs ms zs' ms'
/-- some deeds, their end -/
structure Deeds1 (D : DA) (E : List Cor) (rs : List Str) (G : Hp) (a : Addr) (val : V) (en : EndW) (zs : List Str) (ms : List Nat) (zs' : List Str) (ms' : List Nat) : Prop where
  ex : ∃ (rl bh tl cl : Addr) (rows : List Addr) (zf : Nat → List Str) (mf : Nat → List Nat), G a = some (.tup [.ref rl, val, .ref bh, .str en.word]) ∧ G rl = some (.lst (rows.map V.ref)) ∧ rows.length ≤ 3 ∧ zf 0 = zs ∧ mf 0 = ms ∧
    (∀ i r, rows[i]? = some r → RowAt D E rs G r (zf i) (mf i) (zf (i + 1)) (mf (i + 1))) ∧ G bh = some (.tup [.ref tl, .ref cl]) ∧ G tl = some (.lst (zs'.map V.str)) ∧ G cl = some (.lst ((natL ms').map V.int)) ∧ ValOk G val ∧
    (en = .ret → zs' = zf rows.length ∧ ms' = mf rows.length) ∧ (en ≠ .ret → zs' = zs ∧ ms' = ms ∧ val = .str en.word)
def noD : DA := fun _ _ _ _ _ _ _ _ => False
def DeedsAt (E : List Cor) (rs : List Str) : Nat → DA
  | 0 => Deeds1 noD E rs
  | n + 1 => Deeds1 (DeedsAt E rs n) E rs
/-- the deeds of one attempt less -/
def DeedsB (E : List Cor) (rs : List Str) : Nat → DA
  | 0 => noD
  | n + 1 => DeedsAt E rs n
theorem deedsAt_eq (E : List Cor) (rs : List Str) (n : Nat) : DeedsAt E rs n = Deeds1 (DeedsB E rs n) E rs := by cases n <;> rfl
/-- lists, tuples, dicts stand as they stood -/
def plainO : HO → Prop
  | .lst _ => True
  | .tup _ => True
  | .dK _ => True
  | _ => False
def SameL (G G' : Hp) : Prop := ∀ b o, G b = some o → plainO o → G' b = some o
theorem SameL.of {G G' : Hp} (e : Same G G') : SameL G G' := fun b o h _ => e b o h
theorem ValOk.monoL {H H' : Hp} {v : V} (h : ValOk H v) (e : SameL H H') : ValOk H' v := by
  cases h with
  | str x h => exact .str x h
  | int i h1 h2 => exact .int i h1 h2
  | bl b => exact .bl b
  | non => exact .non
  | lst h => exact .lst (e _ _ h trivial)
  | tup h => exact .tup (e _ _ h trivial)
  | word h => exact .word (e _ _ h trivial)
  | dic h => exact .dic (e _ _ h trivial)
theorem RowAt.mono {D : DA} {E : List Cor} {rs : List Str} {G G' : Hp} {r : Addr} {zs zs' : List Str} {ms ms' : List Nat} (hD : ∀ a val en z m z' m', D G a val en z m z' m' → D G' a val en z m z' m') (e : SameL G G') (h : RowAt D E rs G r zs ms zs' ms') : RowAt D E rs G' r zs ms zs' ms' := by
  cases h with
  | go h1 h2 h3 h4 h5 h6 h7 => exact .go h1 (e _ _ h2 trivial) (e _ _ h3 trivial) h4 h5 h6 h7
  | undo h1 h2 h3 h4 => exact .undo h1 (e _ _ h2 trivial) h3 h4
  | caught h1 h2 => exact .caught h1 (e _ _ h2 trivial)
  | attempt h1 h2 h3 => exact .attempt h1 (e _ _ h2 trivial) (hD _ _ _ _ _ _ _ h3)
theorem Deeds1.mono {D : DA} {E : List Cor} {rs : List Str} {G G' : Hp} {a : Addr} {val : V} {en : EndW} {zs zs' : List Str} {ms ms' : List Nat} (hD : ∀ a val en z m z' m', D G a val en z m z' m' → D G' a val en z m z' m') (e : SameL G G') (h : Deeds1 D E rs G a val en zs ms zs' ms') : Deeds1 D E rs G' a val en zs ms zs' ms' := by
  obtain ⟨rl, bh, tl, cl, rows, zf, mf, h1, h2, h3, h4, h5, h6, h7, h8, h9, h10, h11, h12⟩ := h.ex
  exact ⟨rl, bh, tl, cl, rows, zf, mf, e _ _ h1 trivial, e _ _ h2 trivial, h3, h4, h5, fun i r hr => (h6 i r hr).mono hD e, e _ _ h7 trivial, e _ _ h8 trivial, e _ _ h9 trivial, h10.monoL e, h11, h12⟩
theorem DeedsAt.monoL {E : List Cor} {rs : List Str} {G G' : Hp} (e : SameL G G') : ∀ (n : Nat) (a : Addr) (val : V) (en : EndW) (zs : List Str) (ms : List Nat) (zs' : List Str) (ms' : List Nat), DeedsAt E rs n G a val en zs ms zs' ms' → DeedsAt E rs n G' a val en zs ms zs' ms'
  | 0, a, val, en, zs, ms, zs', ms', h => Deeds1.mono (D := noD) (fun _ _ _ _ _ _ _ h => h.elim) e h
  | n + 1, a, val, en, zs, ms, zs', ms', h => Deeds1.mono (D := DeedsAt E rs n) (fun a val en z m z' m' h => DeedsAt.monoL e n a val en z m z' m' h) e h
theorem DeedsB.monoL {E : List Cor} {rs : List Str} {G G' : Hp} (e : SameL G G') (n : Nat) {a : Addr} {val : V} {en : EndW} {zs : List Str} {ms : List Nat} {zs' : List Str} {ms' : List Nat} (h : DeedsB E rs n G a val en zs ms zs' ms') : DeedsB E rs n G' a val en zs ms zs' ms' := by
  cases n with
  | zero => exact False.elim h
  | succ n => exact DeedsAt.monoL e n _ _ _ _ _ _ _ h
theorem DeedsAt.mono {E : List Cor} {rs : List Str} {G G' : Hp} (e : Same G G') (n : Nat) (a : Addr) (val : V) (en : EndW) (zs : List Str) (ms : List Nat) (zs' : List Str) (ms' : List Nat) (h : DeedsAt E rs n G a val en zs ms zs' ms') : DeedsAt E rs n G' a val en zs ms zs' ms' := DeedsAt.monoL (SameL.of e) n _ _ _ _ _ _ _ h
/-- how many steps deeds may add -/
def gr : Nat → Nat
  | 0 => 12
  | n + 1 => 3 * gr n
def gb : Nat → Nat
  | 0 => 4
  | n + 1 => gr n
theorem gr_eq (n : Nat) : gr n = 3 * gb n := by cases n <;> rfl
theorem gb_ge (n : Nat) : 4 ≤ gb n := by
  have : ∀ n, 4 ≤ gr n := fun n => by induction n with
    | zero => decide
    | succ n ih => show 4 ≤ 3 * gr n; omega
  cases n with
  | zero => decide
  | succ n => exact this n
/-- a row keeps the walk a walk -/
theorem row_trip {D : DA} {E : List Cor} {rs : List Str} {G : Hp} {r : Addr} {zs zs' : List Str} {ms ms' : List Nat} {g : Nat} (hg : 4 ≤ g) (hD : ∀ a val en z m z' m', D G a val en z m z' m' → Trip E rs z m → Trip E rs z' m' ∧ z'.length ≤ z.length + g) (h : RowAt D E rs G r zs ms zs' ms') (t : Trip E rs zs ms) : Trip E rs zs' ms' ∧ zs'.length ≤ zs.length + g := by
  cases h with
  | go h1 h2 h3 h4 h5 h6 h7 => exact ⟨t.go h4 h5 h6, by rw [List.length_append]; omega⟩
  | undo h1 h2 h3 h4 => exact ⟨t.undo h4, by rw [List.length_take]; omega⟩
  | caught h1 h2 => exact ⟨t, by omega⟩
  | attempt h1 h2 h3 => exact hD _ _ _ _ _ _ _ h3 t
theorem rows_trip {D : DA} {E : List Cor} {rs : List Str} {G : Hp} {rows : List Addr} {zf : Nat → List Str} {mf : Nat → List Nat} {g : Nat} (hg : 4 ≤ g) (hD : ∀ a val en z m z' m', D G a val en z m z' m' → Trip E rs z m → Trip E rs z' m' ∧ z'.length ≤ z.length + g)
    (h : ∀ i r, rows[i]? = some r → RowAt D E rs G r (zf i) (mf i) (zf (i + 1)) (mf (i + 1))) (t : Trip E rs (zf 0) (mf 0)) : ∀ i, i ≤ rows.length → Trip E rs (zf i) (mf i) ∧ (zf i).length ≤ (zf 0).length + i * g
  | 0, _ => ⟨t, by omega⟩
  | i + 1, hi => by
    obtain ⟨t1, h1⟩ := rows_trip hg hD h t i (by omega)
    obtain ⟨t2, h2⟩ := row_trip hg hD (h i rows[i] (List.getElem?_eq_getElem (by omega))) t1
    refine ⟨t2, ?_⟩
    rw [Nat.succ_mul]
    omega
theorem deeds_trip {E : List Cor} {rs : List Str} {G : Hp} : ∀ (n : Nat) (a : Addr) (val : V) (en : EndW) (zs : List Str) (ms : List Nat) (zs' : List Str) (ms' : List Nat), DeedsAt E rs n G a val en zs ms zs' ms' → Trip E rs zs ms → Trip E rs zs' ms' ∧ zs'.length ≤ zs.length + gr n := by
  intro n
  induction n with
  | zero =>
    intro a val en zs ms zs' ms' h t
    obtain ⟨rl, bh, tl, cl, rows, zf, mf, h1, h2, h3, h4, h5, h6, h7, h8, h9, h10, h11, h12⟩ := h.ex
    subst h4 h5
    have q := rows_trip (g := 4) (by omega) (fun _ _ _ _ _ _ _ h => h.elim) h6 t rows.length (Nat.le_refl _)
    by_cases c : en = .ret
    · obtain ⟨rfl, rfl⟩ := h11 c
      refine ⟨q.1, ?_⟩
      have := q.2
      show _ ≤ _ + 12
      omega
    · obtain ⟨rfl, rfl, _⟩ := h12 c
      exact ⟨t, by omega⟩
  | succ n ih =>
    intro a val en zs ms zs' ms' h t
    obtain ⟨rl, bh, tl, cl, rows, zf, mf, h1, h2, h3, h4, h5, h6, h7, h8, h9, h10, h11, h12⟩ := h.ex
    subst h4 h5
    have hg : 4 ≤ gr n := gb_ge (n + 1)
    have q := rows_trip (g := gr n) hg (fun a val en z m z' m' h t => ih a val en z m z' m' h t) h6 t rows.length (Nat.le_refl _)
    by_cases c : en = .ret
    · obtain ⟨rfl, rfl⟩ := h11 c
      refine ⟨q.1, ?_⟩
      have := q.2
      have : rows.length * gr n ≤ 3 * gr n := Nat.mul_le_mul_right _ h3
      show _ ≤ _ + 3 * gr n
      omega
    · obtain ⟨rfl, rfl, _⟩ := h12 c
      exact ⟨t, by omega⟩
theorem deedsB_trip {E : List Cor} {rs : List Str} {G : Hp} (n : Nat) {a : Addr} {val : V} {en : EndW} {zs : List Str} {ms : List Nat} {zs' : List Str} {ms' : List Nat} (h : DeedsB E rs n G a val en zs ms zs' ms') (t : Trip E rs zs ms) : Trip E rs zs' ms' ∧ zs'.length ≤ zs.length + gb n := by
  cases n with
  | zero => exact False.elim h
  | succ n => exact deeds_trip n a val en zs ms zs' ms' h t
end RD

/-! RDAtt: attempts of deeds, deeds that are done. -/
namespace RD
open PySem PySem.Spec PyProof.Rows L2
open LamX (TabB Tabs ExtN)
/-! ### tables of code objects -/
def lamQ (x : Str) : Str := (x ++ ".<locals>.") ++ "<lambda>"
def tabA (K : PySem.W.Frag) (x : Str) : Addr := (He.cT K (x, none)).2
def TL (K : PySem.W.Frag) : List (Addr × Str) := [(tabA K "_law_done", lamQ "_law_done"), (tabA K "_law_attempted", lamQ "_law_attempted"), (tabA K "law", lamQ "law")]
structure Tbs (K : PySem.W.Frag) (mg : Str → Option Value) (base : Heap) : Prop where
  done : TabB base mg (He.codeOf K ("_law_done", none)) (tabA K "_law_done")
  att : TabB base mg (He.codeOf K ("_law_attempted", none)) (tabA K "_law_attempted")
  law : TabB base mg (He.codeOf K ("law", none)) (tabA K "law")
  n1 : tabA K "_law_done" ≠ tabA K "_law_attempted"
  n2 : tabA K "_law_done" ≠ tabA K "law"
  n3 : tabA K "_law_attempted" ≠ tabA K "law"
section
variable {K : PySem.W.Frag} {mg : Str → Option Value} {base : Heap}
theorem Tbs.uDone (t : Tbs K mg base) : ∀ p ∈ TL K, p.1 = tabA K "_law_done" → p.2 = lamQ "_law_done" := fun p hp e => by
  simp only [TL, List.mem_cons, List.not_mem_nil, or_false] at hp
  rcases hp with rfl | rfl | rfl
  · rfl
  · exact absurd e.symm t.n1
  · exact absurd e.symm t.n2
theorem Tbs.uAtt (t : Tbs K mg base) : ∀ p ∈ TL K, p.1 = tabA K "_law_attempted" → p.2 = lamQ "_law_attempted" := fun p hp e => by
  simp only [TL, List.mem_cons, List.not_mem_nil, or_false] at hp
  rcases hp with rfl | rfl | rfl
  · exact absurd e t.n1
  · rfl
  · exact absurd e.symm t.n3
theorem Tbs.uLaw (t : Tbs K mg base) : ∀ p ∈ TL K, p.1 = tabA K "law" → p.2 = lamQ "law" := fun p hp e => by
  simp only [TL, List.mem_cons, List.not_mem_nil, or_false] at hp
  rcases hp with rfl | rfl | rfl
  · exact absurd e t.n2
  · exact absurd e t.n3
  · rfl
end
theorem tabs_upd {T : List (Addr × Str)} {H : Hp} {p : Addr} {o u : HO} (t : Tabs T H) (hp : H p = some o) (n1 : noTbl o) (n2 : ∀ q, o ≠ LamX.CodeO p q) : Tabs T (upd H p u) := fun x hx => by
  obtain ⟨ps, a1, a2, a3⟩ := t x hx
  refine ⟨ps, ?_, a2, fun pos cv hc => ?_⟩
  · rw [upd_ne]
    · exact a1
    · intro z
      rw [z, hp] at a1
      exact n1 ps (Option.some.inj a1)
  · obtain ⟨c, e1, e2⟩ := a3 pos cv hc
    refine ⟨c, e1, ?_⟩
    rw [upd_ne]
    · exact e2
    · intro z
      rw [z, hp] at e2
      exact n2 x.2 (Option.some.inj e2)
theorem deeds_kept {E : List Cor} {rs : List Str} {G : Hp} {n : Nat} {a : Addr} {val : V} {en : EndW} {zs : List Str} {ms : List Nat} {zs' : List Str} {ms' : List Nat} (h : DeedsAt E rs n G a val en zs ms zs' ms') (he : en ≠ .ret) : zs' = zs ∧ ms' = ms := by
  rw [deedsAt_eq] at h
  obtain ⟨rl, bh, tl, cl, rows, zf, mf, h1, h2, h3, h4, h5, h6, h7, h8, h9, h10, h11, h12⟩ := h.ex
  exact ⟨(h12 he).1, (h12 he).2.1⟩
/-! ### the house over a heap without M -/
def Hou (K : PySem.W.Frag) (M : List Addr) (H : Hp) (h dx b d : Addr) (rs : List Str) (bg : Str → Int) (zs : List Str) (ms : List Nat) : Prop := ∃ v c, HsAt (He.ga K "LoggedHouse") H h dx b d v c ∧ HsIn (cutX M H) d v c rs bg zs (callsL ms)
section
variable {P : Program} {w : World} {K : PySem.W.Frag} {mg : Str → Option Value} {base : Heap}
theorem nt_ins {C dx : Addr} {fs : List (Str × V)} : noTbl (.ins C dx fs) := fun _ z => by cases z
theorem nt_lst {xs : List V} : noTbl (.lst xs) := fun _ z => by cases z
theorem nt_tup {xs : List V} : noTbl (.tup xs) := fun _ z => by cases z
theorem nt_dK {kvs : List (Key × V)} : noTbl (.dK kvs) := fun _ z => by cases z
theorem Hou.ext {M : List Addr} {H H' : Hp} {h dx b d : Addr} {rs : List Str} {bg : Str → Int} {zs : List Str} {ms : List Nat} (q : Hou K M H h dx b d rs bg zs ms) (e : FrX [] H H') : Hou K M H' h dx b d rs bg zs ms := by
  obtain ⟨v, c, hh, hI⟩ := q
  exact ⟨v, c, e _ _ hh (by simp) nt_ins, hI.mono (e.sub (fun _ z => nomatch z)).cut⟩
theorem Hou.less {M M' : List Addr} {H : Hp} {h dx b d : Addr} {rs : List Str} {bg : Str → Int} {zs : List Str} {ms : List Nat} (q : Hou K M' H h dx b d rs bg zs ms) (s : ∀ a ∈ M, a ∈ M') : Hou K M H h dx b d rs bg zs ms := by
  obtain ⟨v, c, hh, hI⟩ := q
  exact ⟨v, c, hh, hI.mono (cutX_mono s)⟩
/-- what deeds are done with -/
def spDone (K : PySem.W.Frag) (n : Nat) : Sp := fun vs H Q E => ∃ (h pr D dx b d : Addr) (rs : List Str) (sz : Str → Int) (Eb : List Cor) (bg : Str → Int) (zs : List Str) (ms : List Nat) (val : V) (en : EndW) (zs' : List Str) (ms' : List Nat), vs = [.ref pr, .ref D] ∧ H pr = some (.lst [.ref h, .ref h]) ∧
  Hou K [h] H h dx b d rs bg zs ms ∧ BldAt (He.ga K "Building") (cutX [h] H) b rs sz Eb ∧ Trip Eb rs zs ms ∧ zs.length + gr n ≤ 900 ∧ DeedsAt Eb rs n (cutX [h] H) D val en zs ms zs' ms' ∧ Tabs (TL K) H ∧
  (en = .ret → ∀ H', FrX [h] H H' → Hou K [h] H' h dx b d rs bg zs' ms' → Tabs (TL K) H' → Q val H') ∧
  (en ≠ .ret → ∀ H' v c dd, FrX [h] H H' → HsAt (He.ga K "LoggedHouse") H' h dx b d v c → Tabs (TL K) H' → E (en.cls K) dd H')
/-- an attempt of them -/
def spAtt (K : PySem.W.Frag) (n : Nat) : Sp := fun vs H Q E => ∃ (h nl D dx b d : Addr) (rs : List Str) (sz : Str → Int) (Eb : List Cor) (bg : Str → Int) (zs : List Str) (ms : List Nat) (val : V) (en : EndW) (zs' : List Str) (ms' : List Nat) (xs : List V), vs = [.ref h, .ref D, .ref nl] ∧ H nl = some (.lst xs) ∧ xs.length ≤ 900 ∧
  Hou K [h, nl] H h dx b d rs bg zs ms ∧ BldAt (He.ga K "Building") (cutX [h, nl] H) b rs sz Eb ∧ Trip Eb rs zs ms ∧ zs.length + gr n ≤ 900 ∧ DeedsAt Eb rs n (cutX [h, nl] H) D val en zs ms zs' ms' ∧ Tabs (TL K) H ∧
  ∀ H', FrX [h, nl] H H' → Hou K [h] H' h dx b d rs bg zs' ms' → H' nl = some (.lst (xs ++ [.ref h])) → Tabs (TL K) H' → (en = .ret → Q val H') ∧ (en ≠ .ret → ∀ dd, E (en.cls K) dd H')
theorem sc_att : FnScope ["_law_house", "_law_deeds_here", "_law_noted_here", "_law_there"] ["_law_house", "_law_deeds_here", "_law_noted_here"] (defScope s_attempted) := ⟨rfl, rfl, rfl, by decide +kernel, rfl, by decide +kernel, by decide +kernel⟩
theorem att_of (T : Says w K mg) (B : Tbs K mg base) {k n : Nat} (hk : 1 ≤ k) (dn : CalX P w K mg base k "_law_done" (spDone K n)) : CalX P w K mg base (k + 3) "_law_attempted" (spAtt K n) := by
  refine calX_of T.d_attempted T.g_attempted sc_att (fun vs H Q E h => ?_) (fun _ _ _ _ _ _ us hl => match us, hl with | [_, _, _], _ => rfl) (fun A outer s H vs Q E hr hgd h => ?_)
  · obtain ⟨_, _, _, _, _, _, _, _, _, _, _, _, _, _, _, _, _, rfl, _⟩ := h; rfl
  refine ⟨_, pss_one (ps_ret (pe_lammeth (k := k) (y := "_law_there") (a := "function") (b := "self") (ip := 3) (T := TL K) (TT := TAtt K) (pv 0) T.cl_LoggedHouse T.mHouse_attempt T.dHouse_attempt (fun _ _ _ _ _ _ us hl => match us, hl with | [_, _], _ => rfl) sc_House_attempt rfl rfl (.inl rfl) (.inl rfl)
    (fun cdv => attempt_gives T _ cdv) B.att rfl (.tail _ (.head _)) B.uAtt hr (Nat.le_refl _) (takes_of rfl rfl rfl rfl) (fun _ _ _ _ h => h) (lamP_by (sc := defScope s_attempted) (by decide +kernel)) sc_att.nd rfl rfl (fun _ _ _ _ _ _ => rfl)
    (fun A2 outer2 s2 H2 E2 f c' hr2 hg2 => pe_cX dn hr2 (Nat.le_refl _) (hg2.trans hgd) (takes_of rfl rfl rfl rfl) (fun _ _ _ _ h => h) rfl
      (pa_cons (C8.pe_c (ok_noted T) hr2 hk rfl (pa_cons (pv 2) (pa_cons (pe_lst (pa_cons (pv 0) (pa_cons (pv 3) pa_nil))) pa_nil))) (pa_cons (pv 1) pa_nil))))), ?_⟩
  obtain ⟨h0, nl, D, dx, b, d, rs, sz, Eb, bg, zs, ms, val, en, zs', ms', xs, rfl, hnl, hxl, ⟨v, c, hh, hI⟩, hB, hT, hlen, hD, hTab, k⟩ := h
  have hbig : sizeLine = 16777216 := sizeLine_eq
  refine ⟨_, rfl, h0, dx, _, rfl, hh, rfl, hTab, fun H1 e1 T1 => ⟨dx, b, d, v, c, e1 _ _ hh nt_ins, ?_⟩⟩
  have h1 := e1 _ _ hh nt_ins
  have nl1 := e1 _ _ hnl nt_lst
  have nhn : nl ≠ h0 := fun z => by rw [z, hh] at hnl; cases hnl
  refine ⟨_, rfl, _, rfl, _, rfl, by show 2 ≤ sizeLine; omega, fun pr hpr => ?_⟩
  have npn : pr ≠ nl := fun z => by rw [z, nl1] at hpr; cases hpr
  have nph : pr ≠ h0 := fun z => by rw [z, h1] at hpr; cases hpr
  have S2 := Same.new (o := .lst [.ref h0, .ref h0]) hpr
  refine ⟨nl, pr, xs, _, _, rfl, S2 _ _ nl1, by omega, upd_same, ?_⟩
  have F3 : FrX [h0, nl] H (upd (upd H1 pr (.lst [.ref h0, .ref h0])) nl (.lst (xs ++ [.ref h0]))) := (((FrX.extN e1).trans (FrX.same S2)).put (by simp))
  have p3 : (upd (upd H1 pr (.lst [.ref h0, .ref h0])) nl (.lst (xs ++ [.ref h0]))) pr = some (.lst [.ref h0, .ref h0]) := by rw [upd_ne npn, upd_same]
  have n3 : (upd (upd H1 pr (.lst [.ref h0, .ref h0])) nl (.lst (xs ++ [.ref h0]))) nl = some (.lst (xs ++ [.ref h0])) := upd_same
  have h3 : HsAt (He.ga K "LoggedHouse") (upd (upd H1 pr (.lst [.ref h0, .ref h0])) nl (.lst (xs ++ [.ref h0]))) h0 dx b d v c := by
    unfold HsAt
    rw [upd_ne (Ne.symm nhn)]
    exact S2 _ _ h1
  have T3 : Tabs (TL K) (upd (upd H1 pr (.lst [.ref h0, .ref h0])) nl (.lst (xs ++ [.ref h0]))) := tabs_upd (T1.ext S2) (S2 _ _ nl1) nt_lst (fun q z => by unfold LamX.CodeO at z; cases z)
  generalize upd (upd H1 pr (.lst [.ref h0, .ref h0])) nl (.lst (xs ++ [.ref h0])) = H3 at F3 p3 n3 h3 T3
  have C3 : Same (cutX [h0, nl] H) (cutX [h0] H3) := fun a o q => (cutX_mono (fun a z => by simp at z; simp [z])) _ _ (F3.cut _ _ q)
  refine ⟨_, rfl, h0, pr, D, dx, b, d, rs, sz, Eb, bg, zs, ms, val, en, zs', ms', rfl, p3, ⟨v, c, h3, hI.mono C3⟩, hB.mono C3, hT, hlen, DeedsAt.mono C3 n _ _ _ _ _ _ _ hD, T3, fun he H' f' hou' t' => ?_, fun he H' v' c' dd f' h' t' => ?_⟩
  · exact (k H' (F3.trans (f'.sub (by simp))) hou' (f' _ _ n3 (by simp [nhn]) nt_lst) t').1 he
  · refine ⟨v', c', h', ?_⟩
    obtain ⟨rfl, rfl⟩ := deeds_kept hD he
    have Ff : FrX [h0, nl] H (upd H' h0 (.ins (He.ga K "LoggedHouse") dx (hf b d v c))) := (F3.trans (f'.sub (by simp))).put (by simp)
    have Cf : Same (cutX [h0, nl] H) (cutX [h0] (upd H' h0 (.ins (He.ga K "LoggedHouse") dx (hf b d v c)))) := fun a o q => (cutX_mono (fun a z => by simp at z; simp [z])) _ _ (Ff.cut _ _ q)
    refine (k _ Ff ⟨v, c, upd_same, hI.mono Cf⟩ ?_ (tabs_upd t' h' nt_ins (fun q z => by unfold LamX.CodeO at z; cases z))).2 he dd
    rw [upd_ne nhn]
    exact f' _ _ n3 (by simp [nhn]) nt_lst
theorem houMk {H : Hp} {h dx b d v c : Addr} {rs : List Str} {bg : Str → Int} {zs : List Str} {ms : List Nat} (hh : HsAt (He.ga K "LoggedHouse") H h dx b d v c) (hI : HsIn H d v c rs bg zs (callsL ms)) : Hou K [h] H h dx b d rs bg zs ms := by
  have n1 : d ≠ h := fun z => by have := hI.shown; rw [z, hh] at this; cases this
  have n2 : v ≠ h := fun z => by have := hI.visited; rw [z, hh] at this; cases this
  have n3 : c ≠ h := fun z => by have := hI.calls; rw [z, hh] at this; cases this
  exact ⟨v, c, hh, cutX_some hI.shown (by simp [n1]) nt_dK, cutX_some hI.visited (by simp [n2]) nt_lst, cutX_some hI.calls (by simp [n3]) nt_lst⟩
theorem cutX_new {H : Hp} {p h : Addr} {o : HO} (e : H p = none) : Same (cutX [h] H) (cutX [h, p] (upd H p o)) := fun b u z => by
  obtain ⟨z1, z2, z3⟩ := cutX_get z
  have n : b ≠ p := ne_of_none z1 e
  refine cutX_some (by rw [upd_ne n]; exact z1) (fun m => ?_) z3
  simp only [List.mem_cons, List.not_mem_nil, or_false] at m z2
  rcases m with m | m
  · exact z2 m
  · exact n m
theorem Hou.new {H : Hp} {h dx b d p : Addr} {rs : List Str} {bg : Str → Int} {zs : List Str} {ms : List Nat} {o : HO} (q : Hou K [h] H h dx b d rs bg zs ms) (e : H p = none) : Hou K [h, p] (upd H p o) h dx b d rs bg zs ms := by
  obtain ⟨v, c, hh, hI⟩ := q
  exact ⟨v, c, (Same.new e) _ _ hh, hI.mono (cutX_new e)⟩
theorem tabs_frm {T : List (Addr × Str)} {H H' : Hp} {h C dx : Addr} {fs : List (Str × V)} (t : Tabs T H) (fr : Frm [h] H H') (hh : H h = some (.ins C dx fs)) : Tabs T H' := fun x hx => by
  obtain ⟨ps, a1, a2, a3⟩ := t x hx
  refine ⟨ps, fr _ _ a1 ?_, a2, fun pos cv hc => ?_⟩
  · intro z
    rw [List.mem_singleton] at z
    rw [z, hh] at a1
    cases a1
  · obtain ⟨c, e1, e2⟩ := a3 pos cv hc
    refine ⟨c, e1, fr _ _ e2 ?_⟩
    intro z
    rw [List.mem_singleton] at z
    rw [z, hh] at e2
    have := Option.some.inj e2
    unfold LamX.CodeO at this
    cases this
theorem iteTe {c : Bool} {A B : Prop} (h : c = true) (x : A) : if c = true then A else B := by rw [if_pos h]; exact x
theorem iteFe {c : Bool} {A B : Prop} (h : c = false) (x : B) : if c = true then A else B := by rw [if_neg (by rw [h]; decide)]; exact x
theorem deeds_val {E : List Cor} {rs : List Str} {G : Hp} {n : Nat} {a : Addr} {val : V} {en : EndW} {zs : List Str} {ms : List Nat} {zs' : List Str} {ms' : List Nat} (h : DeedsAt E rs n G a val en zs ms zs' ms') : ValOk G val ∧ (en ≠ .ret → val = .str en.word) ∧ ∃ rl bh, G a = some (.tup [.ref rl, val, .ref bh, .str en.word]) := by
  rw [deedsAt_eq] at h
  obtain ⟨rl, bh, tl, cl, rows, zf, mf, h1, h2, h3, h4, h5, h6, h7, h8, h9, h10, h11, h12⟩ := h.ex
  exact ⟨h10, fun he => (h12 he).2.2, rl, bh, h1⟩
/-- an attempt whose errors are caught: the word of the error is what deeds tell -/
theorem att_all {n : Nat} {H : Hp} {Q : VK} {h nl D dx b d : Addr} {rs : List Str} {sz : Str → Int} {Eb : List Cor} {bg : Str → Int} {zs : List Str} {ms : List Nat} {val : V} {en : EndW} {zs' : List Str} {ms' : List Nat} {xs : List V} (hnl : H nl = some (.lst xs)) (hxl : xs.length ≤ 900)
    (hou : Hou K [h, nl] H h dx b d rs bg zs ms) (hB : BldAt (He.ga K "Building") (cutX [h, nl] H) b rs sz Eb) (hT : Trip Eb rs zs ms) (hl : zs.length + gr n ≤ 900) (hD : DeedsAt Eb rs n (cutX [h, nl] H) D val en zs ms zs' ms') (hTab : Tabs (TL K) H)
    (hQ : ∀ H', FrX [h, nl] H H' → Hou K [h] H' h dx b d rs bg zs' ms' → H' nl = some (.lst (xs ++ [.ref h])) → Tabs (TL K) H' → Q val H') :
    spAtt K n [.ref h, .ref D, .ref nl] H Q (fun cls _ H' => (cls = .ref (He.ga K "InvalidWalk") ∧ Q (.str "walk") H') ∨ (cls = .ref (He.ga K "NothingToUndo") ∧ Q (.str "undo") H') ∨ (cls = .type "KeyError" ∧ Q (.str "key") H')) := by
  refine ⟨h, nl, D, dx, b, d, rs, sz, Eb, bg, zs, ms, val, en, zs', ms', xs, rfl, hnl, hxl, hou, hB, hT, hl, hD, hTab, fun H' f hou' n' t' => ⟨fun _ => hQ H' f hou' n' t', fun he dd => ?_⟩⟩
  have hv := (deeds_val hD).2.1 he
  have q := hQ H' f hou' n' t'
  rw [hv] at q
  cases en with
  | ret => exact absurd rfl he
  | walk => exact .inl ⟨rfl, q⟩
  | undo => exact .inr (.inl ⟨rfl, q⟩)
  | key => exact .inr (.inr ⟨rfl, q⟩)
/-- what a new object's change leaves -/
theorem FrX.more {H H1 H2 : Hp} {h p : Addr} {o : HO} (f : FrX [h] H H1) (hp : H1 p = none) (g : FrX [h, p] (upd H1 p o) H2) : FrX [h] H H2 := fun b u e n t => by
  have e1 := f b u e n t
  have nb : b ≠ p := ne_of_none e1 hp
  exact g b u (by rw [upd_ne nb]; exact e1) (by simp only [List.mem_cons, List.not_mem_nil, or_false] at n ⊢; exact fun z => z.elim n nb) t
/-- the attempt of one less -/
def spAttO (K : PySem.W.Frag) : Nat → Sp
  | 0 => fun _ _ _ _ => False
  | n + 1 => spAtt K n
theorem sc_done : FnScope ["_law_pair_here", "_law_deeds_here", "_law_word", "_law_thing", "_law_which", "_law_house", "_law_last"] ["_law_pair_here", "_law_deeds_here"] (defScope s_done) := ⟨rfl, rfl, rfl, by decide +kernel, rfl, by decide +kernel, by decide +kernel⟩
theorem done_of (T : Says w K mg) (B : Tbs K mg base) {k n : Nat} (hk : 8 ≤ k) (at_ : CalX P w K mg base k "_law_attempted" (spAttO K n)) : CalX P w K mg base (k + 3) "_law_done" (spDone K n) := by
  refine calX_of T.d_done T.g_done sc_done (fun vs H Q E h => ?_) (fun _ _ _ _ _ _ us hl => match us, hl with | [_, _], _ => rfl) (fun A outer s H vs Q E hr hgd h => ?_)
  · obtain ⟨_, _, _, _, _, _, _, _, _, _, _, _, _, _, _, _, rfl, _⟩ := h; rfl
  refine ⟨_, (pss_cons (ps_for (passes_of rfl) rfl (pi_list (pe_ix (r := rIxT K) ix_tup (pv 1) pe_int (fun _ _ => rfl))) (pg_tup rfl (pgs_cons (pg_name (i := 2) sc_done.nd rfl (Or.inl rfl)) (pgs_cons (pg_name (i := 3) sc_done.nd rfl (Or.inr rfl)) (pgs_cons (pg_name (i := 4) sc_done.nd rfl (Or.inl rfl)) pgs_nil)))) (pss_cons (ps_set (i := 5) sc_done.nd rfl (Or.inr rfl) (pe_ix (r := rIxL K) ix_list (pv 0) (pv 4) (fun _ _ => rfl)))
    (pss_one (ps_if (pt_cmpR op_eq (pv 2) pe_str (nomark _)) (pss_one (ps_expr (C8.pe_c (ok_go T) hr (by omega) rfl (pa_cons (pv 5) (pa_cons (pv 3) pa_nil))))) (pss_one (ps_if (pt_cmpR op_eq (pv 2) pe_str (nomark _)) (pss_one (ps_expr (pe_methK (pv 5) T.cl_LoggedHouse T.mHouse_undo (okHouse_undo T) hr (by omega) pass_none (pk_cons (pv 3) pk_nil)))) (pss_one (ps_if (pt_cmpR op_eq (pv 2) pe_str (nomark _)) (pss_one (ps_if (pt_cmpR op_ne (pe_lam0 (k := k) (T := TL K) (TT := TTried K) rfl T.g_tried T.d_tried (fun _ _ _ _ _ _ us hl => match us, hl with | [_], _ => rfl) sc_tried rfl (Or.inl rfl) (fun cdv => tried_gives T _ cdv) B.done rfl (.head _) B.uDone hr (by omega) (LamX.lamS_by (sc := defScope s_done) (by decide +kernel)) rfl (fun _ _ _ _ _ => rfl) (fun A2 outer2 s2 H2 E2 f c' hr2 hg2 => pe_methR (pv 5) T.cl_LoggedHouse T.mHouse_go (okHouse_go T) hr2 (by omega) (passes_call (takes_of rfl rfl rfl rfl) (fun _ _ _ _ h => h)) (pa_cons (pv 3) pa_nil))) pe_str (nomark _)) (pss_one (ps_ret pe_str)) pss_nil)) (pss_one (ps_if (pt_cmpR op_ne (pe_callB (id := "repr") (r := rRep K) (call_rep hgd hr) (by rfl) T.z_repr (by decide +kernel) (pa_cons (pe_lam0 (k := k) (T := TL K) (TT := TTried K) rfl T.g_tried T.d_tried (fun _ _ _ _ _ _ us hl => match us, hl with | [_], _ => rfl) sc_tried rfl (Or.inl rfl) (fun cdv => tried_gives T _ cdv) B.done rfl (.head _) B.uDone hr (by omega) (LamX.lamS_by (sc := defScope s_done) (by decide +kernel)) rfl (fun _ _ _ _ _ => rfl) (fun A2 outer2 s2 H2 E2 f c' hr2 hg2 => pe_cX at_ hr2 (Nat.le_refl _) (hg2.trans hgd) (takes_of rfl rfl rfl rfl) (fun _ _ _ _ h => h) rfl (pa_cons (pv 5) (pa_cons (pv 3) (pa_cons (pe_lst pa_nil) pa_nil))))) pa_nil)) (pe_callB (id := "repr") (r := rRep K) (call_rep hgd hr) (by rfl) T.z_repr (by decide +kernel) (pa_cons (pe_ix (r := rIxT K) ix_tup (pv 3) pe_int (fun _ _ => rfl)) pa_nil)) (nomark _)) (pss_one (ps_ret pe_str)) pss_nil))))))))))
    (pss_cons (ps_set (i := 6) sc_done.nd rfl (Or.inl rfl) (pe_ix (r := rIxL K) ix_list (pv 0) (pe_op op_mod (pe_callB (id := "len") call_len_seq (by rfl) T.z_len PySem.boot_len (pa_cons (pe_ix (r := rIxT K) ix_tup (pv 1) pe_int (fun _ _ => rfl)) pa_nil)) pe_int) (fun _ _ => rfl)))
    (pss_cons (ps_if (pt_cmpR op_eq (pe_ix (r := rIxT K) ix_tup (pv 1) pe_int (fun _ _ => rfl)) pe_str (nomark _)) (pss_one (ps_expr (pe_methR (pv 6) T.cl_LoggedHouse T.mHouse_go (okHouse_go T) hr (by omega) (passes_call (takes_of rfl rfl rfl rfl) (fun _ _ _ _ h => h)) (pa_cons pe_non pa_nil)))) pss_nil)
    (pss_cons (ps_if (pt_cmpR op_eq (pe_ix (r := rIxT K) ix_tup (pv 1) pe_int (fun _ _ => rfl)) pe_str (nomark _)) (pss_one (ps_expr (pe_methK (pv 6) T.cl_LoggedHouse T.mHouse_undo (okHouse_undo T) hr (by omega) (passes_call (takes_of rfl rfl rfl rfl) (fun _ _ _ _ h => h)) (pk_cons (pe_op op_pow pe_int pe_int) pk_nil)))) pss_nil)
    (pss_cons (ps_if (pt_cmpR op_eq (pe_ix (r := rIxT K) ix_tup (pv 1) pe_int (fun _ _ => rfl)) pe_str (nomark _)) (pss_one (ps_ret (pe_dgetX rfl (hu_of hr) (takes_of rfl rfl rfl rfl) (pe_disp (pps_cons pe_str pe_int pps_nil) (by rfl) (by rfl) (fun z => by cases z) (by decide)) (pe_ix (r := rIxT K) ix_tup (pv 1) pe_int (fun _ _ => rfl)) (fun _ _ => rfl)))) pss_nil)
    (pss_one (ps_ret (pe_ix (r := rIxT K) ix_tup (pv 1) pe_int (fun _ _ => rfl))))))))), ?_⟩
  obtain ⟨h0, pr, D, dx, b, d, rs, sz, Eb, bg, zs, ms, val, en, zs', ms', rfl, hpr, hou, hB, hT, hlen, hD, hTab, kr, kx⟩ := h
  rw [deedsAt_eq] at hD
  obtain ⟨rl, bh, tl, cl, rows, zf, mf, d1, d2, d3, rfl, rfl, d6, d7, d8, d9, d10, d11, d12⟩ := hD.ex
  have hbig : sizeLine = 16777216 := sizeLine_eq
  have hnm := hB.nm
  have h0at : ∃ fs, H h0 = some (.ins (He.ga K "LoggedHouse") dx fs) := let ⟨v, c, hh, _⟩ := hou; ⟨_, hh⟩
  have nph : pr ≠ h0 := fun z => by obtain ⟨fs, e⟩ := h0at; rw [z, e] at hpr; cases hpr
  have nDh : D ≠ h0 := fun z => (cutX_get d1).2.1 (by simp [z])
  have tr := rows_trip (g := gb n) (gb_ge n) (fun a val en z m z' m' h t => deedsB_trip n h t) d6 hT
  have hgr := gr_eq n
  have hbound : ∀ i, i ≤ rows.length → (zf i).length + gb n ≤ 900 + gb n := fun i hi => by
    have := (tr i hi).2
    have : i * gb n ≤ 3 * gb n := Nat.mul_le_mul_right _ (by omega)
    omega
  -- what stands at a heap in between
  have stat : ∀ {H'}, FrX [h0] H H' → Same (cutX [h0] H) (cutX [h0] H') := fun f => f.cut
  have at_' : ∀ {H' a o}, FrX [h0] H H' → cutX [h0] H a = some o → H' a = some o := fun f e => cutX_same _ _ (f.cut _ _ e)
  have two : ∀ j : Nat, j < 2 → atI [V.ref h0, V.ref h0] (j : Int) = some (.ref h0) := fun j hj => by
    have : j = 0 ∨ j = 1 := by omega
    rcases this with rfl | rfl <;> rfl
  have hrl := at_' (FrX.refl _ _) d2
  refine ⟨_, rfl, D, _, 0, _, rfl, rfl, SqT.of (at_' (FrX.refl _ _) d1), rfl, rl, rfl, ⟨_, SqL.of hrl⟩, ?_⟩
  refine for_it (walk_list (xs := rows.map V.ref)) (fun i σ H' => FrX [h0] H H' ∧ Hou K [h0] H' h0 dx b d rs bg (zf i) (mf i) ∧ Tabs (TL K) H' ∧ ∃ x2 x3 x4 x5, σ = [some (.ref pr), some (.ref D), x2, x3, x4, x5, none])
    ⟨FrX.refl _ _, hou, hTab, _, _, _, _, rfl⟩ (fun i σ H' _ h => SqL.of (at_' h.1 d2)) ?_ ?_
  · rintro i x σ H1' H1 hi ⟨f1, hou1, T1, x2, x3, x4, x5, rfl⟩ ⟨rfl, hx⟩
    rw [List.getElem?_map] at hx
    obtain ⟨r, hr', rfl⟩ := Option.map_eq_some_iff.mp hx
    have hil : i < rows.length := (List.getElem?_eq_some_iff.mp hr').1
    have hrow := d6 i r hr'
    obtain ⟨t1, l1⟩ := tr i (by omega)
    have hb1 := hbound i (by omega)
    obtain ⟨v, c, hh, hI⟩ := hou1
    have hI1 := hI.mono cutX_same
    have hB1 : BldAt (He.ga K "Building") H1 b rs sz Eb := (hB.mono (stat f1)).mono cutX_same
    have hpr1 := f1 _ _ hpr (by simp [nph]) nt_lst
    obtain ⟨la, hla⟩ : ∃ la, (zf i).getLast? = some la := ⟨(zf i).getLast t1.ne, List.getLast?_eq_some_iff.mpr ⟨(zf i).dropLast, (List.dropLast_concat_getLast t1.ne).symm⟩⟩
    generalize ez : zf (i + 1) = z1 at hrow
    generalize em : mf (i + 1) = m1 at hrow
    cases hrow with
    | @go k wl way la' hk' hr1 hwl hla' hch hmem hw4 =>
      refine ⟨r, _, rfl, SqT.of (at_' f1 hr1), rfl, _, _, rfl, _, _, rfl, _, _, rfl, rfl, ?_⟩
      refine ⟨_, rfl, _, rfl, pr, _, _, _, rfl, rfl, SqL.of hpr1, two k hk', ?_⟩
      refine ⟨_, rfl, rfl, _, rfl, iteTe (by decide +kernel) ?_⟩
      refine ⟨_, rfl, _, rfl, h0, wl, dx, b, d, v, c, rs, sz, Eb, bg, zf i, mf i, la', way, rfl, hh, hI1, hB1, t1, hla', at_' f1 hwl, by omega, hch, hmem, by omega, fun v' c' H2 fr h2 hI2 => ?_⟩
      exact ⟨f1.trans (FrX.of fr), houMk h2 hI2, tabs_frm T1 fr hh, _, _, _, _, rfl⟩
    | @undo k m hk' hr1 hm1 hm2 =>
      refine ⟨r, _, rfl, SqT.of (at_' f1 hr1), rfl, _, _, rfl, _, _, rfl, _, _, rfl, rfl, ?_⟩
      refine ⟨_, rfl, _, rfl, pr, _, _, _, rfl, rfl, SqL.of hpr1, two k hk', ?_⟩
      refine ⟨_, rfl, rfl, _, rfl, iteFe (by decide +kernel) ?_⟩
      refine ⟨_, rfl, rfl, _, rfl, iteTe (by decide +kernel) ?_⟩
      refine ⟨_, rfl, h0, dx, _, rfl, hh, rfl, _, rfl, rfl, rfl, h0, dx, b, d, v, c, rs, bg, zf i, mf i, (m : Int), rfl, hh, hI1, t1.len, t1.pos, by omega, .inl ⟨m, rfl, hm1, hm2, fun v' c' H2 fr h2 hI2 => ?_⟩⟩
      exact ⟨f1.trans (FrX.of fr), houMk h2 hI2, tabs_frm T1 fr hh, _, _, _, _, rfl⟩
    | @caught k hk' hr1 =>
      refine ⟨r, _, rfl, SqT.of (at_' f1 hr1), rfl, _, _, rfl, _, _, rfl, _, _, rfl, rfl, ?_⟩
      refine ⟨_, rfl, _, rfl, pr, _, _, _, rfl, rfl, SqL.of hpr1, two k hk', ?_⟩
      refine ⟨_, rfl, rfl, _, rfl, iteFe (by decide +kernel) ?_⟩
      refine ⟨_, rfl, rfl, _, rfl, iteFe (by decide +kernel) ?_⟩
      refine ⟨_, rfl, rfl, _, rfl, iteTe (by decide +kernel) ?_⟩
      refine ⟨T1, fun H2 e2 T2 => ?_⟩
      have f2 := f1.trans (FrX.extN e2)
      have h2 := e2 _ _ hh nt_ins
      have hou2 : Hou K [h0] H2 h0 dx b d rs bg (zf i) (mf i) := Hou.ext ⟨v, c, hh, hI⟩ (FrX.extN e2)
      have hI2 := (hI.mono (FrX.extN (M := [h0]) e2).cut).mono cutX_same
      have hB2 : BldAt (He.ga K "Building") H2 b rs sz Eb := (hB.mono (stat f2)).mono cutX_same
      refine ⟨_, rfl, h0, dx, _, rfl, h2, rfl, _, rfl, _, _, rfl, by show 1 ≤ sizeLine; omega, fun p hp => ?_⟩
      have S3 := Same.new (o := .tup [.str "none at all"]) hp
      refine ⟨h0, p, dx, b, d, v, c, rs, sz, Eb, bg, zf i, mf i, la, rfl, S3 _ _ h2, hI2.mono S3, hB2.mono S3, t1, hla, .inr ⟨_, .inr ⟨_, rfl, fun z => ?_, by decide +kernel⟩, upd_same, fun dd H4 s4 => .inl ⟨rfl, ?_⟩⟩⟩
      · exact absurd (hnm.len _ z) (by decide +kernel)
      · have s34 := S3.trans s4
        refine ⟨rfl, _, rfl, iteFe (by decide +kernel) ?_⟩
        exact ⟨f2.trans (FrX.same s34), hou2.ext (FrX.same s34), T2.ext s34, _, _, _, _, rfl⟩
    | @attempt k a val2 en2 z1 m1 hk' hr1 hda =>
      refine ⟨r, _, rfl, SqT.of (at_' f1 hr1), rfl, _, _, rfl, _, _, rfl, _, _, rfl, rfl, ?_⟩
      refine ⟨_, rfl, _, rfl, pr, _, _, _, rfl, rfl, SqL.of hpr1, two k hk', ?_⟩
      refine ⟨_, rfl, rfl, _, rfl, iteFe (by decide +kernel) ?_⟩
      refine ⟨_, rfl, rfl, _, rfl, iteFe (by decide +kernel) ?_⟩
      refine ⟨_, rfl, rfl, _, rfl, iteFe (by decide +kernel) ?_⟩
      refine ⟨T1, fun H2 e2 T2 => ?_⟩
      have f2 := f1.trans (FrX.extN e2)
      have h2 := e2 _ _ hh nt_ins
      have hou2 : Hou K [h0] H2 h0 dx b d rs bg (zf i) (mf i) := Hou.ext ⟨v, c, hh, hI⟩ (FrX.extN e2)
      refine ⟨_, rfl, _, rfl, by show 0 ≤ sizeLine; omega, fun nl hnl => ?_⟩
      cases n with
      | zero => exact False.elim hda
      | succ n =>
        have S3 := Same.new (o := .lst []) hnl
        have C3 : Same (cutX [h0] H2) (cutX [h0, nl] (upd H2 nl (.lst []))) := cutX_new hnl
        have f3 := f2.trans (FrX.same S3)
        refine att_all (xs := []) upd_same (by decide) (hou2.new hnl) (hB.mono ((stat f2).trans C3)) t1 ?_ (DeedsAt.mono ((stat f2).trans C3) n _ _ _ _ _ _ _ hda) (T2.ext S3) fun H4 f4 hou4 n4 t4 => ?_
        · show (zf i).length + gr n ≤ 900
          have e1 : gb (n + 1) = gr n := rfl
          have e2' : gr (n + 1) = 3 * gr n := rfl
          have e3 : i * gb (n + 1) ≤ 2 * gb (n + 1) := Nat.mul_le_mul_right _ (by omega)
          omega
        · have f5 : FrX [h0] H H4 := FrX.more f2 hnl f4
          obtain ⟨hv, _, rl2, bh2, ha2⟩ := deeds_val (n := n) hda
          obtain ⟨z, hz⟩ := (hv.mono ((stat f5).trans cutX_same)).rep (K := K)
          refine ⟨_, z, rfl, hz, ?_⟩
          refine ⟨_, rfl, a, _, 1, _, rfl, rfl, SqT.of (at_' f5 ha2), rfl, _, z, rfl, hz, ?_⟩
          refine ⟨rfl, _, rfl, iteFe (by simp) ?_⟩
          exact ⟨f5, hou4, t4, _, _, _, _, rfl⟩
  · rintro σ H1 ⟨f1, hou1, T1, x2, x3, x4, x5, rfl⟩
    rw [List.length_map] at hou1
    have dD : SqT K H1 D [.ref rl, val, .ref bh, .str en.word] := SqT.of (at_' f1 d1)
    have hpr1 := f1 _ _ hpr (by simp [nph]) nt_lst
    have hrl1 : SqL K H1 rl (rows.map V.ref) := SqL.of (at_' f1 d2)
    obtain ⟨j, hj, ej⟩ : ∃ j : Nat, j < 2 ∧ (((rows.map V.ref).length : Nat) : Int) % 2 = (j : Int) := ⟨(rows.map V.ref).length % 2, Nat.mod_lt _ (by decide), by omega⟩
    refine ⟨_, rfl, _, rfl, D, _, 0, _, rfl, rfl, dD, rfl, rl, _, rfl, .inl hrl1, _, _, rfl, rfl, (show (0 : Int) < 2 by decide), pr, _, _, .ref h0, rfl, rfl, SqL.of hpr1, ?_, ?_⟩
    · rw [ej]; exact two j hj
    obtain ⟨v, c, hh, hI⟩ := id hou1
    have hI1 := hI.mono cutX_same
    have hB1 : BldAt (He.ga K "Building") H1 b rs sz Eb := (hB.mono (stat f1)).mono cutX_same
    obtain ⟨t1, l1⟩ := tr rows.length (Nat.le_refl _)
    have hb1 := hbound rows.length (Nat.le_refl _)
    obtain ⟨la, hla⟩ : ∃ la, (zf rows.length).getLast? = some la := ⟨(zf rows.length).getLast t1.ne, List.getLast?_eq_some_iff.mpr ⟨(zf rows.length).dropLast, (List.dropLast_concat_getLast t1.ne).symm⟩⟩
    cases en with
    | ret =>
      refine ⟨_, rfl, D, _, 3, _, rfl, rfl, dD, rfl, rfl, _, rfl, iteFe (by decide +kernel) ?_⟩
      refine ⟨_, rfl, D, _, 3, _, rfl, rfl, dD, rfl, rfl, _, rfl, iteFe (by decide +kernel) ?_⟩
      refine ⟨_, rfl, D, _, 3, _, rfl, rfl, dD, rfl, rfl, _, rfl, iteFe (by decide +kernel) ?_⟩
      refine ⟨_, rfl, D, _, 1, _, rfl, rfl, dD, rfl, ?_⟩
      obtain ⟨rfl, rfl⟩ := d11 rfl
      exact kr rfl H1 f1 hou1 T1
    | walk =>
      refine ⟨_, rfl, D, _, 3, _, rfl, rfl, dD, rfl, rfl, _, rfl, iteTe (by decide +kernel) ?_⟩
      refine ⟨_, rfl, h0, dx, _, rfl, hh, rfl, _, _, rfl, by show 1 ≤ sizeLine; omega, fun p hp => ?_⟩
      have S3 := Same.new (o := .tup [.non]) hp
      exact ⟨h0, p, dx, b, d, v, c, rs, sz, Eb, bg, zf rows.length, mf rows.length, la, rfl, S3 _ _ hh, hI1.mono S3, hB1.mono S3, t1, hla, .inr ⟨_, .inl rfl, upd_same, fun dd H4 s4 => kx nofun H4 v c dd (f1.trans (FrX.same (S3.trans s4))) ((S3.trans s4) _ _ hh) (T1.ext (S3.trans s4))⟩⟩
    | undo =>
      refine ⟨_, rfl, D, _, 3, _, rfl, rfl, dD, rfl, rfl, _, rfl, iteFe (by decide +kernel) ?_⟩
      refine ⟨_, rfl, D, _, 3, _, rfl, rfl, dD, rfl, rfl, _, rfl, iteTe (by decide +kernel) ?_⟩
      refine ⟨_, rfl, h0, dx, _, rfl, hh, rfl, _, _, rfl, rfl, ⟨by decide, by decide, by decide⟩, rfl, rfl, h0, dx, b, d, v, c, rs, bg, zf rows.length, mf rows.length, _, rfl, hh, hI1, t1.len, t1.pos, by omega, .inr ⟨by decide, fun dd H4 s4 => ?_⟩⟩
      exact kx nofun H4 v c dd (f1.trans (FrX.same s4)) (s4 _ _ hh) (T1.ext s4)
    | key =>
      refine ⟨_, rfl, D, _, 3, _, rfl, rfl, dD, rfl, rfl, _, rfl, iteFe (by decide +kernel) ?_⟩
      refine ⟨_, rfl, D, _, 3, _, rfl, rfl, dD, rfl, rfl, _, rfl, iteFe (by decide +kernel) ?_⟩
      refine ⟨_, rfl, D, _, 3, _, rfl, rfl, dD, rfl, rfl, _, rfl, iteTe (by decide +kernel) ?_⟩
      refine fun q hq => ⟨upd_same, [(.inr "return", .int 0)], rfl, by decide, ?_⟩
      have eq : upd (upd H1 q (.dK [])) q (.dK (mergeK [] [(.inr "return", .int 0)])) q = some (.dK [(.inr "return", .int 0)]) := upd_same
      have S4 : Same H1 (upd (upd H1 q (.dK [])) q (.dK (mergeK [] [(.inr "return", .int 0)]))) := (Same.new hq).mut hq
      generalize upd (upd H1 q (.dK [])) q (.dK (mergeK [] [(.inr "return", .int 0)])) = H4 at eq S4
      refine ⟨_, rfl, D, _, 3, _, rfl, rfl, (show SqT K H4 D [.ref rl, val, .ref bh, .str EndW.key.word] from SqT.of (S4 _ _ (at_' f1 d1))), rfl, q, none, rfl, ?_, nofun, fun _ dd => ?_⟩
      · have := DGet.k (k := .inr "key") eq
        exact this
      · exact kx nofun H4 v c dd (f1.trans (FrX.same S4)) (S4 _ _ hh) (T1.ext S4)
end
end RD

/-! RDDeeds: deeds that are drawn. -/
namespace RD
open PySem PySem.Spec PyProof.Rows L2
section
variable {P : Program} {w : World} {K : PySem.W.Frag} {mg : Str → Option Value} {base : Heap}
/-- how many draws -/
def du : Nat → Nat
  | 0 => 24
  | n + 1 => 3 + 3 * (du n + 2)
def dt : Nat → Nat
  | 0 => 7
  | n + 1 => du n + 2
theorem du_eq (n : Nat) : du n = 3 + 3 * dt n := by cases n <;> rfl
theorem dt_ge (n : Nat) : 7 ≤ dt n := by
  cases n with
  | zero => decide
  | succ n =>
    show 7 ≤ du n + 2
    rw [du_eq]
    have : ∀ n, 2 ≤ dt n := fun n => by cases n with
      | zero => decide
      | succ n => show 2 ≤ du n + 2; omega
    have := this n
    omega
/-- what is new since H0, and the objects of S -/
def newer (S : List Addr) (H0 H : Hp) : Hp := fun b => if H0 b = none ∨ b ∈ S then H b else none
/-- .. without R -/
def nwo (S : List Addr) (H0 : Hp) (R : Addr) (H : Hp) : Hp := fun b => if (H0 b = none ∨ b ∈ S) ∧ b ≠ R then H b else none
theorem nw_some {S : List Addr} {H0 H : Hp} {R b : Addr} {o : HO} (h : H b = some o) (n : H0 b = none ∨ b ∈ S) (r : b ≠ R) : nwo S H0 R H b = some o := by
  unfold nwo
  rw [if_pos ⟨n, r⟩]
  exact h
theorem nw_get {S : List Addr} {H0 H : Hp} {R b : Addr} {o : HO} (h : nwo S H0 R H b = some o) : H b = some o ∧ (H0 b = none ∨ b ∈ S) ∧ b ≠ R := by
  unfold nwo at h
  split at h
  · rename_i c
    exact ⟨h, c.1, c.2⟩
  · cases h
theorem newer_some {S : List Addr} {H0 H : Hp} {b : Addr} {o : HO} (h : H b = some o) (n : H0 b = none ∨ b ∈ S) : newer S H0 H b = some o := by
  unfold newer
  rw [if_pos n]
  exact h
theorem newer_get {S : List Addr} {H0 H : Hp} {b : Addr} {o : HO} (h : newer S H0 H b = some o) : H b = some o ∧ (H0 b = none ∨ b ∈ S) := by
  unfold newer at h
  split at h
  · rename_i c
    exact ⟨h, c⟩
  · cases h
theorem nw_newer {S : List Addr} {H0 H : Hp} {R : Addr} : Same (nwo S H0 R H) (newer S H0 H) := fun b o h => let ⟨h1, h2, _⟩ := nw_get h; newer_some h1 h2
theorem nw_frm {S : List Addr} {H0 H H' : Hp} {R t : Addr} {o : HO} (f : Frm [t, R] H H') (ht : H0 t = some o) (hS : t ∉ S) : Same (nwo S H0 R H) (nwo S H0 R H') := fun b u h => by
  obtain ⟨h1, h2, h3⟩ := nw_get h
  have n : b ≠ t := fun z => h2.elim (fun h2 => by rw [z, ht] at h2; cases h2) (fun h2 => hS (z ▸ h2))
  exact nw_some (f _ _ h1 (by simp [n, h3])) h2 h3
def spDeeds (n : Nat) : Sp := fun vs H Q _ => ∃ (t c p tl cl : Addr) (ns : List Int) (place : Nat) (left : Int) (names rs : List Str) (sz : Str → Int) (L : List (Addr × Cor)) (d cc : Addr) (zs : List Str) (ms : List Nat), vs = [.ref t, .ref p, .ref tl, .ref cl, .int (n : Nat)] ∧ TapeAt H t c ns place left ∧ place + du n < 90000 ∧
  PlanAt H p names sz L d cc ∧ BareL H L ∧ Good names sz (cors L) ∧ rs.Perm names ∧ H tl = some (.lst (zs.map V.str)) ∧ H cl = some (.lst ((natL ms).map V.int)) ∧ Trip (cors L) rs zs ms ∧ zs.length + gr n ≤ 900 ∧
  ∀ (a : Addr) (val : V) (en : EndW) (zs' : List Str) (ms' : List Nat) place' left' H', Frm [t] H H' → DeedsAt (cors L) rs n (newer [tl, cl] H H') a val en zs ms zs' ms' → place' ≤ place + du n → TapeAt H' t c ns place' left' → Q (.ref a) H'
def spDeedsO : Nat → Sp
  | 0 => fun _ _ _ _ => False
  | n + 1 => spDeeds n
/-- the rows so far, what they lead to -/
structure DRows (n : Nat) (E : List Cor) (rs zs : List Str) (ms : List Nat) (S : List Addr) (H0 : Hp) (R : Addr) (rows : List Addr) (zf : Nat → List Str) (mf : Nat → List Nat) (H : Hp) (tl cl : Addr) : Prop where
  at_ : H R = some (.lst (rows.map V.ref))
  z0 : zf 0 = zs
  m0 : mf 0 = ms
  row : ∀ j r, rows[j]? = some r → RowAt (DeedsB E rs n) E rs (nwo S H0 R H) r (zf j) (mf j) (zf (j + 1)) (mf (j + 1))
  tl : nwo S H0 R H tl = some (.lst ((zf rows.length).map V.str))
  cl : nwo S H0 R H cl = some (.lst ((natL (mf rows.length)).map V.int))
theorem DRows.same {n : Nat} {E : List Cor} {rs zs : List Str} {ms : List Nat} {S : List Addr} {H0 : Hp} {t R : Addr} {rows : List Addr} {zf : Nat → List Str} {mf : Nat → List Nat} {H H' : Hp} {tl cl : Addr} {o : HO} (w : DRows n E rs zs ms S H0 R rows zf mf H tl cl) (f : Frm [t, R] H H') (ht : H0 t = some o) (hS : t ∉ S) (e : H' R = H R) : DRows n E rs zs ms S H0 R rows zf mf H' tl cl :=
  have fc := nw_frm f ht hS
  ⟨e.trans w.at_, w.z0, w.m0, fun j r hj => (w.row j r hj).mono (fun _ _ _ _ _ _ _ h => DeedsB.monoL (SameL.of fc) n h) (SameL.of fc), fc _ _ w.tl, fc _ _ w.cl⟩
theorem DRows.snoc {n : Nat} {E : List Cor} {rs zs : List Str} {ms : List Nat} {S : List Addr} {H0 : Hp} {t R r : Addr} {rows : List Addr} {zf : Nat → List Str} {mf : Nat → List Nat} {H H' : Hp} {tl cl tl' cl' : Addr} {z' : List Str} {m' : List Nat} {o : HO} (w : DRows n E rs zs ms S H0 R rows zf mf H tl cl) (f : Frm [t, R] H H') (ht : H0 t = some o) (hS : t ∉ S)
    (hR : H' R = some (.lst (rows.map V.ref ++ [V.ref r]))) (hrow : RowAt (DeedsB E rs n) E rs (nwo S H0 R H') r (zf rows.length) (mf rows.length) z' m') (h1 : nwo S H0 R H' tl' = some (.lst (z'.map V.str))) (h2 : nwo S H0 R H' cl' = some (.lst ((natL m').map V.int))) :
    DRows n E rs zs ms S H0 R (rows ++ [r]) (fun j => if j ≤ rows.length then zf j else z') (fun j => if j ≤ rows.length then mf j else m') H' tl' cl' := by
  have fc := nw_frm f ht hS
  have hl : (rows ++ [r]).length = rows.length + 1 := by simp
  refine ⟨by rw [hR, List.map_append]; rfl, ?_, ?_, fun j q hj => ?_, ?_, ?_⟩
  · show (if 0 ≤ rows.length then zf 0 else z') = zs
    rw [if_pos (Nat.zero_le _)]; exact w.z0
  · show (if 0 ≤ rows.length then mf 0 else m') = ms
    rw [if_pos (Nat.zero_le _)]; exact w.m0
  · show RowAt _ _ _ _ _ (if j ≤ rows.length then zf j else z') (if j ≤ rows.length then mf j else m') (if j + 1 ≤ rows.length then zf (j + 1) else z') (if j + 1 ≤ rows.length then mf (j + 1) else m')
    have hjl := (List.getElem?_eq_some_iff.mp hj).1
    rw [hl] at hjl
    by_cases c : j < rows.length
    · rw [if_pos (by omega), if_pos (by omega), if_pos (by omega), if_pos (by omega)]
      rw [List.getElem?_append_left c] at hj
      exact (w.row j q hj).mono (fun _ _ _ _ _ _ _ h => DeedsB.monoL (SameL.of fc) n h) (SameL.of fc)
    · have e : j = rows.length := by omega
      subst e
      rw [if_pos (by omega), if_pos (by omega), if_neg (by omega), if_neg (by omega)]
      rw [List.getElem?_append_right (by omega)] at hj
      simp at hj
      rw [← hj]
      exact hrow
  · show nwo S H0 R H' tl' = some (.lst ((if (rows ++ [r]).length ≤ rows.length then zf (rows ++ [r]).length else z').map V.str))
    rw [if_neg (by omega)]; exact h1
  · show nwo S H0 R H' cl' = some (.lst ((natL (if (rows ++ [r]).length ≤ rows.length then mf (rows ++ [r]).length else m')).map V.int))
    rw [if_neg (by omega)]; exact h2
theorem deeds_behind {E : List Cor} {rs : List Str} {G : Hp} {n : Nat} {a : Addr} {val : V} {en : EndW} {zs : List Str} {ms : List Nat} {zs' : List Str} {ms' : List Nat} (h : DeedsAt E rs n G a val en zs ms zs' ms') :
    ∃ rl bh tl cl, G a = some (.tup [.ref rl, val, .ref bh, .str en.word]) ∧ G bh = some (.tup [.ref tl, .ref cl]) ∧ G tl = some (.lst (zs'.map V.str)) ∧ G cl = some (.lst ((natL ms').map V.int)) := by
  rw [deedsAt_eq] at h
  obtain ⟨rl, bh, tl, cl, rows, zf, mf, h1, h2, h3, h4, h5, h6, h7, h8, h9, h10, h11, h12⟩ := h.ex
  exact ⟨rl, bh, tl, cl, h1, h7, h8, h9⟩
theorem and_of {b : Bool} {U : (Bool → Hp → Prop) → Prop} {Qc : Bool → Hp → Prop} {H : Hp} {c2 : Bool} (hU : ∀ Q, Q c2 H → U Q) (h : ∀ cc : Bool, (cc = true → b = true ∧ c2 = true) → Qc cc H) : if b = true then U Qc else Qc false H := by
  by_cases c : b = true
  · rw [if_pos c]
    exact hU _ (h c2 fun e => ⟨c, e⟩)
  · rw [if_neg c]
    exact h false (fun e => by cases e)
theorem natL_pos {ms : List Nat} (h : PosM ms) : PosL (natL ms) := fun c hc => by
  obtain ⟨m, hm, rfl⟩ := List.mem_map.mp hc
  have := h m hm
  omega
theorem natL_sum (ms : List Nat) : (natL ms).sum = ((ms.sum : Nat) : Int) := by
  unfold natL
  induction ms with
  | nil => rfl
  | cons a l ih => rw [List.map_cons, List.sum_cons, List.sum_cons, ih]; omega
theorem sc_deeds : FnScope ["_law_tape", "_law_plan", "_law_taken", "_law_calls", "_law_deep", "_law_rows", "_law_end", "_law_kept", "_law_turn", "_law_kind", "_law_way", "_law_many", "_law_inner", "_law_behind", "_law_value"] ["_law_tape", "_law_plan", "_law_taken", "_law_calls", "_law_deep"] (defScope s_deeds) := ⟨rfl, rfl, rfl, by decide +kernel, rfl, by decide +kernel, by decide +kernel⟩
theorem deeds_of (T : Says w K mg) {k n : Nat} (hk : 3 ≤ k) (de : C8.Cal P w K mg base k "_law_deeds" (spDeedsO n) []) : C8.Cal P w K mg base (k + 1) "_law_deeds" (spDeeds n) [] := by
  refine cal_of T.d_deeds T.g_deeds sc_deeds (fun vs H Q E h => ?_) (fun _ _ _ _ _ _ us hl => match us, hl with | [_, _, _, _, _], _ => rfl) (fun cdv A outer s H vs Q E hr h => ?_)
  · obtain ⟨_, _, _, _, _, _, _, _, _, _, _, _, _, _, _, _, rfl, _⟩ := h; rfl
  refine ⟨_, (pss_cons (ps_par (i := 5) (j := 6) (by rfl) sc_deeds.nd rfl rfl (by decide) rfl rfl (pa_cons (pe_lst pa_nil) (pa_cons (C8.pe_c (ok_pick T) hr (by omega) rfl (pa_cons (pv 0) (pa_cons (pe_lst (pa_cons pe_str (pa_cons pe_str (pa_cons pe_str (pa_cons pe_str (pa_cons pe_str pa_nil)))))) pa_nil))) pa_nil)) (by rfl))
    (pss_cons (ps_set (i := 7) sc_deeds.nd rfl (Or.inl rfl) (pe_tup (pa_cons (pv 2) (pa_cons (pv 3) pa_nil))))
    (pss_cons (ps_for PassesOwn.never rfl (pi_range1 (by rfl) T.z_range (pa_cons (pe_op op_add pe_int (C8.pe_c (ok_draw T) hr (by omega) rfl (pa_cons (pv 0) (pa_cons pe_int pa_nil)))) pa_nil)) (pg_name (i := 8) sc_deeds.nd rfl (Or.inl rfl)) (pss_cons (ps_set (i := 9) sc_deeds.nd rfl (Or.inl rfl) (C8.pe_c (ok_draw T) hr (by omega) rfl (pa_cons (pv 0) (pa_cons pe_int pa_nil))))
    (pss_one (ps_if (pt_cmpR op_lt (pv 9) pe_int (nomark _)) (pss_cons (ps_set (i := 10) sc_deeds.nd rfl (Or.inl rfl) (pe_slice (r := rSlL K) sl_list (C8.pe_c (ok_wandered T) hr (by omega) rfl (pa_cons (pv 0) (pa_cons (pv 1) (pa_cons (pe_ix (r := rIxL K) ix_list (pv 2) (pe_un un_neg pe_int) (fun _ _ => rfl)) (pa_cons (C8.pe_c (ok_draw T) hr (by omega) rfl (pa_cons (pv 0) (pa_cons pe_int pa_nil))) pa_nil))))) (po_some pe_int) po_none))
    (pss_cons (ps_expr (pe_bm PySem.F.plainAttrs_list PySem.F.slot_list_append PySem.F.type_list_append mt_append (pv 5) (pa_cons (pe_tup (pa_cons pe_str (pa_cons (pv 10) (pa_cons (C8.pe_c (ok_draw T) hr (by omega) rfl (pa_cons (pv 0) (pa_cons pe_int pa_nil))) pa_nil)))) pa_nil)))
    (pss_one (ps_par (i := 2) (j := 3) (by rfl) sc_deeds.nd rfl rfl (by decide) rfl rfl (pa_cons (pe_op op_cat (pv 2) (pv 10)) (pa_cons (pe_op op_cat (pv 3) (pe_op op_rep (pe_lst (pa_cons (pe_callB (id := "len") call_len_seq (by rfl) T.z_len PySem.boot_len (pa_cons (pv 10) pa_nil)) pa_nil)) (pe_callTy (T := "int") call_int1 (by rfl) T.z_int (by decide +kernel) (pa_cons (pe_cmpR (r := rNeD K) (op_neD (hu64 hr)) (pv 10) (pe_lst pa_nil) (nomark _)) pa_nil)))) pa_nil)) (by rfl))))) (pss_one (ps_if (PW.pt (pw_and (pt_cmpR op_eq (pv 9) pe_int (nomark _)) (pw_and1 (pt_cmpR op_gt (pe_callB (id := "len") call_len_seq (by rfl) T.z_len PySem.boot_len (pa_cons (pv 2) pa_nil)) pe_int (nomark _))))) (pss_cons (ps_set (i := 11) sc_deeds.nd rfl (Or.inl rfl) (pe_op op_add pe_int (C8.pe_c (ok_draw T) hr (by omega) rfl (pa_cons (pv 0) (pa_cons (pe_op op_sub (pe_callB (id := "len") call_len_seq (by rfl) T.z_len PySem.boot_len (pa_cons (pv 2) pa_nil)) pe_int) pa_nil)))))
    (pss_cons (ps_expr (pe_bm PySem.F.plainAttrs_list PySem.F.slot_list_append PySem.F.type_list_append mt_append (pv 5) (pa_cons (pe_tup (pa_cons pe_str (pa_cons (pv 11) (pa_cons (C8.pe_c (ok_draw T) hr (by omega) rfl (pa_cons (pv 0) (pa_cons pe_int pa_nil))) pa_nil)))) pa_nil)))
    (pss_one (ps_par (i := 2) (j := 3) (by rfl) sc_deeds.nd rfl rfl (by decide) rfl rfl (pa_cons (pe_slice (r := rSlL K) sl_list (pv 2) po_none (po_some (pe_op op_sub (pe_callB (id := "len") call_len_seq (by rfl) T.z_len PySem.boot_len (pa_cons (pv 2) pa_nil)) (pv 11)))) (pa_cons (C8.pe_c (ok_cut_calls T) hr (by omega) rfl (pa_cons (pv 3) (pa_cons (pv 11) pa_nil))) pa_nil)) (by rfl))))) (pss_one (ps_if (pt_cmpR op_eq (pv 9) pe_int (nomark _)) (pss_one (ps_expr (pe_bm PySem.F.plainAttrs_list PySem.F.slot_list_append PySem.F.type_list_append mt_append (pv 5) (pa_cons (pe_tup (pa_cons pe_str (pa_cons pe_str (pa_cons (C8.pe_c (ok_draw T) hr (by omega) rfl (pa_cons (pv 0) (pa_cons pe_int pa_nil))) pa_nil)))) pa_nil)))) (pss_one (ps_if (pt_cmpR op_gt (pv 4) pe_int (nomark _)) (pss_cons (ps_set (i := 12) sc_deeds.nd rfl (Or.inl rfl) (C8.pe_c de hr (Nat.le_refl _) rfl (pa_cons (pv 0) (pa_cons (pv 1) (pa_cons (pv 2) (pa_cons (pv 3) (pa_cons (pe_op op_sub (pv 4) pe_int) pa_nil)))))))
    (pss_cons (ps_expr (pe_bm PySem.F.plainAttrs_list PySem.F.slot_list_append PySem.F.type_list_append mt_append (pv 5) (pa_cons (pe_tup (pa_cons pe_str (pa_cons (pv 12) (pa_cons (C8.pe_c (ok_draw T) hr (by omega) rfl (pa_cons (pv 0) (pa_cons pe_int pa_nil))) pa_nil)))) pa_nil)))
    (pss_one (ps_asg (pe_ix (r := rIxT K) ix_tup (pv 12) pe_int (fun _ _ => rfl)) (pg_tup rfl (pgs_cons (pg_name (i := 2) sc_deeds.nd rfl (Or.inl rfl)) (pgs_cons (pg_name (i := 3) sc_deeds.nd rfl (Or.inl rfl)) pgs_nil))))))) pss_nil))))))))))
    (pss_cons (ps_set (i := 13) sc_deeds.nd rfl (Or.inl rfl) (pe_ifExp (pt_cmpR op_eq (pv 6) pe_str (nomark _)) (pe_tup (pa_cons (pv 2) (pa_cons (pv 3) pa_nil))) (pv 7)))
    (pss_cons (ps_set (i := 14) sc_deeds.nd rfl (Or.inl rfl) (pe_ifExp (pt_cmpR op_eq (pv 6) pe_str (nomark _)) (C8.pe_c (ok_pick T) hr (by omega) rfl (pa_cons (pv 0) (pa_cons (pe_lst (pa_cons pe_str (pa_cons pe_int (pa_cons pe_bl (pa_cons pe_non (pa_cons pe_str (pa_cons (pe_lst pa_nil) (pa_cons (pe_tup pa_nil) (pa_cons pe_dnewK (pa_cons pe_int (pa_cons (pe_tup (pa_cons pe_str pa_nil)) pa_nil))))))))))) pa_nil))) (pv 6)))
    (pss_one (ps_ret (pe_tup (pa_cons (pv 5) (pa_cons (pv 14) (pa_cons (pv 13) (pa_cons (pv 6) pa_nil)))))))))))), ?_⟩
  obtain ⟨t, c, p, tl, cl, ns, place, left, names, rs, sz, L, d, cc, zs, ms, rfl, hT, hpl, hP, hBL, hG, hperm, htl, hcl, tr, hlen, k'⟩ := h
  have hbig : sizeLine = 16777216 := sizeLine_eq
  have h0 : 0 ≤ sizeLine := by omega
  have hdu := du_eq n
  have hdt := dt_ge n
  refine ⟨h0, fun R hR => ?_⟩
  have nRt : R ≠ t := fun z => by rw [z, hT.dict] at hR; cases hR
  have nRc : R ≠ c := fun z => by rw [z, hT.cells] at hR; cases hR
  have S1 := Same.new (o := .lst []) hR
  refine ⟨_, rfl, by show 5 ≤ sizeLine; omega, fun el hel => ?_⟩
  have S2 := Same.new (o := .lst [.str "return", .str "return", .str "walk", .str "undo", .str "key"]) hel
  have T2 := hT.mono (S1.trans S2)
  refine ⟨t, c, el, ns, place, left, _, rfl, T2, by omega, upd_same, by simp, by show 5 ≤ 1000; decide, fun ex p3 l3 H3 hx hp3 fr3 T3 => ⟨_, _, rfl, ?_⟩⟩
  obtain ⟨en, hen⟩ : ∃ en : EndW, ex = .str en.word := by
    simp only [List.mem_cons, List.not_mem_nil, or_false] at hx
    rcases hx with rfl | rfl | rfl | rfl | rfl
    · exact ⟨.ret, rfl⟩
    · exact ⟨.ret, rfl⟩
    · exact ⟨.walk, rfl⟩
    · exact ⟨.undo, rfl⟩
    · exact ⟨.key, rfl⟩
  subst hen
  have F3 : Frm [t] H H3 := (Frm.of (S1.trans S2)).trans fr3
  have R3 : H3 R = some (.lst []) := fr3 _ _ (S2 _ _ upd_same) (by simp [nRt])
  refine ⟨_, rfl, _, rfl, by show 2 ≤ sizeLine; omega, fun kp hkp => ?_⟩
  have S4 := Same.new (o := .tup [.ref tl, .ref cl]) hkp
  have F4 := F3.trans (Frm.of S4)
  have R4 := S4 _ _ R3
  have kp4 : (upd H3 kp (.tup [.ref tl, .ref cl])) kp = some (.tup [.ref tl, .ref cl]) := upd_same
  have T4 := T3.mono S4
  generalize upd H3 kp (.tup [.ref tl, .ref cl]) = H4 at S4 F4 R4 kp4 T4
  have ntl : tl ≠ t := fun z => by rw [z, hT.dict] at htl; cases htl
  have ncl : cl ≠ t := fun z => by rw [z, hT.dict] at hcl; cases hcl
  have nkt : kp ≠ t := fun z => by rw [z, T4.dict] at kp4; cases kp4
  have nkR : kp ≠ R := fun z => by rw [z, R4] at kp4; cases kp4
  have htS : t ∉ [tl, cl] := by simp [Ne.symm ntl, Ne.symm ncl]
  have w0 : DRows n (cors L) rs zs ms [tl, cl] H R [] (fun _ => zs) (fun _ => ms) H4 tl cl :=
    ⟨R4, rfl, rfl, fun j r hj => by simp at hj, nw_some (F4 _ _ htl (by simp [ntl])) (.inr (by simp)) (ne_of_none htl hR), nw_some (F4 _ _ hcl (by simp [ncl])) (.inr (by simp)) (ne_of_none hcl hR)⟩
  refine ⟨_, rfl, t, c, ns, p3, l3, 3, rfl, T4, by omega, by omega, by omega, fun r p5 l5 H5 hr0 hr3 hp5 fr5 T5 => ⟨_, _, rfl, rfl, (1 + r), rfl, by omega, by omega, ?_⟩⟩
  obtain ⟨m, hm⟩ : ∃ m : Nat, 1 + r = (m : Int) := ⟨(1 + r).toNat, by omega⟩
  rw [hm, Int.toNat_natCast]
  have hm3 : m ≤ 3 := by omega
  have F5 := F4.trans fr5
  have w5 : DRows n (cors L) rs zs ms [tl, cl] H R [] (fun _ => zs) (fun _ => ms) H5 tl cl := w0.same (fr5.sub (by simp)) hT.dict htS (by rw [fr5 _ _ R4 (by simp [nRt]), R4])
  have kp5 := fr5 _ _ kp4 (by simp [nkt])
  refine for_it (walk_range (lo := 0) (n := m)) (fun i σ H' => Frm [t] H H' ∧ (∃ p' l', TapeAt H' t c ns p' l' ∧ p' ≤ place + 2 + i * dt n) ∧ H' kp = some (.tup [.ref tl, .ref cl]) ∧ ∃ rows zf mf tlA clA, rows.length ≤ i ∧ DRows n (cors L) rs zs ms [tl, cl] H R rows zf mf H' tlA clA ∧
      ∃ x8 x9 x10 x11 x12, σ = [some (.ref t), some (.ref p), some (.ref tlA), some (.ref clA), some (.int (n : Nat)), some (.ref R), some (.str en.word), some (.ref kp), x8, x9, x10, x11, x12, none, none])
    ⟨F5, ⟨p5, l5, T5, by omega⟩, kp5, [], _, _, tl, cl, Nat.le_refl _, w5, _, _, _, _, _, rfl⟩ (fun _ _ _ _ _ => trivial) ?_ ?_
  · rintro i x σ H1' H1 hi ⟨f1, ⟨p1, l1, T1, hp1⟩, kp1, rows, zf, mf, tlA, clA, hrl, dr, x8, x9, x10, x11, x12, rfl⟩ ⟨rfl, hx⟩
    have P1 : PlanAt H1 p names sz L d cc := hP.frm f1 hT
    have B1 : BareL H1 L := hBL.frm f1 hT
    have tr1 := rows_trip (g := gb n) (gb_ge n) (fun a val en z m z' m' h t => deedsB_trip n h t) dr.row (by rw [dr.z0, dr.m0]; exact tr) rows.length (Nat.le_refl _)
    rw [dr.z0] at tr1
    have hgr := gr_eq n
    have hmul : rows.length * gb n ≤ 2 * gb n := Nat.mul_le_mul_right _ (by omega)
    have hzl : (zf rows.length).length ≤ 900 := by omega
    have hpl1 : i * dt n ≤ 2 * dt n := Nat.mul_le_mul_right _ (by omega)
    have hsum := tr1.1.len
    have hpos : PosM (mf rows.length) := tr1.1.pos
    have hml := sum_ge hpos
    obtain ⟨la, hla⟩ : ∃ la, (zf rows.length).getLast? = some la := ⟨(zf rows.length).getLast tr1.1.ne, List.getLast?_eq_some_iff.mpr ⟨(zf rows.length).dropLast, (List.dropLast_concat_getLast tr1.1.ne).symm⟩⟩
    have hlan : la ∈ names := hperm.mem_iff.mp (tr1.1.mem la (List.mem_of_getLast? hla))
    have hal : atI ((zf rows.length).map V.str) (-1) = some (.str la) := by
      obtain ⟨ini, e⟩ := List.getLast?_eq_some_iff.mp hla
      rw [e, List.map_append]
      exact atI_last _ _
    obtain ⟨tl1, tlN, ntlR⟩ := nw_get dr.tl
    obtain ⟨cl1, clN, nclR⟩ := nw_get dr.cl
    have nkM : kp ∉ [t, R] := by simp [nkt, nkR]
    have ntlt : tlA ≠ t := fun z => by rw [z, T1.dict] at tl1; cases tl1
    have nclt : clA ≠ t := fun z => by rw [z, T1.dict] at cl1; cases cl1
    have ntlM : tlA ∉ [t, R] := by simp [ntlt, ntlR]
    have nclM : clA ∉ [t, R] := by simp [nclt, nclR]
    refine ⟨_, rfl, t, c, ns, p1, l1, 5, rfl, T1, by omega, by omega, by omega, fun kd p2 l2 H2 hk0 hk5 hp2 fr2 T2' => ?_⟩
    have f2 := f1.trans fr2
    have tl2 := fr2 _ _ tl1 (by simp [ntlt])
    have cl2 := fr2 _ _ cl1 (by simp [nclt])
    have R2 := fr2 _ _ dr.at_ (by simp [nRt])
    have g2 : Frm [t, R] H1 H2 := fr2.sub (by simp)
    refine ⟨_, rfl, _, _, rfl, rfl, _, rfl, ite2d (fun hkd => ?_) (fun hkd => ?_)⟩
    · -- go
      refine ⟨_, rfl, _, rfl, _, rfl, 1, rfl, tlA, _, -1, .str la, rfl, rfl, SqL.of tl2, hal, _, rfl, t, c, ns, p2, l2, 5, rfl, T2', by omega, by omega, by omega, fun sn p3' l3' H3' hs0 hs5 hp3' fr3' T3' => ?_⟩
      obtain ⟨sm, rfl⟩ := Int.eq_ofNat_of_zero_le hs0
      have f3' := f2.trans fr3'
      refine ⟨t, c, p, ns, p3', l3', names, sz, L, d, cc, la, sm, rfl, T3', by omega, by omega, hP.frm f3' hT, hBL.frm f3' hT, hG, hlan, fun q zw p4 l4 H4' fr4 hq hqn hz0 hzwl hch hmem hp4 T4' => ?_⟩
      refine ⟨1, rfl, q, _, rfl, SqL.of hq, fun wl hwl => ?_⟩
      rw [show ((1 : Int)) = ((1 : Nat) : Int) from rfl, cut_from, ← List.map_drop]
      obtain ⟨way, rfl⟩ : ∃ way, zw = la :: way := by
        cases zw with
        | nil => simp at hz0
        | cons a w => simp at hz0; exact ⟨w, by rw [hz0]⟩
      rw [show (la :: way).drop 1 = way from rfl]
      have S5 := Same.new (o := .lst (way.map V.str)) hwl
      have wl5 : (upd H4' wl (.lst (way.map V.str))) wl = some (.lst (way.map V.str)) := upd_same
      have T5' := T4'.mono S5
      have g5 : Frm [t, R] H1 (upd H4' wl (.lst (way.map V.str))) := (g2.trans ((fr3'.trans fr4).sub (by simp))).trans (Frm.of S5)
      have f5 : Frm [t] H (upd H4' wl (.lst (way.map V.str))) := (f3'.trans fr4).trans (Frm.of S5)
      have R5 := S5 _ _ ((fr3'.trans fr4) _ _ R2 (by simp [nRt]))
      generalize upd H4' wl (.lst (way.map V.str)) = H5' at S5 wl5 T5' g5 f5 R5
      refine ⟨_, rfl, tyList R5, _, rfl, _, rfl, t, c, ns, p4, l4, 2, rfl, T5', by omega, by omega, by omega, fun wk p6 l6 H6 hw0 hw2 hp6 fr6 T6 => ?_⟩
      obtain ⟨kk, rfl⟩ := Int.eq_ofNat_of_zero_le hw0
      refine ⟨by show 3 ≤ sizeLine; omega, fun rw_ hrw => ?_⟩
      have S7 := Same.new (o := .tup [.str "go", .ref wl, .int (kk : Nat)]) hrw
      have R6 := fr6 _ _ R5 (by simp [nRt])
      have R7 := S7 _ _ R6
      have nwR : rw_ ≠ R := fun z => by rw [z, R6] at hrw; cases hrw
      refine ⟨R, _, _, rfl, rfl, R7, by rw [List.length_map]; omega, ?_⟩
      have nwlt : wl ≠ t := fun z => by rw [z, T5'.dict] at wl5; cases wl5
      have hwl0 : H wl = none := (f3'.trans fr4).free hwl (by simp [nwlt])
      have nwlR : wl ≠ R := Ne.symm (ne_of_none ((fr3'.trans fr4) _ _ R2 (by simp [nRt])) hwl)
      have nwt : rw_ ≠ t := fun z => by rw [z, T6.dict] at hrw; cases hrw
      have hrw0 : H rw_ = none := (f5.trans fr6).free hrw (by simp [nwt])
      have T7 := T6.mono S7
      have f7 : Frm [t] H (upd H6 rw_ (.tup [.str "go", .ref wl, .int (kk : Nat)])) := (f5.trans fr6).trans (Frm.of S7)
      have g7 : Frm [t, R] H1 (upd H6 rw_ (.tup [.str "go", .ref wl, .int (kk : Nat)])) := (g5.trans (fr6.sub (by simp))).trans (Frm.of S7)
      have wl7 := S7 _ _ (fr6 _ _ wl5 (by simp [nwlt]))
      have row7 : (upd H6 rw_ (.tup [.str "go", .ref wl, .int (kk : Nat)])) rw_ = some (.tup [.str "go", .ref wl, .int (kk : Nat)]) := upd_same
      generalize upd H6 rw_ (.tup [.str "go", .ref wl, .int (kk : Nat)]) = H7 at S7 R7 T7 f7 g7 wl7 row7 ⊢
      have f8 : Frm [t] H (upd H7 R (.lst (rows.map V.ref ++ [.ref rw_]))) := f7.mut hR
      have g8 : Frm [t, R] H1 (upd H7 R (.lst (rows.map V.ref ++ [.ref rw_]))) := g7.put (by simp)
      have T8 : TapeAt (upd H7 R (.lst (rows.map V.ref ++ [.ref rw_]))) t c ns p6 l6 := T7.keep nRt nRc
      have R8 : (upd H7 R (.lst (rows.map V.ref ++ [.ref rw_]))) R = some (.lst (rows.map V.ref ++ [.ref rw_])) := upd_same
      have row8 : (upd H7 R (.lst (rows.map V.ref ++ [.ref rw_]))) rw_ = some (.tup [.str "go", .ref wl, .int (kk : Nat)]) := by rw [upd_ne nwR]; exact row7
      have wl8 : (upd H7 R (.lst (rows.map V.ref ++ [.ref rw_]))) wl = some (.lst (way.map V.str)) := by rw [upd_ne nwlR]; exact wl7
      generalize upd H7 R (.lst (rows.map V.ref ++ [.ref rw_])) = H8 at f8 g8 T8 R8 row8 wl8 ⊢
      have tl8 := g8 _ _ tl1 ntlM
      have cl8 := g8 _ _ cl1 nclM
      have hwlen : way.length ≤ 4 := by rw [List.length_cons] at hzwl; omega
      have hchw : Chain (cors L) (la :: way) := hch
      have hwm : ∀ z ∈ way, z ∈ rs := fun z hz => hperm.mem_iff.mpr (hmem z (.tail _ hz))
      have hwn : ∀ z ∈ way, nameB z = true := fun z hz => hG.nm.nm z (hmem z (.tail _ hz))
      refine ⟨_, rfl, _, rfl, tlA, wl, _, _, rfl, rfl, tl8, wl8, by rw [List.length_map, List.length_map]; omega, fun t9 ht9 => ?_⟩
      rw [← List.map_append]
      have S9 := Same.new (o := .lst ((zf rows.length ++ way).map V.str)) ht9
      have t9a : (upd H8 t9 (.lst ((zf rows.length ++ way).map V.str))) t9 = some (.lst ((zf rows.length ++ way).map V.str)) := upd_same
      have nt9 : t9 ≠ R := Ne.symm (ne_of_none R8 ht9)
      have ht90 : H t9 = none := f8.free ht9 (by simp [Ne.symm (ne_of_none T8.dict ht9)])
      generalize upd H8 t9 (.lst ((zf rows.length ++ way).map V.str)) = H9 at S9 t9a ⊢
      refine ⟨_, rfl, _, rfl, wl, _, rfl, .inl (SqL.of (S9 _ _ wl8)), by show 1 ≤ sizeLine; omega, fun l1 hl1 => ?_⟩
      rw [List.length_map]
      have S10 := Same.new (o := .lst [V.int (way.length : Nat)]) hl1
      have l1a : (upd H9 l1 (.lst [V.int (way.length : Nat)])) l1 = some (.lst [V.int (way.length : Nat)]) := upd_same
      generalize upd H9 l1 (.lst [V.int (way.length : Nat)]) = H10 at S10 l1a ⊢
      refine ⟨_, rfl, h0, fun l2 hl2 => ?_⟩
      have S11 := Same.new (o := .lst []) hl2
      have S8_11 := (S9.trans S10).trans S11
      refine ⟨.list (way.map PyData.str), .list (([] : List Str).map PyData.str), .lst (SqL.of (S8_11 _ _ wl8)) (strs_dp way), .lst (SqL.of upd_same) .nil, strs_shapedL hwn, rfl, ?_⟩
      rw [strs_eqvL]
      generalize upd H10 l2 (.lst []) = H11 at S11 S8_11 ⊢
      refine .inr ⟨_, rfl, ?_⟩
      refine ⟨l1, _, _, rfl, rfl, S11 _ _ l1a, by split <;> omega, by split <;> omega, ?_, fun l3 hl3 => ?_⟩
      · show 1 * _ ≤ sizeLine
        split <;> simp <;> omega
      have el3 : (List.replicate (if (!decide (way = [])) = true then ((1 : Nat) : Int) else 0).toNat [V.int (way.length : Nat)]).flatten = (if way = [] then [] else natL [way.length]).map V.int := by
        by_cases c0 : way = []
        · rw [if_pos c0, decide_eq_true c0]; rfl
        · rw [if_neg c0, decide_eq_false c0]; rfl
      rw [el3]
      have S12 := Same.new (o := .lst ((if way = [] then [] else natL [way.length]).map V.int)) hl3
      have l3a : (upd H11 l3 (.lst ((if way = [] then [] else natL [way.length]).map V.int))) l3 = some (.lst ((if way = [] then [] else natL [way.length]).map V.int)) := upd_same
      have S8_12 := S8_11.trans S12
      generalize upd H11 l3 (.lst ((if way = [] then [] else natL [way.length]).map V.int)) = H12 at S12 l3a S8_12 ⊢
      refine ⟨clA, l3, _, _, rfl, rfl, S8_12 _ _ cl8, l3a, ?_, fun c9 hc9 => ⟨_, _, rfl, ?_⟩⟩
      · rw [List.length_map, List.length_map]
        have : (natL (mf rows.length)).length = (mf rows.length).length := by simp [natL]
        have : (if way = [] then [] else natL [way.length]).length ≤ 1 := by split <;> simp [natL]
        omega
      have em : (natL (mf rows.length)).map V.int ++ (if way = [] then [] else natL [way.length]).map V.int = (natL (addM (mf rows.length) way)).map V.int := by
        unfold addM
        by_cases c0 : way = []
        · rw [if_pos c0, if_pos c0]; simp
        · rw [if_neg c0, if_neg c0]; simp [natL]
      rw [em]
      have S13 := S8_12.then_ (o := .lst ((natL (addM (mf rows.length) way)).map V.int)) hc9
      have c9a : (upd H12 c9 (.lst ((natL (addM (mf rows.length) way)).map V.int))) c9 = some (.lst ((natL (addM (mf rows.length) way)).map V.int)) := upd_same
      have nc9 : c9 ≠ R := Ne.symm (ne_of_none (S8_12 _ _ R8) hc9)
      have hc90 : H c9 = none := (f8.trans (Frm.of S8_12)).free hc9 (by simp [Ne.symm (ne_of_none (S8_12 _ _ T8.dict) hc9)])
      have S9_13 : Same H9 (upd H12 c9 (.lst ((natL (addM (mf rows.length) way)).map V.int))) := ((S10.trans S11).trans S12).then_ hc9
      generalize upd H12 c9 (.lst ((natL (addM (mf rows.length) way)).map V.int)) = H13 at S13 c9a S9_13 ⊢
      refine ⟨f8.trans (Frm.of S13), ⟨p6, l6, T8.mono S13, ?_⟩, S13 _ _ (g8 _ _ kp1 nkM), rows ++ [rw_], _, _, t9, c9, by simp; omega, dr.snoc (z' := zf rows.length ++ way) (m' := addM (mf rows.length) way) (g8.trans (Frm.of S13)) hT.dict htS (S13 _ _ R8) ?_ (nw_some (S9_13 _ _ t9a) (.inl ht90) nt9) (nw_some c9a (.inl hc90) nc9), _, _, _, _, _, rfl⟩
      · rw [Nat.succ_mul]
        omega
      · exact .go (by omega) (nw_some (S13 _ _ row8) (.inl hrw0) nwR) (nw_some (S13 _ _ wl8) (.inl hwl0) nwlR) hla hchw hwm hwlen
    · refine ⟨_, rfl, rfl, _, rfl, ?_⟩
      refine and_of (U := fun Q => tTest _ _ _ Q) (fun Q q => ⟨_, rfl, tlA, _, rfl, .inl (SqL.of tl2), _, _, rfl, rfl, _, rfl, q⟩) (fun cq hcc => ?_)
      refine ite2 (fun hc => ?_) (fun hc => ?_)
      · -- undo
        obtain ⟨_, hc2⟩ := hcc hc
        have hlz : 1 < (zf rows.length).length := by
          have := of_decide_eq_true hc2
          rw [List.length_map] at this
          omega
        refine ⟨_, rfl, _, rfl, tlA, _, rfl, .inl (SqL.of tl2), _, _, rfl, rfl, ?_⟩
        rw [List.length_map]
        refine ⟨t, c, ns, p2, l2, _, rfl, T2', by omega, by omega, by omega, fun dr0 p3' l3' H3' hm0 hm1 hp3' fr3' T3' => ⟨_, _, rfl, rfl, ?_⟩⟩
        obtain ⟨dn, rfl⟩ := Int.eq_ofNat_of_zero_le hm0
        show gName 11 (V.int ((1 + dn : Nat) : Int)) _ _ _
        obtain ⟨my, hmy⟩ : ∃ my : Nat, 1 + dn = my := ⟨_, rfl⟩
        rw [hmy]
        have hmy1 : 1 ≤ my := by omega
        have hmy2 : my ≤ (mf rows.length).sum := by omega
        have f3' := f2.trans fr3'
        have R3' := fr3' _ _ R2 (by simp [nRt])
        refine ⟨_, rfl, tyList R3', _, rfl, _, rfl, t, c, ns, p3', l3', 2, rfl, T3', by omega, by omega, by omega, fun wk p6 l6 H6 hw0 hw2 hp6 fr6 T6 => ?_⟩
        obtain ⟨kk, rfl⟩ := Int.eq_ofNat_of_zero_le hw0
        refine ⟨by show 3 ≤ sizeLine; omega, fun rw_ hrw => ?_⟩
        have S7 := Same.new (o := .tup [.str "undo", .int (my : Nat), .int (kk : Nat)]) hrw
        have R6 := fr6 _ _ R3' (by simp [nRt])
        have R7 := S7 _ _ R6
        have nwR : rw_ ≠ R := fun z => by rw [z, R6] at hrw; cases hrw
        refine ⟨R, _, _, rfl, rfl, R7, by rw [List.length_map]; omega, ?_⟩
        have nwt : rw_ ≠ t := fun z => by rw [z, T6.dict] at hrw; cases hrw
        have hrw0 : H rw_ = none := (f3'.trans fr6).free hrw (by simp [nwt])
        have T7 := T6.mono S7
        have f7 : Frm [t] H (upd H6 rw_ (.tup [.str "undo", .int (my : Nat), .int (kk : Nat)])) := (f3'.trans fr6).trans (Frm.of S7)
        have g7 : Frm [t, R] H1 (upd H6 rw_ (.tup [.str "undo", .int (my : Nat), .int (kk : Nat)])) := (g2.trans ((fr3'.trans fr6).sub (by simp))).trans (Frm.of S7)
        have row7 : (upd H6 rw_ (.tup [.str "undo", .int (my : Nat), .int (kk : Nat)])) rw_ = some (.tup [.str "undo", .int (my : Nat), .int (kk : Nat)]) := upd_same
        generalize upd H6 rw_ (.tup [.str "undo", .int (my : Nat), .int (kk : Nat)]) = H7 at S7 R7 T7 f7 g7 row7 ⊢
        have f8 : Frm [t] H (upd H7 R (.lst (rows.map V.ref ++ [.ref rw_]))) := f7.mut hR
        have g8 : Frm [t, R] H1 (upd H7 R (.lst (rows.map V.ref ++ [.ref rw_]))) := g7.put (by simp)
        have T8 : TapeAt (upd H7 R (.lst (rows.map V.ref ++ [.ref rw_]))) t c ns p6 l6 := T7.keep nRt nRc
        have R8 : (upd H7 R (.lst (rows.map V.ref ++ [.ref rw_]))) R = some (.lst (rows.map V.ref ++ [.ref rw_])) := upd_same
        have row8 : (upd H7 R (.lst (rows.map V.ref ++ [.ref rw_]))) rw_ = some (.tup [.str "undo", .int (my : Nat), .int (kk : Nat)]) := by rw [upd_ne nwR]; exact row7
        generalize upd H7 R (.lst (rows.map V.ref ++ [.ref rw_])) = H8 at f8 g8 T8 R8 row8 ⊢
        have tl8 := g8 _ _ tl1 ntlM
        have cl8 := g8 _ _ cl1 nclM
        refine ⟨_, rfl, _, rfl, tlA, _, rfl, .inl (SqL.of tl8), _, rfl, _, _, rfl, rfl, (((zf rows.length).length - my : Nat) : Int), ?_, tlA, _, rfl, SqL.of tl8, fun t9 ht9 => ?_⟩
        · rw [List.length_map]
          show V.int _ = V.int _
          congr 1
          omega
        rw [cut_to, ← List.map_take]
        have S9 := Same.new (o := .lst (((zf rows.length).take ((zf rows.length).length - my)).map V.str)) ht9
        have t9a : (upd H8 t9 (.lst (((zf rows.length).take ((zf rows.length).length - my)).map V.str))) t9 = some (.lst (((zf rows.length).take ((zf rows.length).length - my)).map V.str)) := upd_same
        have nt9 : t9 ≠ R := Ne.symm (ne_of_none R8 ht9)
        have ht90 : H t9 = none := f8.free ht9 (by simp [Ne.symm (ne_of_none T8.dict ht9)])
        generalize upd H8 t9 (.lst (((zf rows.length).take ((zf rows.length).length - my)).map V.str)) = H9 at S9 t9a ⊢
        refine ⟨_, rfl, _, rfl, clA, natL (mf rows.length), my, rfl, S9 _ _ cl8, natL_pos hpos, by rw [natL_sum]; omega, by omega, by simp [natL]; omega, fun c9 H13 hc9 S10 c9a => ⟨_, _, rfl, ?_⟩⟩
        rw [cutN_nat hpos my hmy2] at c9a
        have S13 := S9.trans S10
        have nc9 : c9 ≠ R := Ne.symm (ne_of_none (S9 _ _ R8) hc9)
        have hc90 : H c9 = none := (f8.trans (Frm.of S9)).free hc9 (by simp [Ne.symm (ne_of_none (S9 _ _ T8.dict) hc9)])
        refine ⟨f8.trans (Frm.of S13), ⟨p6, l6, T8.mono S13, ?_⟩, S13 _ _ (g8 _ _ kp1 nkM), rows ++ [rw_], _, _, t9, c9, by simp; omega, dr.snoc (z' := (zf rows.length).take ((zf rows.length).length - my)) (m' := cutM my (mf rows.length)) (g8.trans (Frm.of S13)) hT.dict htS (S13 _ _ R8) ?_ (nw_some (S10 _ _ t9a) (.inl ht90) nt9) (nw_some c9a (.inl hc90) nc9), _, _, _, _, _, rfl⟩
        · rw [Nat.succ_mul]
          omega
        · exact .undo (by omega) (nw_some (S13 _ _ row8) (.inl hrw0) nwR) hmy1 hmy2
      · refine ⟨_, rfl, rfl, _, rfl, ite2 (fun hk3 => ?_) (fun hk3 => ?_)⟩
        · -- caught
          refine ⟨_, rfl, tyList R2, _, rfl, t, c, ns, p2, l2, 2, rfl, T2', by omega, by omega, by omega, fun wk p6 l6 H6 hw0 hw2 hp6 fr6 T6 => ?_⟩
          obtain ⟨kk, rfl⟩ := Int.eq_ofNat_of_zero_le hw0
          refine ⟨by show 3 ≤ sizeLine; omega, fun rw_ hrw => ?_⟩
          have S7 := Same.new (o := .tup [.str "caught", .str "none at all", .int (kk : Nat)]) hrw
          have R6 := fr6 _ _ R2 (by simp [nRt])
          have R7 := S7 _ _ R6
          have nwR : rw_ ≠ R := fun z => by rw [z, R6] at hrw; cases hrw
          refine ⟨R, _, _, rfl, rfl, R7, by rw [List.length_map]; omega, ?_⟩
          have nwt : rw_ ≠ t := fun z => by rw [z, T6.dict] at hrw; cases hrw
          have hrw0 : H rw_ = none := (f2.trans fr6).free hrw (by simp [nwt])
          have T7 := T6.mono S7
          have f7 : Frm [t] H (upd H6 rw_ (.tup [.str "caught", .str "none at all", .int (kk : Nat)])) := (f2.trans fr6).trans (Frm.of S7)
          have g7 : Frm [t, R] H1 (upd H6 rw_ (.tup [.str "caught", .str "none at all", .int (kk : Nat)])) := (g2.trans (fr6.sub (by simp))).trans (Frm.of S7)
          have row7 : (upd H6 rw_ (.tup [.str "caught", .str "none at all", .int (kk : Nat)])) rw_ = some (.tup [.str "caught", .str "none at all", .int (kk : Nat)]) := upd_same
          generalize upd H6 rw_ (.tup [.str "caught", .str "none at all", .int (kk : Nat)]) = H7 at S7 R7 T7 f7 g7 row7 ⊢
          have f8 : Frm [t] H (upd H7 R (.lst (rows.map V.ref ++ [.ref rw_]))) := f7.mut hR
          have g8 : Frm [t, R] H1 (upd H7 R (.lst (rows.map V.ref ++ [.ref rw_]))) := g7.put (by simp)
          have T8 : TapeAt (upd H7 R (.lst (rows.map V.ref ++ [.ref rw_]))) t c ns p6 l6 := T7.keep nRt nRc
          have R8 : (upd H7 R (.lst (rows.map V.ref ++ [.ref rw_]))) R = some (.lst (rows.map V.ref ++ [.ref rw_])) := upd_same
          have row8 : (upd H7 R (.lst (rows.map V.ref ++ [.ref rw_]))) rw_ = some (.tup [.str "caught", .str "none at all", .int (kk : Nat)]) := by rw [upd_ne nwR]; exact row7
          generalize upd H7 R (.lst (rows.map V.ref ++ [.ref rw_])) = H8 at f8 g8 T8 R8 row8 ⊢
          have tl8 := g8 _ _ tl1 ntlM
          have cl8 := g8 _ _ cl1 nclM
          refine ⟨f8, ⟨p6, l6, T8, ?_⟩, g8 _ _ kp1 nkM, rows ++ [rw_], _, _, tlA, clA, by simp; omega, dr.snoc (z' := zf rows.length) (m' := mf rows.length) g8 hT.dict htS R8 ?_ (nw_some tl8 tlN ntlR) (nw_some cl8 clN nclR), _, _, _, _, _, rfl⟩
          · rw [Nat.succ_mul]
            omega
          · exact .caught (by omega) (nw_some row8 (.inl hrw0) nwR)
        · cases n with
          | zero =>
            refine ⟨_, rfl, _, _, rfl, rfl, _, rfl, ite2d (fun hz => by exfalso; omega) (fun _ => ?_)⟩
            refine ⟨f2, ⟨p2, l2, T2', ?_⟩, fr2 _ _ kp1 (by simp [nkt]), rows, zf, mf, tlA, clA, by omega, dr.same g2 hT.dict htS (by rw [R2, dr.at_]), _, _, _, _, _, rfl⟩
            rw [Nat.succ_mul]
            omega
          | succ n =>
            refine ⟨_, rfl, _, _, rfl, rfl, _, rfl, ite2d (fun hz => ?_) (fun hz => by exfalso; omega)⟩
            refine ⟨_, rfl, _, rfl, _, rfl, _, rfl, _, rfl, _, _, rfl, rfl, ?_⟩
            have e1 : gb (n + 1) = gr n := rfl
            have e2 : gr (n + 1) = 3 * gr n := rfl
            have e3 : du (n + 1) = 3 + 3 * (du n + 2) := rfl
            have e4 : dt (n + 1) = du n + 2 := rfl
            refine ⟨t, c, p, tlA, clA, ns, p2, l2, names, rs, sz, L, d, cc, zf rows.length, mf rows.length, ?_, T2', by omega, hP.frm f2 hT, hBL.frm f2 hT, hG, hperm, tl2, cl2, tr1.1, by omega, fun a val2 en2 z1 m1 p3' l3' H3' fr3' hD hp3' T3' => ?_⟩
            · show [V.ref t, V.ref p, V.ref tlA, V.ref clA, V.int (((n + 1 : Nat) : Int) - 1)] = _
              rw [show (((n + 1 : Nat) : Int) - 1) = (n : Int) from by omega]
            obtain ⟨rl2, bh, tl', cl', hA, hbh, htl', hcl'⟩ := deeds_behind hD
            have f3' := f2.trans fr3'
            have R3' := fr3' _ _ R2 (by simp [nRt])
            -- what the inner deeds stand on is new, or the lists
            have isN : ∀ {b o}, newer [tlA, clA] H2 H3' b = some o → H3' b = some o ∧ (H b = none ∨ b ∈ [tl, cl]) ∧ b ≠ R ∧ b ≠ t := fun {b o} hb => by
              obtain ⟨b1, b2⟩ := newer_get hb
              rcases b2 with b2 | b2
              · have nb : b ≠ t := Ne.symm (ne_of_none T2'.dict b2)
                exact ⟨b1, .inl (f2.free b2 (by simp [nb])), Ne.symm (ne_of_none R2 b2), nb⟩
              · simp only [List.mem_cons, List.not_mem_nil, or_false] at b2
                rcases b2 with rfl | rfl
                · exact ⟨b1, tlN, ntlR, ntlt⟩
                · exact ⟨b1, clN, nclR, nclt⟩
            refine ⟨_, rfl, tyList R3', _, rfl, _, rfl, t, c, ns, p3', l3', 2, rfl, T3', by omega, by omega, by omega, fun wk p6 l6 H6 hw0 hw2 hp6 fr6 T6 => ?_⟩
            obtain ⟨kk, rfl⟩ := Int.eq_ofNat_of_zero_le hw0
            refine ⟨by show 3 ≤ sizeLine; omega, fun rw_ hrw => ?_⟩
            have S7 := Same.new (o := .tup [.str "attempt", .ref a, .int (kk : Nat)]) hrw
            have R6 := fr6 _ _ R3' (by simp [nRt])
            have R7 := S7 _ _ R6
            have nwR : rw_ ≠ R := fun z => by rw [z, R6] at hrw; cases hrw
            refine ⟨R, _, _, rfl, rfl, R7, by rw [List.length_map]; omega, ?_⟩
            have nwt : rw_ ≠ t := fun z => by rw [z, T6.dict] at hrw; cases hrw
            have hrw0 : H rw_ = none := (f3'.trans fr6).free hrw (by simp [nwt])
            have T7 := T6.mono S7
            have f7 : Frm [t] H (upd H6 rw_ (.tup [.str "attempt", .ref a, .int (kk : Nat)])) := (f3'.trans fr6).trans (Frm.of S7)
            have g37 : Frm [t, R] H3' (upd H6 rw_ (.tup [.str "attempt", .ref a, .int (kk : Nat)])) := (fr6.sub (by simp)).trans (Frm.of S7)
            have row7 : (upd H6 rw_ (.tup [.str "attempt", .ref a, .int (kk : Nat)])) rw_ = some (.tup [.str "attempt", .ref a, .int (kk : Nat)]) := upd_same
            generalize upd H6 rw_ (.tup [.str "attempt", .ref a, .int (kk : Nat)]) = H7 at S7 R7 T7 f7 g37 row7 ⊢
            have f8 : Frm [t] H (upd H7 R (.lst (rows.map V.ref ++ [.ref rw_]))) := f7.mut hR
            have g38 : Frm [t, R] H3' (upd H7 R (.lst (rows.map V.ref ++ [.ref rw_]))) := g37.put (by simp)
            have T8 : TapeAt (upd H7 R (.lst (rows.map V.ref ++ [.ref rw_]))) t c ns p6 l6 := T7.keep nRt nRc
            have R8 : (upd H7 R (.lst (rows.map V.ref ++ [.ref rw_]))) R = some (.lst (rows.map V.ref ++ [.ref rw_])) := upd_same
            have row8 : (upd H7 R (.lst (rows.map V.ref ++ [.ref rw_]))) rw_ = some (.tup [.str "attempt", .ref a, .int (kk : Nat)]) := by rw [upd_ne nwR]; exact row7
            generalize upd H7 R (.lst (rows.map V.ref ++ [.ref rw_])) = H8 at f8 g38 T8 R8 row8 ⊢
            have keep : ∀ {b o}, newer [tlA, clA] H2 H3' b = some o → nwo [tl, cl] H R H8 b = some o := fun {b o} hb => by
              obtain ⟨b1, b2, b3, b4⟩ := isN hb
              exact nw_some (g38 _ _ b1 (by simp [b3, b4])) b2 b3
            have g8 : Frm [t, R] H1 H8 := (g2.trans (fr3'.sub (by simp))).trans g38
            have a8 := (nw_get (keep hA)).1
            have b8 := (nw_get (keep hbh)).1
            refine ⟨_, rfl, a, _, 2, _, rfl, rfl, SqT.of a8, rfl, bh, _, rfl, SqT.of b8, rfl, _, _, rfl, _, _, rfl, rfl, ?_⟩
            refine ⟨f8, ⟨p6, l6, T8, ?_⟩, g8 _ _ kp1 nkM, rows ++ [rw_], _, _, tl', cl', by simp; omega, dr.snoc (z' := z1) (m' := m1) g8 hT.dict htS R8 ?_ (keep htl') (keep hcl'), _, _, _, _, _, rfl⟩
            · rw [Nat.succ_mul]
              omega
            · exact .attempt (by omega) (nw_some row8 (.inl hrw0) nwR) (DeedsAt.mono (fun b o hb => keep hb) n _ _ _ _ _ _ _ hD)
  · rintro σ H1 ⟨f1, ⟨p1, l1, T1, hp1⟩, kp1, rows, zf, mf, tlA, clA, hrl, dr, x8, x9, x10, x11, x12, rfl⟩
    obtain ⟨tl1, tlN, ntlR⟩ := nw_get dr.tl
    obtain ⟨cl1, clN, nclR⟩ := nw_get dr.cl
    have ntlt : tlA ≠ t := fun z => by rw [z, T1.dict] at tl1; cases tl1
    have nclt : clA ≠ t := fun z => by rw [z, T1.dict] at cl1; cases cl1
    have hpl1 : m * dt n ≤ 3 * dt n := Nat.mul_le_mul_right _ hm3
    have hkp0 : H kp = none := F3.free hkp (by simp [nkt])
    -- the end: what is returned stands
    have fin : ∀ (a bh tlB clB : Addr) (val : V) (zs' : List Str) (ms' : List Nat) (p' : Nat) (l' : Int) H', Frm [t] H1 H' → H a = none → H bh = none → H' a = some (.tup [.ref R, val, .ref bh, .str en.word]) → H' bh = some (.tup [.ref tlB, .ref clB]) → newer [tl, cl] H H' tlB = some (.lst (zs'.map V.str)) → newer [tl, cl] H H' clB = some (.lst ((natL ms').map V.int)) →
        ValOk (newer [tl, cl] H H') val → (en = .ret → zs' = zf rows.length ∧ ms' = mf rows.length) → (en ≠ .ret → zs' = zs ∧ ms' = ms ∧ val = .str en.word) → p' ≤ p1 + 1 → TapeAt H' t c ns p' l' → Q (.ref a) H' := fun a bh tlB clB val zs' ms' p' l' H' f ha0 hb0 ha hb h1 h2 hv hr1 hr2 hp' hT' => by
      have fc : Same (nwo [tl, cl] H R H1) (newer [tl, cl] H H') := fun b o hb => nw_newer _ _ (nw_frm (H := H1) (H' := H') (f.sub (by simp)) hT.dict htS _ _ hb)
      refine k' a val en zs' ms' p' l' H' (f1.trans f) ?_ (by omega) hT'
      rw [deedsAt_eq]
      exact ⟨R, bh, tlB, clB, rows, zf, mf, newer_some ha (.inl ha0), newer_some (f _ _ dr.at_ (by simp [nRt])) (.inl hR), by omega, dr.z0, dr.m0, fun j r hj => (dr.row j r hj).mono (fun _ _ _ _ _ _ _ h => DeedsB.monoL (SameL.of fc) n h) (SameL.of fc), newer_some hb (.inl hb0), h1, h2, hv, hr1, hr2⟩
    by_cases hen : en = .ret
    · have hw : en.word = "return" := by rw [hen]; rfl
      rw [hw]
      refine ⟨_, rfl, rfl, _, rfl, iteTe (by decide +kernel) ?_⟩
      refine ⟨_, rfl, _, rfl, by show 2 ≤ sizeLine; omega, fun bp hbp => ?_⟩
      have B1 := Same.new (o := .tup [.ref tlA, .ref clA]) hbp
      have b1 : (upd H1 bp (.tup [.ref tlA, .ref clA])) bp = some (.tup [.ref tlA, .ref clA]) := upd_same
      have nbt : bp ≠ t := Ne.symm (ne_of_none T1.dict hbp)
      have hbp0 : H bp = none := f1.free hbp (by simp [nbt])
      generalize upd H1 bp (.tup [.ref tlA, .ref clA]) = H2 at B1 b1 ⊢
      refine ⟨_, rfl, rfl, _, rfl, iteTe (by decide +kernel) ?_⟩
      refine ⟨_, rfl, h0, fun a1 ha1 => ⟨h0, fun a2 ha2 => fun a3 ha3 => ⟨by show 1 ≤ sizeLine; omega, fun a4 ha4 => ⟨by show 10 ≤ sizeLine; omega, fun vl hvl => ?_⟩⟩⟩⟩
      have E5 := Same.new (o := .lst [.str "return", .int 0, .bl false, .non, .str "", .ref a1, .ref a2, .ref a3, .int 1, .ref a4]) hvl
      have E4 := (Same.new (o := .tup [.str "return"]) ha4).trans E5
      have E3 := (Same.new (o := .dK []) ha3).trans E4
      have E2 := (Same.new (o := .tup []) ha2).trans E3
      have E1 := (Same.new (o := .lst []) ha1).trans E2
      have q1 := E2 _ _ (upd_same (o := .lst []))
      have q2 := E3 _ _ (upd_same (o := .tup []))
      have q3 := E4 _ _ (upd_same (o := .dK []))
      have q4 := E5 _ _ (upd_same (o := .tup [.str "return"]))
      have T7 := T1.mono (B1.trans E1)
      refine ⟨t, c, vl, ns, p1, l1, _, rfl, T7, by omega, upd_same, by simp, by show 10 ≤ 1000; decide, fun val p8 l8 H8 hval hp8 fr8 T8 => ?_⟩
      have F18 : Frm [t] H1 H8 := (Frm.of (B1.trans E1)).trans fr8
      have old : ∀ {b o}, H1 b = none → H8 b = some o → b ≠ t → newer [tl, cl] H H8 b = some o := fun hb ho hn => newer_some ho (.inl (f1.free hb (by simp [hn])))
      have nt1 : ∀ {b H'}, H' b = none → Same H1 H' → b ≠ t ∧ H1 b = none := fun {b H'} hb hs => ⟨Ne.symm (ne_of_none (hs _ _ T1.dict) hb), by
        cases e : H1 b with
        | none => rfl
        | some o => rw [hs _ _ e] at hb; cases hb⟩
      have s0 : Same H1 H2 := B1
      have s1 := s0.then_ (o := .lst []) ha1
      have s2 := s1.then_ (o := .tup []) ha2
      have s3 := s2.then_ (o := .dK []) ha3
      have m1 := nt1 ha1 s0
      have m2 := nt1 ha2 s1
      have m3 := nt1 ha3 s2
      have m4 := nt1 ha4 s3
      have hvo : ValOk (newer [tl, cl] H H8) val := by
        simp only [List.mem_cons, List.not_mem_nil, or_false] at hval
        rcases hval with rfl | rfl | rfl | rfl | rfl | rfl | rfl | rfl | rfl | rfl
        · exact .str _ (by decide +kernel)
        · exact .int 0 (by decide) (by decide)
        · exact .bl false
        · exact .non
        · exact .str _ (by decide +kernel)
        · exact .lst (old m1.2 (fr8 _ _ q1 (by simp [m1.1])) m1.1)
        · exact .tup (old m2.2 (fr8 _ _ q2 (by simp [m2.1])) m2.1)
        · exact .dic (old m3.2 (fr8 _ _ q3 (by simp [m3.1])) m3.1)
        · exact .int 1 (by decide) (by decide)
        · exact .word (old m4.2 (fr8 _ _ q4 (by simp [m4.1])) m4.1)
      refine ⟨_, rfl, _, rfl, _, rfl, _, rfl, by show 4 ≤ sizeLine; omega, fun a ha => ?_⟩
      have A9 := Same.new (o := .tup [.ref R, val, .ref bp, .str "return"]) ha
      have F19 := F18.trans (Frm.of A9)
      have nat : a ≠ t := Ne.symm (ne_of_none T8.dict ha)
      refine fin a bp tlA clA val (zf rows.length) (mf rows.length) p8 l8 _ F19 ((f1.trans F18).free ha (by simp [nat])) hbp0 (by rw [upd_same, hw]) (A9 _ _ (fr8 _ _ (E1 _ _ b1) (by simp [nbt]))) (newer_some (F19 _ _ tl1 (by simp [ntlt])) tlN) (newer_some (F19 _ _ cl1 (by simp [nclt])) clN) (hvo.mono (fun b o hb => ?_)) (fun _ => ⟨rfl, rfl⟩) (fun h => absurd hen h) (by omega) (T8.mono A9)
      obtain ⟨b1, b2⟩ := newer_get hb
      exact newer_some (A9 _ _ b1) b2
    · have hw : decide (V.str en.word = V.str "return") = false := by
        cases en with
        | ret => exact absurd rfl hen
        | walk => decide +kernel
        | undo => decide +kernel
        | key => decide +kernel
      refine ⟨_, rfl, rfl, _, rfl, iteFe hw ?_⟩
      refine ⟨_, rfl, ?_⟩
      refine ⟨_, rfl, rfl, _, rfl, iteFe hw ?_⟩
      refine ⟨_, rfl, ?_⟩
      refine ⟨_, rfl, _, rfl, _, rfl, _, rfl, by show 4 ≤ sizeLine; omega, fun a ha => ?_⟩
      have A9 := Same.new (o := .tup [.ref R, .str en.word, .ref kp, .str en.word]) ha
      have nat : a ≠ t := Ne.symm (ne_of_none T1.dict ha)
      have fA := f1.trans (Frm.of A9)
      refine fin a kp tl cl _ zs ms p1 l1 _ (Frm.of A9) (f1.free ha (by simp [nat])) hkp0 upd_same (A9 _ _ kp1) (newer_some (fA _ _ htl (by simp [ntl])) (.inr (by simp))) (newer_some (fA _ _ hcl (by simp [ncl])) (.inr (by simp))) (.str _ ?_) (fun h => absurd h hen) (fun _ => ⟨rfl, rfl, rfl⟩) (by omega) (T1.mono A9)
      cases en <;> decide +kernel
end
end RD

/-! RDLawC: a new logged house; whether a house is what it should be. -/
namespace RD
open PySem PySem.Spec PyProof.Rows L2
/-! ### traces compared -/
theorem rc_trace {X : Cx} (T : Says X.w X.K X.mg) : RcG X 3 (DIns (He.ga X.K "Trace") (TEq (He.ga X.K "Trace"))) := by
  obtain ⟨f, fd, ps, ds, hc, me, F, b, d⟩ := (okTrace_eq (P := X.prog) (base := X.base) T).ex
  cases d
  exact rcG_ins F me.at_ me.fn b pass0
theorem eqG_trace {X : Cx} (T : Says X.w X.K X.mg) : EqG X 3 (DIns (He.ga X.K "Trace") (TEq (He.ga X.K "Trace"))) :=
  (rc_trace T).eqG fun _ _ _ d => let ⟨a, b, _, _, _, _, hx, hy, _⟩ := d; ⟨a, b, hx, hy⟩
theorem mon_trace {C : Addr} : Mon (DIns C (TEq C)) := fun x y H H' e d => by
  obtain ⟨a, b, dx, dy, fs, gs, hx, hy, h1, h2, h3⟩ := d
  exact ⟨a, b, dx, dy, fs, gs, hx, hy, e _ _ h1, e _ _ h2, TEq.mon _ _ _ _ e h3⟩
theorem dins_trace {C : Addr} {H : Hp} {a c b : Addr} {f l : Str} {rs : List Str} {g : Str → Int} (hn : rs.Nodup) (h1 : TrcAt C H a b f l rs g) (h2 : TrcAt C H c b f l rs g) : DIns C (TEq C) (.ref a) (.ref c) H := by
  obtain ⟨dx, d, k, v1, v2, k1, k2, k3⟩ := id h1
  obtain ⟨dx', d', k', v1', v2', k1', k2', k3'⟩ := id h2
  exact ⟨a, c, dx, dx', _, _, rfl, rfl, k1, k1', b, f, l, rs, g, hn, h1, h2⟩
theorem Chain.steps {E : List Cor} {rs zs : List Str} (h : Chain E zs) (hc : Cors E rs) (hn : Names rs) (hm : ∀ z ∈ zs, z ∈ rs) : Steps zs := by
  refine ⟨fun z hz => hn.nm z (hm z hz), fun i a b ha hb e => ?_⟩
  subst e
  rcases h i a a ha hb with q | q
  · exact absurd (hc.lt _ q) (List.lt_irrefl _)
  · exact absurd (hc.lt _ q) (List.lt_irrefl _)
section
variable {P : Program} {w : World} {K : PySem.W.Frag} {mg : Str → Option Value} {base : Heap}
/-! ### _law_logged -/
def spLogged (K : PySem.W.Frag) : Sp := fun vs H Q _ => ∃ (b g : Addr) (pl : Str) (rs ds : List Str) (sz dv : Str → Int) (E : List Cor), vs = [.ref b, .str pl, .ref g] ∧ BldAt (He.ga K "Building") H b rs sz E ∧ pl ∈ rs ∧ H g = some (.dK (iD ds dv)) ∧ (ds = [] ∨ ds = abc) ∧ (∀ r ∈ ds, r ∈ rs) ∧ (∀ r ∈ ds, 0 ≤ dv r ∧ dv r ≤ sz r - 1) ∧
  ∀ h dx d v c H', H h = none → Same H H' → HsAt (He.ga K "LoggedHouse") H' h dx b d v c → HsIn H' d v c rs (fun r => if r ∈ ds then dv r else 0) [pl] [] → Q (.ref h) H'
theorem sc_logged : FnScope ["_law_building", "_law_place", "_law_begin_here"] ["_law_building", "_law_place", "_law_begin_here"] (defScope s_logged) := ⟨rfl, rfl, rfl, by decide +kernel, rfl, by decide +kernel, by decide +kernel⟩
theorem ok_logged (T : Says w K mg) : C8.Cal P w K mg base 7 "_law_logged" (spLogged K) [] := by
  refine cal_of T.d_logged T.g_logged sc_logged (fun vs H Q E h => ?_) (fun _ _ _ _ _ _ us hl => match us, hl with | [_, _, _], _ => rfl) (fun cdv A outer s H vs Q E hr h => ?_)
  · obtain ⟨_, _, _, _, _, _, _, _, rfl, _⟩ := h; rfl
  refine ⟨_, (pss_cons (ps_if (pt_cmpR (op_eq_dict0 (hu0 hr)) (pv 2) pe_dnewK (nomark _)) (pss_one (ps_ret (StX.pe_makeR T.mk_LoggedHouse (FnKR.r (kr_House0 T)) (hr.mono (by decide)) rfl T.g_LoggedHouse pass0 (pa_cons (pv 0) (pa_cons (pv 1) pa_nil))))) pss_nil)
    (pss_one (ps_ret (pe_makeK T.mk_LoggedHouse (kr_House3 T) hr (by decide) rfl T.g_LoggedHouse pass0 (pa_cons (pv 0) (pa_cons (pv 1) pa_nil)) (pk_cons (pe_dget (hu_of hr) (pv 2) pe_str (fun _ _ => rfl)) (pk_cons (pe_dget (hu_of hr) (pv 2) pe_str (fun _ _ => rfl)) (pk_cons (pe_dget (hu_of hr) (pv 2) pe_str (fun _ _ => rfl)) pk_nil))))))), ?_⟩
  obtain ⟨b, g, pl, rs, ds, sz, dv, Eb, rfl, hB, hpl, hg, hds, hdr, hdv, k⟩ := h
  have hbig : sizeLine = 16777216 := sizeLine_eq
  have fin : ∀ {H1 : Hp} {x dx d0 : Addr}, Same H H1 → H1 x = none → H1 dx = none → dx ≠ x → upd (upd H1 dx (.own x)) x (.ins (He.ga K "LoggedHouse") dx []) d0 = none →
      spHouse (He.ga K "Building") (He.ga K "LoggedHouse") ([.ref x, .ref b, .str pl] ++ [.ref d0]) (upd (upd (upd H1 dx (.own x)) x (.ins (He.ga K "LoggedHouse") dx [])) d0 (.dK (iD ds dv))) (fun v H2 => v = .non ∧ Q (.ref x) H2) E0 := fun {H1 x dx d0} s1 hx hdx hne hd0 => by
    have hd1 : H1 d0 = none := by
      by_cases e1 : d0 = x
      · rw [e1]; exact hx
      by_cases e2 : d0 = dx
      · rw [e2]; exact hdx
      rw [upd_ne e1, upd_ne e2] at hd0; exact hd0
    have nxd : x ≠ d0 := fun z => by rw [← z, upd_same] at hd0; cases hd0
    have S : Same H1 (upd (upd (upd H1 dx (.own x)) x (.ins (He.ga K "LoggedHouse") dx [])) d0 (.dK (iD ds dv))) := ((Same.new hdx).then_ (by rw [upd_ne (Ne.symm hne)]; exact hx)).then_ hd0
    refine ⟨x, b, pl, d0, dx, rs, sz, Eb, ds, dv, H1, rfl, by rw [upd_ne nxd, upd_same], S, hx, hd1, hB.mono s1, hpl, upd_same, hdr, hdv, fun d v c H' s' h1 h2 => ⟨rfl, k x dx d v c H' ?_ (s1.trans s') h1 h2⟩⟩
    cases e : H x with
    | none => rfl
    | some o => rw [s1 _ _ e] at hx; cases hx
  rcases hds with rfl | rfl
  · refine ⟨_, rfl, fun q hq => ⟨g, q, _, rfl, rfl, (Same.new hq) _ _ hg, upd_same, ?_⟩⟩
    refine ⟨_, rfl, iteT ?_⟩
    refine ⟨_, rfl, _, rfl, fun x dx hx hdx hne => ⟨rfl, fun d0 hd0 => ?_⟩⟩
    exact fin (Same.new hq) hx hdx hne hd0
  · refine ⟨_, rfl, fun q hq => ⟨g, q, _, rfl, rfl, (Same.new hq) _ _ hg, upd_same, ?_⟩⟩
    refine ⟨_, rfl, iteF ?_⟩
    have hg' := (Same.new (o := .dK []) hq) _ _ hg
    refine ⟨_, rfl, _, rfl, ?_⟩
    refine ⟨_, rfl, g, _, rfl, DGet.i (.inl hg') (by decide +kernel), _, rfl, g, _, rfl, DGet.i (.inl hg') (by decide +kernel), _, rfl, g, _, rfl, DGet.i (.inl hg') (by decide +kernel), ?_⟩
    refine ⟨rfl, fun x dx hx hdx hne => ⟨rfl, fun d0 hd0 => ?_⟩⟩
    exact fin (Same.new hq) hx hdx hne hd0
/-! ### _law_is_house -/
def spIsHouse (K : PySem.W.Frag) : Sp := fun vs H Q _ => ∃ (p b h g l : Addr) (names rs ds : List Str) (sz dv : Str → Int) (L : List (Addr × Cor)) (d' c' dx d v c : Addr) (E : List Cor) (zs : List Str) (cs : List Int), vs = [.ref p, .ref b, .ref h, .ref g, .ref l] ∧ PlanAt H p names sz L d' c' ∧ Names names ∧ rs.Perm names ∧
  BldAt (He.ga K "Building") H b rs sz E ∧ HsAt (He.ga K "LoggedHouse") H h dx b d v c ∧ HsIn H d v c rs (fun r => if r ∈ ds then dv r else 0) zs cs ∧ H g = some (.dK (iD ds dv)) ∧ (∀ r ∈ ds, 0 ≤ dv r ∧ dv r ≤ sz r - 1) ∧ H l = some (.lst (zs.map V.str)) ∧ Way rs zs ∧ Steps zs ∧ ∀ H', Same H H' → Q (.bl true) H'
theorem sc_is_house : FnScope ["_law_plan", "_law_building", "_law_house", "_law_begin_here", "_law_taken"] ["_law_plan", "_law_building", "_law_house", "_law_begin_here", "_law_taken"] (defScope s_is_house) := ⟨rfl, rfl, rfl, by decide +kernel, rfl, by decide +kernel, by decide +kernel⟩
theorem ok_is_house (T : Says w K mg) : C8.Cal P w K mg base 10 "_law_is_house" (spIsHouse K) [] := by
  refine cal_of T.d_is_house T.g_is_house sc_is_house (fun vs H Q E h => ?_) (fun _ _ _ _ _ _ us hl => match us, hl with | [_, _, _, _, _], _ => rfl) (fun cdv A outer s H vs Q E hr h => ?_)
  · obtain ⟨_, _, _, _, _, _, _, _, _, _, _, _, _, _, _, _, _, _, _, _, rfl, _⟩ := h; rfl
  refine ⟨_, (pss_cons (ps_if (PW.pt (pw_or (pt_cmpR (op_neM (okBuilding_eq T) T.kBuilding_ne T.kBuilding_mro hr (by decide)) (pe_pp (okHouse_building T) hr (by decide) (pv 2)) (pv 1) (nomark _)) (pw_or (pt_cmpR op_ne (pe_pp (okHouse_place T) hr (by decide) (pv 2)) (pe_ix (r := rIxL K) ix_list (pv 4) (pe_un un_neg pe_int) (fun _ _ => rfl)) (nomark _)) (pw_or1 (pt_cmpR op_ne (pe_pp (okHouse_step_count T) hr (by decide) (pv 2)) (pe_op op_sub (pe_callB (id := "len") call_len_seq (by rfl) T.z_len PySem.boot_len (pa_cons (pv 4) pa_nil)) pe_int) (nomark _)))))) (pss_one (ps_ret pe_bl)) pss_nil)
    (pss_cons (ps_if (PW.pt (pw_or (pt_cmpR (op_ne_dictA (hu0 hr)) (pe_pp (okHouse_dials T) hr (by decide) (pv 2)) (C8.pe_c (ok_shown T) hr (by decide) rfl (pa_cons (pv 0) (pa_cons (pv 3) (pa_cons (pv 4) pa_nil)))) (nomark _)) (pw_or1 (pt_cmpR (r := rNeD K) (op_neD (hu64 hr)) (pe_callTy (T := "list") call_list_of (by rfl) T.z_list (by decide +kernel) (pa_cons (pe_pp (okWalk_rooms T) hr (by decide) (pe_pp (okHouse_walk T) hr (by decide) (pv 2))) pa_nil)) (pv 4) (nomark _))))) (pss_one (ps_ret pe_bl)) pss_nil)
    (pss_one (ps_ret (pe_and (pe_cmpR (op_eqG (rc_trace T) (hr.mono (by decide))) (pe_pp (okHouse_trace T) hr (by decide) (pv 2)) (C8.pe_c (ok_traced T) hr (by decide) rfl (pa_cons (pv 0) (pa_cons (pv 1) (pa_cons (pv 4) pa_nil)))) (nomark _)) (pe_one (pe_cmpR op_eq (pe_callB (id := "len") (call_lenM (okWalk_len T) hr (by decide)) (by rfl) T.z_len PySem.boot_len (pa_cons (pe_pp (okHouse_walk T) hr (by decide) (pv 2)) pa_nil)) (pe_op op_sub (pe_callB (id := "len") call_len_seq (by rfl) T.z_len PySem.boot_len (pa_cons (pv 4) pa_nil)) pe_int) (nomark _)))))))), ?_⟩
  obtain ⟨p, b, h, g, l, names, rs, ds, sz, dv, L, d', c', dx, d, v, c, Eb, zs, cs, rfl, hP, hN, hperm, hB, hh, hI, hg, hdv, hl, hw, hs, k⟩ := h
  have hbig : sizeLine = 16777216 := sizeLine_eq
  obtain ⟨dxb, sB, pB, nB, vv1, vv2, vv3, LB, kvsB, hb1, hb2, hb3, hb4, hb5⟩ := hB.ex
  obtain ⟨la, hla⟩ : ∃ la, zs.getLast? = some la := ⟨zs.getLast hw.ne, List.getLast?_eq_some_iff.mpr ⟨zs.dropLast, (List.dropLast_concat_getLast hw.ne).symm⟩⟩
  have hal : atI (zs.map V.str) (-1) = some (.str la) := by
    obtain ⟨ini, rfl⟩ : ∃ ini, zs = ini ++ [la] := List.getLast?_eq_some_iff.mp hla
    rw [List.map_append]
    exact atI_last _ _
  refine ⟨_, rfl, h, dx, _, rfl, hh, h, dx, b, d, v, c, rfl, hh, _, rfl, b, b, dxb, dxb, _, _, rfl, rfl, hb1, hb1, b, rs, sz, Eb, rfl, hB, fun H1 s1 => ⟨true, rfl, ?_⟩⟩
  refine ⟨_, rfl, iteF ?_⟩
  refine ⟨_, rfl, h, dx, _, rfl, s1 _ _ hh, h, dx, b, d, v, c, zs, la, rfl, s1 _ _ hh, s1 _ _ hI.visited, hla, ?_⟩
  refine ⟨_, rfl, 1, rfl, l, _, -1, .str la, rfl, rfl, SqL.of (s1 _ _ hl), hal, ?_⟩
  refine ⟨rfl, _, rfl, iteFe (by simp [eqV]) ?_⟩
  refine ⟨_, rfl, h, dx, _, rfl, s1 _ _ hh, h, dx, b, d, v, c, zs, rfl, s1 _ _ hh, s1 _ _ hI.visited, _, rfl, l, _, rfl, .inl (SqL.of (s1 _ _ hl)), _, _, rfl, rfl, ?_⟩
  refine ⟨rfl, _, rfl, iteFe (by simp [eqV]) ?_⟩
  -- dials
  have hbg : ∀ r ∈ rs, 0 ≤ (if r ∈ ds then dv r else 0) ∧ (if r ∈ ds then dv r else 0) < sz r := fun r hr => by
    have h1 := hB.pos r hr
    by_cases e : r ∈ ds
    · rw [if_pos e]; have := hdv r e; omega
    · rw [if_neg e]; omega
  refine ⟨_, rfl, h, dx, _, rfl, s1 _ _ hh, h, dx, b, d, v, c, rs, sz, Eb, _, zs, cs, rfl, s1 _ _ hh, hI.mono s1, hB.mono s1, hw, hbg, fun q H2 s2 hq => ?_⟩
  have s12 := s1.trans s2
  refine ⟨_, rfl, _, rfl, _, rfl, p, g, l, zs, names, ds, dv, sz, L, d', c', rfl, hP.mono s12, s12 _ _ hg, s12 _ _ hl, hN, fun r hr => (hB.pos r (hperm.mem_iff.mpr hr)).1, fun q2 ys H3 hys s3 hq2 => ?_⟩
  have s13 := s12.trans s3
  refine ⟨q, q2, _, _, rfl, rfl, s3 _ _ hq, hq2, by rw [iD_len, iD_len, hperm.length_eq, hys.length_eq], fun pr hpr => ?_, ?_⟩
  · obtain ⟨r, hr1, rfl⟩ := List.mem_map.mp (show pr ∈ rs.map _ from hpr)
    exact ⟨iD_in (hys.mem_iff.mpr (hperm.mem_iff.mp hr1)), rfl⟩
  refine ⟨_, rfl, iteF ?_⟩
  refine ⟨_, rfl, h, dx, _, rfl, s13 _ _ hh, h, dx, b, d, v, c, zs, rfl, s13 _ _ hh, s13 _ _ hI.visited, hs, hw.ne, hw.few, fun wk H4 s4 hwk => ?_⟩
  have s14 := s13.trans s4
  obtain ⟨dxw, pw, ew, kw, w1, w2, w3⟩ := id hwk
  refine ⟨wk, dxw, _, rfl, w1, wk, zs, rfl, hwk, fun pw2 hpw2 => ?_⟩
  refine ⟨pw2, _, rfl, .inr (SqT.of hpw2), fun q3 hq3 => ?_⟩
  have s5 := s14.then_ (o := .lst (zs.map V.str)) hq3
  refine ⟨_, rfl, .list (zs.map PyData.str), .list (zs.map PyData.str), .lst (SqL.of upd_same) (strs_dp zs), .lst (SqL.of (s5 _ _ hl)) (strs_dp zs), strs_shapedL hs.nm, strs_shapedL hs.nm, ?_⟩
  rw [strs_eqvL, decide_eq_true rfl]
  refine ⟨_, rfl, iteF ?_⟩
  generalize upd H4 q3 (.lst (zs.map V.str)) = H5 at s5
  refine ⟨_, rfl, h, dx, _, rfl, s5 _ _ hh, h, dx, b, d, v, c, zs, rs, sz, Eb, rfl, s5 _ _ hh, s5 _ _ hI.visited, hB.mono s5, hw, fun t1 H6 f1 l1 s6 hf1 hl1 ht1 => ?_⟩
  have s16 := s5.trans s6
  refine ⟨_, rfl, _, rfl, _, rfl, p, b, l, zs, names, sz, L, d', c', rs, Eb, rfl, hP.mono s16, hB.mono s16, hperm, hN, s16 _ _ hl, hw, fun t2 H7 f2 l2 s7 hf2 hl2 ht2 => ?_⟩
  obtain rfl : f1 = f2 := Option.some.inj (hf1.symm.trans hf2)
  obtain rfl : l1 = l2 := Option.some.inj (hl1.symm.trans hl2)
  have s17 := s16.trans s7
  refine ⟨dins_trace hB.nm.nd (ht1.mono s7) ht2, fun H8 e8 => ?_⟩
  have s18 : Same H H8 := s17.trans e8
  refine ⟨_, rfl, iteT ?_⟩
  refine ⟨_, rfl, h, dx, _, rfl, s18 _ _ hh, h, dx, b, d, v, c, zs, rfl, s18 _ _ hh, s18 _ _ hI.visited, hs, hw.ne, hw.few, fun wk2 H9 s9 hwk2 => ?_⟩
  obtain ⟨dxw2, pw2, ew2, kw2, w21, w22, w23⟩ := id hwk2
  have s19 := s18.trans s9
  refine ⟨_, rfl, wk2, dxw2, _, rfl, w21, wk2, zs, rfl, hwk2, zs.length - 1, rfl, by have := hw.few; omega, ?_⟩
  refine ⟨_, rfl, l, _, rfl, .inl (SqL.of (s19 _ _ hl)), _, _, rfl, rfl, ?_⟩
  have hz1 : 1 ≤ zs.length := List.length_pos_iff.mpr hw.ne
  have e : (((zs.map V.str).length : Nat) : Int) - 1 = ((zs.length - 1 : Nat) : Int) := by rw [List.length_map]; omega
  show rEq (V.int ((zs.length - 1 : Nat) : Int)) (V.int ((((zs.map V.str).length : Nat) : Int) - 1)) H9 Q
  rw [e]
  refine ⟨rfl, ?_⟩
  rw [decide_eq_true rfl]
  exact k H9 s19
end
end RD

/-! RDLaw0: what the tape's changes leave. -/
namespace RD
open PySem PySem.Spec PyProof.Rows L2
open LamX (Tabs ExtN)
theorem nt_inv {C dx : Addr} {fs : List (Str × V)} {u : HO} (h : u = .ins C dx fs) : noTbl u := by rw [h]; exact nt_ins
theorem cor_ne_tape {H : Hp} {t c : Addr} {ns : List Int} {place : Nat} {left : Int} (hT : TapeAt H t c ns place left) {a : Addr} {o : HO} (h : H a = some o) (n : ∀ kvs, o ≠ .dK kvs) : a ∉ [t] := fun z => by
  rw [List.mem_singleton.mp z, hT.dict] at h
  exact n _ (Option.some.inj h).symm
theorem iD_ne_tape {H : Hp} {t c d : Addr} {ns : List Int} {place : Nat} {left : Int} {rs : List Str} {f : Str → Int} (hT : TapeAt H t c ns place left) (h : H d = some (.dK (iD rs f))) : d ∉ [t] := fun z => by
  rw [List.mem_singleton.mp z, hT.dict] at h
  injection h with h
  injection h with h
  unfold tapeD iD at h
  cases rs with
  | nil => simp at h
  | cons a l => simp at h
theorem rd_cutX {H : Hp} {a : Addr} {xs : List V} {M : List Addr} (h : Rd H a (.tup xs)) (n : a ∉ M) : Rd (cutX M H) a (.tup xs) := h.elim (fun h => .inl (cutX_some h n nt_tup)) (fun ⟨ob, h⟩ => .inr ⟨ob, cutX_some h n (fun _ z => by cases z)⟩)
theorem PlanAt.tape {H : Hp} {p d cc : Addr} {names : List Str} {sz : Str → Int} {L : List (Addr × Cor)} {t c : Addr} {ns : List Int} {place : Nat} {left : Int} (h : PlanAt H p names sz L d cc) (hT : TapeAt H t c ns place left) : PlanAt (cutX [t] H) p names sz L d cc :=
  ⟨cutX_some h.tup (cor_ne_tape hT h.tup (by simp)) nt_tup, cutX_some h.dict (iD_ne_tape hT h.dict) nt_dK, cutX_some h.cors.at_ (cor_ne_tape hT h.cors.at_ (by simp)) nt_lst, fun q hq => rd_cutX (h.cors.each q hq) (by
    have : q.1 ≠ t := rd_ne (h.cors.each q hq) hT.dict (by simp) (by simp)
    simp [this]), h.cors.few⟩
theorem BareL.tape {H : Hp} {L : List (Addr × Cor)} {t c : Addr} {ns : List Int} {place : Nat} {left : Int} (h : BareL H L) (hT : TapeAt H t c ns place left) : BareL (cutX [t] H) L := fun q hq => by
  have n : q.1 ≠ t := (h q hq).ne hT.dict (by simp [tapeD])
  obtain ⟨o, h1, h2⟩ := h q hq
  exact ⟨o, cutX_some h1 (by simp [n]) (fun _ z => by cases z), h2⟩
theorem tape_strs {H : Hp} {t c : Addr} {ns : List Int} {place : Nat} {left : Int} (hT : TapeAt H t c ns place left) {ys : List Str} (h : H c = some (.lst (ys.map V.str))) : False := by
  rw [hT.cells] at h
  injection h with h
  injection h with h
  cases hn : ns with
  | nil => exact hT.ne hn
  | cons a l =>
    rw [hn] at h
    cases ys with
    | nil => simp at h
    | cons y ys => simp at h
theorem BldAt.tape {C : Addr} {H : Hp} {b : Addr} {rs : List Str} {sz : Str → Int} {E : List Cor} {t c : Addr} {ns : List Int} {place : Nat} {left : Int} (h : BldAt C H b rs sz E) (hT : TapeAt H t c ns place left) (hne : rs ≠ []) : BldAt C (cutX [t] H) b rs sz E := by
  obtain ⟨⟨dx, s, p, n, v1, v2, v3, L, kvs, h1, h2, h3, h4, h5⟩, a, cc⟩ := h
  have nn : n ∉ [t] := fun z => by
    rw [List.mem_singleton] at z
    have e := h4.at_
    rw [z, hT.dict] at e
    injection e with e
    injection e with e
    obtain ⟨r, l, rfl⟩ := List.exists_cons_of_ne_nil hne
    obtain ⟨q, ys, e1, e2, _⟩ := h4.ls r (.head _)
    rw [← e] at e1
    unfold tapeD at e1
    by_cases c1 : r = "cells"
    · rw [c1] at e1
      have : q = c := by
        have e3 : valV [((Sum.inr "cells" : Key), V.ref c), (Sum.inr "place", V.int (place : Nat)), (Sum.inr "left", V.int left)] (Sum.inr "cells") = some (V.ref c) := rfl
        rw [e3] at e1
        injection e1 with e1
        injection e1 with e1
        exact e1.symm
      rw [this] at e2
      exact tape_strs hT e2
    · have hc : (Sum.inr "cells" : Key) ≠ Sum.inr r := fun z => c1 (by injection z with z; exact z.symm)
      by_cases c2 : r = "place"
      · rw [c2] at e1
        have e3 : valV [((Sum.inr "cells" : Key), V.ref c), (Sum.inr "place", V.int (place : Nat)), (Sum.inr "left", V.int left)] (Sum.inr "place") = some (V.int (place : Nat)) := rfl
        rw [e3] at e1
        cases e1
      · by_cases c3 : r = "left"
        · rw [c3] at e1
          have e3 : valV [((Sum.inr "cells" : Key), V.ref c), (Sum.inr "place", V.int (place : Nat)), (Sum.inr "left", V.int left)] (Sum.inr "left") = some (V.int left) := rfl
          rw [e3] at e1
          cases e1
        · have g2 : (Sum.inr "place" : Key) ≠ Sum.inr r := fun z => c2 (by injection z with z; exact z.symm)
          have g3 : (Sum.inr "left" : Key) ≠ Sum.inr r := fun z => c3 (by injection z with z; exact z.symm)
          have e3 : valV [((Sum.inr "cells" : Key), V.ref c), (Sum.inr "place", V.int (place : Nat)), (Sum.inr "left", V.int left)] (Sum.inr r) = none := by
            unfold valV
            simp [c1, c2, c3, Ne.symm c1, Ne.symm c2, Ne.symm c3]
          rw [e3] at e1
          cases e1
  refine ⟨⟨dx, s, p, n, v1, v2, v3, L, kvs, cutX_some h1 (cor_ne_tape hT h1 (by simp)) nt_ins, cutX_some h2 (iD_ne_tape hT h2) nt_dK, ⟨cutX_some h3.at_ (cor_ne_tape hT h3.at_ (by simp)) nt_lst, fun q hq => rd_cutX (h3.each q hq) (by
    have : q.1 ≠ t := rd_ne (h3.each q hq) hT.dict (by simp) (by simp)
    simp [this]), h3.few⟩, ⟨cutX_some h4.at_ nn nt_dK, fun r hr => ?_⟩, ?_⟩, a, cc⟩
  · obtain ⟨l, ys, e1, e2, e3⟩ := h4.ls r hr
    exact ⟨l, ys, e1, cutX_some e2 (cor_ne_tape hT e2 (by simp)) nt_lst, e3⟩
  · rcases h5 with h5 | ⟨q, t1, t2, xs, ys, e1, e2, e3, e4, e5⟩
    · exact .inl h5
    · exact .inr ⟨q, t1, t2, xs, ys, e1, cutX_some e2 (cor_ne_tape hT e2 (by simp)) nt_tup, cutX_some e3 (cor_ne_tape hT e3 (by simp)) nt_tup, cutX_some e4 (cor_ne_tape hT e4 (by simp)) nt_tup, e5⟩
/-- a house that is new -/
theorem cutX_add {H H' : Hp} {t h : Addr} (e : Same H H') (hn : H h = none) : Same (cutX [t] H) (cutX [h, t] H') := fun b o q => by
  obtain ⟨q1, q2, q3⟩ := cutX_get q
  refine cutX_some (e _ _ q1) (fun m => ?_) q3
  simp only [List.mem_cons, List.not_mem_nil, or_false] at m q2
  exact m.elim (fun m => ne_of_none q1 hn m) q2
section
variable {K : PySem.W.Frag}
theorem Hou.tape {H H' : Hp} {h dx b d t c : Addr} {rs : List Str} {bg : Str → Int} {zs : List Str} {ms : List Nat} {ns : List Int} {place : Nat} {left : Int} (q : Hou K [h] H h dx b d rs bg zs ms) (f : Frm [t] H H') (hT : TapeAt H t c ns place left) : Hou K [h] H' h dx b d rs bg zs ms := by
  obtain ⟨v, cc, hh, hI⟩ := q
  have hI1 := hI.mono cutX_same
  obtain ⟨_, a1, _⟩ := cutX_get hI.shown
  obtain ⟨_, a2, _⟩ := cutX_get hI.visited
  obtain ⟨_, a3, _⟩ := cutX_get hI.calls
  exact ⟨v, cc, f _ _ hh (cor_ne_tape hT hh (by simp)), cutX_some (f _ _ hI1.shown (iD_ne_tape hT hI1.shown)) a1 nt_dK, cutX_some (f _ _ hI1.visited (cor_ne_tape hT hI1.visited (by simp))) a2 nt_lst, cutX_some (f _ _ hI1.calls (cor_ne_tape hT hI1.calls (by simp))) a3 nt_lst⟩
theorem Hou.same {H H' : Hp} {M : List Addr} {h dx b d : Addr} {rs : List Str} {bg : Str → Int} {zs : List Str} {ms : List Nat} (q : Hou K M H h dx b d rs bg zs ms) (e : Same H H') : Hou K M H' h dx b d rs bg zs ms := q.ext (FrX.same e)
end
theorem tabs_tape {T : List (Addr × Str)} {H H' : Hp} {t c : Addr} {ns : List Int} {place : Nat} {left : Int} (x : Tabs T H) (fr : Frm [t] H H') (hT : TapeAt H t c ns place left) : Tabs T H' := fun y hy => by
  obtain ⟨ps, a1, a2, a3⟩ := x y hy
  refine ⟨ps, fr _ _ a1 (cor_ne_tape hT a1 (by simp)), a2, fun pos cv hc => ?_⟩
  obtain ⟨q, e1, e2⟩ := a3 pos cv hc
  exact ⟨q, e1, fr _ _ e2 (cor_ne_tape hT e2 (fun kvs z => by unfold LamX.CodeO at z; cases z))⟩
theorem TapeAt.frx {H H' : Hp} {t c : Addr} {ns : List Int} {place : Nat} {left : Int} {M : List Addr} (h : TapeAt H t c ns place left) (f : FrX M H H') (n1 : t ∉ M) (n2 : c ∉ M) : TapeAt H' t c ns place left := ⟨f _ _ h.dict n1 nt_dK, f _ _ h.cells n2 nt_lst, h.ne, h.few, h.pos, h.small⟩
/-- the rooms of each call are a way -/
theorem ways_law {E : List Cor} {rs zs : List Str} {ms : List Nat} (tr : Trip E rs zs ms) (hl : zs.length ≤ 1000) : ∀ q ∈ lawParts zs ms, Way rs q := fun q hq => by
  unfold lawParts at hq
  obtain ⟨i, hi, rfl⟩ := List.mem_map.mp hq
  have hi' : i < ms.length := List.mem_range.mp hi
  have e1 : (ms.take (i + 1)).sum ≤ ms.sum := by
    have := List.sum_append (l₁ := ms.take (i + 1)) (l₂ := ms.drop (i + 1))
    rw [List.take_append_drop] at this
    omega
  have e2 := sum_take_one hi'
  have hz := tr.len
  refine ⟨fun z hz => tr.mem z (List.mem_of_mem_take (List.mem_of_mem_drop hz)), fun z => ?_, ?_⟩
  · have := congrArg List.length z
    rw [List.length_drop, List.length_take, List.length_nil] at this
    omega
  · rw [List.length_drop, List.length_take]; omega
theorem natL_map (ms : List Nat) : (natL ms).map V.int = ms.map fun (m : Nat) => V.int (m : Nat) := by
  unfold natL
  rw [List.map_map]
  rfl
theorem callsL_map (ms : List Nat) : (callsL ms).map V.int = (cumL ms).map fun (m : Nat) => V.int (m : Nat) := by
  unfold callsL
  rw [List.map_map]
  rfl
/-- two lists of traces of the same rooms -/
theorem traces_eq {C : Addr} {H : Hp} {b : Addr} {rs : List Str} {sz : Str → Int} {ps : List (List Str)} {ts us : List Addr} {q r : Addr} (hn : rs.Nodup) (hq : H q = some (.lst (ts.map V.ref))) (hr : H r = some (.lst (us.map V.ref))) (h1 : Traces C H b rs sz ts ps) (h2 : Traces C H b rs sz us ps) : DList (DIns C (TEq C)) (.ref q) (.ref r) H := by
  refine ⟨q, r, _, _, rfl, rfl, hq, hr, by rw [List.length_map, List.length_map, h1.length, h2.length], fun i x y e1 e2 => ?_⟩
  rw [List.getElem?_map] at e1 e2
  obtain ⟨a, ha, rfl⟩ := Option.map_eq_some_iff.mp e1
  obtain ⟨c, hc, rfl⟩ := Option.map_eq_some_iff.mp e2
  obtain ⟨p1, g1, f1, l1, k1, k2, k3⟩ := pair_get h1 ha
  obtain ⟨p2, g2, f2, l2, m1, m2, m3⟩ := pair_get h2 hc
  rw [g1] at g2
  cases g2
  rw [k1] at m1
  rw [k2] at m2
  cases m1
  cases m2
  exact dins_trace hn k3 m3
/-- deeds stand over the heap without the house and what is new -/
theorem newer_cut {S : List Addr} {H0 H : Hp} {h : Addr} {C dx : Addr} {fs : List (Str × V)} (hh : H h = some (.ins C dx fs)) : SameL (newer S H0 H) (cutX [h] H) := fun b o e p => by
  obtain ⟨e1, _⟩ := newer_get e
  refine cutX_some e1 (fun z => ?_) (fun ps z => by rw [z] at p; exact p)
  rw [List.mem_singleton.mp z, hh] at e1
  cases e1
  exact p
theorem SameL.trans {A B C : Hp} (x : SameL A B) (y : SameL B C) : SameL A C := fun b o h p => y b o (x b o h p) p
end RD

/-! RDLaw: the law. -/
namespace RD
open PySem PySem.Spec PyProof.Rows L2
open LamX (Tabs ExtN)
section
variable {P : Program} {w : World} {K : PySem.W.Frag} {mg : Str → Option Value} {base : Heap}
/-! ### the levels -/
theorem deedsO (T : Says w K mg) : C8.Cal P w K mg base 3 "_law_deeds" (spDeedsO 0) [] := by
  exact cal_of T.d_deeds T.g_deeds sc_deeds (fun vs H Q E h => h.elim) (fun _ _ _ _ _ _ us hl => match us, hl with | [_, _, _, _, _], _ => rfl) (fun cdv A outer s H vs Q E hr h => h.elim)
theorem deeds2 (T : Says w K mg) : C8.Cal P w K mg base 6 "_law_deeds" (spDeeds 2) [] :=
  deeds_of T (n := 2) (by decide) (deeds_of T (n := 1) (by decide) (deeds_of T (n := 0) (by decide) (deedsO T)))
theorem att2 (T : Says w K mg) (B : Tbs K mg base) : CalX P w K mg base 26 "_law_attempted" (spAtt K 2) := by
  have a0 : CalX P w K mg base 8 "_law_attempted" (spAttO K 0) := by
    obtain ⟨fd, F⟩ := T.d_attempted
    exact ⟨fun _ _ _ _ _ _ _ _ _ _ _ _ h => h.elim, T.g_attempted, F.kp⟩
  have d0 := done_of T B (n := 0) (by decide) a0
  have a1 : CalX P w K mg base 14 "_law_attempted" (spAttO K 1) := att_of T B (by decide) d0
  have d1 := done_of T B (n := 1) (by decide) a1
  have a2 : CalX P w K mg base 20 "_law_attempted" (spAttO K 2) := att_of T B (by decide) d1
  exact att_of T B (by decide) (done_of T B (n := 2) (by decide) a2)
/-! ### law -/
def spLaw (K : PySem.W.Frag) : Sp := fun vs H Q _ => ∃ (a : Addr) (ns : List Int), vs = [.ref a] ∧ SqL K H a (ns.map V.int) ∧ Tabs (TL K) H ∧ ∀ H', Q (.bl true) H'
theorem sc_law : FnScope ["_law_script", "_law_tape", "_law_turn", "_law_plan", "_law_begin_here", "_law_building", "_law_taken", "_law_calls", "_law_house", "_law_again", "_law_deeds_here", "_law_noted_here", "_law_told", "_law_due", "_law_here", "_law_way"] ["_law_script"] (defScope s_law) := ⟨rfl, rfl, rfl, by decide +kernel, rfl, by decide +kernel, by decide +kernel⟩
theorem ok_law (T : Says w K mg) (B : Tbs K mg base) : CalX P w K mg base 29 "law" (spLaw K) := by
  refine calX_of T.d_law T.g_law sc_law (fun vs H Q E h => ?_) (fun _ _ _ _ _ _ us hl => match us, hl with | [_], _ => rfl) (fun A outer s H vs Q E hr hgd h => ?_)
  · obtain ⟨_, _, rfl, _⟩ := h; rfl
  refine ⟨_, (pss_cons (ps_set (i := 1) sc_law.nd rfl (Or.inl rfl) (C8.pe_c (ok_begin T) hr (by decide) rfl (pa_cons (pv 0) pa_nil)))
    (pss_cons (ps_for (passes_of rfl) rfl (pi_range1 (by rfl) T.z_range (pa_cons pe_int pa_nil)) (pg_name (i := 2) sc_law.nd rfl (Or.inl rfl)) (pss_cons (ps_asg (C8.pe_c (ok_scene T) hr (by decide) rfl (pa_cons (pv 1) (pa_cons (pv 2) (pa_cons pe_int pa_nil)))) (pg_tup rfl (pgs_cons (pg_name (i := 3) sc_law.nd rfl (Or.inl rfl)) (pgs_cons (pg_name (i := 4) sc_law.nd rfl (Or.inl rfl)) pgs_nil))))
    (pss_cons (ps_set (i := 5) sc_law.nd rfl (Or.inl rfl) (C8.pe_c (ok_built T) hr (by decide) rfl (pa_cons (pv 3) pa_nil)))
    (pss_cons (ps_par (i := 6) (j := 7) (by rfl) sc_law.nd rfl rfl (by decide) rfl rfl (pa_cons (pe_lst (pa_cons (C8.pe_c (ok_pick T) hr (by decide) rfl (pa_cons (pv 1) (pa_cons (pe_callB (id := "sorted") (call_sortedD rfl) (by rfl) T.z_sorted (by decide +kernel) (pa_cons (pe_ix (r := rIxT K) ix_tup (pv 3) pe_int (fun _ _ => rfl)) pa_nil)) pa_nil))) pa_nil)) (pa_cons (pe_lst pa_nil) pa_nil)) (by rfl))
    (pss_cons (ps_set (i := 8) sc_law.nd rfl (Or.inr rfl) (C8.pe_c (ok_logged T) hr (by decide) rfl (pa_cons (pv 5) (pa_cons (pe_ix (r := rIxL K) ix_list (pv 6) pe_int (fun _ _ => rfl)) (pa_cons (pv 4) pa_nil)))))
    (pss_one (ps_for (passes_of rfl) rfl (pi_range1 (by rfl) T.z_range (pa_cons pe_int pa_nil)) (pg_name (i := 9) sc_law.nd rfl (Or.inl rfl)) (pss_cons (ps_asg (pe_tup (pa_cons (C8.pe_c (deeds2 T) hr (by decide) rfl (pa_cons (pv 1) (pa_cons (pv 3) (pa_cons (pv 6) (pa_cons (pv 7) (pa_cons pe_int pa_nil)))))) (pa_cons (pe_lst pa_nil) pa_nil))) (pg_tup rfl (pgs_cons (pg_name (i := 10) sc_law.nd rfl (Or.inr rfl)) (pgs_cons (pg_name (i := 11) sc_law.nd rfl (Or.inr rfl)) pgs_nil))))
    (pss_cons (ps_set (i := 12) sc_law.nd rfl (Or.inl rfl) (pe_lam0 (k := 26) (T := TL K) (TT := TTried K) rfl T.g_tried T.d_tried (fun _ _ _ _ _ _ us hl => match us, hl with | [_], _ => rfl) sc_tried rfl (Or.inl rfl) (fun cdv => tried_gives T _ cdv) B.law rfl (.tail _ (.tail _ (.head _))) B.uLaw hr (by decide) (LamX.lamS_by (sc := defScope s_law) (by decide +kernel)) rfl (fun _ _ _ _ _ => rfl) (fun A2 outer2 s2 H2 E2 f c' hr2 hg2 => pe_cX (att2 T B) hr2 (Nat.le_refl _) (hg2.trans hgd) (takes_of rfl rfl rfl rfl) (fun _ _ _ _ h => h) rfl (pa_cons (pv 8) (pa_cons (pv 10) (pa_cons (pv 11) pa_nil))))))
    (pss_cons (ps_if (PW.pt (pw_or (pt_cmpR op_ne (pe_callB (id := "repr") (r := rRep K) (call_rep hgd hr) (by rfl) T.z_repr (by decide +kernel) (pa_cons (pv 12) pa_nil)) (pe_callB (id := "repr") (r := rRep K) (call_rep hgd hr) (by rfl) T.z_repr (by decide +kernel) (pa_cons (pe_ix (r := rIxT K) ix_tup (pv 10) pe_int (fun _ _ => rfl)) pa_nil)) (nomark _)) (pw_or1 (pt_cmpR op_ne (pe_callB (id := "len") call_len_seq (by rfl) T.z_len PySem.boot_len (pa_cons (pv 11) pa_nil)) pe_int (nomark _))))) (pss_one (ps_ret pe_bl)) pss_nil)
    (pss_cons (ps_asg (pe_ix (r := rIxT K) ix_tup (pv 10) pe_int (fun _ _ => rfl)) (pg_tup rfl (pgs_cons (pg_name (i := 6) sc_law.nd rfl (Or.inl rfl)) (pgs_cons (pg_name (i := 7) sc_law.nd rfl (Or.inl rfl)) pgs_nil))))
    (pss_cons (ps_set (i := 13) sc_law.nd rfl (Or.inl rfl) (C8.pe_c (ok_log_due T) hr (by decide) rfl (pa_cons (pv 3) (pa_cons (pv 5) (pa_cons (pv 6) (pa_cons (pv 7) pa_nil))))))
    (pss_cons (ps_for (passes_of rfl) rfl (pi_tup (pe_tup (pa_cons (pv 8) (pa_cons (pe_ix (r := rIxL K) ix_list (pv 11) pe_int (fun _ _ => rfl)) pa_nil)))) (pg_name (i := 14) sc_law.nd rfl (Or.inl rfl)) (pss_one (ps_if (PW.pt (pw_or (pt_cmpR (op_neGL mon_trace (eqG_trace T) (hr.mono (by decide))) (pe_pp (okLoggedHouse_log T) hr (by decide) (pv 14)) (pv 13) (nomark _)) (pw_or1 (pt_not (pt_val (C8.pe_c (ok_is_house T) hr (by decide) rfl (pa_cons (pv 3) (pa_cons (pv 5) (pa_cons (pv 14) (pa_cons (pv 4) (pa_cons (pv 6) pa_nil))))))))))) (pss_one (ps_ret pe_bl)) pss_nil)))
    (pss_cons (ps_set (i := 15) sc_law.nd rfl (Or.inl rfl) (pe_slice (r := rSlL K) sl_list (C8.pe_c (ok_wandered T) hr (by decide) rfl (pa_cons (pv 1) (pa_cons (pv 3) (pa_cons (pe_ix (r := rIxL K) ix_list (pv 6) (pe_un un_neg pe_int) (fun _ _ => rfl)) (pa_cons (C8.pe_c (ok_draw T) hr (by decide) rfl (pa_cons (pv 1) (pa_cons pe_int pa_nil))) pa_nil))))) (po_some pe_int) po_none))
    (pss_cons (ps_expr (C8.pe_c (ok_go T) hr (by decide) rfl (pa_cons (pe_ix (r := rIxL K) ix_list (pe_lst (pa_cons (pv 8) (pa_cons (pe_ix (r := rIxL K) ix_list (pv 11) pe_int (fun _ _ => rfl)) pa_nil))) (C8.pe_c (ok_draw T) hr (by decide) rfl (pa_cons (pv 1) (pa_cons pe_int pa_nil))) (fun _ _ => rfl)) (pa_cons (pv 15) pa_nil))))
    (pss_cons (ps_par (i := 6) (j := 7) (by rfl) sc_law.nd rfl rfl (by decide) rfl rfl (pa_cons (pe_op op_cat (pv 6) (pv 15)) (pa_cons (pe_op op_cat (pv 7) (pe_op op_rep (pe_lst (pa_cons (pe_callB (id := "len") call_len_seq (by rfl) T.z_len PySem.boot_len (pa_cons (pv 15) pa_nil)) pa_nil)) (pe_callTy (T := "int") call_int1 (by rfl) T.z_int (by decide +kernel) (pa_cons (pe_cmpR (r := rNeD K) (op_neD (hu64 hr)) (pv 15) (pe_lst pa_nil) (nomark _)) pa_nil)))) pa_nil)) (by rfl))
    (pss_one (ps_if (PW.pt (pw_or (pt_cmpR (op_neGL mon_trace (eqG_trace T) (hr.mono (by decide))) (pe_pp (okLoggedHouse_log T) hr (by decide) (pv 8)) (C8.pe_c (ok_log_due T) hr (by decide) rfl (pa_cons (pv 3) (pa_cons (pv 5) (pa_cons (pv 6) (pa_cons (pv 7) pa_nil))))) (nomark _)) (pw_or1 (pt_cmpR op_ne (pe_pp (okHouse_place T) hr (by decide) (pe_ix (r := rIxL K) ix_list (pv 11) pe_int (fun _ _ => rfl))) (pe_ix (r := rIxL K) ix_list (pv 6) (pe_un un_neg pe_int) (fun _ _ => rfl)) (nomark _))))) (pss_one (ps_ret pe_bl)) pss_nil))))))))))))))))))
    (pss_one (ps_ret pe_bl)))), ?_⟩
  obtain ⟨a, ns0, rfl, ha, hTab, k⟩ := h
  have hbig : sizeLine = 16777216 := sizeLine_eq
  refine ⟨_, rfl, a, ns0, rfl, ha, fun t c ns H1 S1 htn T1 => ?_⟩
  refine ⟨_, rfl, by decide, by decide, ?_⟩
  refine for_it (walk_range (lo := 0) (n := 3)) (fun i σ H' => (∃ pl lf, TapeAt H' t c ns pl lf ∧ pl ≤ i * 2000) ∧ Tabs (TL K) H' ∧ ∃ x2 x3 x4 x5 x6 x7 x8 x9 x10 x11 x12 x13 x14 x15, σ = [some (.ref a), some (.ref t), x2, x3, x4, x5, x6, x7, x8, x9, x10, x11, x12, x13, x14, x15]) ⟨⟨_, _, T1, by omega⟩, hTab.ext S1, _, _, _, _, _, _, _, _, _, _, _, _, _, _, rfl⟩ (fun _ _ _ _ _ => trivial) ?_ ?_
  · rintro i x σ H2 H2' hi ⟨⟨pl, lf, T2, hpl⟩, b2, x2, x3, x4, x5, x6, x7, x8, x9, x10, x11, x12, x13, x14, x15, rfl⟩ ⟨rfl, hx⟩
    obtain ⟨turn, rfl⟩ : ∃ turn : Int, x = .int turn := ⟨_, hx⟩
    have hi3 : i < 3 := hi
    refine ⟨_, rfl, _, rfl, t, c, ns, pl, lf, turn, rfl, T2, by omega, fun a2 p g d' c' names ds sz dv L pl3 lf3 H3 fr3 ha2 hP hBL hG hg hds hpl3 T3 => ?_⟩
    refine ⟨a2, _, rfl, SqT.of ha2, rfl, _, _, rfl, _, _, rfl, rfl, ?_⟩
    have b3 := tabs_tape b2 fr3 T2
    refine ⟨_, rfl, p, names, sz, L, d', c', rfl, hP, hG, fun b rs H4 hperm s4 hB4 => ?_⟩
    have T4 := T3.mono s4
    have P4 := hP.mono s4
    have few := hG.nm.few
    refine ⟨_, rfl, _, rfl, p, _, 0, _, rfl, rfl, SqT.of P4.tup, rfl, d', iD names sz, names, rfl, .inl P4.dict, iD_keys names sz, by omega, fun ys q hy _ hq => ?_⟩
    have s5 := s4.then_ (o := .lst (ys.map V.str)) hq
    have s45 := Same.new (o := .lst (ys.map V.str)) hq
    refine ⟨t, c, q, ns, pl3, lf3, _, rfl, T4.mono s45, by omega, upd_same, ?_, ?_, fun x pl6 lf6 H6 hx6 hpl6 fr6 T6 => ?_⟩
    · obtain ⟨f0, l0, e0⟩ := List.exists_cons_of_ne_nil hG.ne
      intro z
      have := hy.length_eq
      rw [List.map_eq_nil_iff.mp z, e0] at this
      simp at this
    · rw [List.length_map, hy.length_eq]; omega
    obtain ⟨f, hfy, rfl⟩ := List.mem_map.mp hx6
    have hfr : f ∈ rs := hperm.mem_iff.mpr (hy.mem_iff.mp hfy)
    refine ⟨by show 1 ≤ sizeLine; omega, fun tl htl => ⟨by show 0 ≤ sizeLine; omega, fun cl hcl => ⟨_, _, rfl, ?_⟩⟩⟩
    have hrne : rs ≠ [] := fun z => by rw [z] at hfr; cases hfr
    have g4 := s4 _ _ hg
    have P6 : PlanAt H6 p names sz L d' c' := (P4.mono s45).frm fr6 (T4.mono s45)
    have BL6 : BareL H6 L := ((hBL.mono s4).mono s45).frm fr6 (T4.mono s45)
    have B6 : BldAt (He.ga K "Building") H6 b rs sz (cors L) := (((hB4.mono s45).tape (T4.mono s45) hrne).mono (FrX.of fr6).cut).mono cutX_same
    have g6 : H6 g = some (.dK (iD ds dv)) := fr6 _ _ (s45 _ _ g4) (iD_ne_tape (T4.mono s45) (s45 _ _ g4))
    have b6 : Tabs (TL K) H6 := tabs_tape ((b3.ext s4).ext s45) fr6 (T4.mono s45)
    have S7 : Same H6 (upd H6 tl (.lst [.str f])) := Same.new htl
    have S8 : Same H6 (upd (upd H6 tl (.lst [.str f])) cl (.lst [])) := S7.then_ hcl
    have tl8 : (upd (upd H6 tl (.lst [.str f])) cl (.lst [])) tl = some (.lst ([f].map V.str)) := (Same.new hcl) _ _ upd_same
    have cl8 : (upd (upd H6 tl (.lst [.str f])) cl (.lst [])) cl = some (.lst ((natL []).map V.int)) := upd_same
    generalize upd (upd H6 tl (.lst [.str f])) cl (.lst []) = H8 at S8 tl8 cl8
    have T8 := T6.mono S8
    have hdr : ∀ r ∈ ds, r ∈ rs := fun r hr => by
      rcases hds with rfl | ⟨rfl, rfl, _⟩
      · cases hr
      · exact hperm.mem_iff.mpr hr
    have hdv : ∀ r ∈ ds, 0 ≤ dv r ∧ dv r ≤ sz r - 1 := fun r hr => by
      rcases hds with rfl | ⟨rfl, rfl, q⟩
      · cases hr
      · exact q r hr
    refine ⟨_, rfl, _, rfl, tl, _, 0, _, rfl, rfl, SqL.of tl8, rfl, _, rfl, b, g, f, rs, ds, sz, dv, cors L, rfl, B6.mono S8, hfr, S8 _ _ g6, hds.imp id (·.1), hdr, hdv, fun h dx d v c0 H9 hhn S9 hh hI => ?_⟩
    have T9 := T8.mono S9
    have tl9 := S9 _ _ tl8
    have cl9 := S9 _ _ cl8
    have nth : t ≠ h := ne_of_none T8.dict hhn
    have nch : c ≠ h := ne_of_none T8.cells hhn
    have ng : g ∉ [t] := iD_ne_tape T8 (S8 _ _ g6)
    -- what stays
    have SX : Same (cutX [t] H8) (cutX [h, t] H9) := cutX_add S9 hhn
    have PX : PlanAt (cutX [h, t] H9) p names sz L d' c' := ((P6.mono S8).tape T8).mono SX
    have BLX : BareL (cutX [h, t] H9) L := ((BL6.mono S8).tape T8).mono SX
    have BX : BldAt (He.ga K "Building") (cutX [h, t] H9) b rs sz (cors L) := ((B6.mono S8).tape T8 hrne).mono SX
    have gX : cutX [h, t] H9 g = some (.dK (iD ds dv)) := SX _ _ (cutX_some (S8 _ _ g6) ng nt_dK)
    have hou9 : Hou K [h] H9 h dx b d rs (fun r => if r ∈ ds then dv r else 0) [f] [] := houMk hh hI
    have b9 : Tabs (TL K) H9 := (b6.ext S8).ext S9
    have tr9 : Trip (cors L) rs [f] [] := ⟨by simp, fun z hz => by rw [List.mem_singleton.mp hz]; exact hfr, Chain.one _ _, rfl, fun m hm => by cases hm⟩
    refine ⟨_, rfl, by decide, by decide, ?_⟩
    refine for_it (walk_range (lo := 0) (n := 4)) (fun j σ H' => FrX [h, t] H9 H' ∧ (∃ pl lf, TapeAt H' t c ns pl lf ∧ pl ≤ pl6 + j * 400) ∧ Tabs (TL K) H' ∧ ∃ zs ms tl cl, Hou K [h] H' h dx b d rs (fun r => if r ∈ ds then dv r else 0) zs ms ∧ H' tl = some (.lst (zs.map V.str)) ∧ H' cl = some (.lst ((natL ms).map V.int)) ∧ Trip (cors L) rs zs ms ∧ zs.length ≤ 1 + j * 120 ∧
        ∃ x9 x10 x11 x12 x13 x14 x15, σ = [some (.ref a), some (.ref t), some (.int turn), some (.ref p), some (.ref g), some (.ref b), some (.ref tl), some (.ref cl), some (.ref h), x9, x10, x11, x12, x13, x14, x15])
      ⟨FrX.refl _ _, ⟨_, _, T9, by omega⟩, b9, [f], [], tl, cl, hou9, tl9, cl9, tr9, by simp, _, _, _, _, _, _, _, rfl⟩ (fun _ _ _ _ _ => trivial) ?_ ?_
    · rintro j x σ H10 H10' hj ⟨fx, ⟨plA, lfA, TA, hplA⟩, bA, zs, ms, tl1, cl1, hou, tlA, clA, tr, hzl, y9, y10, y11, y12, y13, y14, y15, rfl⟩ ⟨rfl, hx⟩
      have hj4 : j < 4 := hj
      have hdu : du 2 = 252 := rfl
      have hgr : gr 2 = 108 := rfl
      have PA := (PX.mono fx.cut).mono cutX_same
      have BLA := (BLX.mono fx.cut).mono cutX_same
      -- the deeds
      refine ⟨_, rfl, _, rfl, _, rfl, _, rfl, t, c, p, tl1, cl1, ns, plA, lfA, names, rs, sz, L, d', c', zs, ms, rfl, TA, by omega, PA, BLA, hG, hperm, tlA, clA, tr, by omega, fun D val en zs' ms' pl2 lf2 H11 fr11 hD hpl2 T11 => ?_⟩
      refine ⟨by show 0 ≤ sizeLine; omega, fun nl hnl => ⟨by show 2 ≤ sizeLine; omega, fun q hq => ⟨q, _, rfl, SqT.of upd_same, rfl, _, _, rfl, _, _, rfl, rfl, ?_⟩⟩⟩
      have hou11 := hou.tape fr11 TA
      have S12 := Same.new (o := .lst []) hnl
      have S13 := Same.new (o := .tup [.ref D, .ref nl]) hq
      have b13 := ((tabs_tape bA fr11 TA).ext S12).ext S13
      refine ⟨b13, fun H14 e14 T14 => ?_⟩
      have h11 : ∃ v c0, HsAt (He.ga K "LoggedHouse") H11 h dx b d v c0 := let ⟨v, c0, q, _⟩ := hou11; ⟨v, c0, q⟩
      obtain ⟨vv, cc0, hh11⟩ := h11
      have CX : Same (cutX [h] H11) (cutX [h, nl] H14) := fun u o e => (FrX.extN (M := [h, nl]) e14).cut _ _ (Same.cutX S13 _ _ (cutX_new hnl _ _ e))
      have C11 : Same (cutX [h, t] H9) (cutX [h] H11) := fun u o e => cutX_mono (fun a z => by simp at z; simp [z]) _ _ ((FrX.of (fr11.sub (by simp))).cut _ _ (fx.cut _ _ e))
      have nl14 : H14 nl = some (.lst []) := e14 _ _ (S13 _ _ upd_same) nt_lst
      have tnl : t ≠ nl := ne_of_none T11.dict hnl
      have cnl : c ≠ nl := ne_of_none T11.cells hnl
      have T14' : TapeAt H14 t c ns pl2 lf2 := ((T11.mono S12).mono S13).frx (FrX.extN (M := []) e14) (by simp) (by simp)
      refine ⟨_, rfl, _, rfl, _, rfl, ?_⟩
      have hD14 := DeedsAt.monoL ((newer_cut hh11).trans (SameL.of CX)) 2 _ _ _ _ _ _ _ hD
      refine att_all (n := 2) (xs := []) nl14 (by decide) ((((hou11.new hnl).same S13).ext (FrX.extN e14))) (BX.mono (fun u o e => CX _ _ (C11 _ _ e))) tr (by omega) hD14 T14 fun H15 f15 hou15 nl15 T15 => ?_
      have at15 : ∀ {u o}, cutX [h, nl] H14 u = some o → H15 u = some o := fun e => cutX_same _ _ (f15.cut _ _ e)
      obtain ⟨hv, _, _⟩ := deeds_val (n := 2) hD14
      obtain ⟨rl, bh, tlB, clB, k1, k2, k3, k4⟩ := deeds_behind (n := 2) hD14
      obtain ⟨trB, hzB⟩ := deeds_trip 2 _ _ _ _ _ _ _ hD14 tr
      obtain ⟨z, hz⟩ := (hv.mono (fun u o e => at15 e)).rep (K := K)
      have D15 := at15 k1
      have TB : TapeAt H15 t c ns pl2 lf2 := T14'.frx f15 (by simp [nth, tnl]) (by simp [nch, cnl])
      have fx15 : FrX [h, t] H9 H15 := fun u o e n nt => by
        have e10 := fx u o e n nt
        simp only [List.mem_cons, List.not_mem_nil, or_false, not_or] at n
        have e11 := fr11 u o e10 (by simp [n.2])
        have nn : u ≠ nl := ne_of_none e11 hnl
        exact f15 u o (e14 u o (S13 _ _ (S12 _ _ e11)) nt) (by simp [n.1, nn]) nt
      have PB := (PX.mono fx15.cut).mono cutX_same
      have BLB := (BLX.mono fx15.cut).mono cutX_same
      have BB := (BX.mono fx15.cut).mono cutX_same
      have gB := cutX_same _ _ (fx15.cut _ _ gX)
      have hzl' : zs'.length ≤ 1 + j * 120 + 108 := by omega
      refine ⟨_, rfl, _, z, rfl, hz, _, rfl, D, _, 1, _, rfl, rfl, SqT.of D15, rfl, _, z, rfl, hz, ?_⟩
      refine ⟨rfl, _, rfl, iteFe (by simp) ?_⟩
      refine ⟨_, rfl, nl, _, rfl, .inl (SqL.of nl15), rfl, _, rfl, iteFe (by simp) ?_⟩
      refine ⟨_, rfl, D, _, 2, _, rfl, rfl, SqT.of D15, rfl, bh, _, rfl, SqT.of (at15 k2), rfl, _, _, rfl, _, _, rfl, rfl, ?_⟩
      have tlB15 := at15 k3
      have clB15 := at15 k4
      have hml := sum_ge trB.pos
      have hzs := trB.len
      refine ⟨_, rfl, _, rfl, _, rfl, _, rfl, p, b, tlB, clB, zs', names, sz, L, d', c', rs, cors L, ms', rfl, PB, BB, hperm, hG.nm, tlB15, by rw [clB15, natL_map], ways_law trB (by omega), by omega, fun dq ts H16 hdq S16 edq htr => ?_⟩
      have hwz : Way rs zs' := ⟨trB.mem, trB.ne, by omega⟩
      have hst : Steps zs' := trB.ch.steps hG.cs hG.nm (fun z hz => hperm.mem_iff.mp (trB.mem z hz))
      obtain ⟨v2, c2, hh15, hIX⟩ := id hou15
      have hI15 := hIX.mono cutX_same
      -- both names
      refine ⟨_, rfl, _, rfl, nl, _, 0, _, rfl, rfl, SqL.of (S16 _ _ nl15), rfl, by show 2 ≤ sizeLine; omega, fun q2 hq2 => ?_⟩
      have S17 := S16.then_ (o := .tup [.ref h, .ref h]) hq2
      have s67 := Same.new (o := .tup [.ref h, .ref h]) hq2
      have q17 : upd H16 q2 (.tup [.ref h, .ref h]) q2 = some (.tup [.ref h, .ref h]) := upd_same
      generalize upd H16 q2 (.tup [.ref h, .ref h]) = H17 at S17 s67 q17
      refine ⟨q2, rfl, ⟨_, SqT.of q17⟩, ?_⟩
      refine for_it (walk_tup (xs := [V.ref h, V.ref h])) (fun i σ H' => Same H17 H' ∧ ∃ x14, σ = [some (.ref a), some (.ref t), some (.int turn), some (.ref p), some (.ref g), some (.ref b), some (.ref tlB), some (.ref clB), some (.ref h), some x, some (.ref D), some (.ref nl), some val, some (.ref dq), x14, y15]) ⟨Same.refl _, _, rfl⟩ (fun i σ H' _ h => SqT.of (h.1 _ _ q17)) ?_ ?_
      · rintro i xx σ H18 H18' hi2 ⟨s18, x14, rfl⟩ ⟨rfl, hx2⟩
        have hxx : xx = .ref h := by
          have hi2' : i < 2 := hi2
          match i, hi2', hx2 with
          | 0, _, e => exact (Option.some.inj e).symm
          | 1, _, e => exact (Option.some.inj e).symm
        subst hxx
        have S := S17.trans s18
        refine ⟨_, rfl, h, dx, _, rfl, S _ _ hh15, h, dx, b, d, v2, c2, zs', rs, sz, cors L, cumL ms', rfl, S _ _ hh15, S _ _ hI15.visited, by rw [S _ _ hI15.calls, callsL_map], BB.mono S, by rw [parts_eq]; exact ways_law trB (by omega), by simp only [cumL, List.length_map, List.length_range]; omega, fun lq us H19 S19 elq hus => ?_⟩
        rw [parts_eq] at hus
        refine ⟨_, rfl, traces_eq BB.nm.nd elq (S19 _ _ (s18 _ _ (s67 _ _ edq))) hus (((htr.mono s67).mono s18).mono S19), fun H20 e20 => ?_⟩
        have S20 := (S.trans S19).trans e20
        refine ⟨_, rfl, iteF ?_⟩
        refine ⟨_, rfl, _, rfl, _, rfl, _, rfl, _, rfl, p, b, h, g, tlB, names, rs, ds, sz, dv, L, d', c', dx, d, v2, c2, cors L, zs', callsL ms', rfl, PB.mono S20, hG.nm, hperm, BB.mono S20, S20 _ _ hh15, hI15.mono S20, S20 _ _ gB, hdv, S20 _ _ tlB15, hwz, hst, fun H21 s21 => ?_⟩
        refine ⟨_, rfl, iteF ?_⟩
        exact ⟨((s18.trans S19).trans e20).trans s21, _, rfl⟩
      rintro σ H18 ⟨s18, x14, rfl⟩
      have S18 := S17.trans s18
      -- a way behind
      obtain ⟨la, hla⟩ : ∃ la, zs'.getLast? = some la := ⟨zs'.getLast trB.ne, List.getLast?_eq_some_iff.mpr ⟨zs'.dropLast, (List.dropLast_concat_getLast trB.ne).symm⟩⟩
      have hlan : la ∈ names := hperm.mem_iff.mp (trB.mem la (List.mem_of_getLast? hla))
      have hal : ∀ {yy : List Str} {ll : Str}, yy.getLast? = some ll → atI (yy.map V.str) (-1) = some (.str ll) := fun e => by
        obtain ⟨ini, rfl⟩ := List.getLast?_eq_some_iff.mp e
        rw [List.map_append]
        exact atI_last _ _
      have T18 := TB.mono S18
      refine ⟨_, rfl, _, rfl, _, rfl, 1, rfl, tlB, _, -1, .str la, rfl, rfl, SqL.of (S18 _ _ tlB15), hal hla, _, rfl, t, c, ns, pl2, lf2, 3, rfl, T18, by omega, by omega, by omega, fun sn pl4 lf4 H22 hs0 hs3 hpl4 fr22 T22 => ?_⟩
      obtain ⟨sm, rfl⟩ := Int.eq_ofNat_of_zero_le hs0
      refine ⟨t, c, p, ns, pl4, lf4, names, sz, L, d', c', la, sm, rfl, T22, by omega, by omega, (PB.mono S18).frm fr22 T18, (BLB.mono S18).frm fr22 T18, hG, hlan, fun q5 zw pl5 lf5 H23 fr23 hq5 hqn hz0 hzwl hch hmem hpl5 T23 => ?_⟩
      refine ⟨1, rfl, q5, _, rfl, SqL.of hq5, fun wl hwl => ?_⟩
      rw [show ((1 : Int)) = ((1 : Nat) : Int) from rfl, cut_from, ← List.map_drop]
      obtain ⟨way, rfl⟩ : ∃ way, zw = la :: way := by
        cases zw with
        | nil => simp at hz0
        | cons a w => simp at hz0; exact ⟨w, by rw [hz0]⟩
      rw [show (la :: way).drop 1 = way from rfl]
      have S24 := Same.new (o := .lst (way.map V.str)) hwl
      have wl24 : (upd H23 wl (.lst (way.map V.str))) wl = some (.lst (way.map V.str)) := upd_same
      have T24 := T23.mono S24
      have F24 : Frm [t] H15 (upd H23 wl (.lst (way.map V.str))) := (((Frm.of S18).trans fr22).trans fr23).trans (Frm.of S24)
      generalize upd H23 wl (.lst (way.map V.str)) = H24 at S24 wl24 T24 F24
      have hwlen : way.length ≤ 2 := by rw [List.length_cons] at hzwl; omega
      have hwm : ∀ z ∈ way, z ∈ rs := fun z hz => hperm.mem_iff.mpr (hmem z (.tail _ hz))
      have hwn : ∀ z ∈ way, nameB z = true := fun z hz => hG.nm.nm z (hmem z (.tail _ hz))
      have nnl : nl ∉ [t] := cor_ne_tape TB nl15 (by simp)
      -- go
      refine ⟨_, rfl, _, rfl, nl, _, 0, _, rfl, rfl, SqL.of (F24 _ _ nl15 nnl), rfl, by show 2 ≤ sizeLine; omega, fun q6 hq6 => ?_⟩
      have S25 := Same.new (o := .lst [.ref h, .ref h]) hq6
      have q25 : upd H24 q6 (.lst [.ref h, .ref h]) q6 = some (.lst [.ref h, .ref h]) := upd_same
      have F25 := F24.trans (Frm.of S25)
      have T25 := T24.mono S25
      have wl25 := S25 _ _ wl24
      generalize upd H24 q6 (.lst [.ref h, .ref h]) = H25 at S25 q25 F25 T25 wl25
      refine ⟨_, rfl, t, c, ns, pl5, lf5, 2, rfl, T25, by omega, by omega, by omega, fun r6 pl7 lf7 H26 hr0 hr2 hpl7 fr26 T26 => ?_⟩
      have F26 := F25.trans fr26
      have q26 := fr26 _ _ q25 (cor_ne_tape T25 q25 (by simp))
      have wl26 := fr26 _ _ wl25 (cor_ne_tape T25 wl25 (by simp))
      have two : atI [V.ref h, V.ref h] r6 = some (.ref h) := by
        have : r6 = 0 ∨ r6 = 1 := by omega
        rcases this with rfl | rfl <;> rfl
      obtain ⟨v3, c3, hh26, hIX26⟩ := hou15.tape F26 TB
      have hI26 := hIX26.mono cutX_same
      have fx26 : FrX [h, t] H9 H26 := fx15.trans (FrX.of (F26.sub (by simp)))
      have B26 := (BX.mono fx26.cut).mono cutX_same
      refine ⟨q6, _, r6, .ref h, rfl, rfl, SqL.of q26, two, _, rfl, h, wl, dx, b, d, v3, c3, rs, sz, cors L, _, zs', ms', la, way, rfl, hh26, hI26, B26, trB, hla, wl26, by omega, hch, hwm, by omega, fun v4 c4 H27 fr27 h27 hI27 => ?_⟩
      have fx27 : FrX [h, t] H9 H27 := fx26.trans (FrX.of (fr27.sub (by simp)))
      have T27 : TapeAt H27 t c ns pl7 lf7 := T26.frx (FrX.of fr27) (by simp [nth]) (by simp [nch])
      have lst27 : ∀ {u xs}, H26 u = some (.lst xs) → H27 u = some (.lst xs) := fun {u xs} e => fr27 _ _ e (by
        intro z
        rw [List.mem_singleton.mp z, hh26] at e
        cases e)
      have b27 : Tabs (TL K) H27 := tabs_frm (tabs_tape T15 F26 TB) fr27 hh26
      have nl27 := lst27 (F26 _ _ nl15 nnl)
      have tl27 := lst27 (F26 _ _ tlB15 (cor_ne_tape TB tlB15 (by simp)))
      have cl27 := lst27 (F26 _ _ clB15 (cor_ne_tape TB clB15 (by simp)))
      have wl27 := lst27 wl26
      have trC : Trip (cors L) rs (zs' ++ way) (addM ms' way) := trB.go hla hch hwm
      have hlC : (zs' ++ way).length ≤ 1 + j * 120 + 110 := by rw [List.length_append]; omega
      have houC : Hou K [h] H27 h dx b d rs (fun r => if r ∈ ds then dv r else 0) (zs' ++ way) (addM ms' way) := houMk h27 hI27
      -- rooms and calls
      refine ⟨_, rfl, _, rfl, tlB, wl, _, _, rfl, rfl, tl27, wl27, by rw [List.length_map, List.length_map]; omega, fun t9 ht9 => ?_⟩
      rw [← List.map_append]
      have S28 := Same.new (o := .lst ((zs' ++ way).map V.str)) ht9
      have t28 : (upd H27 t9 (.lst ((zs' ++ way).map V.str))) t9 = some (.lst ((zs' ++ way).map V.str)) := upd_same
      generalize upd H27 t9 (.lst ((zs' ++ way).map V.str)) = H28 at S28 t28 ⊢
      refine ⟨_, rfl, _, rfl, wl, _, rfl, .inl (SqL.of (S28 _ _ wl27)), by show 1 ≤ sizeLine; omega, fun l1 hl1 => ?_⟩
      rw [List.length_map]
      have S29 := Same.new (o := .lst [V.int (way.length : Nat)]) hl1
      have l29 : (upd H28 l1 (.lst [V.int (way.length : Nat)])) l1 = some (.lst [V.int (way.length : Nat)]) := upd_same
      have S27_29 := S28.trans S29
      generalize upd H28 l1 (.lst [V.int (way.length : Nat)]) = H29 at S29 l29 S27_29 ⊢
      refine ⟨_, rfl, by show 0 ≤ sizeLine; omega, fun l2 hl2 => ?_⟩
      have S30 := Same.new (o := .lst []) hl2
      have S27_30 := S27_29.trans S30
      refine ⟨.list (way.map PyData.str), .list (([] : List Str).map PyData.str), .lst (SqL.of (S27_30 _ _ wl27)) (strs_dp way), .lst (SqL.of upd_same) .nil, strs_shapedL hwn, rfl, ?_⟩
      rw [strs_eqvL]
      generalize upd H29 l2 (.lst []) = H30 at S30 S27_30 ⊢
      refine .inr ⟨_, rfl, ?_⟩
      refine ⟨l1, _, _, rfl, rfl, S30 _ _ l29, by split <;> omega, by split <;> omega, ?_, fun l3 hl3 => ?_⟩
      · show 1 * _ ≤ sizeLine
        split <;> simp <;> omega
      have el3 : (List.replicate (if (!decide (way = [])) = true then ((1 : Nat) : Int) else 0).toNat [V.int (way.length : Nat)]).flatten = (if way = [] then [] else natL [way.length]).map V.int := by
        by_cases c0 : way = []
        · rw [if_pos c0, decide_eq_true c0]; rfl
        · rw [if_neg c0, decide_eq_false c0]; rfl
      rw [el3]
      have S31 := Same.new (o := .lst ((if way = [] then [] else natL [way.length]).map V.int)) hl3
      have l31 : (upd H30 l3 (.lst ((if way = [] then [] else natL [way.length]).map V.int))) l3 = some (.lst ((if way = [] then [] else natL [way.length]).map V.int)) := upd_same
      have S27_31 := S27_30.trans S31
      have S28_31 : Same H28 (upd H30 l3 (.lst ((if way = [] then [] else natL [way.length]).map V.int))) := (S29.trans S30).trans S31
      generalize upd H30 l3 (.lst ((if way = [] then [] else natL [way.length]).map V.int)) = H31 at S31 l31 S27_31 S28_31 ⊢
      refine ⟨clB, l3, _, _, rfl, rfl, S27_31 _ _ cl27, l31, ?_, fun c9 hc9 => ⟨_, _, rfl, ?_⟩⟩
      · rw [List.length_map, List.length_map]
        have : (natL ms').length = ms'.length := by simp [natL]
        have : (if way = [] then [] else natL [way.length]).length ≤ 1 := by split <;> simp [natL]
        omega
      have em : (natL ms').map V.int ++ (if way = [] then [] else natL [way.length]).map V.int = (natL (addM ms' way)).map V.int := by
        unfold addM
        by_cases c0 : way = []
        · rw [if_pos c0, if_pos c0]; simp
        · rw [if_neg c0, if_neg c0]; simp [natL]
      rw [em]
      have S32 := S27_31.then_ (o := .lst ((natL (addM ms' way)).map V.int)) hc9
      have c32 : (upd H31 c9 (.lst ((natL (addM ms' way)).map V.int))) c9 = some (.lst ((natL (addM ms' way)).map V.int)) := upd_same
      have t32 := ((S28_31.then_ (o := .lst ((natL (addM ms' way)).map V.int)) hc9)) _ _ t28
      generalize upd H31 c9 (.lst ((natL (addM ms' way)).map V.int)) = H32 at S32 c32 t32 ⊢
      have fx32 : FrX [h, t] H9 H32 := fx27.trans (FrX.same S32)
      have P32 := (PX.mono fx32.cut).mono cutX_same
      have B32 := (BX.mono fx32.cut).mono cutX_same
      have h32 := S32 _ _ h27
      have hI32 := hI27.mono S32
      have hmlC := sum_ge trC.pos
      have hzC := trC.len
      -- the log again
      refine ⟨_, rfl, h, dx, _, rfl, h32, h, dx, b, d, v4, c4, zs' ++ way, rs, sz, cors L, cumL (addM ms' way), rfl, h32, hI32.visited, by rw [hI32.calls, callsL_map], B32, by rw [parts_eq]; exact ways_law trC (by omega), by simp only [cumL, List.length_map, List.length_range]; omega, fun lq us H33 S33 elq hus => ?_⟩
      rw [parts_eq] at hus
      refine ⟨_, rfl, _, rfl, _, rfl, _, rfl, p, b, t9, c9, zs' ++ way, names, sz, L, d', c', rs, cors L, addM ms' way, rfl, P32.mono S33, B32.mono S33, hperm, hG.nm, S33 _ _ t32, by rw [S33 _ _ c32, natL_map], ways_law trC (by omega), by omega, fun dq2 ts2 H34 hdq2 S34 edq2 htr2 => ?_⟩
      refine ⟨traces_eq BB.nm.nd (S34 _ _ elq) edq2 (hus.mono S34) htr2, fun H35 e35 => ?_⟩
      have S35 : Same H32 H35 := (S33.trans S34).trans e35
      refine ⟨_, rfl, iteF ?_⟩
      obtain ⟨lc, hlc⟩ : ∃ lc, (zs' ++ way).getLast? = some lc := ⟨(zs' ++ way).getLast trC.ne, List.getLast?_eq_some_iff.mpr ⟨(zs' ++ way).dropLast, (List.dropLast_concat_getLast trC.ne).symm⟩⟩
      refine ⟨_, rfl, nl, _, 0, _, rfl, rfl, SqL.of (S35 _ _ (S32 _ _ nl27)), rfl, h, dx, _, rfl, S35 _ _ h32, h, dx, b, d, v4, c4, zs' ++ way, lc, rfl, S35 _ _ h32, S35 _ _ hI32.visited, hlc, ?_⟩
      refine ⟨_, rfl, 1, rfl, t9, _, -1, .str lc, rfl, rfl, SqL.of (S35 _ _ t32), hal hlc, ?_⟩
      refine ⟨rfl, _, rfl, iteFe (by simp [eqV]) ?_⟩
      exact ⟨fx32.trans (FrX.same S35), ⟨pl7, lf7, (T27.mono S32).mono S35, by omega⟩, (b27.ext S32).ext S35, zs' ++ way, addM ms' way, t9, c9, (houC.same S32).same S35, S35 _ _ t32, S35 _ _ c32, trC, by omega, _, _, _, _, _, _, _, rfl⟩
    · rintro σ H10 ⟨fx, ⟨plA, lfA, TA, hplA⟩, bA, zs, ms, tl1, cl1, hou, tlA, clA, tr, hzl, y9, y10, y11, y12, y13, y14, y15, rfl⟩
      exact ⟨⟨plA, lfA, TA, by omega⟩, bA, _, _, _, _, _, _, _, _, _, _, _, _, _, _, rfl⟩
  · rintro σ H2 ⟨_, _, x2, x3, x4, x5, x6, x7, x8, x9, x10, x11, x12, x13, x14, x15, rfl⟩
    exact k H2
end
end RD

/-! RDEnd: the law's call at the head's heap. -/
namespace RD
open PySem PySem.Spec PyProof.Rows L2
open LamX (TabB Tabs)
/-- the heap that the walk begins with: the empty tables, the script where K does not hold it -/
def heap0 (K : PySem.W.Frag) (ps : List Addr) (a : Addr) (vs : List Value) (ns : List Int) : Hp := fun b =>
  if b ∈ ps then some (.tbl #[]) else if b = a ∧ (K.lookup a).isNone = true then some (.frz { cls := .type "list", data := .seq vs.toArray } (.lst (ns.map V.int))) else none
theorem heap0_cases (K : PySem.W.Frag) (ps : List Addr) (a : Addr) (vs : List Value) (ns : List Int) (b : Addr) :
    (b ∈ ps ∧ heap0 K ps a vs ns b = some (.tbl #[])) ∨ (b = a ∧ K.lookup a = none ∧ heap0 K ps a vs ns b = some (.frz { cls := .type "list", data := .seq vs.toArray } (.lst (ns.map V.int)))) ∨ heap0 K ps a vs ns b = none := by
  unfold heap0
  by_cases h1 : b ∈ ps
  · exact .inl ⟨h1, if_pos h1⟩
  · rw [if_neg h1]
    by_cases h2 : b = a ∧ (K.lookup a).isNone = true
    · exact .inr (.inl ⟨h2.1, Option.isNone_iff_eq_none.mp h2.2, if_pos h2⟩)
    · exact .inr (.inr (if_neg h2))
section
variable {P : Program} {w : World} {K : PySem.W.Frag} {mg mb : Str → Option Value} {s : Shared} {a : Addr} {vs : List Value} {ns : List Int}
/-- a def that may lean on the guards, called with the script -/
theorem call_top {k : Nat} {x : Str} {sp : Sp} {cs : List (Addr × Addr)} (KX : K.In s.heap) (hns : s.heap.Ns mainGlobals mg) (hbn : s.heap.Ns builtinsNs mb) (hbb : ∀ x : Str, x ≠ "__name__" → mb x = bootBuiltins x) (hlim : s.heap.NoLimit) (hg : s.gens = #[])
    (hT : ∀ p ∈ cs, s.heap.get? p.2 = some { cls := .none, data := .fields #[] }) (nT : ∀ p ∈ cs, K.lookup p.2 = none) (hh : ∀ p ∈ cs, PySem.W.codeHdIn K p.1 p.2 = true)
    (hbm : ∃ (bm : Addr) (ob : Obj), mg "__builtins__" = some (.ref bm) ∧ bm ≠ builtinsNs ∧ s.heap.get? bm = some ob ∧ ob.cls = .type "module" ∧ ob.dict = some builtinsNs ∧ ob.data = .plain)
    (ha : s.heap.get? a = some { cls := .type "list", data := .seq vs.toArray }) (hi : IntsAre vs ns) (hl : ns.length ≤ sizeLine) (hr : Room k callerA)
    (F : ∀ base : Heap, K.In base → base.Ns mainGlobals mg → (∀ p ∈ cs, TabB base mg p.1 p.2) → CalX P w K mg base k x sp)
    (hsp : ∀ H : Hp, (∀ p ∈ cs, H p.2 = some (.tbl #[])) → SqL K H a (ns.map V.int) → sp [.ref a] H (fun v _ => v = .bl true) fun _ _ _ => False) :
    codeAny (model P w) callerA (.call (.ref (He.ga K x)) ⟨[.ref a], []⟩) (fun r s' => r = .ok (.ret (.bool true)) ∧ OldK s.heap s'.heap ∧ s'.os = s.os ∧ AllBare s'.gens) s := by
  obtain ⟨ps, eps⟩ : ∃ ps, ps = cs.map (·.2) := ⟨_, rfl⟩
  have inP : ∀ p ∈ cs, p.2 ∈ ps := fun p hp => by rw [eps]; exact List.mem_map_of_mem hp
  have ofP : ∀ b ∈ ps, s.heap.get? b = some { cls := .none, data := .fields #[] } ∧ K.lookup b = none := fun b hb => by
    rw [eps] at hb
    obtain ⟨p, hp, rfl⟩ := List.mem_map.mp hb
    exact ⟨hT p hp, nT p hp⟩
  have hcs := heap0_cases K ps a vs ns
  have hTb : ∀ p ∈ cs, heap0 K ps a vs ns p.2 = some (.tbl #[]) := fun p hp => if_pos (inP p hp)
  have naP : a ∉ ps := fun z => by
    have := (ofP a z).1
    rw [ha] at this
    cases this
  have hS : SqL K (heap0 K ps a vs ns) a (ns.map V.int) := by
    cases q : K.lookup a with
    | none =>
      refine .inl (.inr ⟨{ cls := .type "list", data := .seq vs.toArray }, ?_⟩)
      unfold heap0
      rw [if_neg naP, if_pos ⟨rfl, by rw [q]; rfl⟩]
    | some o =>
      have e := KX a o q
      rw [ha] at e
      cases e
      exact .inr ⟨_, vs.toArray, _, q, rfl, rfl, rfl, by rw [List.size_toArray, hi.length]; exact hl, by simpa using vals_ints hi⟩
  obtain ⟨H, eH⟩ : ∃ H, H = heap0 K ps a vs ns := ⟨_, rfl⟩
  rw [← eH] at hS
  have hTb' : ∀ p ∈ cs, H p.2 = some (.tbl #[]) := fun p hp => by rw [eH]; exact hTb p hp
  have hcs' : ∀ b, (b ∈ ps ∧ H b = some (.tbl #[])) ∨ (b = a ∧ K.lookup a = none ∧ H b = some (.frz { cls := .type "list", data := .seq vs.toArray } (.lst (ns.map V.int)))) ∨ H b = none := fun b => by rw [eH]; exact hcs b
  clear eH hcs hTb
  -- every object but an empty table and the script stands in what is told
  have none_of : ∀ {b : Addr} {o : Obj}, s.heap.get? b = some o → (∀ ws n, o.data ≠ .seq ws n) → (∀ ws, o.data ≠ .fields ws ∨ K.lookup b ≠ none) → H b = none := fun {b o} e n1 n2 => by
    rcases hcs' b with ⟨h1, _⟩ | ⟨h1, _, _⟩ | h1
    · obtain ⟨g1, g2⟩ := ofP b h1
      rw [e] at g1
      have := Option.some.inj g1
      subst this
      rcases n2 #[] with h | h
      · exact absurd rfl h
      · exact absurd g2 h
    · rw [h1, ha] at e
      have := Option.some.inj e
      subst this
      exact absurd rfl (n1 _ _)
    · exact h1
  have shown : ∀ {b : Addr} {o : Obj}, s.heap.get? b = some o → H b = none → (hidT s.heap H).get? b = some o := fun e n => hidT_get e n
  have ns_of : ∀ {b : Addr} {m : Str → Option Value}, s.heap.Ns b m → (hidT s.heap H).Ns b m := fun {b m} ⟨o, es, ep, e, d, r⟩ => ⟨o, es, ep, shown e (none_of e (fun ws n z => by rw [d] at z; cases z) fun ws => .inl (by rw [d]; simp)), d, r⟩
  have KB : K.In (hidT s.heap H) := fun b o e => shown (KX b o e) (by
    rcases hcs' b with ⟨h1, _⟩ | ⟨h1, h2, _⟩ | h1
    · rw [(ofP b h1).2] at e; cases e
    · rw [h1, h2] at e; cases e
    · exact h1)
  have hM : L2.Mod K mg (hidT s.heap H) := ⟨KB, ns_of hns, ⟨mb, ns_of hbn, hbb⟩, let ⟨mc, h1, h2⟩ := hlim; ⟨mc, ns_of h1, h2⟩⟩
  have TB : ∀ p ∈ cs, TabB (hidT s.heap H) mg p.1 p.2 := fun p hp => by
    obtain ⟨bm, ob, b1, b2, b3, b4, b5, b6⟩ := hbm
    obtain ⟨oG, es, ep, eG, dG, _⟩ := id hns
    have nG : bm ≠ mainGlobals := fun q => by
      rw [q, eG] at b3
      have := Option.some.inj b3
      subst this
      rw [dG] at b6
      cases b6
    refine ⟨PySem.W.codeHd_of_K KB (hh p hp), ⟨bm, ob, b1, b2, nG, fun q => ?_, shown b3 (none_of b3 (fun ws n z => by rw [b6] at z; cases z) fun ws => .inl (by rw [b6]; simp)), b4, b5, b6⟩, fun q => ?_⟩
    · rw [q, hT p hp] at b3
      have := Option.some.inj b3
      subst this
      cases b6
    · rw [q, hT p hp] at eG
      have := Option.some.inj eG
      subst this
      cases dG
  have hok : HOk P w H s.heap := fun b u e => by
    rcases hcs' b with ⟨h1, h2⟩ | ⟨h1, _, h2⟩ | h2
    · rw [h2] at e
      cases e
      exact (ofP b h1).1
    · rw [h2] at e
      cases e
      rw [h1]
      exact ⟨ha, by rw [List.length_map]; exact hl, vs, _, vals_ints hi, ha⟩
    · rw [h2] at e
      cases e
  have e0 : Env0 P w K mg (hidT s.heap H) callerA [] s H := ⟨rfl, hM, fun b o e => of_hidT e, Nat.le_of_eq (hidT_size _ _), trivial, fun b hb => absurd (show b ∈ ([] : List Addr) from hb) (by simp), hok, .of_eq hg⟩
  refine codeAny_mono ((F _ KB (ns_of hns) TB).run callerA [] s H [.ref a] [.ref a] _ _ hr rfl e0 (.cons rfl .nil) (hsp H hTb' hS)) fun r s' h => ?_
  cases r with
  | error e =>
    obtain ⟨_, _, _, _, _, _, _, _, _, _, _, _, z⟩ := h
    exact False.elim z
  | ok fl =>
    cases fl with
    | next => exact False.elim h
    | brk => exact False.elim h
    | cont => exact False.elim h
    | ret u =>
      obtain ⟨v, H', os, bare, un, hok', r', q⟩ := h
      have q' : v = .bl true := q
      subst q'
      obtain rfl : u = Value.bool true := r'
      have old : ∀ b o, b ∉ ps → s.heap.get? b = some o → s'.heap.get? b = some o := fun b o nb e => by
        rcases hcs' b with ⟨h1, _⟩ | ⟨_, _, h2⟩ | h2
        · exact absurd h1 nb
        · obtain ⟨e1, _⟩ := hok b _ h2
          obtain ⟨e2, _⟩ := hok' b _ (un.frzs b _ _ h2)
          rw [e] at e1
          rw [Option.some.inj e1]
          exact e2
        · exact un.keep b o e h2 (fun z => absurd (show b ∈ ([] : List Addr) from z) (by simp)) (by simp)
      have grown : ∀ b ∈ ps, ∃ more : Array Value, s'.heap.get? b = some { cls := .none, data := .fields more } := fun b hb => by
        rcases hcs' b with ⟨_, h2⟩ | ⟨h1, _, _⟩ | h2
        · obtain ⟨more, z⟩ := un.tbls b #[] h2
          exact ⟨_, hok' b _ z⟩
        · exact absurd (h1 ▸ hb) naP
        · rw [eps] at hb
          obtain ⟨p, hp, rfl⟩ := List.mem_map.mp hb
          rw [hTb' p hp] at h2
          cases h2
      refine ⟨rfl, ⟨fun b o e => ?_, fun b o e => ?_⟩, os, bare⟩
      · by_cases hb : b ∈ ps
        · obtain ⟨more, hm⟩ := grown b hb
          rw [eps] at hb
          obtain ⟨p, hp, rfl⟩ := List.mem_map.mp hb
          have e2 := hT p hp
          rw [e2] at e
          cases e
          exact .inr (.inl ⟨((PySem.W.codeHd_of_K KX (hh p hp)).tab e2).isCodeTable, rfl, #[], more, rfl, by rw [Array.empty_append]; exact hm⟩)
        · exact .inl (old b o hb e)
      · by_cases hb : b ∈ ps
        · obtain ⟨more, hm⟩ := grown b hb
          exact ⟨_, hm⟩
        · exact ⟨o, old b o hb e⟩
end
end RD

/-! RDFin: the row. -/
namespace RD
open PySem PySem.Spec PyProof.Rows L2
open LamX (TabB Tabs TabS)
theorem tbs_of {K : PySem.W.Frag} {mg : Str → Option Value} {base : Heap} (h : ∀ p ∈ tfY.map (He.cT K), TabB base mg p.1 p.2) (d : disB K = true) : Tbs K mg base := by
  have two := He.ba d
  have rest := He.ba two.2
  have at_ : ∀ x ∈ tfY, TabB base mg (He.cT K x).1 (He.cT K x).2 := fun x hx => h _ (List.mem_map_of_mem hx)
  exact ⟨at_ _ (.head _), at_ _ (.tail _ (.head _)), at_ _ (.tail _ (.tail _ (.head _))), of_decide_eq_true two.1, of_decide_eq_true rest.1, of_decide_eq_true rest.2⟩
theorem tabs0 {K : PySem.W.Frag} {H : Hp} (h : ∀ p ∈ tfY.map (He.cT K), H p.2 = some (.tbl #[])) : Tabs (TL K) H := by
  have at_ : ∀ x ∈ tfY, H (He.cT K x).2 = some (.tbl #[]) := fun x hx => h _ (List.mem_map_of_mem hx)
  intro p hp
  simp only [TL, List.mem_cons, List.not_mem_nil, or_false] at hp
  rcases hp with rfl | rfl | rfl
  · exact TabS.nil (at_ _ (.head _))
  · exact TabS.nil (at_ _ (.tail _ (.head _)))
  · exact TabS.nil (at_ _ (.tail _ (.tail _ (.head _))))
theorem walk_law : PySem.W.WalkO (PySem.W.view R.prog [75]) loose (PySem.W.XL (PySem.W.view R.prog [75]) []) hk.says R.toRowW (HandSHeadRun.topDef R.prog 75) [] fun f vs => PySem.call f vs := by
  refine Att.attach_callB (l := PySem.Challenge.rw_roomdials_k71_whole_attempts) (n := 63) rfl (by kernel_rfl) fun w s₀ s₁ mg mb fa o pm cd doc a vs ns G Y ho hd hcd hmg0 hobj hints hlen hbits hg => ?_
  obtain ⟨K, KX, c⟩ := Y
  have T : Says w K mg := ⟨⟨s₁.heap, KX, G.T.g⟩, c.d, c.ex, c.gt, c.gv⟩
  have hmg : mg ("law" : Str) = some (.ref fa) := by
    have e : (HandSHeadRun.topDef R.prog 75).name = ("law" : Str) := by kernel_rfl
    rw [← e]
    exact hmg0
  rw [T.g_law] at hmg
  cases hmg
  have hbig : sizeLine = 16777216 := sizeLine_eq
  refine call_top (k := 29) (cs := tfY.map (He.cT K)) (sp := spLaw K) KX G.T.g G.T.b G.T.builtins G.T.nolimit hg (fun p hp => ?_) (fun p hp => ?_) (fun p hp => ?_) G.T.bmain hobj hints (by omega) ⟨rfl, by decide, by decide⟩ (fun base KB GB TB => ok_law ⟨⟨s₁.heap, KX, G.T.g⟩, c.d, c.ex, c.gt, c.gv⟩ (tbs_of TB c.dis)) fun H hH hS => ⟨a, ns, rfl, hS, tabs0 hH, fun _ => rfl⟩
  · obtain ⟨x, hx, rfl⟩ := List.mem_map.mp hp
    exact c.empty x hx
  · obtain ⟨x, hx, rfl⟩ := List.mem_map.mp hp
    exact c.out x hx
  · obtain ⟨x, hx, rfl⟩ := List.mem_map.mp hp
    exact c.hd x hx
end RD
open PySem PySem.W PySem.Calls PyProof.Rows
theorem PySem.Challenge.cw_roomdials_k71_whole_attempts_holds : PySem.Challenge.rw_roomdials_k71_whole_attempts.Holds := by
  w_on; o_law
  refine HandSHeadRun.head_any (r := RD.R) (q := view RD.R.prog [75]) (H := RD.hk) (ob := RD.ob) (M := 20000) (loose := RD.loose) (d := HandSHeadRun.topDef RD.R.prog 75) (kwd := []) RD.ob_eq (by kernel_rfl) (fun s => by kernel_rfl) RD.run (by kernel_rfl) (by kernel_rfl) (by kernel_rfl) (by rfl) (by first | assumption | decide +kernel) (by decide +kernel) ⟨rfl, rfl, rfl, rfl, rfl, by decide +kernel⟩ ?hw RD.walk_law
  case hw => w_witness2
