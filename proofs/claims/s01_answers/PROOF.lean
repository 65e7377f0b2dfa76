import PyProof.Rows.All
import Wide.All
import OpenK.AllK
import Wide.FinOn
import PyProof.EqAt
import PyProof.EqKinds
import PyProof.TupleCall
import KE.KStateDown
import KE.OsHead
import Open.SpecLaws
import KE.OsGo
import HandS.ForSpec
import HandS.Comp
import HandS.Dict
import HandS.Iter
import HandS.More
import HandS.Zip
import HandS.SortRule
import HandS.SortInts
import HandS.TupLe
import HandS.Walk
import HandS.Defaults
import HandS.HeadHook4
import HandS.Head4
import HandS.Steps
import HandS.WordsDict
import PySem.Challenge.RW_switchtree_s01_answers
set_option Elab.async false
set_option linter.all false
set_option maxRecDepth 100000
set_option maxHeartbeats 0
namespace Sw
open PySem PySem.Spec PyProof.Rows L2
abbrev Pr : Program := PySem.Challenge.pw_switchtree_s01_answers
def top (i : Nat) : Stmt := Pr.main.body.getD i (.Pass ⟨0, 0, 0, 0⟩)
def D_Bridge_init : He.DefD := ⟨("Bridge", some "__init__"), "__init__", "Bridge.__init__", defArgs (inClass (top 4) 0), defBody (inClass (top 4) 0), defScope (inClass (top 4) 0), [], []⟩
def D_Net_init : He.DefD := ⟨("Net", some "__init__"), "__init__", "Net.__init__", defArgs (inClass (top 5) 0), defBody (inClass (top 5) 0), defScope (inClass (top 5) 0), [], []⟩
def D_name_of : He.DefD := ⟨("name_of", none), "name_of", "name_of", defArgs (top 6), defBody (top 6), defScope (top 6), [], []⟩
def D_forwards : He.DefD := ⟨("forwards", none), "forwards", "forwards", defArgs (top 7), defBody (top 7), defScope (top 7), [], []⟩
def D_cable_at : He.DefD := ⟨("cable_at", none), "cable_at", "cable_at", defArgs (top 8), defBody (top 8), defScope (top 8), [], []⟩
def D_cables_of : He.DefD := ⟨("cables_of", none), "cables_of", "cables_of", defArgs (top 9), defBody (top 9), defScope (top 9), [], []⟩
def D_empty_port : He.DefD := ⟨("empty_port", none), "empty_port", "empty_port", defArgs (top 10), defBody (top 10), defScope (top 10), [], []⟩
def D_begin_anew : He.DefD := ⟨("begin_anew", none), "begin_anew", "begin_anew", defArgs (top 11), defBody (top 11), defScope (top 11), [], []⟩
def D_set_cable : He.DefD := ⟨("set_cable", none), "set_cable", "set_cable", defArgs (top 12), defBody (top 12), defScope (top 12), [], []⟩
def D_lay_cable : He.DefD := ⟨("lay_cable", none), "lay_cable", "lay_cable", defArgs (top 13), defBody (top 13), defScope (top 13), [], []⟩
def D_cut_cable : He.DefD := ⟨("cut_cable", none), "cut_cable", "cut_cable", defArgs (top 14), defBody (top 14), defScope (top 14), [], []⟩
def D_begin_neighbours_anew : He.DefD := ⟨("begin_neighbours_anew", none), "begin_neighbours_anew", "begin_neighbours_anew", defArgs (top 15), defBody (top 15), defScope (top 15), [], []⟩
def D_turn_off : He.DefD := ⟨("turn_off", none), "turn_off", "turn_off", defArgs (top 16), defBody (top 16), defScope (top 16), [], []⟩
def D_turn_on : He.DefD := ⟨("turn_on", none), "turn_on", "turn_on", defArgs (top 17), defBody (top 17), defScope (top 17), [], []⟩
def D_Held_init : He.DefD := ⟨("Held", some "__init__"), "__init__", "Held.__init__", defArgs (inClass (top 24) 0), defBody (inClass (top 24) 0), defScope (inClass (top 24) 0), [], []⟩
def D_held_by : He.DefD := ⟨("held_by", none), "held_by", "held_by", defArgs (top 25), defBody (top 25), defScope (top 25), [], []⟩
def D_row_of_way : He.DefD := ⟨("row_of_way", none), "row_of_way", "row_of_way", defArgs (top 26), defBody (top 26), defScope (top 26), [], []⟩
def D_hello_at : He.DefD := ⟨("hello_at", none), "hello_at", "hello_at", defArgs (top 27), defBody (top 27), defScope (top 27), [], []⟩
def D_roles_of : He.DefD := ⟨("roles_of", none), "roles_of", "roles_of", defArgs (top 28), defBody (top 28), defScope (top 28), [], []⟩
def D_Beginning_init : He.DefD := ⟨("Beginning", some "__init__"), "__init__", "Beginning.__init__", defArgs (inClass (top 30) 0), defBody (inClass (top 30) 0), defScope (inClass (top 30) 0), [], []⟩
def D_make_rounds : He.DefD := ⟨("make_rounds", none), "make_rounds", "make_rounds", defArgs (top 31), defBody (top 31), defScope (top 31), [], []⟩
def D_make_round : He.DefD := ⟨("make_round", none), "make_round", "make_round", defArgs (top 32), defBody (top 32), defScope (top 32), [], []⟩
def D_beginning_of : He.DefD := ⟨("beginning_of", none), "beginning_of", "beginning_of", defArgs (top 33), defBody (top 33), defScope (top 33), [], []⟩
def D_renew_hellos : He.DefD := ⟨("renew_hellos", none), "renew_hellos", "renew_hellos", defArgs (top 34), defBody (top 34), defScope (top 34), [], []⟩
def D_renew_waits : He.DefD := ⟨("renew_waits", none), "renew_waits", "renew_waits", defArgs (top 35), defBody (top 35), defScope (top 35), [], []⟩
def D_renew_notices : He.DefD := ⟨("renew_notices", none), "renew_notices", "renew_notices", defArgs (top 36), defBody (top 36), defScope (top 36), [], []⟩
def D_age_stations : He.DefD := ⟨("age_stations", none), "age_stations", "age_stations", defArgs (top 37), defBody (top 37), defScope (top 37), [], []⟩
def D_age_all_stations : He.DefD := ⟨("age_all_stations", none), "age_all_stations", "age_all_stations", defArgs (top 38), defBody (top 38), defScope (top 38), [], []⟩
def D_Session_init : He.DefD := ⟨("Session", some "__init__"), "__init__", "Session.__init__", defArgs (inClass (top 60) 0), defBody (inClass (top 60) 0), defScope (inClass (top 60) 0), [], []⟩
def D_refusal_of : He.DefD := ⟨("refusal_of", none), "refusal_of", "refusal_of", defArgs (top 61), defBody (top 61), defScope (top 61), [], []⟩
def D_begin : He.DefD := ⟨("begin", none), "begin", "begin", defArgs (top 62), defBody (top 62), defScope (top 62), [], []⟩
def D_add_bridge : He.DefD := ⟨("add_bridge", none), "add_bridge", "add_bridge", defArgs (top 63), defBody (top 63), defScope (top 63), [], []⟩
def D_cable_call : He.DefD := ⟨("cable_call", none), "cable_call", "cable_call", defArgs (top 64), defBody (top 64), defScope (top 64), [], []⟩
def D_cut_call : He.DefD := ⟨("cut_call", none), "cut_call", "cut_call", defArgs (top 65), defBody (top 65), defScope (top 65), [], []⟩
def D_off_call : He.DefD := ⟨("off_call", none), "off_call", "off_call", defArgs (top 66), defBody (top 66), defScope (top 66), [], []⟩
def D_on_call : He.DefD := ⟨("on_call", none), "on_call", "on_call", defArgs (top 67), defBody (top 67), defScope (top 67), [], []⟩
def D_set_rank : He.DefD := ⟨("set_rank", none), "set_rank", "set_rank", defArgs (top 68), defBody (top 68), defScope (top 68), [], []⟩
def D_set_cost : He.DefD := ⟨("set_cost", none), "set_cost", "set_cost", defArgs (top 69), defBody (top 69), defScope (top 69), [], []⟩
def D_set_port_rank : He.DefD := ⟨("set_port_rank", none), "set_port_rank", "set_port_rank", defArgs (top 70), defBody (top 70), defScope (top 70), [], []⟩
def D_rounds_call : He.DefD := ⟨("rounds_call", none), "rounds_call", "rounds_call", defArgs (top 71), defBody (top 71), defScope (top 71), [], []⟩
def D_ports_left_by : He.DefD := ⟨("ports_left_by", none), "ports_left_by", "ports_left_by", defArgs (top 73), defBody (top 73), defScope (top 73), [], []⟩
def D_learn : He.DefD := ⟨("learn", none), "learn", "learn", defArgs (top 74), defBody (top 74), defScope (top 74), [], []⟩
def D_places_to_pass : He.DefD := ⟨("places_to_pass", none), "places_to_pass", "places_to_pass", defArgs (top 75), defBody (top 75), defScope (top 75), [], []⟩
def D_Plain_init : He.DefD := ⟨("Plain", some "__init__"), "__init__", "Plain.__init__", defArgs (inClass (top 77) 0), defBody (inClass (top 77) 0), defScope (inClass (top 77) 0), [], []⟩
def D_live_cable : He.DefD := ⟨("live_cable", none), "live_cable", "live_cable", defArgs (top 78), defBody (top 78), defScope (top 78), [], []⟩
def D_neighbours_of : He.DefD := ⟨("neighbours_of", none), "neighbours_of", "neighbours_of", defArgs (top 79), defBody (top 79), defScope (top 79), [], []⟩
def D_piece_of : He.DefD := ⟨("piece_of", none), "piece_of", "piece_of", defArgs (top 80), defBody (top 80), defScope (top 80), [], []⟩
def D_chief_of : He.DefD := ⟨("chief_of", none), "chief_of", "chief_of", defArgs (top 81), defBody (top 81), defScope (top 81), [], []⟩
def D_costs_of_net : He.DefD := ⟨("costs_of_net", none), "costs_of_net", "costs_of_net", defArgs (top 82), defBody (top 82), defScope (top 82), [], []⟩
def D_spread_costs : He.DefD := ⟨("spread_costs", none), "spread_costs", "spread_costs", defArgs (top 83), defBody (top 83), defScope (top 83), [], []⟩
def D_plain_tree : He.DefD := ⟨("plain_tree", none), "plain_tree", "plain_tree", defArgs (top 84), defBody (top 84), defScope (top 84), [], []⟩
def D_root_place : He.DefD := ⟨("root_place", none), "root_place", "root_place", defArgs (top 85), defBody (top 85), defScope (top 85), [], []⟩
def D_row_of_port : He.DefD := ⟨("row_of_port", none), "row_of_port", "row_of_port", defArgs (top 86), defBody (top 86), defScope (top 86), [], []⟩
def D_is_plainly_blocked : He.DefD := ⟨("is_plainly_blocked", none), "is_plainly_blocked", "is_plainly_blocked", defArgs (top 87), defBody (top 87), defScope (top 87), [], []⟩
def D_plain_cables : He.DefD := ⟨("plain_cables", none), "plain_cables", "plain_cables", defArgs (top 88), defBody (top 88), defScope (top 88), [], []⟩
def D_forwarding_cables : He.DefD := ⟨("forwarding_cables", none), "forwarding_cables", "forwarding_cables", defArgs (top 90), defBody (top 90), defScope (top 90), [], []⟩
def D_way_between : He.DefD := ⟨("way_between", none), "way_between", "way_between", defArgs (top 91), defBody (top 91), defScope (top 91), [], []⟩
def D_rows_of : He.DefD := ⟨("rows_of", none), "rows_of", "rows_of", defArgs (top 97), defBody (top 97), defScope (top 97), [], []⟩
def D_port_call : He.DefD := ⟨("port_call", none), "port_call", "port_call", defArgs (top 98), defBody (top 98), defScope (top 98), [], []⟩
def D_view_call : He.DefD := ⟨("view_call", none), "view_call", "view_call", defArgs (top 99), defBody (top 99), defScope (top 99), [], []⟩
def D_tree_call : He.DefD := ⟨("tree_call", none), "tree_call", "tree_call", defArgs (top 100), defBody (top 100), defScope (top 100), [], []⟩
def D_plain_call : He.DefD := ⟨("plain_call", none), "plain_call", "plain_call", defArgs (top 101), defBody (top 101), defScope (top 101), [], []⟩
def D_frame_call : He.DefD := ⟨("frame_call", none), "frame_call", "frame_call", defArgs (top 102), defBody (top 102), defScope (top 102), [], []⟩
def D_stations_call : He.DefD := ⟨("stations_call", none), "stations_call", "stations_call", defArgs (top 103), defBody (top 103), defScope (top 103), [], []⟩
def D_way_call : He.DefD := ⟨("way_call", none), "way_call", "way_call", defArgs (top 104), defBody (top 104), defScope (top 104), [], []⟩
def D_quiet_call : He.DefD := ⟨("quiet_call", none), "quiet_call", "quiet_call", defArgs (top 105), defBody (top 105), defScope (top 105), [], []⟩
def D_answers : He.DefD := ⟨("answers", none), "answers", "answers", defArgs (top 108), defBody (top 108), defScope (top 108), [], []⟩
def D_answer_of : He.DefD := ⟨("answer_of", none), "answer_of", "answer_of", defArgs (top 109), defBody (top 109), defScope (top 109), [], []⟩
def D_changing_answer : He.DefD := ⟨("changing_answer", none), "changing_answer", "changing_answer", defArgs (top 110), defBody (top 110), defScope (top 110), [], []⟩
def D_asking_answer : He.DefD := ⟨("asking_answer", none), "asking_answer", "asking_answer", defArgs (top 111), defBody (top 111), defScope (top 111), [], []⟩
def fn0 : List He.DefD := [D_Bridge_init, D_Net_init, D_name_of, D_forwards, D_cable_at, D_cables_of, D_empty_port, D_begin_anew, D_set_cable, D_lay_cable, D_cut_cable, D_begin_neighbours_anew, D_turn_off, D_turn_on, D_Held_init, D_held_by, D_row_of_way, D_hello_at, D_roles_of, D_Beginning_init, D_make_rounds, D_make_round, D_beginning_of, D_renew_hellos, D_renew_waits, D_renew_notices, D_age_stations, D_age_all_stations, D_Session_init, D_refusal_of]
def fn1 : List He.DefD := [D_begin, D_add_bridge, D_cable_call, D_cut_call, D_off_call, D_on_call, D_set_rank, D_set_cost, D_set_port_rank, D_rounds_call, D_ports_left_by, D_learn, D_places_to_pass, D_Plain_init, D_live_cable, D_neighbours_of, D_piece_of, D_chief_of, D_costs_of_net, D_spread_costs, D_plain_tree, D_root_place, D_row_of_port, D_is_plainly_blocked, D_plain_cables, D_forwarding_cables, D_way_between, D_rows_of, D_port_call, D_view_call]
def fn2 : List He.DefD := [D_tree_call, D_plain_call, D_frame_call, D_stations_call, D_way_call, D_quiet_call, D_answers, D_answer_of, D_changing_answer, D_asking_answer]
def fn : List He.DefD := fn0 ++ (fn1 ++ (fn2))
def fa0 : List He.Fa := [.glo "name_of", .glo "forwards", .glo "cable_at", .glo "cables_of", .glo "empty_port", .glo "begin_anew", .glo "set_cable", .glo "lay_cable", .glo "cut_cable", .glo "begin_neighbours_anew", .glo "turn_off", .glo "turn_on", .glo "held_by", .glo "row_of_way", .glo "hello_at", .glo "roles_of", .glo "make_rounds", .glo "make_round", .glo "beginning_of", .glo "renew_hellos", .glo "renew_waits", .glo "renew_notices", .glo "age_stations", .glo "age_all_stations", .glo "refusal_of", .glo "begin", .glo "add_bridge", .glo "cable_call", .glo "cut_call", .glo "off_call"]
def fa1 : List He.Fa := [.glo "on_call", .glo "set_rank", .glo "set_cost", .glo "set_port_rank", .glo "rounds_call", .glo "ports_left_by", .glo "learn", .glo "places_to_pass", .glo "live_cable", .glo "neighbours_of", .glo "piece_of", .glo "chief_of", .glo "costs_of_net", .glo "spread_costs", .glo "plain_tree", .glo "root_place", .glo "row_of_port", .glo "is_plainly_blocked", .glo "plain_cables", .glo "forwarding_cables", .glo "way_between", .glo "rows_of", .glo "port_call", .glo "view_call", .glo "tree_call", .glo "plain_call", .glo "frame_call", .glo "stations_call", .glo "way_call", .glo "quiet_call"]
def fa2 : List He.Fa := [.glo "answers", .glo "answer_of", .glo "changing_answer", .glo "asking_answer", .free "list", .free "any", .free "len", .free "enumerate", .free "zip", .free "range", .free "sorted", .free "min", .int "PORTS" (16), .int "NEW_COST" (100), .int "NEW_RANK" (128), .int "NO_ROLE" (0), .int "ROOT" (1), .int "DESIGNATED" (2), .int "BLOCKED" (3), .int "NO_PORT" (-1), .int "NOT_BEGUN" (-1), .int "OUT_OF_RANGE" (-2), .int "NO_BRIDGE" (-3), .int "TOO_MANY" (-4), .int "NUMBER_BORNE" (-5), .int "ONE_PORT" (-6), .int "HAS_CABLE" (-7), .int "NO_CABLE" (-8), .int "IS_OFF" (-9), .int "IS_ON" (-10)]
def fa3 : List He.Fa := [.int "MOST_BRIDGES" (32), .int "FRAME_AT_OFF" (-11), .int "FRAME_AT_CABLE" (-12), .int "FRAME_NOT_FORWARDED" (-13), .int "NO_WAY" (-14), .glo "BRIDGE", .glo "PORT", .glo "RANK", .glo "PORT_RANK", .glo "COST", .glo "ROUNDS", .glo "BRIDGE_NUMBER", .glo "STATION", .glo "STATION_OR_EVERYBODY", .glo "COUNTS", .glo "Bridge", .cls "Bridge", .mkr "Bridge", .noat "Bridge" "rank", .noat "Bridge" "number", .noat "Bridge" "is_on", .noat "Bridge" "costs", .noat "Bridge" "ranks", .noat "Bridge" "cables", .noat "Bridge" "hellos", .noat "Bridge" "ages", .noat "Bridge" "waits", .noat "Bridge" "notices", .noat "Bridge" "stations", .glo "Net"]
def fa4 : List He.Fa := [.cls "Net", .mkr "Net", .noat "Net" "age", .noat "Net" "wait", .noat "Net" "keep", .noat "Net" "room", .noat "Net" "bridges", .noat "Net" "quiet", .glo "Held", .cls "Held", .mkr "Held", .noat "Held" "root", .noat "Held" "cost", .noat "Held" "place", .noat "Held" "age", .glo "Beginning", .cls "Beginning", .mkr "Beginning", .noat "Beginning" "roles", .noat "Beginning" "heard", .noat "Beginning" "given", .glo "Session", .cls "Session", .mkr "Session", .noat "Session" "net", .glo "Plain", .cls "Plain", .mkr "Plain", .noat "Plain" "costs", .noat "Plain" "root_places"]
def fa : List He.Fa := fa0 ++ (fa1 ++ (fa2 ++ (fa3 ++ (fa4))))
def tupsB (K : PySem.W.Frag) : Bool := He.tupB K "BRIDGE" [.int (0), .int (31)] && (He.tupB K "PORT" [.int (0), .int (15)] && (He.tupB K "RANK" [.int (0), .int (65535)] && (He.tupB K "PORT_RANK" [.int (0), .int (255)] && (He.tupB K "COST" [.int (1), .int (1000000000)] && (He.tupB K "ROUNDS" [.int (1), .int (1000)] && (He.tupB K "BRIDGE_NUMBER" [.int (0), .int (281474976710655)] && (He.tupB K "STATION" [.int (0), .int (281474976710654)] && (He.tupB K "STATION_OR_EVERYBODY" [.int (0), .int (281474976710655)] && (He.tupB K "COUNTS" [.int (4), .int (2), .int (4), .int (2), .int (1), .int (1), .int (2), .int (3), .int (3), .int (1), .int (2), .int (1), .int (0), .int (0), .int (4), .int (1), .int (2), .int (0)])))))))))
def loose0 : List PySem.Str := ["name_of", "forwards", "cable_at", "cables_of", "empty_port", "begin_anew", "set_cable", "lay_cable", "cut_cable", "begin_neighbours_anew", "turn_off", "turn_on", "held_by", "row_of_way", "hello_at", "roles_of", "make_rounds", "make_round", "beginning_of", "renew_hellos", "renew_waits", "renew_notices", "age_stations", "age_all_stations", "refusal_of", "begin", "add_bridge", "cable_call", "cut_call", "off_call"]
def loose1 : List PySem.Str := ["on_call", "set_rank", "set_cost", "set_port_rank", "rounds_call", "ports_left_by", "learn", "places_to_pass", "live_cable", "neighbours_of", "piece_of", "chief_of", "costs_of_net", "spread_costs", "plain_tree", "root_place", "row_of_port", "is_plainly_blocked", "plain_cables", "forwarding_cables", "way_between", "rows_of", "port_call", "view_call", "tree_call", "plain_call", "frame_call", "stations_call", "way_call", "quiet_call"]
def loose2 : List PySem.Str := ["answer_of", "changing_answer", "asking_answer", "Bridge", "Net", "Held", "Beginning", "Session", "Plain", "PORTS", "NEW_COST", "NEW_RANK", "NO_ROLE", "ROOT", "DESIGNATED", "BLOCKED", "NO_PORT", "NOT_BEGUN", "OUT_OF_RANGE", "NO_BRIDGE", "TOO_MANY", "NUMBER_BORNE", "ONE_PORT", "HAS_CABLE", "NO_CABLE", "IS_OFF", "IS_ON", "MOST_BRIDGES", "FRAME_AT_OFF", "FRAME_AT_CABLE"]
def loose3 : List PySem.Str := ["FRAME_NOT_FORWARDED", "NO_WAY", "BRIDGE", "PORT", "RANK", "PORT_RANK", "COST", "ROUNDS", "BRIDGE_NUMBER", "STATION", "STATION_OR_EVERYBODY", "COUNTS"]
def loose : List PySem.Str := loose0 ++ (loose1 ++ (loose2 ++ (loose3)))
end Sw
namespace Sw
open PySem PySem.Spec PyProof.Rows L2
abbrev R : PySem.W.OpenSpec := PySem.Challenge.rw_switchtree_s01_answers
/-- the objects that are looked at -/
def seen (g : Addr → Option Obj) : PySem.W.Frag := He.frG g (mainGlobals :: List.range 600)
def lookAt (g : Addr → Option Obj) : He.AlD × Bool := (He.obsD fa fn (seen g), tupsB (seen g))
def hk : PySem.W.Hook where
  α := He.AlD × Bool
  obs := fun s => lookAt s.heap.get?
  val := fun _ => (He.valD fn, true)
  says := fun _ h => ∃ K : PySem.W.Frag, K.In h ∧ He.SaysD fa fn K ∧ tupsB K = true
  of := fun _ h e => ⟨seen h.heap.get?, He.frG_in, congrArg Prod.fst e, congrArg Prod.snd e⟩
  keeps := fun _ _ _ ⟨K, hK, told⟩ kept => ⟨K, hK.keeps kept, told⟩
def ob (s : PySem.W.SharedT) : He.AlD × Bool := lookAt (HandSHeadRun.getT s)
theorem ob_eq (s : PySem.W.SharedT) : ob s = hk.obs s.abs := congrArg lookAt (funext (HandSHeadRun.getT_eq s))
theorem run (w : World) : HandSHeadRun.RunEqS R (PySem.W.view R.prog [108]) hk ob 6000 loose w := by
  intro os
  kernel_rfl
end Sw
namespace Sw
open PySem PySem.Spec PyProof.Rows L2
/-! ### the head's end, from a walk of the call -/
theorem said : R.wellSaid = true := by decide +kernel
theorem row_of (wk : PySem.W.WalkOS (PySem.W.view R.prog [108]) loose (PySem.W.XL (PySem.W.view R.prog [108]) []) hk.says R (HandSHeadRun.topDef R.prog 108) [] (fun f vs => PySem.call f vs)) : R.Holds := by
  refine HandSHeadRun.head_spec (r := R) (q := PySem.W.view R.prog [108]) (H := hk) (ob := ob) (M := 6000) (loose := loose) (d := HandSHeadRun.topDef R.prog 108) (kwd := []) ob_eq (by kernel_rfl) (fun s => by kernel_rfl) run (by kernel_rfl) (by kernel_rfl) (by kernel_rfl) PySem.W.os_shapes said (by decide +kernel) ⟨rfl, rfl, rfl, rfl, rfl, by decide +kernel⟩ ⟨[.list [.int 17]], by decide +kernel, by decide +kernel⟩ wk
end Sw
/-! A1. The state's getters behind its setters; walks over cables that forward; no ring, no walk comes back. -/
namespace Sw
open Vbcnac

/-! ### lists by place -/
theorem getD_set {α : Type} (l : List α) (i j : Nat) (x d : α) : (l.set i x).getD j d = if j = i ∧ i < l.length then x else l.getD j d := by
  rw [List.getD_eq_getElem?_getD, List.getD_eq_getElem?_getD, List.getElem?_set]
  by_cases h : i = j
  · subst h
    by_cases h2 : i < l.length
    · simp [h2]
    · simp [h2]
  · simp [h, Ne.symm h]

theorem len_set (s : State) (b : Nat) (x : Bridge) : (setBridge s b x).bridges.length = s.bridges.length := List.length_set
theorem bridgeAt_set (s : State) (b c : Nat) (x : Bridge) : bridgeAt (setBridge s b x) c = if c = b ∧ b < s.bridges.length then x else bridgeAt s c := getD_set _ _ _ _ _
theorem bridgeAt_same {s : State} {b : Nat} {x : Bridge} (h : b < s.bridges.length) : bridgeAt (setBridge s b x) b = x := by
  rw [bridgeAt_set, if_pos ⟨rfl, h⟩]
theorem bridgeAt_ne {s : State} {b c : Nat} {x : Bridge} (h : c ≠ b) : bridgeAt (setBridge s b x) c = bridgeAt s c := by
  rw [bridgeAt_set, if_neg fun q => h q.1]
theorem bridgeAt_out {s : State} {b : Nat} (h : ¬ b < s.bridges.length) : bridgeAt s b = { rank := 0, number := 0, on := false, ports := [] } := by
  unfold bridgeAt
  rw [List.getD_eq_getElem?_getD, List.getElem?_eq_none (Nat.le_of_not_lt h)]
  rfl
theorem bridgeAt_get {s : State} {b : Nat} (h : b < s.bridges.length) : s.bridges[b]? = some (bridgeAt s b) := by
  unfold bridgeAt
  rw [List.getD_eq_getElem?_getD, List.getElem?_eq_getElem h]
  rfl
theorem portAt_out {s : State} {b p : Nat} (h : ¬ b < s.bridges.length) : portAt s b p = {} := by
  unfold portAt
  rw [bridgeAt_out h]
  rfl
theorem portAt_ge {s : State} {b p : Nat} (h : (bridgeAt s b).ports.length ≤ p) : portAt s b p = {} := by
  unfold portAt
  rw [List.getD_eq_getElem?_getD, List.getElem?_eq_none h]
  rfl
theorem portAt_get {s : State} {b p : Nat} (h : p < (bridgeAt s b).ports.length) : (bridgeAt s b).ports[p]? = some (portAt s b p) := by
  unfold portAt
  rw [List.getD_eq_getElem?_getD, List.getElem?_eq_getElem h]
  rfl
theorem portAt_setPort (s : State) (b p c q : Nat) (x : Port) : portAt (setPort s b p x) c q = if (c = b ∧ b < s.bridges.length) ∧ q = p ∧ p < (bridgeAt s b).ports.length then x else portAt s c q := by
  unfold portAt setPort
  rw [bridgeAt_set]
  by_cases h : c = b ∧ b < s.bridges.length
  · rw [if_pos h]
    show ((bridgeAt s b).ports.set p x).getD q {} = _
    rw [getD_set, h.1]
    by_cases h2 : q = p ∧ p < (bridgeAt s b).ports.length
    · rw [if_pos h2, if_pos ⟨⟨rfl, h.2⟩, h2⟩]
    · rw [if_neg h2, if_neg fun z => h2 z.2]
  · rw [if_neg h, if_neg fun z => h z.1]

/-! ### walks over cables that forward -/
/-- from a bridge, come in by a port or by none, to a bridge, come in by a port or by none; never back by the port of coming; the bridges gone through -/
inductive Go (s : State) : Nat → Option Nat → Nat → Option Nat → List Nat → Prop
  | nil (b : Nat) (i : Option Nat) : Go s b i b i [b]
  | cons {b j d q c : Nat} {i k : Option Nat} {l : List Nat} (hj : some j ≠ i) (f1 : forwards s b j = true) (hp : (portAt s b j).peer = some (d, q)) (f2 : forwards s d q = true) (r : Go s d (some q) c k l) : Go s b i c k (b :: l)

/-- cables lead to and fro -/
def Sym (s : State) : Prop := ∀ b p c q, (portAt s b p).peer = some (c, q) → (portAt s c q).peer = some (b, p) ∧ ¬ (b = c ∧ p = q)

/-- a bridge on a ring: itself, a port in, a port out -/
structure Tri where
  b : Nat
  i : Nat
  o : Nat
def Lk (s : State) (x y : Tri) : Prop := (portAt s x.b x.o).peer = some (y.b, y.i)
/-- neighbours in the list are linked -/
def Chn (s : State) : List Tri → Prop
  | [] => True
  | [_] => True
  | x :: y :: r => Lk s x y ∧ Chn s (y :: r)
/-- a ring: its head, the rest -/
structure Ring (s : State) (x : Tri) (r : List Tri) : Prop where
  chn : Chn s (x :: r ++ [x])
  nd : ((x :: r).map Tri.b).Nodup
  io : ∀ y ∈ x :: r, y.i ≠ y.o
/-- a port whose wait has come so far -/
def Upto (s : State) (j : Nat) (b p : Nat) : Prop := isOn s b = true ∧ j ≤ (portAt s b p).wait
def RingUp (s : State) (j : Nat) (x : Tri) (r : List Tri) : Prop := ∀ y ∈ x :: r, Upto s j y.b y.i ∧ Upto s j y.b y.o

theorem chn_app {s : State} : ∀ {l : List Tri} {x : Tri} {r : List Tri}, Chn s (l ++ [x]) → Chn s (x :: r) → Chn s (l ++ x :: r)
  | [], _, _, _, h => h
  | [a], x, r, h1, h2 => ⟨h1.1, h2⟩
  | a :: b :: l, x, r, h1, h2 => ⟨h1.1, chn_app (l := b :: l) h1.2 h2⟩
theorem chn_left {s : State} : ∀ {l : List Tri} {x : Tri} {r : List Tri}, Chn s (l ++ x :: r) → Chn s (l ++ [x])
  | [], _, _, _ => trivial
  | [a], x, r, h => ⟨h.1, trivial⟩
  | a :: b :: l, x, r, h => ⟨h.1, chn_left (l := b :: l) h.2⟩
theorem chn_right {s : State} : ∀ {l : List Tri} {x : Tri} {r : List Tri}, Chn s (l ++ x :: r) → Chn s (x :: r)
  | [], _, _, h => h
  | [a], x, r, h => h.2
  | a :: b :: l, x, r, h => chn_right (l := b :: l) h.2

/-- a ring may be begun anywhere on it -/
theorem Ring.turn {s : State} {x : Tri} {r : List Tri} (h : Ring s x r) : ∀ {y : Tri}, y ∈ x :: r → ∃ r', Ring s y r' ∧ ∀ z, z ∈ y :: r' ↔ z ∈ x :: r := by
  intro y hy
  obtain ⟨a, c, e⟩ := List.append_of_mem hy
  cases a with
  | nil =>
    have e2 : x = y ∧ r = c := by simpa using e
    obtain ⟨rfl, rfl⟩ := e2
    exact ⟨r, h, fun _ => Iff.rfl⟩
  | cons a0 a =>
    have e2 : x = a0 ∧ r = a ++ y :: c := by simpa using e
    obtain ⟨rfl, rfl⟩ := e2
    have h1 := h.chn
    have e3 : x :: (a ++ y :: c) ++ [x] = (x :: a) ++ y :: (c ++ [x]) := by simp
    rw [e3] at h1
    have hl := chn_left h1
    have hr := chn_right h1
    have p : List.Perm (y :: (c ++ x :: a)) (x :: (a ++ y :: c)) := by
      have p1 : List.Perm ((y :: c) ++ (x :: a)) ((x :: a) ++ (y :: c)) := List.perm_append_comm
      simpa using p1
    refine ⟨c ++ x :: a, ⟨?_, ?_, ?_⟩, fun z => p.mem_iff⟩
    · have e4 : y :: (c ++ x :: a) ++ [y] = (y :: c) ++ x :: (a ++ [y]) := by simp
      rw [e4]
      exact chn_app (l := y :: c) hr (by simpa using hl)
    · exact ((p.map Tri.b).nodup_iff).mpr h.nd
    · intro z hz
      exact h.io z (p.mem_iff.mp hz)

/-! ### no ring, no walk comes back -/
/-- no ring all of whose ends forward -/
def NoRing (s : State) : Prop := ∀ x r, Ring s x r → (∀ y ∈ x :: r, forwards s y.b y.i = true ∧ forwards s y.b y.o = true) → False

theorem Go.mem_head {s : State} {b c : Nat} {i k : Option Nat} {l : List Nat} (g : Go s b i c k l) : ∃ r, l = b :: r := by
  cases g with
  | nil => exact ⟨[], rfl⟩
  | cons => exact ⟨_, rfl⟩
theorem Go.mem_last {s : State} {b c : Nat} {i k : Option Nat} {l : List Nat} (g : Go s b i c k l) : c ∈ l := by
  induction g with
  | nil => exact List.mem_singleton.mpr rfl
  | cons _ _ _ _ _ ih => exact List.mem_cons_of_mem _ ih
/-- a walk up to the first time that a bridge is met -/
theorem Go.upto {s : State} {d c : Nat} {i k : Option Nat} {l : List Nat} (g : Go s d i c k l) : ∀ {b : Nat}, b ∈ l → l.Nodup → ∃ k' l1 l2, Go s d i b k' (l1 ++ [b]) ∧ l = l1 ++ b :: l2 := by
  induction g with
  | nil d i =>
    intro b hb nd
    have e : b = d := List.mem_singleton.mp hb
    subst e
    exact ⟨i, [], [], Go.nil _ _, rfl⟩
  | @cons d j d' q c i k l hj f1 hp f2 r ih =>
    intro b hb nd
    by_cases e : b = d
    · subst e
      exact ⟨i, [], l, Go.nil _ _, rfl⟩
    · have hb2 : b ∈ l := by
        rcases List.mem_cons.mp hb with h | h
        · exact absurd h e
        · exact h
      obtain ⟨k', l1, l2, g2, e2⟩ := ih hb2 (List.nodup_cons.mp nd).2
      exact ⟨k', d :: l1, l2, Go.cons hj f1 hp f2 g2, by rw [e2]; rfl⟩
/-- a walk's triples: come in by i0; the last bridge is left out; where it comes in -/
theorem Go.tris {s : State} {d c : Nat} {i k : Option Nat} {l : List Nat} (g : Go s d i c k l) : ∀ {q : Nat}, i = some q → ∃ (L : List Tri) (q' : Nat), k = some q' ∧ L.map Tri.b ++ [c] = l ∧ (∀ y ∈ L, y.i ≠ y.o ∧ forwards s y.b y.i = true ∨ y.i ≠ y.o) ∧ (∀ y ∈ L, y.i ≠ y.o) ∧ (∀ y ∈ L, forwards s y.b y.o = true)
    ∧ (forwards s d q = true → (∀ y ∈ L, forwards s y.b y.i = true) ∧ forwards s c q' = true)
    ∧ (∀ z : Tri, z.b = c → z.i = q' → Chn s (L ++ [z])) ∧ (∀ y r, L = y :: r → y.b = d ∧ y.i = q) ∧ (L = [] → c = d ∧ q' = q) := by
  induction g with
  | nil b i =>
    intro q e
    exact ⟨[], q, e, rfl, by simp, by simp, by simp, fun h => ⟨by simp, h⟩, fun z _ _ => trivial, fun y r h => (nomatch h), fun _ => ⟨rfl, rfl⟩⟩
  | @cons b j d q2 c i k l hj f1 hp f2 r ih =>
    intro q e
    subst e
    obtain ⟨L, q', e1, e2, _, e3, e4, e5, e6, e7, e8⟩ := ih rfl
    have hne : q ≠ j := fun h => hj (by rw [h])
    refine ⟨⟨b, q, j⟩ :: L, q', e1, by rw [← e2]; rfl, ?_, ?_, ?_, ?_, ?_, ?_, fun h => nomatch h⟩
    · intro y hy
      rcases List.mem_cons.mp hy with h | h
      · subst h; exact .inr hne
      · exact .inr (e3 y h)
    · intro y hy
      rcases List.mem_cons.mp hy with h | h
      · subst h; exact hne
      · exact e3 y h
    · intro y hy
      rcases List.mem_cons.mp hy with h | h
      · subst h; exact f1
      · exact e4 y h
    · intro hq
      obtain ⟨a1, a2⟩ := e5 f2
      refine ⟨fun y hy => ?_, a2⟩
      rcases List.mem_cons.mp hy with h | h
      · subst h; exact hq
      · exact a1 y h
    · intro z hz1 hz2
      have h6 := e6 z hz1 hz2
      cases L with
      | nil =>
        obtain ⟨a1, a2⟩ := e8 rfl
        refine ⟨?_, trivial⟩
        show (portAt s b j).peer = some (z.b, z.i)
        rw [hp, hz1, hz2, a1, a2]
      | cons y r2 =>
        obtain ⟨a1, a2⟩ := e7 y r2 rfl
        refine ⟨?_, h6⟩
        show (portAt s b j).peer = some (y.b, y.i)
        rw [hp, a1, a2]
    · intro y r2 h
      injection h with h1 h2
      subst h1
      exact ⟨rfl, rfl⟩

theorem chn_last {s : State} : ∀ {l : List Tri} {x y : Tri}, Chn s (l ++ [x, y]) → Lk s x y
  | [], _, _, h => h.1
  | [a], _, _, h => h.2.1
  | a :: b :: l, x, y, h => chn_last (l := b :: l) h.2

/-- what goes out of a bridge doesn't come back to it -/
theorem no_back {s : State} (hs : Sym s) (nr : NoRing s) {b j d q : Nat} {k : Option Nat} {l : List Nat} (f1 : forwards s b j = true) (hp : (portAt s b j).peer = some (d, q)) (f2 : forwards s d q = true) (g : Go s d (some q) b k (l ++ [b])) (nd : (l ++ [b]).Nodup) : False := by
  obtain ⟨L, q', e1, e2, _, e3, e4, e5, e6, e7, e8⟩ := g.tris rfl
  obtain ⟨a1, a2⟩ := e5 f2
  have eL : L.map Tri.b = l := (List.append_inj' e2 rfl).1
  have hq : q' ≠ j := by
    intro h
    subst h
    obtain ⟨p1, p2⟩ := hs _ _ _ _ hp
    -- the last triple's way out leads to (b, q'), so it is (d, q)
    rcases List.eq_nil_or_concat L with h | ⟨L0, y, h⟩
    · obtain ⟨h1, h2⟩ := e8 h
      exact p2 ⟨h1, h2⟩
    · have h0 : L = L0 ++ [y] := by rw [h]; simp
      have c := e6 ⟨b, q', 0⟩ rfl rfl
      rw [h0, List.append_assoc] at c
      have lk := chn_last c
      have lk2 : (portAt s y.b y.o).peer = some (b, q') := lk
      have b1 := (hs _ _ _ _ lk2).1
      rw [hp] at b1
      have b2 : d = y.b ∧ q = y.o := by simpa using b1
      -- the first triple is at d by q, the last at d: they are one
      cases hL : L with
      | nil => rw [hL] at h0; simp at h0
      | cons y0 r0 =>
        obtain ⟨h1, h2⟩ := e7 y0 r0 hL
        have ndL : (L.map Tri.b).Nodup := by
          rw [eL]
          exact (List.nodup_append.mp nd).1
        have m1 : y0 = y := by
          cases L0 with
          | nil =>
            rw [hL] at h0
            simpa using (List.cons.inj h0).1
          | cons z L1 =>
            exfalso
            rw [hL] at h0
            have h3 := List.cons.inj h0
            rw [hL, h3.2] at ndL
            simp at ndL
            exact ndL.1.2 (by rw [h1, b2.1])
        have io := e3 y0 (by rw [hL]; exact List.mem_cons_self)
        apply io
        rw [h2, m1, b2.2]
  refine nr ⟨b, q', j⟩ L ⟨?_, ?_, ?_⟩ ?_
  · cases L with
    | nil =>
      obtain ⟨h1, h2⟩ := e8 rfl
      refine ⟨?_, trivial⟩
      show (portAt s b j).peer = some (b, q')
      rw [hp, h1, h2]
    | cons y r =>
      obtain ⟨h1, h2⟩ := e7 y r rfl
      refine ⟨?_, e6 ⟨b, q', j⟩ rfl rfl⟩
      show (portAt s b j).peer = some (y.b, y.i)
      rw [hp, h1, h2]
  · rw [List.map_cons, eL]
    rw [List.nodup_cons]
    rw [List.nodup_append] at nd
    exact ⟨fun h => nd.2.2 b h b (List.mem_singleton.mpr rfl) rfl, nd.1⟩
  · intro y hy
    rcases List.mem_cons.mp hy with h | h
    · subst h; exact hq
    · exact e3 y h
  · intro y hy
    rcases List.mem_cons.mp hy with h | h
    · subst h; exact ⟨a2, f1⟩
    · exact ⟨a1 y h, e4 y h⟩

/-- a walk meets no bridge twice -/
theorem Go.nodup {s : State} (hs : Sym s) (nr : NoRing s) {b c : Nat} {i k : Option Nat} {l : List Nat} (g : Go s b i c k l) : l.Nodup := by
  induction g with
  | nil => simp
  | @cons b j d q c i k l hj f1 hp f2 r ih =>
    rw [List.nodup_cons]
    refine ⟨fun hb => ?_, ih⟩
    obtain ⟨k', l1, l2, g2, e2⟩ := r.upto hb ih
    refine no_back hs nr f1 hp f2 g2 ?_
    rw [e2] at ih
    have e3 : l1 ++ b :: l2 = (l1 ++ [b]) ++ l2 := by simp
    rw [e3] at ih
    exact (List.nodup_append.mp ih).1
/-- a walk turned round, and another behind it -/
theorem Go.rev {s : State} (hs : Sym s) {d c : Nat} {i k : Option Nat} {l : List Nat} (g : Go s d i c k l) : ∀ {q b j x : Nat} {y : Option Nat} {m : List Nat}, i = some q → (portAt s d q).peer = some (b, j) → forwards s d q = true → forwards s b j = true → Go s b (some j) x y m → Go s c none x y (l.reverse ++ m) := by
  induction g with
  | nil d i =>
    intro q b j x y m e hp f1 f2 g2
    exact Go.cons (by simp) f1 hp f2 g2
  | @cons d j' d' q' c i k l hj f1 hp f2 r ih =>
    intro q b j x y m e hp2 f3 f4 g2
    subst e
    have h := ih rfl (hs _ _ _ _ hp).1 f2 f1 (Go.cons (i := some j') (fun h => hj h.symm) f3 hp2 f4 g2)
    rw [List.reverse_cons, List.append_assoc]
    exact h
/-- two walks that leave a bridge by two ports don't meet -/
theorem part_ways {s : State} (hs : Sym s) (nr : NoRing s) {b j1 j2 d1 q1 d2 q2 c : Nat} {k1 k2 : Option Nat} {l1 l2 : List Nat} (hne : j1 ≠ j2)
    (f1 : forwards s b j1 = true) (p1 : (portAt s b j1).peer = some (d1, q1)) (g1 : forwards s d1 q1 = true) (w1 : Go s d1 (some q1) c k1 l1)
    (f2 : forwards s b j2 = true) (p2 : (portAt s b j2).peer = some (d2, q2)) (g2 : forwards s d2 q2 = true) (w2 : Go s d2 (some q2) c k2 l2) : False := by
  have h := w1.rev hs rfl (hs _ _ _ _ p1).1 g1 f1 (Go.cons (i := some j1) (fun h => hne (Option.some.inj h).symm) f2 p2 g2 w2)
  have nd := h.nodup hs nr
  have m1 : c ∈ l1.reverse := List.mem_reverse.mpr w1.mem_last
  have m2 : c ∈ b :: l2 := List.mem_cons_of_mem _ w2.mem_last
  exact (List.nodup_append.mp nd).2.2 c m1 c m2 rfl
end Sw
/-! A2. What a round makes of a port; the ages on a ring. -/
namespace Sw
open Vbcnac

/-! ### what a bridge holds -/
theorem indexed_get (l : List Port) (p : Nat) : (indexed l)[p]? = l[p]?.map fun x => (p, x) := by
  unfold indexed
  rw [List.zip, List.getElem?_zipWith]
  by_cases h : p < l.length
  · rw [List.getElem?_range h, List.getElem?_eq_getElem h]
    rfl
  · rw [List.getElem?_eq_none (Nat.le_of_not_lt h)]
    cases (List.range l.length)[p]? <;> rfl
theorem indexed_len (l : List Port) : (indexed l).length = l.length := by
  unfold indexed
  simp
theorem indexed_mem {l : List Port} {x : Nat × Port} (h : x ∈ indexed l) : l[x.1]? = some x.2 := by
  obtain ⟨i, hi⟩ := List.mem_iff_getElem?.mp h
  rw [indexed_get] at hi
  cases e : l[i]? with
  | none => rw [e] at hi; cases hi
  | some y =>
    rw [e] at hi
    have e2 : (i, y) = x := Option.some.inj hi
    rw [← e2]
    exact e
theorem least_mem : ∀ {l : List (List Nat × View)} {x : List Nat × View}, least l = some x → x ∈ l
  | [], _, h => nomatch h
  | a :: r, x, h => by
    unfold least at h
    cases e : least r with
    | none =>
      rw [e] at h
      rw [← Option.some.inj h]
      exact List.mem_cons_self
    | some y =>
      rw [e] at h
      by_cases c : less y.1 a.1 = true
      · simp only [c, if_true] at h
        rw [← Option.some.inj h]
        exact List.mem_cons_of_mem _ (least_mem e)
      · simp only [c, if_false] at h
        rw [← Option.some.inj h]
        exact List.mem_cons_self
/-- the root port has a hello stored, and its age is the one held -/
theorem view_port {b : Bridge} {i : Nat} (h : (view b).port = some i) : ∃ p x, b.ports[i]? = some p ∧ p.heard = some x ∧ (view b).age = x.age := by
  unfold view at h ⊢
  cases e : least ((indexed b.ports).filterMap fun x => candidate x.1 x.2) with
  | none =>
    rw [e] at h
    cases h
  | some c =>
    rw [e] at h
    by_cases q : less [c.2.root.1, c.2.root.2] [b.rank, b.number] = true
    · simp only [q, if_true] at h ⊢
      obtain ⟨y, hy, hc⟩ := List.mem_filterMap.mp (least_mem e)
      unfold candidate at hc
      cases hh : y.2.heard with
      | none =>
        rw [hh] at hc
        cases hc
      | some x =>
        rw [hh] at hc
        have e2 := Option.some.inj hc
        subst e2
        have e3 : y.1 = i := Option.some.inj h
        subst e3
        exact ⟨y.2, x, indexed_mem hy, hh, rfl⟩
    · simp only [q, if_false] at h
      cases h
theorem view_none {b : Bridge} (h : (view b).port = none) : view b = ownView b := by
  unfold view at h ⊢
  cases e : least ((indexed b.ports).filterMap fun x => candidate x.1 x.2) with
  | none => rfl
  | some c =>
    rw [e] at h
    by_cases q : less [c.2.root.1, c.2.root.2] [b.rank, b.number] = true
    · simp only [q, if_true] at h ⊢
      obtain ⟨y, hy, hc⟩ := List.mem_filterMap.mp (least_mem e)
      unfold candidate at hc
      cases hh : y.2.heard with
      | none =>
        rw [hh] at hc
        cases hc
      | some x =>
        rw [hh] at hc
        have e2 := Option.some.inj hc
        subst e2
        cases h
    · simp only [q, if_false]
      rfl

/-! ### a round -/
def roleAt (s : State) (b p : Nat) : Role := roleOf (bridgeAt s b) (view (bridgeAt s b)) p (portAt s b p)
/-- what a port says in this round -/
def saysAt (s : State) (b p : Nat) : Option (Told × Nat) :=
  if p < (bridgeAt s b).ports.length ∧ roleAt s b p = .designated then some (offer (bridgeAt s b) (view (bridgeAt s b)) p (portAt s b p), (view (bridgeAt s b)).age) else none
/-- what a port hears -/
def hearsAt (s : State) (b p : Nat) : Option (Told × Nat) := match (portAt s b p).peer with
  | none => none
  | some (c, q) => saysAt s c q
theorem sent_at (s : State) (c q : Nat) : ((s.bridges.map sends).getD c []).getD q none = saysAt s c q := by
  unfold saysAt
  rw [List.getD_eq_getElem?_getD, List.getD_eq_getElem?_getD, List.getElem?_map]
  by_cases h : c < s.bridges.length
  · rw [bridgeAt_get h]
    show ((sends (bridgeAt s c))[q]?).getD none = _
    unfold sends
    rw [List.getElem?_map, indexed_get]
    by_cases h2 : q < (bridgeAt s c).ports.length
    · rw [portAt_get h2]
      show (if roleOf (bridgeAt s c) (view (bridgeAt s c)) q (portAt s c q) = .designated then _ else none) = _
      unfold roleAt
      by_cases h3 : roleOf (bridgeAt s c) (view (bridgeAt s c)) q (portAt s c q) = .designated
      · rw [if_pos h3, if_pos ⟨h2, h3⟩]
      · rw [if_neg h3, if_neg fun z => h3 z.2]
    · rw [List.getElem?_eq_none (Nat.le_of_not_lt h2), if_neg fun z => h2 z.1]
      rfl
  · rw [List.getElem?_eq_none (Nat.le_of_not_lt h), bridgeAt_out h, if_neg fun z => Nat.not_lt_zero _ z.1]
    rfl
theorem comes_at (s : State) (b p : Nat) : comes (s.bridges.map sends) (portAt s b p) = hearsAt s b p := by
  unfold comes hearsAt
  cases (portAt s b p).peer with
  | none => rfl
  | some x => exact sent_at s x.1 x.2
/-- how many ports of a bridge change -/
def after1 (s : State) (b : Nat) : List Port := (indexed (bridgeAt s b).ports).map fun x => portAfter s (s.bridges.map sends) (bridgeAt s b) (view (bridgeAt s b)) x.1 x.2
def changedAt (s : State) (b : Nat) : Nat := changes s (bridgeAt s b).ports (after1 s b)
def cameAt (s : State) (b : Nat) : List Bool := (bridgeAt s b).ports.map fun p => noticed s p
def tellAt (s : State) (b i : Nat) : Bool := decide (0 < changedAt s b) || ((List.range (cameAt s b).length).zip (cameAt s b)).any fun x => x.2 && x.1 != i
theorem round_len (s : State) : (round s).1.bridges.length = s.bridges.length := by
  unfold round
  simp
theorem round_at (s : State) {b : Nat} (h : b < s.bridges.length) : bridgeAt (round s).1 b = (bridgeAfter s (s.bridges.map sends) (bridgeAt s b)).1 := by
  unfold bridgeAt
  show (((s.bridges.map fun b => bridgeAfter s (s.bridges.map sends) b).map fun x => x.1).getD b _) = _
  rw [List.getD_eq_getElem?_getD, List.getElem?_map, List.getElem?_map, bridgeAt_get h]
  rfl
theorem round_off (s : State) {b : Nat} (h : b < s.bridges.length) (ho : (bridgeAt s b).on = false) : bridgeAt (round s).1 b = bridgeAt s b := by
  rw [round_at s h]
  unfold bridgeAfter
  rw [if_pos ho]
theorem round_on (s : State) {b : Nat} (h : b < s.bridges.length) (ho : (bridgeAt s b).on = true) : bridgeAt (round s).1 b =
    { bridgeAt s b with ports := (indexed (after1 s b)).map (fun x => { x.2 with notice := tellAt s b x.1 }), stations := if 0 < changedAt s b ∨ (cameAt s b).any id = true then [] else older s.keep (bridgeAt s b).stations } := by
  rw [round_at s h]
  unfold bridgeAfter
  rw [if_neg (by rw [ho]; decide)]
  rfl
theorem after1_get (s : State) (b p : Nat) (h : p < (bridgeAt s b).ports.length) : (after1 s b)[p]? = some (portAfter s (s.bridges.map sends) (bridgeAt s b) (view (bridgeAt s b)) p (portAt s b p)) := by
  unfold after1
  rw [List.getElem?_map, indexed_get, portAt_get h]
  rfl
theorem after1_len (s : State) (b : Nat) : (after1 s b).length = (bridgeAt s b).ports.length := by
  unfold after1
  rw [List.length_map, indexed_len]
theorem round_port (s : State) {b p : Nat} (h : b < s.bridges.length) (ho : (bridgeAt s b).on = true) (hp : p < (bridgeAt s b).ports.length) :
    portAt (round s).1 b p = { portAfter s (s.bridges.map sends) (bridgeAt s b) (view (bridgeAt s b)) p (portAt s b p) with notice := tellAt s b p } := by
  unfold portAt
  rw [round_on s h ho, List.getD_eq_getElem?_getD, List.getElem?_map, indexed_get, after1_get s b p hp]
  rfl
theorem round_isOn (s : State) (b : Nat) : isOn (round s).1 b = isOn s b := by
  unfold isOn
  rw [round_len]
  by_cases h : b < s.bridges.length
  · cases ho : (bridgeAt s b).on with
    | false => rw [round_off s h ho, ho]
    | true => rw [round_on s h ho, ho]
  · simp [h]
theorem isOn_iff {s : State} {b : Nat} : isOn s b = true ↔ b < s.bridges.length ∧ (bridgeAt s b).on = true := by
  unfold isOn
  simp
theorem role_root {s : State} {b p : Nat} (ho : (bridgeAt s b).on = true) : roleAt s b p = .root ↔ (view (bridgeAt s b)).port = some p := by
  unfold roleAt roleOf
  rw [if_neg (by rw [ho]; decide)]
  by_cases h : (view (bridgeAt s b)).port = some p
  · simp [h]
  · simp [h]
    cases (portAt s b p).heard with
    | none => simp
    | some x =>
      simp
      split <;> simp
theorem role_none {s : State} {b p : Nat} (ho : (bridgeAt s b).on = true) : roleAt s b p ≠ .none := by
  unfold roleAt roleOf
  rw [if_neg (by rw [ho]; decide)]
  split
  · simp
  · cases (portAt s b p).heard with
    | none => simp
    | some x =>
      simp
      split <;> simp
/-- the wait behind a round -/
theorem round_wait (s : State) {b p : Nat} (h : b < s.bridges.length) (ho : (bridgeAt s b).on = true) (hp : p < (bridgeAt s b).ports.length) :
    (portAt (round s).1 b p).wait = if roleAt s b p = .blocked then 0 else if roleAt s b p = .designated ∧ (hearsAt s b p).isSome = true then 0 else min ((portAt s b p).wait + 1) s.wait := by
  rw [round_port s h ho hp]
  show (portAfter s (s.bridges.map sends) (bridgeAt s b) (view (bridgeAt s b)) p (portAt s b p)).wait = _
  unfold portAfter
  rw [comes_at]
  rfl
theorem round_heard (s : State) {b p : Nat} (h : b < s.bridges.length) (ho : (bridgeAt s b).on = true) (hp : p < (bridgeAt s b).ports.length) :
    (portAt (round s).1 b p).heard = (match hearsAt s b p with
      | some (t, a) => young s.age { told := t, age := a + 1 }
      | none => (portAt s b p).heard.bind fun h => young s.age { h with age := h.age + 1 }) := by
  rw [round_port s h ho hp]
  show (portAfter s (s.bridges.map sends) (bridgeAt s b) (view (bridgeAt s b)) p (portAt s b p)).heard = _
  unfold portAfter
  rw [comes_at]
  rfl
theorem round_peer (s : State) (b p : Nat) : (portAt (round s).1 b p).peer = (portAt s b p).peer := by
  by_cases h : b < s.bridges.length
  · cases ho : (bridgeAt s b).on with
    | false =>
      unfold portAt
      rw [round_off s h ho]
    | true =>
      by_cases hp : p < (bridgeAt s b).ports.length
      · rw [round_port s h ho hp]
        rfl
      · rw [portAt_ge (Nat.le_of_not_lt hp), portAt_ge]
        rw [round_on s h ho]
        show ((indexed (after1 s b)).map _).length ≤ p
        rw [List.length_map, indexed_len, after1_len]
        exact Nat.le_of_not_lt hp
  · rw [portAt_out h, portAt_out]
    rw [round_len]
    exact h
theorem peer_in {s : State} {b p : Nat} {x : Nat × Nat} (h : (portAt s b p).peer = some x) : b < s.bridges.length ∧ p < (bridgeAt s b).ports.length := by
  constructor
  · apply Decidable.byContradiction
    intro q
    rw [portAt_out q] at h
    cases h
  · apply Decidable.byContradiction
    intro q
    rw [portAt_ge (Nat.le_of_not_lt q)] at h
    cases h
theorem heard_in {s : State} {b p : Nat} {x : Heard} (h : (portAt s b p).heard = some x) : b < s.bridges.length ∧ p < (bridgeAt s b).ports.length := by
  constructor
  · apply Decidable.byContradiction
    intro q
    rw [portAt_out q] at h
    cases h
  · apply Decidable.byContradiction
    intro q
    rw [portAt_ge (Nat.le_of_not_lt q)] at h
    cases h

/-! ### a ring in a round -/
/-- a port that was neither blocked nor in dispute -/
def Calm (s : State) (b p : Nat) : Prop := isOn s b = true ∧ p < (bridgeAt s b).ports.length ∧ (roleAt s b p = .root ∨ (roleAt s b p = .designated ∧ hearsAt s b p = none))
theorem calm_of (s : State) {b p j : Nat} (ho : isOn s b = true) (hp : p < (bridgeAt s b).ports.length) (h : j + 1 ≤ (portAt (round s).1 b p).wait) : Calm s b p ∧ j ≤ (portAt s b p).wait := by
  obtain ⟨hb, hon⟩ := isOn_iff.mp ho
  rw [round_wait s hb hon hp] at h
  by_cases c1 : roleAt s b p = .blocked
  · rw [if_pos c1] at h
    omega
  · rw [if_neg c1] at h
    by_cases c2 : roleAt s b p = .designated ∧ (hearsAt s b p).isSome = true
    · rw [if_pos c2] at h
      omega
    · rw [if_neg c2] at h
      refine ⟨⟨ho, hp, ?_⟩, by omega⟩
      cases r : roleAt s b p with
      | none => exact absurd r (role_none hon)
      | root => exact .inl rfl
      | blocked => exact absurd r c1
      | designated =>
        refine .inr ⟨rfl, ?_⟩
        cases q : hearsAt s b p with
        | none => rfl
        | some x => exact absurd ⟨r, by rw [q]; rfl⟩ c2
/-- of a cable whose two ends are calm one end is the root port -/
theorem calm_cable {s : State} {b p c q : Nat} (hp : (portAt s b p).peer = some (c, q)) (hp2 : (portAt s c q).peer = some (b, p)) (h1 : Calm s b p) (h2 : Calm s c q) (n1 : roleAt s b p ≠ .root) : roleAt s c q = .root := by
  rcases h2.2.2 with h | ⟨h, hh⟩
  · exact h
  · exfalso
    rcases h1.2.2 with g | ⟨g, _⟩
    · exact n1 g
    · unfold hearsAt at hh
      rw [hp2] at hh
      have hh2 : saysAt s b p = none := hh
      unfold saysAt at hh2
      rw [if_pos ⟨h1.2.1, g⟩] at hh2
      cases hh2
theorem root_one {s : State} {b p q : Nat} (ho : isOn s b = true) (h1 : roleAt s b p = .root) (h2 : roleAt s b q = .root) : p = q := by
  have hon := (isOn_iff.mp ho).2
  have e1 := (role_root hon).mp h1
  have e2 := (role_root hon).mp h2
  rw [e1] at e2
  exact Option.some.inj e2
theorem ring_walk {s : State} (hs : Sym s) : ∀ (r : List Tri) (x z : Tri), Chn s (x :: r ++ [z]) → Calm s x.b x.o → roleAt s x.b x.o ≠ .root → (∀ y ∈ r ++ [z], Calm s y.b y.i) → (∀ y ∈ r, Calm s y.b y.o ∧ y.i ≠ y.o) → roleAt s z.b z.i = .root
  | [], x, z, h, c, n, hc, _ => calm_cable h.1 (hs _ _ _ _ h.1).1 c (hc z (by simp)) n
  | y :: r, x, z, h, c, n, hc, hr => by
    have h1 : Lk s x y := h.1
    have e : roleAt s y.b y.i = .root := calm_cable h1 (hs _ _ _ _ h1).1 c (hc y (by simp)) n
    obtain ⟨cy, io⟩ := hr y (by simp)
    have ny : roleAt s y.b y.o ≠ .root := fun q => io (root_one cy.1 e q)
    exact ring_walk hs r y z h.2 cy ny (fun w hw => hc w (by simp at hw ⊢; rcases hw with h | h <;> simp [h])) fun w hw => hr w (by simp [hw])
/-- on a calm ring each bridge's root port lies on it -/
theorem ring_roots {s : State} (hs : Sym s) {x : Tri} {r : List Tri} (R : Ring s x r) (C : ∀ y ∈ x :: r, Calm s y.b y.i ∧ Calm s y.b y.o) : ∀ y ∈ x :: r, roleAt s y.b y.i = .root ∨ roleAt s y.b y.o = .root := by
  intro y hy
  obtain ⟨r', R', hm⟩ := R.turn hy
  by_cases n : roleAt s y.b y.o = .root
  · exact .inr n
  · left
    have C' : ∀ z ∈ y :: r', Calm s z.b z.i ∧ Calm s z.b z.o := fun z hz => C z ((hm z).mp hz)
    refine ring_walk hs r' y y R'.chn (C' y (by simp)).2 n (fun w hw => ?_) fun w hw => ⟨(C' w (by simp [hw])).2, R'.io w (by simp [hw])⟩
    have hw2 : w ∈ y :: r' := by
      simp at hw ⊢
      rcases hw with h | h <;> simp [h]
    exact (C' w hw2).1
theorem lk_in {s : State} {x : Tri} {r : List Tri} (R : Ring s x r) : ∀ y ∈ x :: r, ∃ z ∈ x :: r, Lk s z y := by
  -- the one before it
  intro y hy
  obtain ⟨r', R', hm⟩ := R.turn hy
  rcases List.eq_nil_or_concat r' with h | ⟨r0, z, h⟩
  · subst h
    exact ⟨y, hy, R'.chn.1⟩
  · have h0 : r' = r0 ++ [z] := by rw [h]; simp
    subst h0
    refine ⟨z, (hm z).mp (by simp), ?_⟩
    have c := R'.chn
    have e : y :: (r0 ++ [z]) ++ [y] = (y :: r0) ++ [z, y] := by simp
    rw [e] at c
    exact chn_last c
theorem lk_out {s : State} {x : Tri} {r : List Tri} (R : Ring s x r) : ∀ y ∈ x :: r, ∃ z ∈ x :: r, Lk s y z := by
  intro y hy
  obtain ⟨r', R', hm⟩ := R.turn hy
  cases r' with
  | nil => exact ⟨y, hy, R'.chn.1⟩
  | cons z r0 => exact ⟨z, (hm z).mp (by simp), R'.chn.1⟩

/-- the ages on a ring -/
def RingAge (s : State) : Prop := ∀ x r j, Ring s x r → RingUp s j x r → ∀ y ∈ x :: r, ∀ p, p = y.i ∨ p = y.o → ∀ h, (portAt s y.b p).heard = some h → j + 1 ≤ h.age
theorem chn_round {s : State} : ∀ {l : List Tri}, Chn (round s).1 l → Chn s l
  | [], _ => trivial
  | [_], _ => trivial
  | x :: y :: r, h => ⟨(round_peer s _ _).symm.trans h.1, chn_round (l := y :: r) h.2⟩
theorem ring_round {s : State} {x : Tri} {r : List Tri} (R : Ring (round s).1 x r) : Ring s x r := ⟨chn_round R.chn, R.nd, R.io⟩
theorem ring_ports {s : State} (hs : Sym s) {x : Tri} {r : List Tri} (R : Ring s x r) : ∀ y ∈ x :: r, y.i < (bridgeAt s y.b).ports.length ∧ y.o < (bridgeAt s y.b).ports.length := by
  intro y hy
  obtain ⟨z, _, lz⟩ := lk_in R y hy
  obtain ⟨u, _, lu⟩ := lk_out R y hy
  exact ⟨(peer_in (hs _ _ _ _ lz).1).2, (peer_in lu).2⟩
/-- what's heard at a port that is on a calm ring is at least as old as what's stored on the ring, and one more -/
theorem ring_heard {s : State} (hs : Sym s) {x : Tri} {r : List Tri} {j : Nat} (R : Ring s x r) (C : ∀ y ∈ x :: r, Calm s y.b y.i ∧ Calm s y.b y.o)
    (A : ∀ y ∈ x :: r, ∀ p, p = y.i ∨ p = y.o → ∀ h, (portAt s y.b p).heard = some h → j + 1 ≤ h.age) : ∀ y ∈ x :: r, j + 1 ≤ (view (bridgeAt s y.b)).age ∧ ∃ p, (p = y.i ∨ p = y.o) ∧ ∃ h, (portAt s y.b p).heard = some h := by
  intro y hy
  have hon := (isOn_iff.mp (C y hy).1.1).2
  have key : ∀ p, p = y.i ∨ p = y.o → roleAt s y.b p = .root → j + 1 ≤ (view (bridgeAt s y.b)).age ∧ ∃ p, (p = y.i ∨ p = y.o) ∧ ∃ h, (portAt s y.b p).heard = some h := by
    intro p hp hr
    obtain ⟨q, h, e1, e2, e3⟩ := view_port ((role_root hon).mp hr)
    have e4 : portAt s y.b p = q := by
      unfold portAt
      rw [List.getD_eq_getElem?_getD, e1]
      rfl
    rw [e3]
    exact ⟨A y hy p hp h (by rw [e4]; exact e2), p, hp, h, by rw [e4]; exact e2⟩
  rcases ring_roots hs R C y hy with h | h
  · exact key _ (.inl rfl) h
  · exact key _ (.inr rfl) h
theorem ringAge_round {s : State} (hs : Sym s) (hage : ∀ b p h, (portAt s b p).heard = some h → 1 ≤ h.age) (H : RingAge s) : RingAge (round s).1 := by
  intro x r j R U
  have R0 := ring_round R
  have ps := ring_ports hs R0
  cases j with
  | zero =>
    intro y hy p hp h hh
    -- a stored age is 1 or more
    have hon := (U y hy).1.1
    rw [round_isOn] at hon
    obtain ⟨hb, ho⟩ := isOn_iff.mp hon
    have hpl : p < (bridgeAt s y.b).ports.length := by
      rcases hp with e | e
      · rw [e]; exact (ps y hy).1
      · rw [e]; exact (ps y hy).2
    rw [round_heard s hb ho hpl] at hh
    cases q : hearsAt s y.b p with
    | some z =>
      rw [q] at hh
      have hh2 : young s.age { told := z.1, age := z.2 + 1 } = some h := hh
      unfold young at hh2
      split at hh2
      · rw [← Option.some.inj hh2]
        show 0 + 1 ≤ z.2 + 1
        omega
      · cases hh2
    | none =>
      rw [q] at hh
      cases g : (portAt s y.b p).heard with
      | none => rw [g] at hh; cases hh
      | some z =>
        rw [g] at hh
        have hh2 : young s.age { z with age := z.age + 1 } = some h := hh
        unfold young at hh2
        split at hh2
        · rw [← Option.some.inj hh2]
          show 0 + 1 ≤ z.age + 1
          omega
        · cases hh2
  | succ j =>
    have C : ∀ y ∈ x :: r, (Calm s y.b y.i ∧ Calm s y.b y.o) ∧ j ≤ (portAt s y.b y.i).wait ∧ j ≤ (portAt s y.b y.o).wait := by
      intro y hy
      obtain ⟨u1, u2⟩ := U y hy
      have hon := u1.1
      rw [round_isOn] at hon
      obtain ⟨c1, w1⟩ := calm_of s hon (ps y hy).1 u1.2
      obtain ⟨c2, w2⟩ := calm_of s hon (ps y hy).2 u2.2
      exact ⟨⟨c1, c2⟩, w1, w2⟩
    have A := H x r j R0 fun y hy => ⟨⟨(C y hy).1.1.1, (C y hy).2.1⟩, ⟨(C y hy).1.1.1, (C y hy).2.2⟩⟩
    have B := ring_heard hs R0 (fun y hy => (C y hy).1) A
    intro y hy p hp h hh
    obtain ⟨hb, ho⟩ := isOn_iff.mp (C y hy).1.1.1
    have hpl : p < (bridgeAt s y.b).ports.length := by
      rcases hp with e | e
      · rw [e]; exact (ps y hy).1
      · rw [e]; exact (ps y hy).2
    rw [round_heard s hb ho hpl] at hh
    cases q : hearsAt s y.b p with
    | some z =>
      rw [q] at hh
      have hh2 : young s.age { told := z.1, age := z.2 + 1 } = some h := hh
      unfold young at hh2
      split at hh2
      · rw [← Option.some.inj hh2]
        show j + 1 + 1 ≤ z.2 + 1
        -- the teller is on the ring
        have far : ∃ u ∈ x :: r, ∃ c, (portAt s y.b p).peer = some (u.b, c) := by
          rcases hp with e | e
          · obtain ⟨u, hu, lu⟩ := lk_in R0 y hy
            exact ⟨u, hu, _, by rw [e]; exact (hs _ _ _ _ lu).1⟩
          · obtain ⟨u, hu, lu⟩ := lk_out R0 y hy
            exact ⟨u, hu, _, by rw [e]; exact lu⟩
        obtain ⟨u, hu, c, hc⟩ := far
        unfold hearsAt at q
        rw [hc] at q
        have q2 : saysAt s u.b c = some z := q
        unfold saysAt at q2
        split at q2
        · have e := Option.some.inj q2
          rw [← e]
          have := (B u hu).1
          show j + 1 + 1 ≤ (view (bridgeAt s u.b)).age + 1
          omega
        · cases q2
      · cases hh2
    | none =>
      rw [q] at hh
      cases g : (portAt s y.b p).heard with
      | none => rw [g] at hh; cases hh
      | some z =>
        rw [g] at hh
        have hh2 : young s.age { z with age := z.age + 1 } = some h := hh
        unfold young at hh2
        split at hh2
        · rw [← Option.some.inj hh2]
          have := A y hy p hp z g
          show j + 1 + 1 ≤ z.age + 1
          omega
        · cases hh2
/-- behind a round no ring forwards -/
theorem noRing_round {s : State} (hs : Sym s) (ha : s.age + 1 ≤ s.wait) (hage : ∀ b p h, (portAt s b p).heard = some h → h.age ≤ s.age) (H : RingAge s) : NoRing (round s).1 := by
  intro x r R F
  have R0 := ring_round R
  have ps := ring_ports hs R0
  have hw : (round s).1.wait = s.wait := rfl
  have C : ∀ y ∈ x :: r, (Calm s y.b y.i ∧ Calm s y.b y.o) ∧ s.age ≤ (portAt s y.b y.i).wait ∧ s.age ≤ (portAt s y.b y.o).wait := by
    intro y hy
    obtain ⟨f1, f2⟩ := F y hy
    unfold forwards at f1 f2
    rw [Bool.and_eq_true, beq_iff_eq, hw] at f1 f2
    have hon := f1.1
    rw [round_isOn] at hon
    obtain ⟨c1, w1⟩ := calm_of s (j := s.age) hon (ps y hy).1 (by rw [f1.2]; exact ha)
    obtain ⟨c2, w2⟩ := calm_of s (j := s.age) hon (ps y hy).2 (by rw [f2.2]; exact ha)
    exact ⟨⟨c1, c2⟩, w1, w2⟩
  have A := H x r s.age R0 fun y hy => ⟨⟨(C y hy).1.1.1, (C y hy).2.1⟩, ⟨(C y hy).1.1.1, (C y hy).2.2⟩⟩
  obtain ⟨_, p, hp, h, hh⟩ := ring_heard hs R0 (fun y hy => (C y hy).1) A x (by simp)
  have h1 := A x (by simp) p hp h hh
  have h2 := hage _ _ _ hh
  omega
end Sw
/-! A3. What holds of every state that can be come to; each call keeps it. -/
namespace Sw
open Vbcnac

structure Inv (s : State) : Prop where
  a1 : 32 ≤ s.age
  a2 : s.age ≤ 100
  w1 : s.age + 1 ≤ s.wait
  w2 : s.wait ≤ 200
  k1 : 1 ≤ s.keep
  k2 : s.keep ≤ 1000000000
  rm : s.room ≤ 1024
  nb : s.bridges.length ≤ 32
  np : ∀ b, b < s.bridges.length → (bridgeAt s b).ports.length = 16
  sym : Sym s
  num : ∀ b c, b < s.bridges.length → c < s.bridges.length → (bridgeAt s b).number = (bridgeAt s c).number → b = c
  off : ∀ b, isOn s b = false → (bridgeAt s b).stations = [] ∧ ∀ p, (portAt s b p).heard = none ∧ (portAt s b p).wait = 0 ∧ (portAt s b p).notice = false
  age : ∀ b p h, (portAt s b p).heard = some h → 1 ≤ h.age ∧ h.age ≤ s.age
  wt : ∀ b p, (portAt s b p).wait ≤ s.wait
  cost : ∀ b p, 1 ≤ (portAt s b p).cost
  stS : ∀ b, (bridgeAt s b).stations.Pairwise (fun x y => x.number < y.number)
  stP : ∀ b x, x ∈ (bridgeAt s b).stations → x.port < 16 ∧ forwards s b x.port = true
  stL : ∀ b, (bridgeAt s b).stations.length ≤ s.room
  ring : RingAge s
  noring : NoRing s

theorem Inv.plen {s : State} (I : Inv s) (b : Nat) : (bridgeAt s b).ports.length ≤ 16 := by
  by_cases h : b < s.bridges.length
  · rw [I.np b h]
    exact Nat.le_refl _
  · rw [bridgeAt_out h]
    exact Nat.zero_le _
theorem Inv.peer {s : State} (I : Inv s) {b p c q : Nat} (h : (portAt s b p).peer = some (c, q)) : b < s.bridges.length ∧ p < 16 ∧ c < s.bridges.length ∧ q < 16 := by
  obtain ⟨h1, h2⟩ := peer_in h
  obtain ⟨h3, h4⟩ := peer_in (I.sym _ _ _ _ h).1
  rw [I.np b h1] at h2
  rw [I.np c h3] at h4
  exact ⟨h1, h2, h3, h4⟩
theorem forwards_iff {s : State} {b p : Nat} : forwards s b p = true ↔ isOn s b = true ∧ (portAt s b p).wait = s.wait := by
  unfold forwards
  rw [Bool.and_eq_true, beq_iff_eq]

/-! ### ports begun anew, others kept -/
structure Dim (s s' : State) : Prop where
  age : s'.age = s.age
  wait : s'.wait = s.wait
  port : ∀ b p, ((portAt s' b p).heard = none ∧ (portAt s' b p).wait = 0) ∨ ((portAt s' b p).heard = (portAt s b p).heard ∧ (portAt s' b p).wait = (portAt s b p).wait ∧ (portAt s' b p).peer = (portAt s b p).peer ∧ isOn s' b = isOn s b)
theorem chn_dim {s s' : State} : ∀ {l : List Tri}, (∀ y ∈ l, (portAt s' y.b y.o).peer = (portAt s y.b y.o).peer) → Chn s' l → Chn s l
  | [], _, _ => trivial
  | [_], _, _ => trivial
  | x :: y :: r, h, c => ⟨(h x (by simp)).symm.trans c.1, chn_dim (l := y :: r) (fun z hz => h z (List.mem_cons_of_mem _ hz)) c.2⟩
theorem Dim.ring1 {s s' : State} (D : Dim s s') {j : Nat} {x : Tri} {r : List Tri} (R : Ring s' x r) (U : RingUp s' (j + 1) x r) : Ring s x r ∧ RingUp s (j + 1) x r ∧ ∀ y ∈ x :: r, ∀ p, p = y.i ∨ p = y.o → (portAt s' y.b p).heard = (portAt s y.b p).heard := by
  have k : ∀ y ∈ x :: r, ∀ p, p = y.i ∨ p = y.o → (portAt s' y.b p).heard = (portAt s y.b p).heard ∧ (portAt s' y.b p).wait = (portAt s y.b p).wait ∧ (portAt s' y.b p).peer = (portAt s y.b p).peer ∧ isOn s' y.b = isOn s y.b := by
    intro y hy p hp
    have hw : j + 1 ≤ (portAt s' y.b p).wait := by
      rcases hp with e | e
      · rw [e]; exact (U y hy).1.2
      · rw [e]; exact (U y hy).2.2
    rcases D.port y.b p with h | h
    · omega
    · exact h
  refine ⟨⟨chn_dim (fun y hy => ?_) R.chn, R.nd, R.io⟩, fun y hy => ?_, fun y hy p hp => (k y hy p hp).1⟩
  · have hy2 : y ∈ x :: r := by
      simp at hy ⊢
      rcases hy with h | h | h <;> simp [h]
    exact (k y hy2 _ (.inr rfl)).2.2.1
  · obtain ⟨_, w1, _, o1⟩ := k y hy _ (.inl rfl)
    obtain ⟨_, w2, _, o2⟩ := k y hy _ (.inr rfl)
    obtain ⟨u1, u2⟩ := U y hy
    exact ⟨⟨by rw [← o1]; exact u1.1, by rw [← w1]; exact u1.2⟩, ⟨by rw [← o1]; exact u1.1, by rw [← w2]; exact u2.2⟩⟩
theorem Dim.ringAge {s s' : State} (D : Dim s s') (I : Inv s) : RingAge s' := by
  intro x r j R U
  cases j with
  | zero =>
    intro y hy p hp h hh
    rcases D.port y.b p with k | k
    · rw [k.1] at hh
      cases hh
    · rw [k.1] at hh
      exact (I.age _ _ _ hh).1
  | succ j =>
    obtain ⟨R0, U0, E⟩ := D.ring1 R U
    intro y hy p hp h hh
    rw [E y hy p hp] at hh
    exact I.ring x r (j + 1) R0 U0 y hy p hp h hh
theorem Dim.noRing {s s' : State} (D : Dim s s') (I : Inv s) : NoRing s' := by
  intro x r R F
  have hw : s.wait = (s.wait - 1) + 1 := by
    have := I.w1
    omega
  have U : RingUp s' ((s.wait - 1) + 1) x r := by
    intro y hy
    obtain ⟨f1, f2⟩ := F y hy
    obtain ⟨a1, a2⟩ := forwards_iff.mp f1
    obtain ⟨b1, b2⟩ := forwards_iff.mp f2
    rw [D.wait] at a2 b2
    exact ⟨⟨a1, by omega⟩, ⟨b1, by omega⟩⟩
  obtain ⟨R0, U0, _⟩ := D.ring1 R U
  refine I.noring x r R0 fun y hy => ?_
  obtain ⟨⟨o1, u1⟩, ⟨o2, u2⟩⟩ := U0 y hy
  have m1 := I.wt y.b y.i
  have m2 := I.wt y.b y.o
  exact ⟨forwards_iff.mpr ⟨o1, by omega⟩, forwards_iff.mpr ⟨o2, by omega⟩⟩

/-! ### getters behind the changes -/
theorem isOn_setBridge (s : State) (b c : Nat) (x : Bridge) : isOn (setBridge s b x) c = if c = b ∧ b < s.bridges.length then x.on else isOn s c := by
  unfold isOn
  rw [len_set, bridgeAt_set]
  by_cases h : c = b ∧ b < s.bridges.length
  · rw [if_pos h, if_pos h, h.1]
    simp [h.2]
  · rw [if_neg h, if_neg h]
theorem isOn_setPort (s : State) (b p c : Nat) (x : Port) : isOn (setPort s b p x) c = isOn s c := by
  unfold setPort
  rw [isOn_setBridge]
  by_cases h : c = b ∧ b < s.bridges.length
  · rw [if_pos h]
    unfold isOn
    rw [h.1]
    simp [h.2]
  · rw [if_neg h]
theorem len_setPort (s : State) (b p : Nat) (x : Port) : (setPort s b p x).bridges.length = s.bridges.length := len_set _ _ _
theorem bridgeAt_setPort (s : State) (b p c : Nat) (x : Port) : bridgeAt (setPort s b p x) c = if c = b ∧ b < s.bridges.length then { bridgeAt s b with ports := (bridgeAt s b).ports.set p x } else bridgeAt s c := bridgeAt_set _ _ _ _
theorem stations_setPort (s : State) (b p c : Nat) (x : Port) : (bridgeAt (setPort s b p x) c).stations = (bridgeAt s c).stations := by
  rw [bridgeAt_setPort]
  by_cases h : c = b ∧ b < s.bridges.length
  · rw [if_pos h, h.1]
  · rw [if_neg h]
theorem plen_setPort (s : State) (b p c : Nat) (x : Port) : (bridgeAt (setPort s b p x) c).ports.length = (bridgeAt s c).ports.length := by
  rw [bridgeAt_setPort]
  by_cases h : c = b ∧ b < s.bridges.length
  · rw [if_pos h, h.1]
    exact List.length_set
  · rw [if_neg h]
theorem touch_eq (s : State) (b p : Nat) : touch s b p = if forwards s b p = true then setBridge (setPort s b p (anew (portAt s b p))) b (stirred (bridgeAt (setPort s b p (anew (portAt s b p))) b)) else setPort s b p (anew (portAt s b p)) := rfl
theorem forwards_lt {s : State} {b p : Nat} (h : forwards s b p = true) : b < s.bridges.length := (isOn_iff.mp (forwards_iff.mp h).1).1
theorem portAt_touch (s : State) {b p : Nat} (hb : b < s.bridges.length) (hp : p < (bridgeAt s b).ports.length) (c q : Nat) :
    portAt (touch s b p) c q = if c = b ∧ q = p then { anew (portAt s b p) with notice := forwards s b p } else if c = b ∧ q < (bridgeAt s b).ports.length ∧ forwards s b p = true then { portAt s b q with notice := true } else portAt s c q := by
  rw [touch_eq]
  have e0 : portAt (setPort s b p (anew (portAt s b p))) c q = if c = b ∧ q = p then anew (portAt s b p) else portAt s c q := by
    rw [portAt_setPort]
    by_cases h : c = b ∧ q = p
    · rw [if_pos h, if_pos ⟨⟨h.1, hb⟩, h.2, hp⟩]
    · rw [if_neg h, if_neg fun z => h ⟨z.1.1, z.2.1⟩]
  cases f : forwards s b p with
  | false =>
    rw [if_neg (by decide), e0]
    by_cases h : c = b ∧ q = p
    · rw [if_pos h, if_pos h]
      rfl
    · rw [if_neg h, if_neg h, if_neg fun z => by cases z.2.2]
  | true =>
    rw [if_pos rfl]
    by_cases hc : c = b
    · subst hc
      have e1 : portAt (setBridge (setPort s c p (anew (portAt s c p))) c (stirred (bridgeAt (setPort s c p (anew (portAt s c p))) c))) c q = (((bridgeAt (setPort s c p (anew (portAt s c p))) c).ports[q]?).map fun x : Port => { x with notice := true }).getD {} := by
        unfold portAt
        rw [bridgeAt_same (by rw [len_setPort]; exact hb), List.getD_eq_getElem?_getD]
        unfold stirred
        rw [List.getElem?_map]
      rw [e1]
      by_cases hq : q < (bridgeAt s c).ports.length
      · have hq2 : q < (bridgeAt (setPort s c p (anew (portAt s c p))) c).ports.length := by
          rw [plen_setPort]
          exact hq
        rw [portAt_get hq2, e0]
        show ({ (if c = c ∧ q = p then anew (portAt s c p) else portAt s c q) with notice := true } : Port) = _
        by_cases h : q = p
        · rw [if_pos ⟨rfl, h⟩, if_pos ⟨rfl, h⟩]
        · rw [if_neg fun z => h z.2, if_neg fun z => h z.2, if_pos ⟨rfl, hq, rfl⟩]
      · have hq2 : (bridgeAt (setPort s c p (anew (portAt s c p))) c).ports.length ≤ q := by
          rw [plen_setPort]
          exact Nat.le_of_not_lt hq
        rw [List.getElem?_eq_none hq2, if_neg fun z => hq (by rw [z.2]; exact hp), if_neg fun z => hq z.2.1, portAt_ge (Nat.le_of_not_lt hq)]
        rfl
    · rw [if_neg fun z => hc z.1, if_neg fun z => hc z.1]
      rw [if_neg fun z => hc z.1] at e0
      rw [← e0]
      unfold portAt
      rw [bridgeAt_ne hc]
theorem len_touch (s : State) (b p : Nat) : (touch s b p).bridges.length = s.bridges.length := by
  rw [touch_eq]
  split
  · rw [len_set, len_setPort]
  · rw [len_setPort]
/-- what a bridge keeps: all but ports and stations -/
def rest (x : Bridge) : Nat × Nat × Bool × Nat := (x.rank, x.number, x.on, x.ports.length)
theorem rest_setPort (s : State) (b p c : Nat) (x : Port) : rest (bridgeAt (setPort s b p x) c) = rest (bridgeAt s c) := by
  rw [bridgeAt_setPort]
  by_cases h : c = b ∧ b < s.bridges.length
  · rw [if_pos h, h.1]
    unfold rest
    rw [List.length_set]
  · rw [if_neg h]
theorem rest_touch (s : State) (b p c : Nat) : rest (bridgeAt (touch s b p) c) = rest (bridgeAt s c) := by
  rw [touch_eq]
  split
  · rw [bridgeAt_set]
    split
    · rename_i h
      rw [← rest_setPort s b p c, h.1]
      unfold rest stirred
      rw [List.length_map]
    · exact rest_setPort _ _ _ _ _
  · exact rest_setPort _ _ _ _ _
theorem stations_touch (s : State) {b p : Nat} (hb : b < s.bridges.length) (c : Nat) : (bridgeAt (touch s b p) c).stations = if c = b ∧ forwards s b p = true then [] else (bridgeAt s c).stations := by
  rw [touch_eq]
  cases f : forwards s b p with
  | false => rw [if_neg (by decide), stations_setPort, if_neg fun z => by cases z.2]
  | true =>
    rw [if_pos rfl, bridgeAt_set]
    by_cases h : c = b
    · rw [if_pos ⟨h, by rw [len_setPort]; exact hb⟩, if_pos ⟨h, rfl⟩]
      rfl
    · rw [if_neg fun z => h z.1, if_neg fun z => h z.1, stations_setPort]
theorem isOn_rest {s s' : State} (hl : s'.bridges.length = s.bridges.length) {c : Nat} (h : rest (bridgeAt s' c) = rest (bridgeAt s c)) : isOn s' c = isOn s c := by
  have e : (bridgeAt s' c).on = (bridgeAt s c).on := congrArg (fun z => z.2.2.1) h
  unfold isOn
  rw [hl, e]
theorem par_setBridge (s : State) (b : Nat) (x : Bridge) : (setBridge s b x).age = s.age ∧ (setBridge s b x).wait = s.wait ∧ (setBridge s b x).keep = s.keep ∧ (setBridge s b x).room = s.room ∧ (setBridge s b x).begun = s.begun ∧ (setBridge s b x).quiet = s.quiet := ⟨rfl, rfl, rfl, rfl, rfl, rfl⟩
/-- the numbers told at begin, and quiet -/
def par (s : State) : Bool × Nat × Nat × Nat × Nat × Nat := (s.begun, s.age, s.wait, s.keep, s.room, s.quiet)
theorem par_touch (s : State) (b p : Nat) : par (touch s b p) = par s := by
  rw [touch_eq]
  split <;> rfl
end Sw
/-! A3, on: each call keeps it. -/
namespace Sw
open Vbcnac

structure Chg (s s' : State) : Prop where
  age : s'.age = s.age
  wait : s'.wait = s.wait
  keep : s'.keep = s.keep
  room : s'.room = s.room
  len : s'.bridges.length = s.bridges.length
  plen : ∀ b, (bridgeAt s' b).ports.length = (bridgeAt s b).ports.length
  num : ∀ b, (bridgeAt s' b).number = (bridgeAt s b).number
  sym : Sym s'
  port : ∀ b p, ((portAt s' b p).heard = none ∧ (portAt s' b p).wait = 0) ∨ ((portAt s' b p).heard = (portAt s b p).heard ∧ (portAt s' b p).wait = (portAt s b p).wait ∧ (portAt s' b p).peer = (portAt s b p).peer ∧ isOn s' b = isOn s b)
  off : ∀ b, isOn s' b = false → (bridgeAt s' b).stations = [] ∧ ∀ p, (portAt s' b p).heard = none ∧ (portAt s' b p).wait = 0 ∧ (portAt s' b p).notice = false
  cost : ∀ b p, 1 ≤ (portAt s' b p).cost
  st : ∀ b, (bridgeAt s' b).stations = [] ∨ ((bridgeAt s' b).stations = (bridgeAt s b).stations ∧ ∀ x, x ∈ (bridgeAt s b).stations → forwards s b x.port = true → forwards s' b x.port = true)
theorem Inv.chg {s s' : State} (I : Inv s) (C : Chg s s') : Inv s' := by
  have D : Dim s s' := ⟨C.age, C.wait, C.port⟩
  refine ⟨by rw [C.age]; exact I.a1, by rw [C.age]; exact I.a2, by rw [C.age, C.wait]; exact I.w1, by rw [C.wait]; exact I.w2, by rw [C.keep]; exact I.k1, by rw [C.keep]; exact I.k2, by rw [C.room]; exact I.rm, by rw [C.len]; exact I.nb, fun b h => ?_, C.sym, fun b c h1 h2 e => ?_, C.off, fun b p h hh => ?_, fun b p => ?_, C.cost, fun b => ?_, fun b x hx => ?_, fun b => ?_, D.ringAge I, D.noRing I⟩
  · rw [C.len] at h
    rw [C.plen]
    exact I.np b h
  · rw [C.len] at h1 h2
    rw [C.num, C.num] at e
    exact I.num b c h1 h2 e
  · rcases C.port b p with k | k
    · rw [k.1] at hh
      cases hh
    · rw [k.1] at hh
      rw [C.age]
      exact I.age _ _ _ hh
  · rw [C.wait]
    rcases C.port b p with k | k
    · rw [k.2]
      exact Nat.zero_le _
    · rw [k.2.1]
      exact I.wt b p
  · rcases C.st b with k | k
    · rw [k]
      exact List.Pairwise.nil
    · rw [k.1]
      exact I.stS b
  · rcases C.st b with k | k
    · rw [k] at hx
      cases hx
    · rw [k.1] at hx
      obtain ⟨h1, h2⟩ := I.stP b x hx
      exact ⟨h1, k.2 x hx h2⟩
  · rw [C.room]
    rcases C.st b with k | k
    · rw [k]
      exact Nat.zero_le _
    · rw [k.1]
      exact I.stL b

/-! ### touch -/
section
variable {s : State} {b p : Nat}
theorem touch_kept (hb : b < s.bridges.length) (hp : p < (bridgeAt s b).ports.length) (c q : Nat) (h : ¬ (c = b ∧ q = p)) : (portAt (touch s b p) c q).heard = (portAt s c q).heard ∧ (portAt (touch s b p) c q).wait = (portAt s c q).wait ∧ (portAt (touch s b p) c q).peer = (portAt s c q).peer ∧ (portAt (touch s b p) c q).cost = (portAt s c q).cost ∧ (portAt (touch s b p) c q).rank = (portAt s c q).rank := by
  rw [portAt_touch s hb hp, if_neg h]
  split
  · rename_i g
    rw [g.1]
    exact ⟨rfl, rfl, rfl, rfl, rfl⟩
  · exact ⟨rfl, rfl, rfl, rfl, rfl⟩
theorem touch_anew (hb : b < s.bridges.length) (hp : p < (bridgeAt s b).ports.length) : (portAt (touch s b p) b p).heard = none ∧ (portAt (touch s b p) b p).wait = 0 ∧ (portAt (touch s b p) b p).peer = (portAt s b p).peer ∧ (portAt (touch s b p) b p).cost = (portAt s b p).cost ∧ (portAt (touch s b p) b p).rank = (portAt s b p).rank := by
  rw [portAt_touch s hb hp, if_pos ⟨rfl, rfl⟩]
  exact ⟨rfl, rfl, rfl, rfl, rfl⟩
theorem touch_peer (hb : b < s.bridges.length) (hp : p < (bridgeAt s b).ports.length) (c q : Nat) : (portAt (touch s b p) c q).peer = (portAt s c q).peer := by
  by_cases h : c = b ∧ q = p
  · rw [h.1, h.2]
    exact (touch_anew hb hp).2.2.1
  · exact (touch_kept hb hp c q h).2.2.1
theorem touch_cost (hb : b < s.bridges.length) (hp : p < (bridgeAt s b).ports.length) (c q : Nat) : (portAt (touch s b p) c q).cost = (portAt s c q).cost := by
  by_cases h : c = b ∧ q = p
  · rw [h.1, h.2]
    exact (touch_anew hb hp).2.2.2.1
  · exact (touch_kept hb hp c q h).2.2.2.1
theorem touch_isOn (c : Nat) : isOn (touch s b p) c = isOn s c := isOn_rest (len_touch s b p) (rest_touch s b p c)
theorem touch_notice (hb : b < s.bridges.length) (hp : p < (bridgeAt s b).ports.length) (c q : Nat) : (portAt (touch s b p) c q).notice = true → (portAt s c q).notice = true ∨ (c = b ∧ forwards s b p = true) := by
  rw [portAt_touch s hb hp]
  split
  · rename_i h
    intro g
    exact .inr ⟨h.1, g⟩
  · split
    · rename_i h
      intro _
      exact .inr ⟨h.1, h.2.2⟩
    · intro g
      exact .inl g
end
theorem par_age {s s' : State} (h : par s' = par s) : s'.begun = s.begun ∧ s'.age = s.age ∧ s'.wait = s.wait ∧ s'.keep = s.keep ∧ s'.room = s.room ∧ s'.quiet = s.quiet := by
  unfold par at h
  simp only [Prod.mk.injEq] at h
  exact h
/-- touch keeps what can be said of off bridges -/
theorem off_touch {s : State} {b p : Nat} (hb : b < s.bridges.length) (hp : p < (bridgeAt s b).ports.length) (H : ∀ b, isOn s b = false → (bridgeAt s b).stations = [] ∧ ∀ p, (portAt s b p).heard = none ∧ (portAt s b p).wait = 0 ∧ (portAt s b p).notice = false) :
    ∀ c, isOn (touch s b p) c = false → (bridgeAt (touch s b p) c).stations = [] ∧ ∀ q, (portAt (touch s b p) c q).heard = none ∧ (portAt (touch s b p) c q).wait = 0 ∧ (portAt (touch s b p) c q).notice = false := by
  intro c hc
  rw [touch_isOn] at hc
  obtain ⟨h1, h2⟩ := H c hc
  refine ⟨?_, fun q => ?_⟩
  · rw [stations_touch s hb, h1]
    split <;> rfl
  · have hn : (portAt (touch s b p) c q).notice = false := by
      cases e : (portAt (touch s b p) c q).notice with
      | false => rfl
      | true =>
        rcases touch_notice hb hp c q e with k | ⟨k1, k2⟩
        · rw [(h2 q).2.2] at k
          cases k
        · rw [k1, (forwards_iff.mp k2).1] at hc
          cases hc
    by_cases h : c = b ∧ q = p
    · rw [h.1, h.2] at hn ⊢
      obtain ⟨a1, a2, _⟩ := touch_anew hb hp
      exact ⟨a1, a2, hn⟩
    · obtain ⟨a1, a2, _⟩ := touch_kept hb hp c q h
      rw [a1, a2]
      exact ⟨(h2 q).1, (h2 q).2.1, hn⟩
theorem st_touch {s : State} {b p : Nat} (hb : b < s.bridges.length) (hp : p < (bridgeAt s b).ports.length) (c : Nat) : (bridgeAt (touch s b p) c).stations = [] ∨ ((bridgeAt (touch s b p) c).stations = (bridgeAt s c).stations ∧ ∀ x, x ∈ (bridgeAt s c).stations → forwards s c x.port = true → forwards (touch s b p) c x.port = true) := by
  rw [stations_touch s hb]
  by_cases h : c = b ∧ forwards s b p = true
  · rw [if_pos h]
    exact .inl rfl
  · rw [if_neg h]
    refine .inr ⟨rfl, fun x _ hf => ?_⟩
    obtain ⟨f1, f2⟩ := forwards_iff.mp hf
    have hne : ¬ (c = b ∧ x.port = p) := by
      intro g
      apply h
      refine ⟨g.1, ?_⟩
      rw [← g.2, ← g.1]
      exact hf
    refine forwards_iff.mpr ⟨by rw [touch_isOn]; exact f1, ?_⟩
    rw [(touch_kept hb hp c x.port hne).2.1, f2]
    exact (par_age (par_touch s b p)).2.2.1.symm
theorem chg_touch {s : State} (I : Inv s) {b p : Nat} (hb : b < s.bridges.length) (hp : p < 16) : Chg s (touch s b p) := by
  have hp2 : p < (bridgeAt s b).ports.length := by
    rw [I.np b hb]
    exact hp
  obtain ⟨_, q1, q2, q3, q4, _⟩ := par_age (par_touch s b p)
  refine ⟨q1, q2, q3, q4, len_touch s b p, fun c => congrArg (fun z => z.2.2.2) (rest_touch s b p c), fun c => congrArg (fun z => z.2.1) (rest_touch s b p c), fun x y c q h => ?_, fun c q => ?_, off_touch hb hp2 I.off, fun c q => ?_, st_touch hb hp2⟩
  · rw [touch_peer hb hp2] at h ⊢
    exact I.sym x y c q h
  · by_cases h : c = b ∧ q = p
    · rw [h.1, h.2]
      obtain ⟨a1, a2, _⟩ := touch_anew hb hp2
      exact .inl ⟨a1, a2⟩
    · obtain ⟨a1, a2, a3, _⟩ := touch_kept hb hp2 c q h
      exact .inr ⟨a1, a2, a3, touch_isOn c⟩
  · rw [touch_cost hb hp2]
    exact I.cost c q
theorem inv_touch {s : State} (I : Inv s) {b p : Nat} (hb : b < s.bridges.length) (hp : p < 16) : Inv (touch s b p) := I.chg (chg_touch I hb hp)
theorem inv_touchAll : ∀ (l : List (Nat × Nat)) {s : State}, Inv s → (∀ x ∈ l, x.1 < s.bridges.length ∧ x.2 < 16) → Inv (touchAll s l)
  | [], _, I, _ => I
  | x :: r, s, I, h => by
    have h1 := h x (by simp)
    exact inv_touchAll r (inv_touch I h1.1 h1.2) fun y hy => by
      rw [len_touch]
      exact h y (by simp [hy])

/-! ### cables -/
theorem portAt_setPeer (s : State) (b p c q : Nat) (x : Option (Nat × Nat)) : portAt (setPeer s b p x) c q = if (c = b ∧ b < s.bridges.length) ∧ q = p ∧ p < (bridgeAt s b).ports.length then { portAt s b p with peer := x } else portAt s c q := portAt_setPort _ _ _ _ _ _
/-- both ends set: what a port is then -/
theorem portAt_set2 {s : State} {b p c q : Nat} (hb : b < s.bridges.length) (hp : p < (bridgeAt s b).ports.length) (hc : c < s.bridges.length) (hq : q < (bridgeAt s c).ports.length) (hne : ¬ (b = c ∧ p = q)) (u v : Option (Nat × Nat)) (x y : Nat) :
    portAt (setPeer (setPeer s b p u) c q v) x y = if x = b ∧ y = p then { portAt s b p with peer := u } else if x = c ∧ y = q then { portAt s c q with peer := v } else portAt s x y := by
  have l1 : c < (setPeer s b p u).bridges.length := by
    unfold setPeer
    rw [len_setPort]
    exact hc
  have l2 : q < (bridgeAt (setPeer s b p u) c).ports.length := by
    unfold setPeer
    rw [plen_setPort]
    exact hq
  rw [portAt_setPeer]
  by_cases h : x = c ∧ y = q
  · have h2 : ¬ (x = b ∧ y = p) := fun g => hne ⟨by rw [← g.1, h.1], by rw [← g.2, h.2]⟩
    rw [if_pos ⟨⟨h.1, l1⟩, h.2, l2⟩, if_neg h2, if_pos h, portAt_setPeer, if_neg fun g => hne ⟨g.1.1.symm, g.2.1.symm⟩]
  · rw [if_neg fun g => h ⟨g.1.1, g.2.1⟩, if_neg h, portAt_setPeer]
    by_cases h2 : x = b ∧ y = p
    · rw [if_pos ⟨⟨h2.1, hb⟩, h2.2, hp⟩, if_pos h2]
    · rw [if_neg fun g => h2 ⟨g.1.1, g.2.1⟩, if_neg h2]
theorem rest_set2 (s : State) (b p c q : Nat) (u v : Option (Nat × Nat)) (x : Nat) : rest (bridgeAt (setPeer (setPeer s b p u) c q v) x) = rest (bridgeAt s x) := (rest_setPort _ _ _ _ _).trans (rest_setPort _ _ _ _ _)
theorem stations_set2 (s : State) (b p c q : Nat) (u v : Option (Nat × Nat)) (x : Nat) : (bridgeAt (setPeer (setPeer s b p u) c q v) x).stations = (bridgeAt s x).stations := (stations_setPort _ _ _ _ _).trans (stations_setPort _ _ _ _ _)
theorem len_set2 (s : State) (b p c q : Nat) (u v : Option (Nat × Nat)) : (setPeer (setPeer s b p u) c q v).bridges.length = s.bridges.length := (len_setPort _ _ _ _).trans (len_setPort _ _ _ _)
/-- both ends set and begun anew -/
theorem inv_cable {s : State} (I : Inv s) {b p c q : Nat} (hb : b < s.bridges.length) (hp : p < 16) (hc : c < s.bridges.length) (hq : q < 16) (hne : ¬ (b = c ∧ p = q)) {u v : Option (Nat × Nat)}
    (hs : Sym (setPeer (setPeer s b p u) c q v)) : Inv (touch (touch (setPeer (setPeer s b p u) c q v) b p) c q) := by
  have hp2 : p < (bridgeAt s b).ports.length := by
    rw [I.np b hb]
    exact hp
  have hq2 : q < (bridgeAt s c).ports.length := by
    rw [I.np c hc]
    exact hq
  have P2 := portAt_set2 hb hp2 hc hq2 hne u v
  have l2 := len_set2 s b p c q u v
  have r2 := rest_set2 s b p c q u v
  have t2 := stations_set2 s b p c q u v
  have pp2 : par (setPeer (setPeer s b p u) c q v) = par s := rfl
  revert hs P2 l2 r2 t2 pp2
  generalize setPeer (setPeer s b p u) c q v = S
  intro hs P2 l2 r2 t2 pp2
  have b1 : b < S.bridges.length := by rw [l2]; exact hb
  have pl : ∀ x, (bridgeAt S x).ports.length = (bridgeAt s x).ports.length := fun x => congrArg (fun z => z.2.2.2) (r2 x)
  have p1 : p < (bridgeAt S b).ports.length := by rw [pl]; exact hp2
  have c1 : c < (touch S b p).bridges.length := by rw [len_touch, l2]; exact hc
  have q1 : q < (bridgeAt (touch S b p) c).ports.length := by
    rw [show (bridgeAt (touch S b p) c).ports.length = (bridgeAt S c).ports.length from congrArg (fun z => z.2.2.2) (rest_touch S b p c), pl]
    exact hq2
  have R4 : ∀ x, rest (bridgeAt (touch (touch S b p) c q) x) = rest (bridgeAt s x) := fun x => (rest_touch _ _ _ _).trans ((rest_touch _ _ _ _).trans (r2 x))
  have L4 : (touch (touch S b p) c q).bridges.length = s.bridges.length := by rw [len_touch, len_touch, l2]
  have PP : par (touch (touch S b p) c q) = par s := (par_touch _ _ _).trans ((par_touch _ _ _).trans pp2)
  obtain ⟨_, a1, a2, a3, a4, _⟩ := par_age PP
  have oS : ∀ x, isOn S x = isOn s x := fun x => isOn_rest l2 (r2 x)
  have o4 : ∀ x, isOn (touch (touch S b p) c q) x = isOn s x := fun x => isOn_rest L4 (R4 x)
  have offS : ∀ x, isOn S x = false → (bridgeAt S x).stations = [] ∧ ∀ y, (portAt S x y).heard = none ∧ (portAt S x y).wait = 0 ∧ (portAt S x y).notice = false := by
    intro x hx
    rw [oS] at hx
    obtain ⟨h1, h2⟩ := I.off x hx
    rw [t2]
    refine ⟨h1, fun y => ?_⟩
    rw [P2]
    split
    · rename_i g
      rw [← g.1, ← g.2]
      exact h2 y
    · split
      · rename_i g
        rw [← g.1, ← g.2]
        exact h2 y
      · exact h2 y
  have wS : S.wait = s.wait := (par_age pp2).2.2.1
  have fS : ∀ x y, forwards S x y = forwards s x y := by
    intro x y
    unfold forwards
    rw [oS, wS]
    have e : (portAt S x y).wait = (portAt s x y).wait := by
      rw [P2]
      split
      · rename_i g
        rw [g.1, g.2]
      · split
        · rename_i g
          rw [g.1, g.2]
        · rfl
    rw [e]
  refine I.chg ⟨a1, a2, a3, a4, L4, fun x => congrArg (fun z => z.2.2.2) (R4 x), fun x => congrArg (fun z => z.2.1) (R4 x), fun x y d e h => ?_, fun x y => ?_, off_touch c1 q1 (off_touch b1 p1 offS), fun x y => ?_, fun x => ?_⟩
  · rw [touch_peer c1 q1, touch_peer b1 p1] at h ⊢
    exact hs x y d e h
  · by_cases h : x = c ∧ y = q
    · rw [h.1, h.2]
      obtain ⟨k1, k2, _⟩ := touch_anew c1 q1
      exact .inl ⟨k1, k2⟩
    · obtain ⟨k1, k2, k3, _⟩ := touch_kept c1 q1 x y h
      by_cases h2 : x = b ∧ y = p
      · obtain ⟨m1, m2, _⟩ := touch_anew b1 p1
        rw [k1, k2, h2.1, h2.2]
        exact .inl ⟨m1, m2⟩
      · obtain ⟨m1, m2, m3, _⟩ := touch_kept b1 p1 x y h2
        rw [k1, k2, k3, m1, m2, m3, P2, if_neg h2, if_neg h]
        exact .inr ⟨rfl, rfl, rfl, o4 x⟩
  · rw [touch_cost c1 q1, touch_cost b1 p1, P2]
    split
    · exact I.cost b p
    · split
      · exact I.cost c q
      · exact I.cost x y
  · rcases st_touch c1 q1 x with k | ⟨k1, k2⟩
    · exact .inl k
    · rcases st_touch b1 p1 x with m | ⟨m1, m2⟩
      · left
        rw [k1, m]
      · right
        rw [k1, m1, t2]
        refine ⟨rfl, fun z hz hf => ?_⟩
        rw [m1] at k2
        rw [t2] at k2 m2
        exact k2 z hz (m2 z hz (by rw [fS]; exact hf))
theorem inv_joined {s : State} (I : Inv s) {b p c q : Nat} (hb : b < s.bridges.length) (hp : p < 16) (hc : c < s.bridges.length) (hq : q < 16) (hne : ¬ (b = c ∧ p = q)) (h1 : (portAt s b p).peer = none) (h2 : (portAt s c q).peer = none) : Inv (joined s b p c q) := by
  have hp2 : p < (bridgeAt s b).ports.length := by
    rw [I.np b hb]
    exact hp
  have hq2 : q < (bridgeAt s c).ports.length := by
    rw [I.np c hc]
    exact hq
  refine inv_cable I hb hp hc hq hne fun x y d e h => ?_
  have P2 := portAt_set2 hb hp2 hc hq2 hne (some (c, q)) (some (b, p))
  rw [P2] at h
  by_cases g1 : x = b ∧ y = p
  · rw [if_pos g1] at h
    have e1 : (c, q) = (d, e) := Option.some.inj h
    injection e1 with e2 e3
    subst e2 e3
    rw [P2, if_neg fun z => hne ⟨z.1.symm, z.2.symm⟩, if_pos ⟨rfl, rfl⟩, g1.1, g1.2]
    exact ⟨rfl, hne⟩
  · rw [if_neg g1] at h
    by_cases g2 : x = c ∧ y = q
    · rw [if_pos g2] at h
      have e1 : (b, p) = (d, e) := Option.some.inj h
      injection e1 with e2 e3
      subst e2 e3
      rw [P2, if_pos ⟨rfl, rfl⟩, g2.1, g2.2]
      exact ⟨rfl, fun z => hne ⟨z.1.symm, z.2.symm⟩⟩
    · rw [if_neg g2] at h
      obtain ⟨s1, s2⟩ := I.sym _ _ _ _ h
      have n1 : ¬ (d = b ∧ e = p) := fun z => by
        rw [z.1, z.2, h1] at s1
        cases s1
      have n2 : ¬ (d = c ∧ e = q) := fun z => by
        rw [z.1, z.2, h2] at s1
        cases s1
      rw [P2, if_neg n1, if_neg n2]
      exact ⟨s1, s2⟩
theorem inv_parted {s : State} (I : Inv s) {b p c q : Nat} (h : (portAt s b p).peer = some (c, q)) : Inv (parted s b p c q) := by
  obtain ⟨hb, hp, hc, hq⟩ := I.peer h
  obtain ⟨h2, hne⟩ := I.sym _ _ _ _ h
  have hp2 : p < (bridgeAt s b).ports.length := by
    rw [I.np b hb]
    exact hp
  have hq2 : q < (bridgeAt s c).ports.length := by
    rw [I.np c hc]
    exact hq
  refine inv_cable I hb hp hc hq hne fun x y d e g => ?_
  have P2 := portAt_set2 hb hp2 hc hq2 hne none none
  rw [P2] at g
  by_cases g1 : x = b ∧ y = p
  · rw [if_pos g1] at g
    cases g
  · rw [if_neg g1] at g
    by_cases g2 : x = c ∧ y = q
    · rw [if_pos g2] at g
      cases g
    · rw [if_neg g2] at g
      obtain ⟨s1, s2⟩ := I.sym _ _ _ _ g
      have n1 : ¬ (d = b ∧ e = p) := fun z => by
        rw [z.1, z.2, h] at s1
        have e1 : (c, q) = (x, y) := Option.some.inj s1
        injection e1 with e2 e3
        exact g2 ⟨e2.symm, e3.symm⟩
      have n2 : ¬ (d = c ∧ e = q) := fun z => by
        rw [z.1, z.2, h2] at s1
        have e1 : (b, p) = (x, y) := Option.some.inj s1
        injection e1 with e2 e3
        exact g1 ⟨e2.symm, e3.symm⟩
      rw [P2, if_neg n1, if_neg n2]
      exact ⟨s1, s2⟩
end Sw
/-! A3, on: off, on, numbers set, a new bridge, begin, a round, what is learnt. -/
namespace Sw
open Vbcnac

theorem farEnds_mem {s : State} {b : Nat} {x : Nat × Nat} (h : x ∈ farEnds s b) : ∃ p, (portAt s b p).peer = some x ∧ x.1 ≠ b := by
  unfold farEnds at h
  obtain ⟨y, hy, e⟩ := List.mem_filterMap.mp h
  obtain ⟨p, hp⟩ := List.mem_iff_getElem?.mp hy
  refine ⟨p, ?_, ?_⟩
  · have e1 : portAt s b p = y := by
      unfold portAt
      rw [List.getD_eq_getElem?_getD, hp]
      rfl
    rw [e1]
    cases q : y.peer with
    | none => rw [q] at e; cases e
    | some z =>
      rw [q] at e
      have e2 : (if z.1 = b then none else some z) = some x := e
      split at e2
      · cases e2
      · exact e2
  · cases q : y.peer with
    | none => rw [q] at e; cases e
    | some z =>
      rw [q] at e
      have e2 : (if z.1 = b then none else some z) = some x := e
      split at e2
      · cases e2
      · rename_i n
        rw [← Option.some.inj e2]
        exact n
theorem Inv.far {s : State} (I : Inv s) {b : Nat} : ∀ x ∈ farEnds s b, x.1 < s.bridges.length ∧ x.2 < 16 := by
  intro x hx
  obtain ⟨p, h, _⟩ := farEnds_mem hx
  obtain ⟨_, _, h3, h4⟩ := I.peer (c := x.1) (q := x.2) h
  exact ⟨h3, h4⟩
theorem portAt_setBridge (s : State) (b c q : Nat) (x : Bridge) : portAt (setBridge s b x) c q = if c = b ∧ b < s.bridges.length then x.ports.getD q {} else portAt s c q := by
  unfold portAt
  rw [bridgeAt_set]
  split <;> rfl
theorem map_getD (l : List Port) (f : Port → Port) (q : Nat) : (l.map f).getD q {} = if q < l.length then f (l.getD q {}) else {} := by
  rw [List.getD_eq_getElem?_getD, List.getElem?_map, List.getD_eq_getElem?_getD]
  by_cases h : q < l.length
  · rw [if_pos h, List.getElem?_eq_getElem h]
    rfl
  · rw [if_neg h, List.getElem?_eq_none (Nat.le_of_not_lt h)]
    rfl
theorem inv_off1 {s : State} (I : Inv s) {b : Nat} (hb : b < s.bridges.length) : Inv (setBridge s b { bridgeAt s b with on := false, ports := (bridgeAt s b).ports.map anew, stations := [] }) := by
  have P : ∀ c q, portAt (setBridge s b { bridgeAt s b with on := false, ports := (bridgeAt s b).ports.map anew, stations := [] }) c q = if c = b then anew (portAt s b q) else portAt s c q := by
    intro c q
    rw [portAt_setBridge]
    by_cases h : c = b
    · rw [if_pos ⟨h, hb⟩, if_pos h]
      show ((bridgeAt s b).ports.map anew).getD q {} = _
      rw [map_getD]
      split
      · rfl
      · rename_i g
        rw [portAt_ge (Nat.le_of_not_lt g)]
        rfl
    · rw [if_neg fun g => h g.1, if_neg h]
  have peer : ∀ c q, (portAt (setBridge s b { bridgeAt s b with on := false, ports := (bridgeAt s b).ports.map anew, stations := [] }) c q).peer = (portAt s c q).peer := by
    intro c q
    rw [P]
    split
    · rename_i h
      rw [h]
      rfl
    · rfl
  refine I.chg ⟨rfl, rfl, rfl, rfl, len_set _ _ _, fun c => ?_, fun c => ?_, fun x y c q h => ?_, fun c q => ?_, fun c hc => ?_, fun c q => ?_, fun c => ?_⟩
  · rw [bridgeAt_set]
    split
    · rename_i h
      rw [h.1]
      exact List.length_map _
    · rfl
  · rw [bridgeAt_set]
    split
    · rename_i h
      rw [h.1]
    · rfl
  · rw [peer] at h ⊢
    exact I.sym x y c q h
  · rw [P]
    by_cases h : c = b
    · rw [if_pos h]
      exact .inl ⟨rfl, rfl⟩
    · rw [if_neg h]
      refine .inr ⟨rfl, rfl, rfl, ?_⟩
      rw [isOn_setBridge, if_neg fun g => h g.1]
  · rw [isOn_setBridge] at hc
    rw [bridgeAt_set]
    by_cases h : c = b ∧ b < s.bridges.length
    · rw [if_pos h]
      refine ⟨rfl, fun p => ?_⟩
      rw [P, if_pos h.1]
      exact ⟨rfl, rfl, rfl⟩
    · rw [if_neg h] at hc ⊢
      obtain ⟨h1, h2⟩ := I.off c hc
      refine ⟨h1, fun p => ?_⟩
      rw [P, if_neg fun g => h ⟨g, hb⟩]
      exact h2 p
  · rw [P]
    split
    · exact I.cost b q
    · exact I.cost c q
  · rw [bridgeAt_set]
    by_cases h : c = b ∧ b < s.bridges.length
    · rw [if_pos h]
      exact .inl rfl
    · rw [if_neg h]
      refine .inr ⟨rfl, fun x _ hf => ?_⟩
      obtain ⟨f1, f2⟩ := forwards_iff.mp hf
      refine forwards_iff.mpr ⟨by rw [isOn_setBridge, if_neg h]; exact f1, ?_⟩
      rw [P, if_neg fun g => h ⟨g, hb⟩]
      exact f2
theorem inv_turnedOff {s : State} (I : Inv s) {b : Nat} (hb : b < s.bridges.length) : Inv (turnedOff s b) :=
  inv_touchAll (farEnds s b) (inv_off1 I hb) fun x hx => by
    rw [len_set]
    exact I.far x hx
theorem inv_on1 {s : State} (I : Inv s) {b : Nat} (hb : b < s.bridges.length) (ho : isOn s b = false) : Inv (setBridge s b { bridgeAt s b with on := true }) := by
  have P : ∀ c q, portAt (setBridge s b { bridgeAt s b with on := true }) c q = portAt s c q := by
    intro c q
    rw [portAt_setBridge]
    split
    · rename_i h
      rw [h.1]
      rfl
    · rfl
  have ob := I.off b ho
  refine I.chg ⟨rfl, rfl, rfl, rfl, len_set _ _ _, fun c => ?_, fun c => ?_, fun x y c q h => ?_, fun c q => ?_, fun c hc => ?_, fun c q => ?_, fun c => ?_⟩
  · rw [bridgeAt_set]
    split
    · rename_i h
      rw [h.1]
    · rfl
  · rw [bridgeAt_set]
    split
    · rename_i h
      rw [h.1]
    · rfl
  · rw [P] at h ⊢
    exact I.sym x y c q h
  · rw [P]
    by_cases h : c = b
    · rw [h]
      exact .inl ⟨(ob.2 q).1, (ob.2 q).2.1⟩
    · refine .inr ⟨rfl, rfl, rfl, ?_⟩
      rw [isOn_setBridge, if_neg fun g => h g.1]
  · rw [isOn_setBridge] at hc
    by_cases h : c = b ∧ b < s.bridges.length
    · rw [if_pos h] at hc
      cases hc
    · rw [if_neg h] at hc
      rw [bridgeAt_set, if_neg h]
      obtain ⟨h1, h2⟩ := I.off c hc
      refine ⟨h1, fun p => ?_⟩
      rw [P]
      exact h2 p
  · rw [P]
    exact I.cost c q
  · rw [bridgeAt_set]
    by_cases h : c = b ∧ b < s.bridges.length
    · rw [if_pos h]
      exact .inl ob.1
    · rw [if_neg h]
      refine .inr ⟨rfl, fun x _ hf => ?_⟩
      obtain ⟨f1, f2⟩ := forwards_iff.mp hf
      refine forwards_iff.mpr ⟨by rw [isOn_setBridge, if_neg h]; exact f1, ?_⟩
      rw [P]
      exact f2
theorem inv_turnedOn {s : State} (I : Inv s) {b : Nat} (hb : b < s.bridges.length) (ho : isOn s b = false) : Inv (turnedOn s b) :=
  inv_touchAll (farEnds s b) (inv_on1 I hb ho) fun x hx => by
    rw [len_set]
    exact I.far x hx
/-- a bridge changed in what no port's hello, wait or cable hangs on -/
theorem inv_plain {s : State} (I : Inv s) {b : Nat} (hb : b < s.bridges.length) {x : Bridge} (hn : x.number = (bridgeAt s b).number) (ho : x.on = (bridgeAt s b).on) (ht : x.stations = (bridgeAt s b).stations) (hl : x.ports.length = (bridgeAt s b).ports.length)
    (hp : ∀ q, (x.ports.getD q {}).heard = (portAt s b q).heard ∧ (x.ports.getD q {}).wait = (portAt s b q).wait ∧ (x.ports.getD q {}).peer = (portAt s b q).peer ∧ (x.ports.getD q {}).notice = (portAt s b q).notice ∧ 1 ≤ (x.ports.getD q {}).cost) : Inv (setBridge s b x) := by
  have P : ∀ c q, (portAt (setBridge s b x) c q).heard = (portAt s c q).heard ∧ (portAt (setBridge s b x) c q).wait = (portAt s c q).wait ∧ (portAt (setBridge s b x) c q).peer = (portAt s c q).peer ∧ (portAt (setBridge s b x) c q).notice = (portAt s c q).notice ∧ 1 ≤ (portAt (setBridge s b x) c q).cost := by
    intro c q
    rw [portAt_setBridge]
    split
    · rename_i h
      rw [h.1]
      exact hp q
    · exact ⟨rfl, rfl, rfl, rfl, I.cost c q⟩
  have O : ∀ c, isOn (setBridge s b x) c = isOn s c := by
    intro c
    rw [isOn_setBridge]
    split
    · rename_i h
      unfold isOn
      rw [h.1, ho]
      simp [hb]
    · rfl
  refine I.chg ⟨rfl, rfl, rfl, rfl, len_set _ _ _, fun c => ?_, fun c => ?_, fun u v c q h => ?_, fun c q => ?_, fun c hc => ?_, fun c q => ?_, fun c => ?_⟩
  · rw [bridgeAt_set]
    split
    · rename_i h
      rw [h.1]
      exact hl
    · rfl
  · rw [bridgeAt_set]
    split
    · rename_i h
      rw [h.1]
      exact hn
    · rfl
  · rw [(P _ _).2.2.1] at h ⊢
    exact I.sym u v c q h
  · obtain ⟨h1, h2, h3, _⟩ := P c q
    exact .inr ⟨h1, h2, h3, O c⟩
  · rw [O] at hc
    obtain ⟨h1, h2⟩ := I.off c hc
    refine ⟨?_, fun p => ?_⟩
    · rw [bridgeAt_set]
      split
      · rename_i h
        rw [ht, ← h.1]
        exact h1
      · exact h1
    · obtain ⟨k1, k2, _, k3, _⟩ := P c p
      rw [k1, k2, k3]
      exact h2 p
  · exact (P c q).2.2.2.2
  · right
    refine ⟨?_, fun y _ hf => ?_⟩
    · rw [bridgeAt_set]
      split
      · rename_i h
        rw [ht, h.1]
      · rfl
    · obtain ⟨f1, f2⟩ := forwards_iff.mp hf
      refine forwards_iff.mpr ⟨by rw [O]; exact f1, ?_⟩
      rw [(P _ _).2.1]
      exact f2
theorem inv_rank {s : State} (I : Inv s) {b r : Nat} (hb : b < s.bridges.length) : Inv (setBridge s b { bridgeAt s b with rank := r }) :=
  inv_plain I hb rfl rfl rfl rfl fun q => ⟨rfl, rfl, rfl, rfl, I.cost b q⟩
theorem inv_port {s : State} (I : Inv s) {b p : Nat} (hb : b < s.bridges.length) {x : Port} (h1 : x.heard = (portAt s b p).heard) (h2 : x.wait = (portAt s b p).wait) (h3 : x.peer = (portAt s b p).peer) (h4 : x.notice = (portAt s b p).notice) (h5 : 1 ≤ x.cost) : Inv (setPort s b p x) :=
  inv_plain I hb rfl rfl rfl List.length_set fun q => by
    show (((bridgeAt s b).ports.set p x).getD q {}).heard = _ ∧ (((bridgeAt s b).ports.set p x).getD q {}).wait = _ ∧ (((bridgeAt s b).ports.set p x).getD q {}).peer = _ ∧ (((bridgeAt s b).ports.set p x).getD q {}).notice = _ ∧ 1 ≤ (((bridgeAt s b).ports.set p x).getD q {}).cost
    rw [getD_set]
    split
    · rename_i h
      rw [h.1]
      exact ⟨h1, h2, h3, h4, h5⟩
    · exact ⟨rfl, rfl, rfl, rfl, I.cost b q⟩
theorem inv_quiet {s : State} (I : Inv s) (n : Nat) : Inv { s with quiet := n } := ⟨I.a1, I.a2, I.w1, I.w2, I.k1, I.k2, I.rm, I.nb, I.np, I.sym, I.num, I.off, I.age, I.wt, I.cost, I.stS, I.stP, I.stL,
  fun x r j R U => I.ring x r j ⟨chn_dim (s' := { s with quiet := n }) (fun _ _ => rfl) R.chn, R.nd, R.io⟩ U, fun x r R F => I.noring x r ⟨chn_dim (s' := { s with quiet := n }) (fun _ _ => rfl) R.chn, R.nd, R.io⟩ F⟩

/-! ### a new bridge -/
def withBridge (s : State) (r n : Nat) : State := { s with bridges := s.bridges ++ [{ rank := r, number := n }] }
theorem bridgeAt_with (s : State) (r n c : Nat) : bridgeAt (withBridge s r n) c = if c = s.bridges.length then { rank := r, number := n } else bridgeAt s c := by
  unfold bridgeAt withBridge
  show (s.bridges ++ [_]).getD c _ = _
  rw [List.getD_eq_getElem?_getD, List.getD_eq_getElem?_getD]
  by_cases h : c < s.bridges.length
  · rw [List.getElem?_append_left h, if_neg (by omega)]
  · rw [List.getElem?_append_right (by omega)]
    by_cases h2 : c = s.bridges.length
    · rw [if_pos h2, h2, Nat.sub_self]
      rfl
    · rw [if_neg h2, List.getElem?_eq_none (by simp; omega), List.getElem?_eq_none (by omega)]
theorem portAt_with (s : State) (r n c q : Nat) : portAt (withBridge s r n) c q = portAt s c q := by
  unfold portAt
  rw [bridgeAt_with]
  split
  · rename_i h
    rw [h, bridgeAt_out (Nat.lt_irrefl _)]
    show (List.replicate PORTS ({} : Port)).getD q {} = ([] : List Port).getD q {}
    rw [List.getD_eq_getElem?_getD, List.getElem?_replicate]
    split <;> rfl
  · rfl
theorem len_with (s : State) (r n : Nat) : (withBridge s r n).bridges.length = s.bridges.length + 1 := by
  unfold withBridge
  simp
theorem isOn_with (s : State) (r n c : Nat) : isOn (withBridge s r n) c = if c = s.bridges.length then true else isOn s c := by
  unfold isOn
  rw [bridgeAt_with, len_with]
  by_cases h : c = s.bridges.length
  · rw [if_pos h, if_pos h, h]
    simp
  · rw [if_neg h, if_neg h]
    by_cases h2 : c < s.bridges.length
    · simp [h2]
      intro _
      omega
    · rw [bridgeAt_out h2]
      simp
theorem inv_with {s : State} (I : Inv s) {r n : Nat} (hl : s.bridges.length < 32) (hn : ∀ b, b < s.bridges.length → (bridgeAt s b).number ≠ n) : Inv (withBridge s r n) := by
  have D : Dim s (withBridge s r n) := ⟨rfl, rfl, fun b p => by
    rw [portAt_with]
    by_cases h : b = s.bridges.length
    · rw [h, portAt_out (Nat.lt_irrefl _)]
      exact .inl ⟨rfl, rfl⟩
    · refine .inr ⟨rfl, rfl, rfl, ?_⟩
      rw [isOn_with, if_neg h]⟩
  refine ⟨I.a1, I.a2, I.w1, I.w2, I.k1, I.k2, I.rm, by rw [len_with]; omega, fun b hb => ?_, fun b p c q h => ?_, fun b c hb hc e => ?_, fun b hb => ?_, fun b p h hh => ?_, fun b p => ?_, fun b p => ?_, fun b => ?_, fun b x hx => ?_, fun b => ?_, D.ringAge I, D.noRing I⟩
  · rw [len_with] at hb
    rw [bridgeAt_with]
    split
    · rfl
    · exact I.np b (by omega)
  · rw [portAt_with] at h ⊢
    exact I.sym b p c q h
  · rw [len_with] at hb hc
    rw [bridgeAt_with, bridgeAt_with] at e
    by_cases h1 : b = s.bridges.length
    · by_cases h2 : c = s.bridges.length
      · rw [h1, h2]
      · rw [if_pos h1, if_neg h2] at e
        exact absurd e.symm (hn c (by omega))
    · by_cases h2 : c = s.bridges.length
      · rw [if_neg h1, if_pos h2] at e
        exact absurd e (hn b (by omega))
      · rw [if_neg h1, if_neg h2] at e
        exact I.num b c (by omega) (by omega) e
  · rw [isOn_with] at hb
    by_cases h : b = s.bridges.length
    · rw [if_pos h] at hb
      cases hb
    · rw [if_neg h] at hb
      rw [bridgeAt_with, if_neg h]
      obtain ⟨h1, h2⟩ := I.off b hb
      exact ⟨h1, fun p => by rw [portAt_with]; exact h2 p⟩
  · rw [portAt_with] at hh
    exact I.age b p h hh
  · rw [portAt_with]
    exact I.wt b p
  · rw [portAt_with]
    exact I.cost b p
  · rw [bridgeAt_with]
    split
    · exact List.Pairwise.nil
    · exact I.stS b
  · rw [bridgeAt_with] at hx
    split at hx
    · cases hx
    · rename_i h
      obtain ⟨h1, h2⟩ := I.stP b x hx
      obtain ⟨f1, f2⟩ := forwards_iff.mp h2
      refine ⟨h1, forwards_iff.mpr ⟨by rw [isOn_with, if_neg h]; exact f1, ?_⟩⟩
      rw [portAt_with]
      exact f2
  · rw [bridgeAt_with]
    split
    · exact Nat.zero_le _
    · exact I.stL b
/-! ### begin -/
theorem inv_begin {a w k r : Nat} (h1 : 32 ≤ a) (h2 : a ≤ 100) (h3 : a + 1 ≤ w) (h4 : w ≤ 200) (h5 : 1 ≤ k) (h6 : k ≤ 1000000000) (h7 : r ≤ 1024) : Inv { begun := true, age := a, wait := w, keep := k, room := r } := by
  have P : ∀ b p, portAt { begun := true, age := a, wait := w, keep := k, room := r } b p = {} := fun b p => portAt_out (Nat.not_lt_zero _)
  have B : ∀ b, bridgeAt { begun := true, age := a, wait := w, keep := k, room := r } b = { rank := 0, number := 0, on := false, ports := [] } := fun b => bridgeAt_out (Nat.not_lt_zero _)
  refine ⟨h1, h2, h3, h4, h5, h6, h7, Nat.zero_le _, fun b hb => absurd hb (Nat.not_lt_zero _), fun b p c q h => ?_, fun b c hb => absurd hb (Nat.not_lt_zero _), fun b _ => ⟨by rw [B], fun p => by rw [P]; exact ⟨rfl, rfl, rfl⟩⟩, fun b p h hh => ?_, fun b p => by rw [P]; exact Nat.zero_le _, fun b p => by rw [P]; exact (by decide : 1 ≤ 100), fun b => by rw [B]; exact List.Pairwise.nil, fun b x hx => ?_, fun b => by rw [B]; exact Nat.zero_le _, fun x r j R U => ?_, fun x r R F => ?_⟩
  · rw [P] at h
    cases h
  · rw [P] at hh
    cases hh
  · rw [B] at hx
    cases hx
  · have h := (isOn_iff.mp (U x (by simp)).1.1).1
    exact absurd h (Nat.not_lt_zero _)
  · have h := forwards_lt (F x (by simp)).1
    exact absurd h (Nat.not_lt_zero _)
end Sw
/-! A3, on: a round; rounds behind a still one. -/
namespace Sw
open Vbcnac

theorem round_plen (s : State) (b : Nat) : (bridgeAt (round s).1 b).ports.length = (bridgeAt s b).ports.length := by
  by_cases h : b < s.bridges.length
  · cases ho : (bridgeAt s b).on with
    | false => rw [round_off s h ho]
    | true =>
      rw [round_on s h ho]
      show ((indexed (after1 s b)).map _).length = _
      rw [List.length_map, indexed_len, after1_len]
  · rw [bridgeAt_out h, bridgeAt_out (by rw [round_len]; exact h)]
theorem round_number (s : State) (b : Nat) : (bridgeAt (round s).1 b).number = (bridgeAt s b).number ∧ (bridgeAt (round s).1 b).rank = (bridgeAt s b).rank := by
  by_cases h : b < s.bridges.length
  · cases ho : (bridgeAt s b).on with
    | false =>
      rw [round_off s h ho]
      exact ⟨rfl, rfl⟩
    | true =>
      rw [round_on s h ho]
      exact ⟨rfl, rfl⟩
  · rw [bridgeAt_out h, bridgeAt_out (by rw [round_len]; exact h)]
    exact ⟨rfl, rfl⟩
/-- by cases: a port in a round -/
theorem round_cases (s : State) (b p : Nat) : (isOn s b = true ∧ p < (bridgeAt s b).ports.length) ∨ (portAt (round s).1 b p = portAt s b p ∧ (isOn s b = false ∨ portAt s b p = {})) := by
  by_cases h : b < s.bridges.length
  · cases ho : (bridgeAt s b).on with
    | false =>
      right
      refine ⟨?_, .inl ?_⟩
      · unfold portAt
        rw [round_off s h ho]
      · unfold isOn
        rw [ho]
        simp
    | true =>
      by_cases hp : p < (bridgeAt s b).ports.length
      · exact .inl ⟨isOn_iff.mpr ⟨h, ho⟩, hp⟩
      · right
        rw [portAt_ge (Nat.le_of_not_lt hp), portAt_ge (by rw [round_plen]; exact Nat.le_of_not_lt hp)]
        exact ⟨rfl, .inr rfl⟩
  · right
    rw [portAt_out h, portAt_out (by rw [round_len]; exact h)]
    exact ⟨rfl, .inr rfl⟩
theorem changes_zero {s : State} : ∀ {l m : List Port}, changes s l m = 0 → ∀ (p : Nat) (x y : Port), l[p]? = some x → m[p]? = some y → (x.wait == s.wait) = (y.wait == s.wait)
  | [], _, _, _, _, _, h, _ => by simp at h
  | _ :: _, [], _, _, _, _, _, h => by simp at h
  | a :: l, b :: m, h, 0, x, y, h1, h2 => by
    have e1 : a = x := Option.some.inj h1
    have e2 : b = y := Option.some.inj h2
    subst e1 e2
    unfold changes at h
    rw [List.zip_cons_cons, List.filter_cons] at h
    split at h
    · simp at h
    · rename_i g
      have g2 : ((a.wait == s.wait) != (b.wait == s.wait)) = false := by simpa using g
      cases q1 : (a.wait == s.wait) <;> cases q2 : (b.wait == s.wait) <;> rw [q1, q2] at g2 <;> first | rfl | cases g2
  | a :: l, b :: m, h, p + 1, x, y, h1, h2 => by
    have h3 : changes s l m = 0 := by
      unfold changes at h ⊢
      rw [List.zip_cons_cons, List.filter_cons] at h
      split at h
      · simp at h
      · exact h
    exact changes_zero h3 p x y (by simpa using h1) (by simpa using h2)
theorem older_sorted {k : Nat} {l : List Station} (h : l.Pairwise (fun x y => x.number < y.number)) : (older k l).Pairwise (fun x y => x.number < y.number) := by
  unfold older
  exact List.Pairwise.filter _ (List.Pairwise.map _ (fun _ _ g => g) h)
theorem older_mem {k : Nat} {l : List Station} {x : Station} (h : x ∈ older k l) : ∃ y ∈ l, y.number = x.number ∧ y.port = x.port ∧ x.age = y.age + 1 ∧ x.age ≤ k := by
  unfold older at h
  rw [List.mem_filter, List.mem_map] at h
  obtain ⟨⟨y, hy, e⟩, h2⟩ := h
  subst e
  exact ⟨y, hy, rfl, rfl, rfl, of_decide_eq_true h2⟩
theorem older_len (k : Nat) (l : List Station) : (older k l).length ≤ l.length := by
  unfold older
  refine Nat.le_trans (List.length_filter_le _ _) ?_
  rw [List.length_map]
  exact Nat.le_refl _
theorem young_age {m : Nat} {h x : Heard} (e : young m h = some x) : x = h ∧ h.age ≤ m := by
  unfold young at e
  split at e
  · rename_i g
    exact ⟨(Option.some.inj e).symm, g⟩
  · cases e
theorem round_age {s : State} (I : Inv s) {b p : Nat} {h : Heard} (hh : (portAt (round s).1 b p).heard = some h) : 1 ≤ h.age ∧ h.age ≤ s.age := by
  rcases round_cases s b p with ⟨h1, h2⟩ | ⟨h1, _⟩
  · obtain ⟨hb, ho⟩ := isOn_iff.mp h1
    rw [round_heard s hb ho h2] at hh
    cases q : hearsAt s b p with
    | some z =>
      rw [q] at hh
      obtain ⟨e1, e2⟩ := young_age (show young s.age { told := z.1, age := z.2 + 1 } = some h from hh)
      rw [e1]
      exact ⟨Nat.le_add_left _ _, e2⟩
    | none =>
      rw [q] at hh
      cases g : (portAt s b p).heard with
      | none => rw [g] at hh; cases hh
      | some z =>
        rw [g] at hh
        obtain ⟨e1, e2⟩ := young_age (show young s.age { z with age := z.age + 1 } = some h from hh)
        rw [e1]
        exact ⟨Nat.le_add_left _ _, e2⟩
  · rw [h1] at hh
    exact I.age b p h hh
theorem round_forwards {s : State} {b p : Nat} (h0 : changedAt s b = 0) (f : forwards s b p = true) : forwards (round s).1 b p = true := by
  obtain ⟨f1, f2⟩ := forwards_iff.mp f
  refine forwards_iff.mpr ⟨by rw [round_isOn]; exact f1, ?_⟩
  show (portAt (round s).1 b p).wait = s.wait
  rcases round_cases s b p with ⟨h1, h2⟩ | ⟨h1, _⟩
  · obtain ⟨hb, ho⟩ := isOn_iff.mp h1
    have e := changes_zero h0 p _ _ (portAt_get h2) (after1_get s b p h2)
    rw [f2, beq_self_eq_true] at e
    rw [round_port s hb ho h2]
    exact beq_iff_eq.mp e.symm
  · rw [h1]
    exact f2
theorem inv_round {s : State} (I : Inv s) : Inv (round s).1 := by
  have hl := round_len s
  refine ⟨I.a1, I.a2, I.w1, I.w2, I.k1, I.k2, I.rm, by rw [hl]; exact I.nb, fun b hb => ?_, fun b p c q h => ?_, fun b c hb hc e => ?_, fun b hb => ?_, fun b p h hh => round_age I hh, fun b p => ?_, fun b p => ?_, fun b => ?_, fun b x hx => ?_, fun b => ?_,
    ringAge_round I.sym (fun b p h hh => (I.age b p h hh).1) I.ring, noRing_round I.sym I.w1 (fun b p h hh => (I.age b p h hh).2) I.ring⟩
  · rw [hl] at hb
    rw [round_plen]
    exact I.np b hb
  · rw [round_peer] at h ⊢
    exact I.sym b p c q h
  · rw [hl] at hb hc
    rw [(round_number s b).1, (round_number s c).1] at e
    exact I.num b c hb hc e
  · rw [round_isOn] at hb
    obtain ⟨h1, h2⟩ := I.off b hb
    have hP : ∀ p, portAt (round s).1 b p = portAt s b p := by
      intro p
      rcases round_cases s b p with ⟨h3, _⟩ | ⟨h3, _⟩
      · rw [h3] at hb
        cases hb
      · exact h3
    refine ⟨?_, fun p => by rw [hP]; exact h2 p⟩
    by_cases h : b < s.bridges.length
    · have ho : (bridgeAt s b).on = false := by
        cases ho : (bridgeAt s b).on with
        | false => rfl
        | true =>
          rw [isOn_iff.mpr ⟨h, ho⟩] at hb
          cases hb
      rw [round_off s h ho]
      exact h1
    · rw [bridgeAt_out (by rw [hl]; exact h)]
  · show _ ≤ s.wait
    rcases round_cases s b p with ⟨h1, h2⟩ | ⟨h1, _⟩
    · obtain ⟨hb, ho⟩ := isOn_iff.mp h1
      rw [round_wait s hb ho h2]
      split
      · exact Nat.zero_le _
      · split
        · exact Nat.zero_le _
        · exact Nat.min_le_right _ _
    · rw [h1]
      exact I.wt b p
  · rcases round_cases s b p with ⟨h1, h2⟩ | ⟨h1, _⟩
    · obtain ⟨hb, ho⟩ := isOn_iff.mp h1
      rw [round_port s hb ho h2]
      exact I.cost b p
    · rw [h1]
      exact I.cost b p
  · by_cases h : b < s.bridges.length
    · cases ho : (bridgeAt s b).on with
      | false =>
        rw [round_off s h ho]
        exact I.stS b
      | true =>
        rw [round_on s h ho]
        show (if _ then [] else older s.keep (bridgeAt s b).stations).Pairwise _
        split
        · exact List.Pairwise.nil
        · exact older_sorted (I.stS b)
    · rw [bridgeAt_out (by rw [hl]; exact h)]
      exact List.Pairwise.nil
  · by_cases h : b < s.bridges.length
    · cases ho : (bridgeAt s b).on with
      | false =>
        have e : bridgeAt (round s).1 b = bridgeAt s b := round_off s h ho
        rw [e] at hx
        have h3 := (I.stP b x hx).2
        have h4 := (isOn_iff.mp (forwards_iff.mp h3).1).2
        rw [ho] at h4
        cases h4
      | true =>
        rw [round_on s h ho] at hx
        have hx2 : x ∈ (if 0 < changedAt s b ∨ (cameAt s b).any id = true then [] else older s.keep (bridgeAt s b).stations) := hx
        split at hx2
        · cases hx2
        · rename_i g
          obtain ⟨y, hy, e1, e2, _⟩ := older_mem hx2
          obtain ⟨h1, h2⟩ := I.stP b y hy
          rw [← e2]
          refine ⟨h1, round_forwards ?_ h2⟩
          have : ¬ 0 < changedAt s b := fun z => g (.inl z)
          omega
    · rw [bridgeAt_out (by rw [hl]; exact h)] at hx
      cases hx
  · show _ ≤ s.room
    by_cases h : b < s.bridges.length
    · cases ho : (bridgeAt s b).on with
      | false =>
        rw [round_off s h ho]
        exact I.stL b
      | true =>
        rw [round_on s h ho]
        show (if _ then [] else older s.keep (bridgeAt s b).stations).length ≤ _
        split
        · exact Nat.zero_le _
        · exact Nat.le_trans (older_len _ _) (I.stL b)
    · rw [bridgeAt_out (by rw [hl]; exact h)]
      exact Nat.zero_le _
theorem inv_rounds : ∀ (n : Nat) {s : State}, Inv s → Inv (rounds n s).1
  | 0, _, I => I
  | n + 1, s, I => inv_rounds n (inv_round I)

/-! ### rounds behind a still one -/
/-- the ports are as they were -/
def Still (s : State) : Prop := ∀ b, (bridgeAt (round s).1 b).ports = (bridgeAt s b).ports
def agedB (keep : Nat) (b : Bridge) : Bridge := if b.on = true then { b with stations := older keep b.stations } else b
/-- the stations of all bridges that are on get older -/
def aged (s : State) : State := { s with bridges := s.bridges.map (agedB s.keep) }
theorem bridges_ext {l m : List Bridge} (hl : l.length = m.length) (h : ∀ b, b < l.length → l[b]? = m[b]?) : l = m := by
  apply List.ext_getElem?
  intro i
  by_cases g : i < l.length
  · exact h i g
  · rw [List.getElem?_eq_none (Nat.le_of_not_lt g), List.getElem?_eq_none (by omega)]
theorem changes_same {s : State} : ∀ {l m : List Port}, (∀ (p : Nat) (x y : Port), l[p]? = some x → m[p]? = some y → x.wait = y.wait) → changes s l m = 0
  | [], m, _ => by
    unfold changes
    simp
  | _ :: _, [], _ => by
    unfold changes
    simp
  | a :: l, b :: m, h => by
    have ih : changes s l m = 0 := changes_same fun p x y h1 h2 => h (p + 1) x y (by simpa using h1) (by simpa using h2)
    have e : a.wait = b.wait := h 0 a b rfl rfl
    unfold changes at ih ⊢
    rw [List.zip_cons_cons, List.filter_cons, e]
    simp
    simpa using ih
theorem after_num (s : State) (b : Nat) : (bridgeAfter s (s.bridges.map sends) (bridgeAt s b)).2 = if (bridgeAt s b).on = true then changedAt s b else 0 := by
  unfold bridgeAfter
  cases ho : (bridgeAt s b).on with
  | false => rfl
  | true => rfl
theorem still_changed {s : State} (hs : Still s) {b : Nat} (h : b < s.bridges.length) (ho : (bridgeAt s b).on = true) : changedAt s b = 0 := by
  have e := hs b
  rw [round_on s h ho] at e
  have e2 : (indexed (after1 s b)).map (fun x => { x.2 with notice := tellAt s b x.1 }) = (bridgeAt s b).ports := e
  refine changes_same fun p x y h1 h2 => ?_
  rw [← e2, List.getElem?_map, indexed_get, h2] at h1
  rw [← Option.some.inj h1]
theorem still_next {s : State} (hs : Still s) : round (round s).1 = ({ aged (round s).1 with quiet := (round s).1.quiet + 1 }, 0) ∧ Still (round s).1 := by
  have hb : ∀ b, b < s.bridges.length → bridgeAt (round s).1 b = { bridgeAt s b with stations := (bridgeAt (round s).1 b).stations } := by
    intro b h
    cases ho : (bridgeAt s b).on with
    | false =>
      rw [round_off s h ho]
    | true =>
      have e := hs b
      rw [round_on s h ho] at e ⊢
      have e2 : (indexed (after1 s b)).map (fun x => { x.2 with notice := tellAt s b x.1 }) = (bridgeAt s b).ports := e
      rw [e2]
  have hl : (round s).1.bridges.length = s.bridges.length := round_len s
  have hw : (round s).1.wait = s.wait := rfl
  have ha : (round s).1.age = s.age := rfl
  have hp : ∀ b p, portAt (round s).1 b p = portAt s b p := by
    intro b p
    unfold portAt
    rw [hs b]
  have hon : ∀ b, isOn (round s).1 b = isOn s b := round_isOn s
  have hst : ∀ b, b < s.bridges.length → (bridgeAt s b).on = true → (bridgeAt (round s).1 b).stations = if 0 < changedAt s b ∨ (cameAt s b).any id = true then [] else older s.keep (bridgeAt s b).stations := by
    intro b h ho
    rw [round_on s h ho]
  have hpar : (round s).1.keep = s.keep := rfl
  revert hb hl hw ha hp hon hst hpar
  generalize (round s).1 = t
  intro hb hl hw ha hp hon hst hpar
  have hS : t.bridges.map sends = s.bridges.map sends := by
    apply List.ext_getElem?
    intro i
    rw [List.getElem?_map, List.getElem?_map]
    by_cases g : i < s.bridges.length
    · rw [bridgeAt_get g, bridgeAt_get (by rw [hl]; exact g), hb i g]
      rfl
    · rw [List.getElem?_eq_none (Nat.le_of_not_lt g), List.getElem?_eq_none (by omega)]
  have hf : ∀ b p, forwards t b p = forwards s b p := by
    intro b p
    unfold forwards
    rw [hon, hp, hw]
  have hA : ∀ b, b < s.bridges.length → after1 t b = after1 s b := by
    intro b h
    unfold after1
    rw [hS, hb b h]
    refine congrArg (fun f => (indexed (bridgeAt s b).ports).map f) ?_
    funext x
    unfold portAfter
    rw [ha, hw]
    rfl
  have hC : ∀ b, b < s.bridges.length → changedAt t b = changedAt s b := by
    intro b h
    unfold changedAt
    rw [hA b h, hb b h]
    unfold changes
    rw [hw]
  have hN : ∀ p, noticed t p = noticed s p := by
    intro p
    unfold noticed
    rw [hw]
    cases p.peer with
    | none => rfl
    | some x =>
      show (p.wait == s.wait && (forwards t x.1 x.2 && (portAt t x.1 x.2).notice)) = _
      rw [hf, hp]
  have hM : ∀ b, b < s.bridges.length → cameAt t b = cameAt s b := by
    intro b h
    unfold cameAt
    rw [hb b h]
    exact List.map_congr_left fun p _ => hN p
  have hT : ∀ b, b < s.bridges.length → ∀ i, tellAt t b i = tellAt s b i := by
    intro b h i
    unfold tellAt
    rw [hC b h, hM b h]
  have key : ∀ b, b < t.bridges.length → (bridgeAfter t (t.bridges.map sends) (bridgeAt t b)).1 = agedB t.keep (bridgeAt t b) ∧ (bridgeAfter t (t.bridges.map sends) (bridgeAt t b)).2 = 0 := by
    intro b h
    have h0 : b < s.bridges.length := by
      rw [← hl]
      exact h
    cases ho : (bridgeAt s b).on with
    | false =>
      have ho2 : (bridgeAt t b).on = false := by
        rw [hb b h0]
        exact ho
      constructor
      · rw [← round_at t h, round_off t h ho2]
        unfold agedB
        rw [ho2, if_neg (by decide)]
      · rw [after_num, ho2]
        rfl
    | true =>
      have ho2 : (bridgeAt t b).on = true := by
        rw [hb b h0]
        exact ho
      have z := still_changed hs h0 ho
      constructor
      · rw [← round_at t h, round_on t h ho2, hC b h0, z, hM b h0, hA b h0]
        have e := hs b
        rw [round_on s h0 ho] at e
        have e2 : (indexed (after1 s b)).map (fun x => { x.2 with notice := tellAt s b x.1 }) = (bridgeAt s b).ports := e
        have e3 : (indexed (after1 s b)).map (fun x => { x.2 with notice := tellAt t b x.1 }) = (bridgeAt s b).ports := by
          rw [← e2]
          exact List.map_congr_left fun x _ => by rw [hT b h0]
        rw [e3]
        unfold agedB
        rw [if_pos ho2]
        have e4 : (bridgeAt s b).ports = (bridgeAt t b).ports := by rw [hb b h0]
        rw [e4]
        have e5 := hst b h0 ho
        rw [z] at e5
        by_cases g : (cameAt s b).any id = true
        · rw [if_pos (.inr g)] at e5 ⊢
          rw [e5]
          rfl
        · rw [if_neg (by rintro (q | q); exact absurd q (by decide); exact g q)]
      · rw [after_num, if_pos ho2, hC b h0, z]
  have hR : (round t).1.bridges = t.bridges.map (agedB t.keep) := by
    refine bridges_ext (by rw [round_len, List.length_map]) fun b h => ?_
    rw [round_len] at h
    rw [bridgeAt_get (s := (round t).1) (by rw [round_len]; exact h), List.getElem?_map, bridgeAt_get h, round_at t h, (key b h).1]
    rfl
  constructor
  · refine Prod.ext ?_ ?_
    · show ({ t with bridges := (round t).1.bridges, quiet := t.quiet + 1 } : State) = _
      rw [hR]
      rfl
    · show ((t.bridges.map fun b => bridgeAfter t (t.bridges.map sends) b).map fun x => x.2).sum = 0
      rw [List.map_map]
      have e : ∀ l : List Bridge, (∀ x ∈ l, (bridgeAfter t (t.bridges.map sends) x).2 = 0) → (l.map ((fun x : Bridge × Nat => x.2) ∘ fun b => bridgeAfter t (t.bridges.map sends) b)).sum = 0 := by
        intro l
        induction l with
        | nil => intro _; rfl
        | cons a r ih =>
          intro h
          rw [List.map_cons, List.sum_cons, ih fun x hx => h x (List.mem_cons_of_mem _ hx)]
          show (bridgeAfter t (t.bridges.map sends) a).2 + 0 = 0
          rw [h a (by simp)]
      refine e _ fun x hx => ?_
      obtain ⟨b, hb1, hb2⟩ := List.mem_iff_getElem.mp hx
      have e2 : bridgeAt t b = x := by
        have := bridgeAt_get hb1
        rw [List.getElem?_eq_getElem hb1, hb2] at this
        exact (Option.some.inj this).symm
      rw [← e2]
      exact (key b hb1).2
  · intro b
    by_cases h : b < t.bridges.length
    · rw [round_at t h, (key b h).1]
      unfold agedB
      split <;> rfl
    · rw [bridgeAt_out h, bridgeAt_out (by rw [round_len]; exact h)]
end Sw
namespace Sw
open Vbcnac
/-! ### rows in their order -/
theorem less_irrefl : ∀ l : List Nat, less l l = false
  | [] => rfl
  | a :: r => by
    show (decide (a < a) || (a == a && less r r)) = false
    rw [less_irrefl r]
    simp
theorem less_cons {a b : Nat} {r s : List Nat} : less (a :: r) (b :: s) = true ↔ a < b ∨ a = b ∧ less r s = true := by
  show (decide (a < b) || (a == b && less r s)) = true ↔ _
  simp
theorem less_nil : ∀ l : List Nat, less l [] = false
  | [] => rfl
  | _ :: _ => rfl
theorem less_trans : ∀ {a b c : List Nat}, less a b = true → less b c = true → less a c = true
  | _, b, [], _, h => by
    rw [less_nil] at h
    exact absurd h Bool.false_ne_true
  | a, [], _ :: _, h, _ => by
    rw [less_nil] at h
    exact absurd h Bool.false_ne_true
  | [], _ :: _, _ :: _, _, _ => rfl
  | a :: r, b :: s, c :: t, h, k => by
    rw [less_cons] at h k ⊢
    rcases h with h | ⟨h, h2⟩
    · rcases k with k | ⟨k, k2⟩
      · exact .inl (by omega)
      · exact .inl (by omega)
    · rcases k with k | ⟨k, k2⟩
      · exact .inl (by omega)
      · exact .inr ⟨by omega, less_trans h2 k2⟩
theorem less_tri : ∀ a b : List Nat, less a b = true ∨ a = b ∨ less b a = true
  | [], [] => .inr (.inl rfl)
  | [], _ :: _ => .inl rfl
  | _ :: _, [] => .inr (.inr rfl)
  | a :: r, b :: s => by
    rw [less_cons, less_cons]
    rcases Nat.lt_trichotomy a b with h | h | h
    · exact .inl (.inl h)
    · subst h
      rcases less_tri r s with k | k | k
      · exact .inl (.inr ⟨rfl, k⟩)
      · exact .inr (.inl (by rw [k]))
      · exact .inr (.inr (.inr ⟨rfl, k⟩))
    · exact .inr (.inr (.inl h))
theorem less_asymm {a b : List Nat} (h : less a b = true) : less b a = false := by
  cases q : less b a with
  | false => rfl
  | true =>
    have := less_trans h q
    rw [less_irrefl] at this
    cases this
theorem least_some : ∀ {l : List (List Nat × View)}, l ≠ [] → ∃ x, least l = some x
  | [], h => absurd rfl h
  | x :: r, _ => by
    show ∃ y, (match least r with
      | none => some x
      | some y => if less y.1 x.1 = true then some y else some x) = some y
    cases least r with
    | none => exact ⟨_, rfl⟩
    | some y =>
      show ∃ z, (if less y.1 x.1 = true then some y else some x) = some z
      by_cases h : less y.1 x.1 = true
      · rw [if_pos h]
        exact ⟨_, rfl⟩
      · rw [if_neg h]
        exact ⟨_, rfl⟩
/-- the least, one row more behind -/
theorem least_snoc : ∀ (l : List (List Nat × View)) (x : List Nat × View), least (l ++ [x]) = match least l with
      | none => some x
      | some y => if less x.1 y.1 = true then some x else some y
  | [], x => rfl
  | z :: l, x => by
    have ih := least_snoc l x
    have e1 : least (z :: l ++ [x]) = match least (l ++ [x]) with
      | none => some z
      | some y => if less y.1 z.1 = true then some y else some z := rfl
    have e2 : least (z :: l) = match least l with
      | none => some z
      | some y => if less y.1 z.1 = true then some y else some z := rfl
    rw [e1, e2, ih]
    cases hm : least l with
    | none => rfl
    | some m =>
      show (match (if less x.1 m.1 = true then some x else some m) with
        | none => some z
        | some y => if less y.1 z.1 = true then some y else some z) = match (if less m.1 z.1 = true then some m else some z) with
        | none => some x
        | some y => if less x.1 y.1 = true then some x else some y
      by_cases h1 : less x.1 m.1 = true
      · rw [if_pos h1]
        by_cases h2 : less m.1 z.1 = true
        · rw [if_pos h2]
          show (if less x.1 z.1 = true then some x else some z) = if less x.1 m.1 = true then some x else some m
          rw [if_pos h1, if_pos (less_trans h1 h2)]
        · rw [if_neg h2]
      · rw [if_neg h1]
        by_cases h2 : less m.1 z.1 = true
        · rw [if_pos h2]
          show (if less m.1 z.1 = true then some m else some z) = if less x.1 m.1 = true then some x else some m
          rw [if_pos h2, if_neg h1]
        · rw [if_neg h2]
          show (if less m.1 z.1 = true then some m else some z) = if less x.1 z.1 = true then some x else some z
          have h3 : ¬ less x.1 z.1 = true := fun h => by
            rcases less_tri x.1 m.1 with k | k | k
            · exact h1 k
            · exact h2 (k ▸ h)
            · exact h2 (less_trans k h)
          rw [if_neg h2, if_neg h3]
end Sw
namespace Sw
open Vbcnac
/-! ### what is heard and given, as the bridges are gone through -/
def hs (s : State) (b k c q : Nat) : Option (Told × Nat) := match (portAt s c q).peer with
  | none => none
  | some x => if isOn s c = true ∧ (x.1 < b ∨ x.1 = b ∧ x.2 < k) then saysAt s x.1 x.2 else none
def gs (s : State) (b k c q : Nat) : Bool := match (portAt s c q).peer with
  | none => false
  | some x => decide (x.1 < b ∨ x.1 = b ∧ x.2 < k) && ((portAt s x.1 x.2).notice && forwards s x.1 x.2 && forwards s c q)
section
variable {s : State} {b k c q : Nat}
theorem says_off (h : isOn s b = false) (p : Nat) : saysAt s b p = none := by
  unfold saysAt
  rw [if_neg]
  intro z
  by_cases hb : b < s.bridges.length
  · have ho : (bridgeAt s b).on = false := by
      unfold isOn at h
      simpa [hb] using h
    have : roleAt s b p = .none := by
      unfold roleAt roleOf
      rw [if_pos ho]
    rw [this] at z
    cases z.2
  · rw [bridgeAt_out hb] at z
    exact Nat.not_lt_zero _ z.1
theorem hs_zero : hs s 0 0 c q = none := by
  unfold hs
  cases (portAt s c q).peer with
  | none => rfl
  | some x =>
    show (if isOn s c = true ∧ (x.1 < 0 ∨ x.1 = 0 ∧ x.2 < 0) then saysAt s x.1 x.2 else none) = none
    rw [if_neg (by omega)]
theorem gs_zero : gs s 0 0 c q = false := by
  unfold gs
  cases (portAt s c q).peer with
  | none => rfl
  | some x =>
    show (decide (x.1 < 0 ∨ x.1 = 0 ∧ x.2 < 0) && _) = false
    rw [decide_eq_false (by omega)]
    rfl
theorem proc_ne {x : Nat × Nat} (h : x ≠ (b, k)) : (x.1 < b ∨ x.1 = b ∧ x.2 < k + 1) ↔ (x.1 < b ∨ x.1 = b ∧ x.2 < k) := by
  have : ¬ (x.1 = b ∧ x.2 = k) := fun z => h (Prod.ext z.1 z.2)
  omega
theorem hs_ne (h : ∀ x, (portAt s c q).peer = some x → x ≠ (b, k)) : hs s b (k + 1) c q = hs s b k c q := by
  unfold hs
  cases e : (portAt s c q).peer with
  | none => rfl
  | some x =>
    have := proc_ne (h x e)
    simp only [this]
theorem gs_ne (h : ∀ x, (portAt s c q).peer = some x → x ≠ (b, k)) : gs s b (k + 1) c q = gs s b k c q := by
  unfold gs
  cases e : (portAt s c q).peer with
  | none => rfl
  | some x =>
    have := proc_ne (h x e)
    simp only [this]
theorem ne_of_none_peer (S : Sym s) (h : (portAt s b k).peer = none) : ∀ x, (portAt s c q).peer = some x → x ≠ (b, k) := fun x e z => by
  have := (S c q x.1 x.2 e).1
  rw [z] at this
  rw [h] at this
  cases this
theorem ne_of_peer (S : Sym s) {c0 q0 : Nat} (h : (portAt s b k).peer = some (c0, q0)) (hn : ¬ (c = c0 ∧ q = q0)) : ∀ x, (portAt s c q).peer = some x → x ≠ (b, k) := fun x e z => by
  have := (S c q x.1 x.2 e).1
  rw [z, h] at this
  have e2 := Prod.mk.inj (Option.some.inj this)
  exact hn ⟨e2.1.symm, e2.2.symm⟩
theorem hs_eq (S : Sym s) (h : (portAt s b k).peer = some (c, q)) : hs s b (k + 1) c q = (if isOn s c = true then saysAt s b k else none) ∧ hs s b k c q = none := by
  have e := (S _ _ _ _ h).1
  unfold hs
  rw [e]
  refine ⟨?_, ?_⟩
  · show (if isOn s c = true ∧ (b < b ∨ b = b ∧ k < k + 1) then saysAt s b k else none) = _
    by_cases o : isOn s c = true
    · rw [if_pos ⟨o, .inr ⟨rfl, Nat.lt_succ_self k⟩⟩, if_pos o]
    · rw [if_neg fun z => o z.1, if_neg o]
  · show (if isOn s c = true ∧ (b < b ∨ b = b ∧ k < k) then saysAt s b k else none) = none
    rw [if_neg (by omega)]
theorem gs_eq (S : Sym s) (h : (portAt s b k).peer = some (c, q)) : gs s b (k + 1) c q = ((portAt s b k).notice && forwards s b k && forwards s c q) ∧ gs s b k c q = false := by
  have e := (S _ _ _ _ h).1
  unfold gs
  rw [e]
  refine ⟨?_, ?_⟩
  · show (decide (b < b ∨ b = b ∧ k < k + 1) && _) = _
    rw [decide_eq_true (.inr ⟨rfl, Nat.lt_succ_self k⟩), Bool.true_and]
  · show (decide (b < b ∨ b = b ∧ k < k) && _) = false
    rw [decide_eq_false (by omega)]
    rfl
theorem proc_end {x : Nat × Nat} (h : x.2 < 16) : (x.1 < b ∨ x.1 = b ∧ x.2 < 16) ↔ (x.1 < b + 1 ∨ x.1 = b + 1 ∧ x.2 < 0) := by omega
theorem hs_end (I : Inv s) : hs s b 16 c q = hs s (b + 1) 0 c q := by
  unfold hs
  cases e : (portAt s c q).peer with
  | none => rfl
  | some x =>
    have := proc_end (b := b) (I.peer (c := x.1) (q := x.2) e).2.2.2
    simp only [this]
theorem gs_end (I : Inv s) : gs s b 16 c q = gs s (b + 1) 0 c q := by
  unfold gs
  cases e : (portAt s c q).peer with
  | none => rfl
  | some x =>
    have := proc_end (b := b) (I.peer (c := x.1) (q := x.2) e).2.2.2
    simp only [this]
theorem hs_off (h : isOn s b = false) : hs s b 0 c q = hs s (b + 1) 0 c q := by
  unfold hs
  cases e : (portAt s c q).peer with
  | none => rfl
  | some x =>
    by_cases hx : x.1 = b
    · have : saysAt s x.1 x.2 = none := by
        rw [hx]
        exact says_off h _
      show (if _ then saysAt s x.1 x.2 else none) = if _ then saysAt s x.1 x.2 else none
      rw [this, ite_self, ite_self]
    · have : (x.1 < b ∨ x.1 = b ∧ x.2 < 0) ↔ (x.1 < b + 1 ∨ x.1 = b + 1 ∧ x.2 < 0) := by omega
      simp only [this]
theorem fwd_off (h : isOn s b = false) (p : Nat) : forwards s b p = false := by
  unfold forwards
  rw [h]
  rfl
theorem gs_off (h : isOn s b = false) : gs s b 0 c q = gs s (b + 1) 0 c q := by
  unfold gs
  cases e : (portAt s c q).peer with
  | none => rfl
  | some x =>
    by_cases hx : x.1 = b
    · have : forwards s x.1 x.2 = false := by
        rw [hx]
        exact fwd_off h _
      show (_ && (_ && forwards s x.1 x.2 && _)) = (_ && (_ && forwards s x.1 x.2 && _))
      rw [this]
      simp
    · have : (x.1 < b ∨ x.1 = b ∧ x.2 < 0) ↔ (x.1 < b + 1 ∨ x.1 = b + 1 ∧ x.2 < 0) := by omega
      simp only [this]
theorem hs_all (I : Inv s) (h : isOn s c = true) : hs s s.bridges.length 0 c q = hearsAt s c q := by
  unfold hs hearsAt
  cases e : (portAt s c q).peer with
  | none => rfl
  | some x =>
    have := (I.peer (c := x.1) (q := x.2) e).2.2.1
    show (if isOn s c = true ∧ (x.1 < s.bridges.length ∨ _) then saysAt s x.1 x.2 else none) = saysAt s x.1 x.2
    rw [if_pos ⟨h, .inl this⟩]
theorem gs_all (I : Inv s) (h : isOn s c = true) : gs s s.bridges.length 0 c q = noticed s (portAt s c q) := by
  unfold gs noticed
  cases e : (portAt s c q).peer with
  | none =>
    simp
  | some x =>
    have := (I.peer (c := x.1) (q := x.2) e).2.2.1
    show (decide (x.1 < s.bridges.length ∨ _) && ((portAt s x.1 x.2).notice && forwards s x.1 x.2 && forwards s c q)) = ((portAt s c q).wait == s.wait && (forwards s x.1 x.2 && (portAt s x.1 x.2).notice))
    rw [decide_eq_true (.inl this)]
    have : forwards s c q = ((portAt s c q).wait == s.wait) := by
      unfold forwards
      rw [h]
      rfl
    rw [this]
    cases (portAt s x.1 x.2).notice <;> cases forwards s x.1 x.2 <;> cases (portAt s c q).wait == s.wait <;> rfl
end
end Sw
namespace Sw
open Vbcnac
/-! ### states that differ in stations alone -/
structure Like (s t : State) : Prop where
  len : t.bridges.length = s.bridges.length
  wait : t.wait = s.wait
  room : t.room = s.room
  br : ∀ b, bridgeAt t b = { bridgeAt s b with stations := (bridgeAt t b).stations }
section
variable {s t u : State}
theorem Like.refl (s : State) : Like s s := ⟨rfl, rfl, rfl, fun _ => rfl⟩
theorem Like.trans (h : Like s t) (k : Like t u) : Like s u := ⟨k.len.trans h.len, k.wait.trans h.wait, k.room.trans h.room, fun b => by rw [k.br b, h.br b]⟩
theorem Like.port (h : Like s t) (b p : Nat) : portAt t b p = portAt s b p := by
  unfold portAt
  rw [h.br b]
theorem Like.on (h : Like s t) (b : Nat) : isOn t b = isOn s b := by
  unfold isOn
  rw [h.len, h.br b]
theorem Like.fwd (h : Like s t) (b p : Nat) : forwards t b p = forwards s b p := by
  unfold forwards
  rw [h.on, h.port, h.wait]
theorem like_set (s : State) (b : Nat) (l : List Station) : Like s (setBridge s b { bridgeAt s b with stations := l }) := by
  refine ⟨len_set _ _ _, rfl, rfl, fun c => ?_⟩
  rw [bridgeAt_set]
  by_cases h : c = b ∧ b < s.bridges.length
  · rw [if_pos h, h.1]
  · rw [if_neg h]
theorem like_learn (s : State) (b p n : Nat) : Like s (learn s b p n) := like_set s b _
theorem learn_at (s : State) {b : Nat} (p n : Nat) (hb : b < s.bridges.length) : (bridgeAt (learn s b p n) b).stations = learnt s.room (bridgeAt s b).stations n p := by
  unfold learn
  rw [bridgeAt_same hb]
theorem learn_ne (s : State) {b c : Nat} (p n : Nat) (h : c ≠ b) : bridgeAt (learn s b p n) c = bridgeAt s c := by
  unfold learn
  rw [bridgeAt_ne h]
theorem outs_like {b i d : Nat} (h : Like s t) (hs : (bridgeAt t b).stations = (bridgeAt s b).stations) : outs t b i d = outs s b i d := by
  unfold outs known
  rw [hs]
  cases ((bridgeAt s b).stations.find? fun x => x.number == d).map fun x => x.port with
  | some j => rfl
  | none =>
    show (List.range PORTS).filter (fun j => j != i && forwards t b j) = (List.range PORTS).filter (fun j => j != i && forwards s b j)
    refine List.filter_congr fun j _ => ?_
    rw [h.fwd]
end
/-! ### what a frame does at a bridge -/
section
variable (s : State) (src dest : Nat)
def out0 (e : Nat × Nat) : List Nat := outs (learn s e.1 e.2 src) e.1 e.2 dest
def kid (b j : Nat) : Option (Nat × Nat) := (portAt s b j).peer.bind fun x => if forwards s x.1 x.2 = true then some x else none
def left1 (b j : Nat) : Option (Nat × Nat) := if (portAt s b j).peer = none then some (b, j) else none
def kids (e : Nat × Nat) : List (Nat × Nat) := (out0 s src dest e).filterMap (kid s e.1)
def left0 (e : Nat × Nat) : List (Nat × Nat) := (out0 s src dest e).filterMap (left1 s e.1)
/-- the entries that a frame comes to -/
def tr : Nat → Nat × Nat → List (Nat × Nat)
  | 0, _ => []
  | n + 1, e => e :: (kids s src dest e).flatMap (tr n)
def learnAll (t : State) (l : List (Nat × Nat)) : State := l.foldl (fun t e => learn t e.1 e.2 src) t
end
section
variable {s : State} {src dest : Nat}
theorem like_all : ∀ (l : List (Nat × Nat)) (t : State), Like s t → Like s (learnAll src t l)
  | [], _, h => h
  | e :: l, t, h => like_all l _ (h.trans (like_learn t e.1 e.2 src))
theorem all_ne : ∀ (l : List (Nat × Nat)) (t : State) (c : Nat), c ∉ l.map (·.1) → bridgeAt (learnAll src t l) c = bridgeAt t c
  | [], _, _, _ => rfl
  | e :: l, t, c, h => by
    rw [List.map_cons, List.mem_cons, not_or] at h
    show bridgeAt (learnAll src (learn t e.1 e.2 src) l) c = _
    rw [all_ne l _ c h.2, learn_ne t e.2 src h.1]
theorem all_app (t : State) (l m : List (Nat × Nat)) : learnAll src t (l ++ m) = learnAll src (learnAll src t l) m := List.foldl_append
theorem out0_of {t : State} (h : Like s t) {e : Nat × Nat} (hb : e.1 < s.bridges.length) (hs : (bridgeAt t e.1).stations = (bridgeAt s e.1).stations) : outs (learn t e.1 e.2 src) e.1 e.2 dest = out0 s src dest e := by
  unfold out0
  have h1 : (bridgeAt (learn t e.1 e.2 src) e.1).stations = (bridgeAt (learn s e.1 e.2 src) e.1).stations := by
    rw [learn_at t _ _ (by rw [h.len]; exact hb), learn_at s _ _ hb, hs, h.room]
  have L : Like (learn s e.1 e.2 src) (learn t e.1 e.2 src) := by
    have l1 := like_learn s e.1 e.2 src
    have l2 := h.trans (like_learn t e.1 e.2 src)
    refine ⟨l2.len.trans l1.len.symm, l2.wait.trans l1.wait.symm, l2.room.trans l1.room.symm, fun b => ?_⟩
    rw [l2.br b, l1.br b]
  exact outs_like L h1
/-- walks that a frame takes -/
structure Way (s : State) (e f : Nat × Nat) (l : List Nat) : Prop where
  go : Go s e.1 (some e.2) f.1 (some f.2) l
  fwd : forwards s e.1 e.2 = true
  fwd2 : forwards s f.1 f.2 = true
theorem out0_ok (I : Inv s) {e : Nat × Nat} (hf : forwards s e.1 e.2 = true) {j : Nat} (hj : j ∈ out0 s src dest e) : j ≠ e.2 ∧ forwards s e.1 j = true := by
  have hb : e.1 < s.bridges.length := (isOn_iff.mp (forwards_iff.mp hf).1).1
  unfold out0 outs at hj
  cases hk : known (learn s e.1 e.2 src) e.1 dest with
  | none =>
    rw [hk] at hj
    obtain ⟨_, h2⟩ := List.mem_filter.mp hj
    rw [Bool.and_eq_true, bne_iff_ne, (like_learn s e.1 e.2 src).fwd] at h2
    exact h2
  | some i =>
    rw [hk] at hj
    by_cases hi : i = e.2
    · simp only [hi, if_true] at hj
      cases hj
    · simp only [hi, if_false, List.mem_singleton] at hj
      refine ⟨hj ▸ hi, ?_⟩
      rw [hj]
      unfold known at hk
      rw [learn_at s _ _ hb] at hk
      cases hx : (learnt s.room (bridgeAt s e.1).stations src e.2).find? fun x => x.number == dest with
      | none =>
        rw [hx] at hk
        cases hk
      | some x =>
        rw [hx] at hk
        have hxi : x.port = i := Option.some.inj hk
        have hm := List.mem_of_find?_eq_some hx
        have : x ∈ (bridgeAt s e.1).stations ∨ x = { number := src, port := e.2, age := 0 } := by
          unfold learnt at hm
          split at hm
          · have : ∀ (l : List Station) (y : Station), x ∈ putIn y l → x ∈ l ∨ x = y := by
              intro l
              induction l with
              | nil => intro y h; exact .inr (List.mem_singleton.mp h)
              | cons z l ih =>
                intro y h
                unfold putIn at h
                split at h
                · rcases List.mem_cons.mp h with h | h
                  · exact .inr h
                  · exact .inl h
                · split at h
                  · rcases List.mem_cons.mp h with h | h
                    · exact .inr h
                    · exact .inl (List.mem_cons_of_mem _ h)
                  · rcases List.mem_cons.mp h with h | h
                    · exact .inl (h ▸ List.mem_cons_self)
                    · rcases ih y h with h | h
                      · exact .inl (List.mem_cons_of_mem _ h)
                      · exact .inr h
            exact this _ _ hm
          · exact .inl hm
        rcases this with h | h
        · rw [← hxi]
          exact (I.stP e.1 x h).2
        · rw [h] at hxi
          exact absurd hxi.symm hi
theorem kid_some {b j : Nat} {x : Nat × Nat} (h : kid s b j = some x) : (portAt s b j).peer = some x ∧ forwards s x.1 x.2 = true := by
  unfold kid at h
  cases hp : (portAt s b j).peer with
  | none =>
    rw [hp] at h
    cases h
  | some y =>
    rw [hp] at h
    have h2 : (if forwards s y.1 y.2 = true then some y else none) = some x := h
    by_cases q : forwards s y.1 y.2 = true
    · rw [if_pos q] at h2
      rw [← Option.some.inj h2]
      exact ⟨rfl, q⟩
    · rw [if_neg q] at h2
      cases h2
theorem kid_step (I : Inv s) {e x : Nat × Nat} (hf : forwards s e.1 e.2 = true) (h : x ∈ kids s src dest e) : ∃ j, j ≠ e.2 ∧ forwards s e.1 j = true ∧ (portAt s e.1 j).peer = some x ∧ forwards s x.1 x.2 = true ∧ j ∈ out0 s src dest e := by
  obtain ⟨j, hj, hk⟩ := List.mem_filterMap.mp h
  obtain ⟨h1, h2⟩ := out0_ok I hf hj
  obtain ⟨h3, h4⟩ := kid_some hk
  exact ⟨j, h1, h2, h3, h4, hj⟩
theorem Way.nil {e : Nat × Nat} (h : forwards s e.1 e.2 = true) : Way s e e [e.1] := ⟨Go.nil _ _, h, h⟩
theorem Way.cons (I : Inv s) {e x f : Nat × Nat} {l : List Nat} (hf : forwards s e.1 e.2 = true) (h : x ∈ kids s src dest e) (w : Way s x f l) : Way s e f (e.1 :: l) := by
  obtain ⟨j, h1, h2, h3, h4, _⟩ := kid_step I hf h
  exact ⟨Go.cons (fun z => h1 (Option.some.inj z)) h2 h3 h4 w.go, hf, w.fwd2⟩
end
end Sw
namespace Sw
open Vbcnac
section
variable {s : State} {src dest : Nat}
theorem Go.snoc {b c j d q : Nat} {i k : Option Nat} {l : List Nat} (g : Go s b i c k l) (hj : some j ≠ k) (f1 : forwards s c j = true) (hp : (portAt s c j).peer = some (d, q)) (f2 : forwards s d q = true) : Go s b i d (some q) (l ++ [d]) := by
  induction g with
  | nil b i => exact Go.cons hj f1 hp f2 (Go.nil _ _)
  | cons hj' f1' hp' f2' r ih => exact Go.cons hj' f1' hp' f2' (ih hj f1 hp)
theorem Go.lt {b c : Nat} {i k : Option Nat} {l : List Nat} (g : Go s b i c k l) (hb : b < s.bridges.length) : ∀ x ∈ l, x < s.bridges.length := by
  induction g with
  | nil b i =>
    intro x hx
    rw [List.mem_singleton.mp hx]
    exact hb
  | cons hj f1 hp f2 r ih =>
    intro x hx
    rcases List.mem_cons.mp hx with h | h
    · rw [h]
      exact hb
    · exact ih (isOn_iff.mp (forwards_iff.mp f2).1).1 x h
theorem fwd_lt {b p : Nat} (h : forwards s b p = true) : b < s.bridges.length := (isOn_iff.mp (forwards_iff.mp h).1).1
theorem nodup_le : ∀ {n : Nat} {l : List Nat}, l.Nodup → (∀ x ∈ l, x < n) → l.length ≤ n
  | 0, l, _, h => by
    cases l with
    | nil => exact Nat.le_refl _
    | cons a l => exact absurd (h a List.mem_cons_self) (Nat.not_lt_zero _)
  | n + 1, l, nd, h => by
    by_cases hn : n ∈ l
    · have h1 : (l.erase n).length ≤ n := nodup_le (nd.erase n) fun x hx => by
        have h2 := (nd.mem_erase_iff).mp hx
        have := h x h2.2
        have := h2.1
        omega
      rw [List.length_erase_of_mem hn] at h1
      omega
    · have h1 : l.length ≤ n := nodup_le nd fun x hx => by
        have := h x hx
        have : x ≠ n := fun z => hn (z ▸ hx)
        omega
      omega
theorem Way.snoc (I : Inv s) {r e x : Nat × Nat} {l : List Nat} (w : Way s r e l) (h : x ∈ kids s src dest e) : Way s r x (l ++ [x.1]) := by
  obtain ⟨j, h1, h2, h3, h4, _⟩ := kid_step I w.fwd2 h
  exact ⟨w.go.snoc (fun z => h1 (Option.some.inj z)) h2 h3 h4, w.fwd, h4⟩
theorem Way.len (I : Inv s) {r e : Nat × Nat} {l : List Nat} (w : Way s r e l) : l.length ≤ 32 :=
  Nat.le_trans (nodup_le (w.go.nodup I.sym I.noring) (w.go.lt (fwd_lt w.fwd))) I.nb
theorem flatMap_eq {α β : Type} {f g : α → List β} : ∀ {l : List α}, (∀ x ∈ l, f x = g x) → l.flatMap f = l.flatMap g
  | [], _ => rfl
  | a :: l, h => by
    rw [List.flatMap_cons, List.flatMap_cons, h a List.mem_cons_self, flatMap_eq fun x hx => h x (List.mem_cons_of_mem _ hx)]
theorem tr_fuel (I : Inv s) {r : Nat × Nat} : ∀ (n : Nat) {e : Nat × Nat} {l : List Nat}, Way s r e l → 33 ≤ n + l.length → tr s src dest n e = tr s src dest (n + 1) e
  | 0, e, l, w, h => by
    have := w.len I
    omega
  | n + 1, e, l, w, h => by
    show e :: (kids s src dest e).flatMap (tr s src dest n) = e :: (kids s src dest e).flatMap (tr s src dest (n + 1))
    rw [flatMap_eq fun x hx => tr_fuel I n (w.snoc I hx) (by rw [List.length_append, List.length_singleton]; omega)]
/-- all that a frame comes to from an entry -/
def trs (s : State) (src dest : Nat) (e : Nat × Nat) : List (Nat × Nat) := tr s src dest 32 e
theorem trs_eq (I : Inv s) {r e : Nat × Nat} {l : List Nat} (w : Way s r e l) : trs s src dest e = e :: (kids s src dest e).flatMap (trs s src dest) := by
  have hl : 1 ≤ l.length := by
    obtain ⟨m, e⟩ := w.go.mem_head
    rw [e]
    simp
  unfold trs
  rw [tr_fuel I 32 w (by omega)]
  rfl
theorem tr_way (I : Inv s) : ∀ (n : Nat) {e f : Nat × Nat}, forwards s e.1 e.2 = true → f ∈ tr s src dest n e → ∃ l, Way s e f l
  | 0, e, f, _, h => by cases h
  | n + 1, e, f, he, h => by
    rcases List.mem_cons.mp h with h | h
    · rw [h]
      exact ⟨_, Way.nil he⟩
    · obtain ⟨x, hx, hf⟩ := List.mem_flatMap.mp h
      obtain ⟨j, _, _, _, h4, _⟩ := kid_step I he hx
      obtain ⟨l, w⟩ := tr_way I n h4 hf
      exact ⟨_, w.cons I he hx⟩
theorem out0_nodup (e : Nat × Nat) : (out0 s src dest e).Nodup := by
  unfold out0 outs
  split
  · split
    · exact List.nodup_nil
    · simp
  · exact List.Pairwise.filter _ List.nodup_range
theorem tr_nodup (I : Inv s) : ∀ (n : Nat) {e : Nat × Nat}, forwards s e.1 e.2 = true → ((tr s src dest n e).map (·.1)).Nodup
  | 0, _, _ => List.nodup_nil
  | n + 1, e, he => by
    show (e.1 :: ((kids s src dest e).flatMap (tr s src dest n)).map (·.1)).Nodup
    rw [List.nodup_cons]
    refine ⟨fun h => ?_, ?_⟩
    · obtain ⟨f, hf, h1⟩ := List.mem_map.mp h
      obtain ⟨x, hx, hf2⟩ := List.mem_flatMap.mp hf
      obtain ⟨j, _, _, _, h4, _⟩ := kid_step I he hx
      obtain ⟨l, w⟩ := tr_way I n h4 hf2
      have nd := (w.cons I he hx).go.nodup I.sym I.noring
      have : f.1 ∈ l := w.go.mem_last
      rw [h1] at this
      exact (List.nodup_cons.mp nd).1 this
    · show List.Pairwise (· ≠ ·) _
      rw [List.pairwise_map, List.pairwise_flatMap]
      refine ⟨fun x hx => ?_, ?_⟩
      · obtain ⟨j, _, _, _, h4, _⟩ := kid_step I he hx
        have := tr_nodup I n h4
        exact List.pairwise_map.mp this
      · unfold kids
        rw [List.pairwise_filterMap]
        refine List.Pairwise.imp_of_mem (R := fun a b : Nat => a ≠ b) (fun {j1 j2} m1 m2 hne x hx y hy f hf g hg hfg => ?_) (out0_nodup e)
        obtain ⟨_, f1⟩ := out0_ok I he m1
        obtain ⟨_, f2⟩ := out0_ok I he m2
        obtain ⟨p1, g1⟩ := kid_some hx
        obtain ⟨p2, g2⟩ := kid_some hy
        obtain ⟨l1, w1⟩ := tr_way I n g1 hf
        obtain ⟨l2, w2⟩ := tr_way I n g2 hg
        have w2' := w2.go
        rw [← hfg] at w2'
        exact part_ways I.sym I.noring hne f1 p1 g1 w1.go f2 p2 g2 w2'
end
end Sw
namespace Sw
open Vbcnac
section
variable {s : State} {src dest : Nat}
def flowF (n : Nat) (s' : State) (b src dest : Nat) (acc : State × List (Nat × Nat)) (j : Nat) : State × List (Nat × Nat) := match (portAt s' b j).peer with
  | none => (acc.1, acc.2 ++ [(b, j)])
  | some (c, q) => if forwards s' c q = true then ((flow n acc.1 c q src dest).1, acc.2 ++ (flow n acc.1 c q src dest).2) else acc
theorem flow_succ (n : Nat) (t : State) (b i src dest : Nat) : flow (n + 1) t b i src dest = (outs (learn t b i src) b i dest).foldl (flowF n (learn t b i src) b src dest) (learn t b i src, []) := rfl
theorem flow_eq (I : Inv s) : ∀ (n : Nat) {t : State} {e : Nat × Nat}, Like s t → forwards s e.1 e.2 = true → (∀ f ∈ tr s src dest n e, (bridgeAt t f.1).stations = (bridgeAt s f.1).stations) →
    ∃ L, flow n t e.1 e.2 src dest = (learnAll src t (tr s src dest n e), L) ∧ L.Perm ((tr s src dest n e).flatMap (left0 s src dest))
  | 0, t, e, _, _, _ => ⟨[], rfl, List.Perm.nil⟩
  | n + 1, t, e, hl, he, hst => by
    have hb := fwd_lt he
    have ho : outs (learn t e.1 e.2 src) e.1 e.2 dest = out0 s src dest e := out0_of hl hb (hst e List.mem_cons_self)
    have hl1 : Like s (learn t e.1 e.2 src) := hl.trans (like_learn t e.1 e.2 src)
    have nd := tr_nodup I (src := src) (dest := dest) (n + 1) he
    rw [flow_succ, ho]
    have main : ∀ (js : List Nat) (u : State) (L0 : List (Nat × Nat)), (∀ j ∈ js, j ∈ out0 s src dest e) → Like s u → (∀ f ∈ (js.filterMap (kid s e.1)).flatMap (tr s src dest n), (bridgeAt u f.1).stations = (bridgeAt s f.1).stations) → (((js.filterMap (kid s e.1)).flatMap (tr s src dest n)).map (·.1)).Nodup →
        ∃ L, js.foldl (flowF n (learn t e.1 e.2 src) e.1 src dest) (u, L0) = (learnAll src u ((js.filterMap (kid s e.1)).flatMap (tr s src dest n)), L0 ++ L) ∧ L.Perm (js.filterMap (left1 s e.1) ++ ((js.filterMap (kid s e.1)).flatMap (tr s src dest n)).flatMap (left0 s src dest)) := by
      intro js
      induction js with
      | nil =>
        intro u L0 _ _ _ _
        exact ⟨[], by rw [List.append_nil]; rfl, List.Perm.nil⟩
      | cons j js ih =>
        intro u L0 hj hu hst2 nd2
        have hj' := fun x hx => hj x (List.mem_cons_of_mem _ hx)
        rw [List.foldl_cons]
        cases hp : (portAt s e.1 j).peer with
        | none =>
          have e1 : kid s e.1 j = none := by
            unfold kid
            rw [hp]
            rfl
          have e2 : left1 s e.1 j = some (e.1, j) := by
            unfold left1
            rw [if_pos hp]
          have e3 : flowF n (learn t e.1 e.2 src) e.1 src dest (u, L0) j = (u, L0 ++ [(e.1, j)]) := by
            unfold flowF
            rw [hl1.port, hp]
          rw [List.filterMap_cons, e1] at hst2 nd2 ⊢
          rw [List.filterMap_cons, e2, e3]
          obtain ⟨L, h1, h2⟩ := ih u (L0 ++ [(e.1, j)]) hj' hu hst2 nd2
          exact ⟨(e.1, j) :: L, by rw [h1, List.append_assoc]; rfl, h2.cons _⟩
        | some x =>
          have e2 : left1 s e.1 j = none := by
            unfold left1
            rw [if_neg (by rw [hp]; intro z; cases z)]
          by_cases hf : forwards s x.1 x.2 = true
          · have e1 : kid s e.1 j = some x := by
              unfold kid
              rw [hp]
              exact if_pos hf
            have e3 : flowF n (learn t e.1 e.2 src) e.1 src dest (u, L0) j = ((flow n u x.1 x.2 src dest).1, L0 ++ (flow n u x.1 x.2 src dest).2) := by
              unfold flowF
              rw [hl1.port, hp]
              show (if forwards (learn t e.1 e.2 src) x.1 x.2 = true then _ else _) = _
              rw [hl1.fwd, if_pos hf]
            rw [List.filterMap_cons, e1] at hst2 nd2 ⊢
            rw [List.filterMap_cons, e2, e3]
            have hc : ∀ l : List (Nat × Nat), (x :: l).flatMap (tr s src dest n) = tr s src dest n x ++ l.flatMap (tr s src dest n) := fun l => List.flatMap_cons
            rw [hc] at hst2 nd2 ⊢
            rw [List.map_append, List.nodup_append] at nd2
            obtain ⟨M, m1, m2⟩ := flow_eq I n hu hf fun f hf => hst2 f (List.mem_append_left _ hf)
            rw [m1]
            obtain ⟨L, h1, h2⟩ := ih (learnAll src u (tr s src dest n x)) (L0 ++ M) hj' (like_all _ _ hu) (fun f hf => by
              rw [all_ne _ _ _ (fun h => nd2.2.2 _ h _ (List.mem_map_of_mem hf) rfl)]
              exact hst2 f (List.mem_append_right _ hf)) nd2.2.1
            refine ⟨M ++ L, by rw [h1, all_app, List.append_assoc], ?_⟩
            rw [List.flatMap_append]
            refine (List.Perm.append m2 h2).trans ?_
            rw [← List.append_assoc, ← List.append_assoc]
            exact List.Perm.append_right _ List.perm_append_comm
          · have e1 : kid s e.1 j = none := by
              unfold kid
              rw [hp]
              exact if_neg hf
            have e3 : flowF n (learn t e.1 e.2 src) e.1 src dest (u, L0) j = (u, L0) := by
              unfold flowF
              rw [hl1.port, hp]
              show (if forwards (learn t e.1 e.2 src) x.1 x.2 = true then _ else _) = _
              rw [hl1.fwd, if_neg hf]
            rw [List.filterMap_cons, e1] at hst2 nd2 ⊢
            rw [List.filterMap_cons, e2, e3]
            exact ih u L0 hj' hu hst2 nd2
    have hne : ∀ f ∈ (kids s src dest e).flatMap (tr s src dest n), f.1 ≠ e.1 := fun f hf z => by
      have h1 : (e.1 :: ((kids s src dest e).flatMap (tr s src dest n)).map (·.1)).Nodup := nd
      exact (List.nodup_cons.mp h1).1 (z ▸ List.mem_map_of_mem hf)
    obtain ⟨L, h1, h2⟩ := main (out0 s src dest e) (learn t e.1 e.2 src) [] (fun _ h => h) hl1 (fun f hf => by
      rw [learn_ne _ _ _ (hne f hf)]
      exact hst f (List.mem_cons_of_mem _ hf)) (List.nodup_cons.mp (show (e.1 :: ((kids s src dest e).flatMap (tr s src dest n)).map (·.1)).Nodup from nd)).2
    refine ⟨L, h1, h2.trans ?_⟩
    show (left0 s src dest e ++ ((kids s src dest e).flatMap (tr s src dest n)).flatMap (left0 s src dest)).Perm ((e :: (kids s src dest e).flatMap (tr s src dest n)).flatMap (left0 s src dest))
    rw [List.flatMap_cons]
end
/-! ### places in their order -/
def leP (x y : Nat × Nat) : Prop := less [y.1, y.2] [x.1, x.2] = false
theorem leP_total (x y : Nat × Nat) : leP x y ∨ leP y x := by
  unfold leP
  cases h : less [y.1, y.2] [x.1, x.2] with
  | false => exact .inl rfl
  | true => exact .inr (less_asymm h)
theorem leP_anti {x y : Nat × Nat} (h : leP x y) (k : leP y x) : x = y := by
  unfold leP at h k
  rcases less_tri [x.1, x.2] [y.1, y.2] with z | z | z
  · rw [z] at k
    cases k
  · injection z with z1 z2
    injection z2 with z2 _
    exact Prod.ext z1 z2
  · rw [z] at h
    cases h
theorem leP_trans {x y z : Nat × Nat} (h : leP x y) (k : leP y z) : leP x z := by
  unfold leP at h k ⊢
  cases q : less [z.1, z.2] [x.1, x.2] with
  | false => rfl
  | true =>
    rcases less_tri [x.1, x.2] [y.1, y.2] with a | a | a
    · rw [less_trans q a] at k
      cases k
    · rw [← a, q] at k
      cases k
    · rw [a] at h
      cases h
theorem putPlace_perm (x : Nat × Nat) : ∀ l, (putPlace x l).Perm (x :: l)
  | [] => .refl _
  | y :: r => by
    unfold putPlace
    split
    · exact .refl _
    · exact ((putPlace_perm x r).cons y).trans (.swap x y r)
theorem sorted_perm : ∀ l : List (Nat × Nat), (sorted l).Perm l
  | [] => .refl _
  | x :: l => (putPlace_perm x (sorted l)).trans ((sorted_perm l).cons x)
theorem putPlace_pw (x : Nat × Nat) : ∀ l, l.Pairwise leP → (putPlace x l).Pairwise leP
  | [], _ => List.pairwise_singleton _ _
  | y :: r, h => by
    obtain ⟨h1, h2⟩ := List.pairwise_cons.mp h
    unfold putPlace
    by_cases q : less [x.1, x.2] [y.1, y.2] = true
    · rw [if_pos q]
      have xy : leP x y := less_asymm q
      refine List.pairwise_cons.mpr ⟨fun z hz => ?_, h⟩
      rcases List.mem_cons.mp hz with hz | hz
      · rw [hz]
        exact xy
      · exact leP_trans xy (h1 z hz)
    · rw [if_neg q]
      refine List.pairwise_cons.mpr ⟨fun z hz => ?_, putPlace_pw x r h2⟩
      rcases List.mem_cons.mp ((putPlace_perm x r).mem_iff.mp hz) with hz | hz
      · rw [hz]
        exact Bool.eq_false_iff.mpr q
      · exact h1 z hz
theorem sorted_pw : ∀ l : List (Nat × Nat), (sorted l).Pairwise leP
  | [] => List.Pairwise.nil
  | x :: l => putPlace_pw x _ (sorted_pw l)
theorem pw_unique : ∀ {l m : List (Nat × Nat)}, l.Perm m → l.Pairwise leP → m.Pairwise leP → l = m
  | [], m, p, _, _ => (List.nil_perm.mp p).symm
  | x :: l, [], p, _, _ => by
    have := p.length_eq
    simp at this
  | x :: l, y :: m, p, h, k => by
    obtain ⟨h1, h2⟩ := List.pairwise_cons.mp h
    obtain ⟨k1, k2⟩ := List.pairwise_cons.mp k
    have e : x = y := by
      have a : x ∈ y :: m := p.mem_iff.mp List.mem_cons_self
      have b : y ∈ x :: l := p.mem_iff.mpr List.mem_cons_self
      rcases List.mem_cons.mp a with a | a
      · exact a
      · rcases List.mem_cons.mp b with b | b
        · exact b.symm
        · exact leP_anti (h1 y b) (k1 x a)
    subst e
    rw [pw_unique ((List.perm_cons x).mp p) h2 k2]
end Sw
namespace Sw
open Vbcnac
/-! ### a station put among others -/
def SortedS (l : List Station) : Prop := l.Pairwise fun x y => x.number < y.number
theorem putIn_mem {x : Station} : ∀ {l : List Station} {y : Station}, y ∈ putIn x l → y = x ∨ (y ∈ l)
  | [], y, h => .inl (List.mem_singleton.mp h)
  | z :: l, y, h => by
    unfold putIn at h
    split at h
    · rcases List.mem_cons.mp h with h | h
      · exact .inl h
      · exact .inr h
    · split at h
      · rcases List.mem_cons.mp h with h | h
        · exact .inl h
        · exact .inr (List.mem_cons_of_mem _ h)
      · rcases List.mem_cons.mp h with h | h
        · exact .inr (h ▸ List.mem_cons_self)
        · rcases putIn_mem h with h | h
          · exact .inl h
          · exact .inr (List.mem_cons_of_mem _ h)
theorem putIn_sorted {x : Station} : ∀ {l : List Station}, SortedS l → SortedS (putIn x l)
  | [], _ => List.pairwise_singleton _ _
  | y :: l, h => by
    obtain ⟨h1, h2⟩ := List.pairwise_cons.mp h
    unfold putIn
    by_cases c1 : x.number < y.number
    · rw [if_pos c1]
      refine List.pairwise_cons.mpr ⟨fun z hz => ?_, h⟩
      rcases List.mem_cons.mp hz with hz | hz
      · rw [hz]
        exact c1
      · exact Nat.lt_trans c1 (h1 z hz)
    · rw [if_neg c1]
      by_cases c2 : x.number = y.number
      · rw [if_pos c2]
        exact List.pairwise_cons.mpr ⟨fun z hz => by rw [c2]; exact h1 z hz, h2⟩
      · rw [if_neg c2]
        refine List.pairwise_cons.mpr ⟨fun z hz => ?_, putIn_sorted h2⟩
        rcases putIn_mem hz with hz | hz
        · rw [hz]
          omega
        · exact h1 z hz
/-- known: as many; not known: one more, some order -/
theorem putIn_new {x : Station} : ∀ {l : List Station}, (∀ y ∈ l, y.number ≠ x.number) → (putIn x l).Perm (x :: l)
  | [], _ => .refl _
  | y :: l, h => by
    unfold putIn
    by_cases c1 : x.number < y.number
    · rw [if_pos c1]
    · rw [if_neg c1, if_neg (fun z => h y List.mem_cons_self z.symm)]
      exact ((putIn_new fun z hz => h z (List.mem_cons_of_mem _ hz)).cons y).trans (.swap x y l)
theorem putIn_old {x : Station} : ∀ {l : List Station}, SortedS l → (∃ y ∈ l, y.number = x.number) → putIn x l = l.map fun y => if y.number = x.number then x else y
  | [], _, h => by
    obtain ⟨y, hy, _⟩ := h
    cases hy
  | y :: l, hs, h => by
    obtain ⟨h1, h2⟩ := List.pairwise_cons.mp hs
    unfold putIn
    obtain ⟨z, hz, hzx⟩ := h
    by_cases c1 : x.number < y.number
    · exfalso
      rcases List.mem_cons.mp hz with hz | hz
      · rw [hz] at hzx
        omega
      · have := h1 z hz
        omega
    · rw [if_neg c1]
      by_cases c2 : x.number = y.number
      · rw [if_pos c2, List.map_cons, if_pos c2.symm]
        refine congrArg (x :: ·) ?_
        symm
        have : ∀ w ∈ l, (if w.number = x.number then x else w) = w := fun w hw => by
          rw [if_neg]
          have := h1 w hw
          omega
        rw [List.map_congr_left this, List.map_id']
      · rw [if_neg c2, List.map_cons, if_neg (fun w => c2 w.symm)]
        refine congrArg (y :: ·) (putIn_old h2 ⟨z, ?_, hzx⟩)
        rcases List.mem_cons.mp hz with hz | hz
        · rw [hz] at hzx
          exact absurd hzx.symm c2
        · exact hz
theorem learnt_sorted {r n p : Nat} {l : List Station} (h : SortedS l) : SortedS (learnt r l n p) := by
  unfold learnt
  split
  · exact putIn_sorted h
  · exact h
theorem known_iff {l : List Station} {n : Nat} : (l.any fun x => x.number == n) = true ↔ ∃ y ∈ l, y.number = n := by
  rw [List.any_eq_true]
  simp
theorem learnt_len {r n p : Nat} {l : List Station} (hs : SortedS l) (h : l.length ≤ r) : (learnt r l n p).length ≤ r := by
  unfold learnt
  by_cases c : (l.any fun x => x.number == n) = true
  · rw [if_pos (.inl c), putIn_old hs (known_iff.mp c), List.length_map]
    exact h
  · by_cases c2 : l.length < r
    · rw [if_pos (.inr c2), (putIn_new (x := { number := n, port := p, age := 0 }) fun y hy z => c (known_iff.mpr ⟨y, hy, z⟩)).length_eq, List.length_cons]
      exact c2
    · rw [if_neg fun z => z.elim c c2]
      exact h
theorem learnt_mem {r n p : Nat} {l : List Station} {x : Station} (h : x ∈ learnt r l n p) : x.port = p ∨ x ∈ l := by
  unfold learnt at h
  split at h
  · rcases putIn_mem h with h | h
    · exact .inl (by rw [h])
    · exact .inr h
  · exact .inr h
theorem inv_learn {s : State} (I : Inv s) {b p n : Nat} (hf : forwards s b p = true) : Inv (learn s b p n) := by
  have L := like_learn s b p n
  have hb : b < s.bridges.length := (isOn_iff.mp (forwards_iff.mp hf).1).1
  have hP : ∀ c q, portAt (learn s b p n) c q = portAt s c q := L.port
  have D : Dim s (learn s b p n) := ⟨rfl, rfl, fun c q => .inr (by rw [hP]; exact ⟨rfl, rfl, rfl, L.on c⟩)⟩
  have hp16 : p < 16 := by
    apply Decidable.byContradiction
    intro q
    have h1 := portAt_ge (s := s) (b := b) (p := p) (by have := I.plen b; omega)
    have h2 := (forwards_iff.mp hf).2
    rw [h1] at h2
    have h3 : (0 : Nat) = s.wait := h2
    have := I.w1
    omega
  have st : ∀ c, (bridgeAt (learn s b p n) c).stations = if c = b then learnt s.room (bridgeAt s b).stations n p else (bridgeAt s c).stations := fun c => by
    by_cases h : c = b
    · rw [if_pos h, h, learn_at s p n hb]
    · rw [if_neg h, learn_ne s p n h]
  refine ⟨I.a1, I.a2, I.w1, I.w2, I.k1, I.k2, I.rm, by rw [L.len]; exact I.nb, fun c hc => ?_, fun x y c q h => ?_, fun c d hc hd e => ?_, fun c hc => ?_, fun c q h hh => ?_, fun c q => ?_, fun c q => ?_, fun c => ?_, fun c x hx => ?_, fun c => ?_, D.ringAge I, D.noRing I⟩
  · rw [L.br c]
    exact I.np c (by rw [← L.len]; exact hc)
  · rw [hP] at h ⊢
    exact I.sym x y c q h
  · rw [L.br c, L.br d] at e
    exact I.num c d (by rw [← L.len]; exact hc) (by rw [← L.len]; exact hd) e
  · rw [L.on] at hc
    have h := I.off c hc
    refine ⟨?_, fun q => by rw [hP]; exact h.2 q⟩
    rw [st, if_neg]
    · exact h.1
    · intro z
      rw [z, (forwards_iff.mp hf).1] at hc
      cases hc
  · rw [hP] at hh
    exact I.age c q h hh
  · rw [hP]
    exact I.wt c q
  · rw [hP]
    exact I.cost c q
  · rw [st]
    split
    · exact learnt_sorted (I.stS b)
    · exact I.stS c
  · rw [st] at hx
    rw [L.fwd]
    split at hx
    · rename_i h
      rw [h]
      rcases learnt_mem hx with e | e
      · rw [e]
        exact ⟨hp16, hf⟩
      · exact I.stP b x e
    · exact I.stP c x hx
  · rw [st]
    split
    · exact learnt_len (I.stS b) (I.stL b)
    · exact I.stL c
theorem inv_all {s : State} (src : Nat) : ∀ (l : List (Nat × Nat)) {t : State}, Inv t → Like s t → (∀ e ∈ l, forwards s e.1 e.2 = true) → Inv (learnAll src t l)
  | [], t, I, _, _ => I
  | e :: l, t, I, L, h => inv_all src l (inv_learn I (by rw [L.fwd]; exact h e List.mem_cons_self)) (L.trans (like_learn t e.1 e.2 src)) fun f hf => h f (List.mem_cons_of_mem _ hf)
/-! ### bridge by bridge, in any order -/
theorem learn_comm (t : State) {b c p q n : Nat} (h : b ≠ c) : learn (learn t b p n) c q n = learn (learn t c q n) b p n := by
  have e1 : bridgeAt (learn t b p n) c = bridgeAt t c := learn_ne t p n fun z => h z.symm
  have e2 : bridgeAt (learn t c q n) b = bridgeAt t b := learn_ne t q n h
  unfold learn at e1 e2 ⊢
  rw [e1, e2]
  unfold setBridge
  show ({ t with bridges := _ } : State) = { t with bridges := _ }
  rw [List.set_comm _ _ h]
theorem all_perm {src : Nat} {l m : List (Nat × Nat)} (h : l.Perm m) (nd : (l.map (·.1)).Nodup) (t : State) : learnAll src t l = learnAll src t m := by
  unfold learnAll
  refine List.Perm.foldl_eq' h (fun x hx y hy z => ?_) t
  by_cases e : x.1 = y.1
  · have : x = y := by
      obtain ⟨i, hi, e1⟩ := List.getElem_of_mem hx
      obtain ⟨j, hj, e2⟩ := List.getElem_of_mem hy
      have h1 : (l.map (·.1))[i]'(by rw [List.length_map]; exact hi) = (l.map (·.1))[j]'(by rw [List.length_map]; exact hj) := by
        rw [List.getElem_map, List.getElem_map, e1, e2]
        exact e
      have h2 := (List.getElem_inj nd).mp h1
      subst h2
      rw [← e1, ← e2]
    rw [this]
  · exact learn_comm z e
section
variable {s : State} {src dest : Nat} {r : Nat × Nat}
/-- entries done, entries that wait -/
structure Work (s : State) (src dest : Nat) (r : Nat × Nat) (D C : List (Nat × Nat)) : Prop where
  perm : (D ++ C.flatMap (trs s src dest)).Perm (trs s src dest r)
  way : ∀ e ∈ C, ∃ l, Way s r e l
theorem work_start (h : forwards s r.1 r.2 = true) : Work s src dest r [] [r] := by
  refine ⟨?_, fun e he => ?_⟩
  · rw [List.nil_append, List.flatMap_cons, List.flatMap_nil, List.append_nil]
  · rw [List.mem_singleton.mp he]
    exact ⟨_, Way.nil h⟩
theorem Work.pop (I : Inv s) {D C : List (Nat × Nat)} {e : Nat × Nat} (W : Work s src dest r D (C ++ [e])) : Work s src dest r (D ++ [e]) (C ++ kids s src dest e) ∧ forwards s e.1 e.2 = true ∧ e.1 ∉ D.map (·.1) ∧ (D ++ [e]).length ≤ (trs s src dest r).length := by
  obtain ⟨l, w⟩ := W.way e (by simp)
  have ht := trs_eq I (src := src) (dest := dest) w
  have p : ((D ++ [e]) ++ (C ++ kids s src dest e).flatMap (trs s src dest)).Perm (trs s src dest r) := by
    refine List.Perm.trans ?_ W.perm
    rw [List.flatMap_append, List.flatMap_append, List.flatMap_cons, List.flatMap_nil, List.append_nil, ht]
    rw [List.append_assoc]
    refine List.Perm.append_left D ?_
    show (e :: (C.flatMap (trs s src dest) ++ (kids s src dest e).flatMap (trs s src dest))).Perm _
    exact List.perm_middle.symm
  refine ⟨⟨p, fun x hx => ?_⟩, w.fwd2, ?_, ?_⟩
  · rcases List.mem_append.mp hx with hx | hx
    · exact W.way x (List.mem_append_left _ hx)
    · exact ⟨_, w.snoc I hx⟩
  · have nd := tr_nodup I (src := src) (dest := dest) 32 (e := r) w.fwd
    have nd2 := (p.map (·.1)).nodup_iff.mpr nd
    rw [List.map_append, List.map_append, List.append_assoc, List.nodup_append] at nd2
    intro h
    exact nd2.2.2 e.1 h e.1 (by simp) rfl
  · have := p.length_eq
    rw [List.length_append] at this
    omega
theorem Work.lt (I : Inv s) {D C : List (Nat × Nat)} (W : Work s src dest r D C) (h : C ≠ []) : D.length < (trs s src dest r).length := by
  have h1 := W.perm.length_eq
  match C, h with
  | e :: C, _ =>
    obtain ⟨l, w⟩ := W.way e List.mem_cons_self
    rw [List.flatMap_cons, trs_eq I (src := src) (dest := dest) w, List.length_append] at h1
    simp at h1
    omega
theorem Work.done {D : List (Nat × Nat)} (W : Work s src dest r D []) : D.Perm (trs s src dest r) := by
  have := W.perm
  rwa [List.flatMap_nil, List.append_nil] at this
theorem flow_work (I : Inv s) {D : List (Nat × Nat)} (W : Work s src dest r D []) (h : forwards s r.1 r.2 = true) : ∃ L, flow BRIDGES s r.1 r.2 src dest = (learnAll src s D, L) ∧ sorted L = sorted (D.flatMap (left0 s src dest)) := by
  obtain ⟨L, h1, h2⟩ := flow_eq I 32 (Like.refl s) h (src := src) (dest := dest) fun _ _ => rfl
  have nd := tr_nodup I (src := src) (dest := dest) 32 (e := r) h
  refine ⟨L, ?_, ?_⟩
  · rw [all_perm W.done ((W.done.map (·.1)).nodup_iff.mpr nd)]
    exact h1
  · have p : L.Perm (D.flatMap (left0 s src dest)) := h2.trans (List.Perm.flatMap_right _ W.done).symm
    exact pw_unique (((sorted_perm _).trans p).trans (sorted_perm _).symm) (sorted_pw _) (sorted_pw _)
end
end Sw
namespace Sw
open Vbcnac
/-! ### ways -/
section
variable {s : State}
/-- there's one walk at most -/
theorem Go.uniq (I : Inv s) {b c : Nat} {i k : Option Nat} {l : List Nat} (g : Go s b i c k l) : ∀ {k' : Option Nat} {l' : List Nat}, Go s b i c k' l' → l = l' := by
  induction g with
  | nil b i =>
    intro k' l' g'
    cases hg : g' with
    | nil => rfl
    | cons hj f1 hp f2 r =>
      have nd := g'.nodup I.sym I.noring
      have := r.mem_last
      exact absurd this (List.nodup_cons.mp nd).1
  | @cons b j d q c i k l hj f1 hp f2 r ih =>
    intro k' l' g'
    have nd := (Go.cons hj f1 hp f2 r).nodup I.sym I.noring
    cases g' with
    | nil => exact absurd r.mem_last (List.nodup_cons.mp nd).1
    | @cons _ j' d' q' _ _ _ l2 hj' f1' hp' f2' r' =>
      by_cases e : j = j'
      · subst e
        rw [hp] at hp'
        have e2 := Prod.mk.inj (Option.some.inj hp')
        obtain ⟨rfl, rfl⟩ := e2
        rw [ih r']
      · exact absurd trivial fun _ => part_ways I.sym I.noring e f1 hp f2 r f1' hp' f2' r'
theorem way_go : ∀ (n : Nat) {b c : Nat} {i : Option Nat} {l : List Nat}, wayFrom n s b i c = some l → ∃ k, Go s b i c k l
  | 0, _, _, _, _, h => by cases h
  | n + 1, b, c, i, l, h => by
    unfold wayFrom at h
    by_cases e : b = c
    · rw [if_pos e] at h
      rw [← Option.some.inj h, ← e]
      exact ⟨i, Go.nil b i⟩
    · rw [if_neg e] at h
      obtain ⟨j, hj, h2⟩ := List.exists_of_findSome?_eq_some h
      by_cases hc : some j ≠ i ∧ forwards s b j = true
      · rw [if_pos hc] at h2
        cases hp : (portAt s b j).peer with
        | none =>
          rw [hp] at h2
          cases h2
        | some x =>
          rw [hp] at h2
          have h3 : (if forwards s x.1 x.2 = true then (wayFrom n s x.1 (some x.2) c).map fun l => b :: l else none) = some l := h2
          by_cases f2 : forwards s x.1 x.2 = true
          · rw [if_pos f2] at h3
            cases hw : wayFrom n s x.1 (some x.2) c with
            | none =>
              rw [hw] at h3
              cases h3
            | some l2 =>
              rw [hw] at h3
              obtain ⟨k, g⟩ := way_go n hw
              rw [← (Option.some.inj h3)]
              exact ⟨k, Go.cons hc.1 hc.2 (show (portAt s b j).peer = some (x.1, x.2) from hp) f2 g⟩
          · rw [if_neg f2] at h3
            cases h3
      · rw [if_neg hc] at h2
        cases h2
theorem go_way (I : Inv s) {b c : Nat} {i k : Option Nat} {l : List Nat} (g : Go s b i c k l) : ∀ (n : Nat), l.length ≤ n → wayFrom n s b i c = some l := by
  induction g with
  | nil b i =>
    intro n hn
    match n, hn with
    | n + 1, _ =>
      unfold wayFrom
      rw [if_pos rfl]
  | @cons b j d q c i k l hj f1 hp f2 r ih =>
    intro n hn
    have g := Go.cons hj f1 hp f2 r
    match n, hn with
    | n + 1, hn =>
      have hw : ∃ l', wayFrom (n + 1) s b i c = some l' := by
        unfold wayFrom
        by_cases e : b = c
        · rw [if_pos e]
          exact ⟨_, rfl⟩
        · rw [if_neg e]
          cases hf : (List.range PORTS).findSome? (fun j => if some j ≠ i ∧ forwards s b j = true then
              (match (portAt s b j).peer with
              | none => none
              | some (d, q) => if forwards s d q = true then (wayFrom n s d (some q) c).map fun l => b :: l else none)
            else none) with
          | some l' => exact ⟨l', rfl⟩
          | none =>
            exfalso
            rw [List.findSome?_eq_none_iff] at hf
            have h1 := hf j (List.mem_range.mpr (I.peer hp).2.1)
            rw [if_pos ⟨hj, f1⟩, hp] at h1
            have h2 : (if forwards s d q = true then (wayFrom n s d (some q) c).map fun l => b :: l else none) = none := h1
            rw [if_pos f2, ih n (by simpa using hn)] at h2
            cases h2
      obtain ⟨l', hw⟩ := hw
      obtain ⟨k', g'⟩ := way_go (n + 1) hw
      rw [hw, g.uniq I g']
end
end Sw
namespace Sw
open Vbcnac
/-! ### a search over forwarding cables -/
def Adj (s : State) (x y : Nat) : Prop := ∃ j q, forwards s x j = true ∧ (portAt s x j).peer = some (y, q) ∧ forwards s y q = true
/-- the path by parents -/
inductive Path (f : Nat → Option (Option Nat)) : Nat → List Nat → Prop
  | root {x : Nat} (h : f x = some none) : Path f x [x]
  | step {x y : Nat} {l : List Nat} (h : f x = some (some y)) (p : Path f y l) : Path f x (l ++ [x])
theorem Path.mono {f g : Nat → Option (Option Nat)} (h : ∀ x v, f x = some v → g x = some v) {x : Nat} {l : List Nat} (p : Path f x l) : Path g x l := by
  induction p with
  | root e => exact .root (h _ _ e)
  | step e _ ih => exact .step (h _ _ e) ih
def putF1 (f : Nat → Option (Option Nat)) (x : Nat) (v : Option Nat) : Nat → Option (Option Nat) := fun y => if y = x then some v else f y
/-- what is known while it is searched: ks the keys, W those that wait -/
structure Srch (s : State) (b : Nat) (f : Nat → Option (Option Nat)) (ks : List Nat) : Prop where
  key : ∀ x, x ∈ ks ↔ (f x).isSome = true
  nd : ks.Nodup
  lt : ∀ x ∈ ks, x < s.bridges.length
  b0 : b ∈ ks
  walk : ∀ x ∈ ks, ∃ k l, Go s b none x k l ∧ Path f x l ∧ ∀ q, k = some q → ∃ y r, (portAt s x q).peer = some (y, r) ∧ y ∈ ks
section
variable {s : State} {b : Nat} {f : Nat → Option (Option Nat)} {ks : List Nat}
theorem srch_start (hb : b < s.bridges.length) : Srch s b (putF1 (fun _ => none) b none) [b] := by
  refine ⟨fun x => ?_, by simp, fun x hx => by rw [List.mem_singleton.mp hx]; exact hb, by simp, fun x hx => ?_⟩
  · unfold putF1
    rw [List.mem_singleton]
    by_cases h : x = b
    · rw [if_pos h]
      simp [h]
    · rw [if_neg h]
      simp [h]
  · rw [List.mem_singleton.mp hx]
    exact ⟨none, [b], Go.nil b none, .root (if_pos rfl), fun q h => by cases h⟩
/-- one bridge more, come to from x -/
theorem Srch.add (I : Inv s) (S : Srch s b f ks) {x y : Nat} (hx : x ∈ ks) (ha : Adj s x y) (hy : y ∉ ks) : Srch s b (putF1 f y (some x)) (ks ++ [y]) := by
  obtain ⟨j, q, f1, hp, f2⟩ := ha
  have ext : ∀ z v, f z = some v → putF1 f y (some x) z = some v := fun z v h => by
    unfold putF1
    rw [if_neg]
    · exact h
    · intro e
      rw [e] at h
      exact hy ((S.key y).mpr (by rw [h]; rfl))
  refine ⟨fun z => ?_, ?_, fun z hz => ?_, List.mem_append_left _ S.b0, fun z hz => ?_⟩
  · unfold putF1
    rw [List.mem_append, List.mem_singleton]
    by_cases h : z = y
    · rw [if_pos h]
      simp [h]
    · rw [if_neg h, ← S.key z]
      simp [h]
  · rw [List.nodup_append]
    refine ⟨S.nd, by simp, fun a ha c hc e => ?_⟩
    rw [List.mem_singleton.mp hc] at e
    exact hy (e ▸ ha)
  · rcases List.mem_append.mp hz with hz | hz
    · exact S.lt z hz
    · rw [List.mem_singleton.mp hz]
      exact fwd_lt f2
  · rcases List.mem_append.mp hz with hz | hz
    · obtain ⟨k, l, g, p, h⟩ := S.walk z hz
      exact ⟨k, l, g, p.mono ext, fun q hq => by
        obtain ⟨w, r, h1, h2⟩ := h q hq
        exact ⟨w, r, h1, List.mem_append_left _ h2⟩⟩
    · rw [List.mem_singleton.mp hz]
      obtain ⟨k, l, g, p, h⟩ := S.walk x hx
      have hj : some j ≠ k := fun e => by
        obtain ⟨w, r, h1, h2⟩ := h j e.symm
        rw [hp] at h1
        exact hy ((Prod.mk.inj (Option.some.inj h1)).1 ▸ h2)
      refine ⟨some q, l ++ [y], g.snoc hj f1 hp f2, .step (if_pos rfl) (p.mono ext), fun q' e => ?_⟩
      rw [← Option.some.inj e]
      exact ⟨x, j, (I.sym _ _ _ _ hp).1, List.mem_append_left _ hx⟩
theorem Srch.len (I : Inv s) (S : Srch s b f ks) : ks.length ≤ 32 := Nat.le_trans (nodup_le S.nd S.lt) I.nb
/-- closed: all that can be come to is known -/
theorem Srch.all (S : Srch s b f ks) (hc : ∀ x ∈ ks, ∀ y, Adj s x y → y ∈ ks) {c : Nat} {i k : Option Nat} {l : List Nat} {x : Nat} (hx : x ∈ ks) (g : Go s x i c k l) : c ∈ ks := by
  induction g with
  | nil => exact hx
  | cons hj f1 hp f2 r ih => exact ih (hc _ hx _ ⟨_, _, f1, hp, f2⟩)
/-- what the search answers -/
theorem Srch.way (I : Inv s) (S : Srch s b f ks) (hc : ∀ x ∈ ks, ∀ y, Adj s x y → y ∈ ks) (c : Nat) : (c ∉ ks → wayFrom BRIDGES s b none c = none) ∧ (c ∈ ks → ∃ l, Path f c l ∧ wayFrom BRIDGES s b none c = some l) := by
  refine ⟨fun h => ?_, fun h => ?_⟩
  · cases hw : wayFrom BRIDGES s b none c with
    | none => rfl
    | some l =>
      obtain ⟨k, g⟩ := way_go BRIDGES hw
      exact absurd (S.all hc S.b0 g) h
  · obtain ⟨k, l, g, p, _⟩ := S.walk c h
    refine ⟨l, p, go_way I g BRIDGES ?_⟩
    exact Nat.le_trans (nodup_le (g.nodup I.sym I.noring) (g.lt (S.lt b S.b0))) I.nb
end
end Sw
/-! ways over live cables; what they cost -/
namespace Sw
open Vbcnac
section
variable {s : State}
theorem across_iff {b p : Nat} {x : Nat × Nat} : across s b p = some x ↔ isOn s b = true ∧ (portAt s b p).peer = some x ∧ isOn s x.1 = true := by
  unfold across
  by_cases h : isOn s b = true
  · rw [if_pos h]
    cases q : (portAt s b p).peer with
    | none => exact ⟨fun z => (by cases z), fun z => (by cases z.2.1)⟩
    | some y =>
      show (if isOn s y.1 = true then some y else none) = some x ↔ _
      by_cases g : isOn s y.1 = true
      · rw [if_pos g]
        exact ⟨fun z => ⟨h, z, Option.some.inj z ▸ g⟩, fun z => z.2.1⟩
      · rw [if_neg g]
        exact ⟨fun z => (by cases z), fun z => absurd (Option.some.inj z.2.1 ▸ z.2.2) g⟩
  · rw [if_neg h]
    exact ⟨fun z => (by cases z), fun z => absurd z.1 h⟩
/-- a live cable, and what the port at its first end costs -/
def Lv (s : State) (x y c : Nat) : Prop := ∃ p q, p < 16 ∧ across s x p = some (y, q) ∧ (portAt s x p).cost = c
theorem Lv.on {x y c : Nat} (h : Lv s x y c) : isOn s x = true ∧ isOn s y = true := by
  obtain ⟨p, q, _, h, _⟩ := h
  exact ⟨(across_iff.mp h).1, (across_iff.mp h).2.2⟩
theorem Lv.back (I : Inv s) {x y c : Nat} (h : Lv s x y c) : ∃ c', Lv s y x c' := by
  obtain ⟨p, q, _, h, _⟩ := h
  obtain ⟨h1, h2, h3⟩ := across_iff.mp h
  exact ⟨_, q, p, (I.peer h2).2.2.2, across_iff.mpr ⟨h3, (I.sym _ _ _ _ h2).1, h1⟩, rfl⟩
/-- come to over live cables -/
inductive Rc (s : State) : Nat → Nat → Prop
  | refl {x : Nat} (h : isOn s x = true) : Rc s x x
  | step {x y z c : Nat} (h : Lv s x y c) (r : Rc s y z) : Rc s x z
theorem Rc.trans {x y z : Nat} (a : Rc s x y) (b : Rc s y z) : Rc s x z := by
  induction a with
  | refl _ => exact b
  | step h _ ih => exact .step h (ih b)
theorem Rc.on {x y : Nat} (a : Rc s x y) : isOn s x = true ∧ isOn s y = true := by
  induction a with
  | refl h => exact ⟨h, h⟩
  | step h _ ih => exact ⟨h.on.1, ih.2⟩
theorem Rc.symm (I : Inv s) {x y : Nat} (a : Rc s x y) : Rc s y x := by
  induction a with
  | refl h => exact .refl h
  | step h _ ih =>
    obtain ⟨c', h'⟩ := h.back I
    exact ih.trans (.step h' (.refl h.on.1))
theorem on_lt {b : Nat} (h : isOn s b = true) : b < s.bridges.length := (isOn_iff.mp h).1
/-- a way to one of T, and its cost -/
inductive Wk (s : State) (T : Nat → Prop) : Nat → List Nat → Nat → Prop
  | nil {x : Nat} (h : T x) : Wk s T x [x] 0
  | cons {x y c v : Nat} {l : List Nat} (h : Lv s x y c) (w : Wk s T y l v) : Wk s T x (x :: l) (v + c)
variable {T : Nat → Prop}
theorem Wk.suffix {y : Nat} {l : List Nat} {v : Nat} (w : Wk s T y l v) : ∀ {x : Nat}, x ∈ l → ∃ l1 l2 v2, l = l1 ++ l2 ∧ Wk s T x l2 v2 ∧ v2 ≤ v := by
  induction w with
  | nil h =>
    intro x hx
    rw [List.mem_singleton.mp hx]
    exact ⟨[], _, 0, rfl, .nil h, Nat.le_refl _⟩
  | @cons x0 y c v l h w ih =>
    intro x hx
    rcases List.mem_cons.mp hx with e | hx
    · rw [e]
      exact ⟨[], _, _, rfl, .cons h w, Nat.le_refl _⟩
    · obtain ⟨l1, l2, v2, e, w2, hv⟩ := ih hx
      exact ⟨x0 :: l1, l2, v2, by rw [e]; rfl, w2, by omega⟩
theorem Wk.simple {y : Nat} {l : List Nat} {v : Nat} (w : Wk s T y l v) : ∃ l2 v2, Wk s T y l2 v2 ∧ v2 ≤ v ∧ l2.Nodup := by
  induction w with
  | nil h => exact ⟨_, 0, .nil h, Nat.le_refl _, by simp⟩
  | @cons x0 y c v l h w ih =>
    obtain ⟨l2, v2, w2, hv, nd⟩ := ih
    by_cases hx : x0 ∈ l2
    · obtain ⟨k1, k2, v3, e, w3, hv3⟩ := w2.suffix hx
      rw [e] at nd
      exact ⟨k2, v3, w3, by omega, (List.nodup_append.mp nd).2.1⟩
    · exact ⟨_, _, .cons h w2, by omega, List.nodup_cons.mpr ⟨hx, nd⟩⟩
theorem Wk.lt (hT : ∀ x, T x → x < s.bridges.length) {y : Nat} {l : List Nat} {v : Nat} (w : Wk s T y l v) : ∀ x ∈ l, x < s.bridges.length := by
  induction w with
  | nil h =>
    intro x hx
    rw [List.mem_singleton.mp hx]
    exact hT _ h
  | cons h _ ih =>
    intro x hx
    rcases List.mem_cons.mp hx with e | hx
    · rw [e]
      exact on_lt h.on.1
    · exact ih x hx
/-- a way of at most 31 cables that costs no more -/
theorem Wk.short (I : Inv s) (hT : ∀ x, T x → x < s.bridges.length) {y : Nat} {l : List Nat} {v : Nat} (w : Wk s T y l v) : ∃ l2 v2, Wk s T y l2 v2 ∧ v2 ≤ v ∧ l2.length ≤ 32 := by
  obtain ⟨l2, v2, w2, hv, nd⟩ := w.simple
  exact ⟨l2, v2, w2, hv, Nat.le_trans (nodup_le nd (w2.lt hT)) I.nb⟩
theorem Wk.rc {y : Nat} {l : List Nat} {v : Nat} (hT : ∀ x, T x → isOn s x = true) (w : Wk s T y l v) : ∃ t, T t ∧ Rc s y t := by
  induction w with
  | nil h => exact ⟨_, h, .refl (hT _ h)⟩
  | cons h _ ih =>
    obtain ⟨t, h1, h2⟩ := ih
    exact ⟨t, h1, .step h h2⟩
theorem Rc.wk {y t : Nat} (r : Rc s y t) (h : T t) : ∃ l v, Wk s T y l v := by
  induction r with
  | refl _ => exact ⟨_, _, .nil h⟩
  | step e _ ih =>
    obtain ⟨l, v, w⟩ := ih h
    exact ⟨_, _, .cons e w⟩
/-! ### so many times -/
theorem times_succ {α : Type} (f : α → α) : ∀ (n : Nat) (x : α), times f (n + 1) x = f (times f n x)
  | 0, _ => rfl
  | n + 1, x => by
    show times f (n + 1) (f x) = _
    rw [times_succ f n (f x)]
    rfl
theorem getD_map_range {α : Type} (n b : Nat) (f : Nat → α) (d : α) : ((List.range n).map f).getD b d = if b < n then f b else d := by
  rw [List.getD_eq_getElem?_getD, List.getElem?_map]
  by_cases h : b < n
  · rw [List.getElem?_range h, if_pos h]
    rfl
  · rw [List.getElem?_eq_none (by simp; omega), if_neg h]
    rfl
/-! ### a piece -/
theorem nb_any {b : Nat} {m : List Bool} : ((neighbours s b).any fun c => m.getD c false) = true ↔ ∃ y c, Lv s b y c ∧ m.getD y false = true := by
  unfold neighbours
  rw [List.any_eq_true]
  constructor
  · rintro ⟨y, hy, hm⟩
    obtain ⟨p, hp, e⟩ := List.mem_filterMap.mp hy
    cases q : across s b p with
    | none =>
      rw [q] at e
      cases e
    | some x =>
      rw [q] at e
      have e2 : x.1 = y := Option.some.inj e
      refine ⟨y, _, ⟨p, x.2, List.mem_range.mp hp, ?_, rfl⟩, hm⟩
      rw [q, ← e2]
  · rintro ⟨y, c, ⟨p, q, hp, ha, _⟩, hm⟩
    refine ⟨y, List.mem_filterMap.mpr ⟨p, List.mem_range.mpr hp, ?_⟩, hm⟩
    rw [ha]
    rfl
def mk0 (s : State) (b : Nat) : List Bool := (List.range s.bridges.length).map fun c => c == b && isOn s c
theorem mk_iff (k : Nat) {b x : Nat} : (times (spread s) k (mk0 s b)).getD x false = true ↔ ∃ l v, Wk s (fun z => z = b ∧ isOn s z = true) x l v ∧ l.length ≤ k + 1 := by
  induction k generalizing x with
  | zero =>
    show (mk0 s b).getD x false = true ↔ _
    unfold mk0
    rw [getD_map_range]
    constructor
    · intro h
      by_cases hx : x < s.bridges.length
      · rw [if_pos hx, Bool.and_eq_true, beq_iff_eq] at h
        exact ⟨[x], 0, .nil h, by simp⟩
      · rw [if_neg hx] at h
        cases h
    · rintro ⟨l, v, w, hl⟩
      cases w with
      | nil h => rw [if_pos (on_lt h.2), Bool.and_eq_true, beq_iff_eq]; exact h
      | cons h w =>
        cases w <;> simp at hl
  | succ k ih =>
    rw [times_succ]
    unfold spread
    rw [getD_map_range]
    constructor
    · intro h
      by_cases hx : x < s.bridges.length
      · rw [if_pos hx, Bool.or_eq_true] at h
        rcases h with h | h
        · obtain ⟨l, v, w, hl⟩ := ih.mp h
          exact ⟨l, v, w, by omega⟩
        · obtain ⟨y, c, hy, hm⟩ := nb_any.mp h
          obtain ⟨l, v, w, hl⟩ := ih.mp hm
          exact ⟨_, _, .cons hy w, by simp; omega⟩
      · rw [if_neg hx] at h
        cases h
    · rintro ⟨l, v, w, hl⟩
      have hx : x < s.bridges.length := by
        refine w.lt (fun z hz => on_lt hz.2) x ?_
        cases w <;> simp
      rw [if_pos hx, Bool.or_eq_true]
      cases w with
      | nil h => exact .inl (ih.mpr ⟨_, _, .nil h, by simp⟩)
      | cons h w =>
        refine .inr (nb_any.mpr ⟨_, _, h, ih.mpr ⟨_, _, w, ?_⟩⟩)
        simp at hl
        exact hl
theorem mem_piece (I : Inv s) {b x : Nat} : x ∈ piece s b ↔ Rc s b x := by
  unfold piece
  rw [List.mem_filter, List.mem_range]
  show x < _ ∧ (times (spread s) BRIDGES (mk0 s b)).getD x false = true ↔ _
  rw [mk_iff]
  constructor
  · rintro ⟨_, l, v, w, _⟩
    obtain ⟨t, ⟨h1, _⟩, h2⟩ := w.rc (fun z hz => hz.2)
    rw [h1] at h2
    exact h2.symm I
  · intro h
    refine ⟨on_lt h.on.2, ?_⟩
    obtain ⟨l, v, w⟩ := (h.symm I).wk (T := fun z => z = b ∧ isOn s z = true) ⟨rfl, h.on.1⟩
    obtain ⟨l2, v2, w2, _, hl⟩ := w.short I (fun z hz => on_lt hz.2)
    exact ⟨l2, v2, w2, Nat.le_trans hl (by decide)⟩
/-! ### the chief -/
theorem nameLess_asymm {x y : Nat × Nat} (h : nameLess x y = true) : nameLess y x = false := less_asymm h
theorem name_tri (I : Inv s) {x y : Nat} (hx : x < s.bridges.length) (hy : y < s.bridges.length) : x = y ∨ nameLess (nameAt s x) (nameAt s y) = true ∨ nameLess (nameAt s y) (nameAt s x) = true := by
  rcases less_tri [(nameAt s x).1, (nameAt s x).2] [(nameAt s y).1, (nameAt s y).2] with h | h | h
  · exact .inr (.inl h)
  · injection h with h1 h2
    injection h2 with h2 _
    exact .inl (I.num x y hx hy h2)
  · exact .inr (.inr h)
theorem chief_iff (I : Inv s) {b : Nat} : chief s b = true ↔ isOn s b = true ∧ ∀ c, Rc s b c → c = b ∨ nameLess (nameAt s b) (nameAt s c) = true := by
  unfold chief
  rw [Bool.and_eq_true, List.all_eq_true]
  constructor
  · rintro ⟨h1, h2⟩
    refine ⟨h1, fun c r => ?_⟩
    have := h2 c ((mem_piece I).mpr r)
    rw [Bool.or_eq_true, beq_iff_eq] at this
    exact this
  · rintro ⟨h1, h2⟩
    refine ⟨h1, fun c hc => ?_⟩
    rw [Bool.or_eq_true, beq_iff_eq]
    exact h2 c ((mem_piece I).mp hc)
theorem chief_uniq (I : Inv s) {x y : Nat} (hx : chief s x = true) (hy : chief s y = true) (r : Rc s x y) : x = y := by
  rcases ((chief_iff I).mp hx).2 y r with h | h
  · exact h.symm
  · rcases ((chief_iff I).mp hy).2 x (r.symm I) with g | g
    · exact g
    · rw [nameLess_asymm h] at g
      cases g
/-- the least of a piece is its chief -/
theorem chief_least (I : Inv s) {b x : Nat} (r : Rc s b x) (h : ∀ c, Rc s b c → nameLess (nameAt s c) (nameAt s x) = false) : chief s x = true := by
  refine (chief_iff I).mpr ⟨r.on.2, fun c rc => ?_⟩
  rcases name_tri I (on_lt rc.on.2) (on_lt r.on.2) with e | e | e
  · exact .inl e
  · rw [h c (r.trans rc)] at e
    cases e
  · exact .inr e
theorem least_ex (P : Nat → Nat × Nat) : ∀ l : List Nat, l ≠ [] → ∃ x ∈ l, ∀ y ∈ l, nameLess (P y) (P x) = false
  | [], h => absurd rfl h
  | x :: l, _ => by
    by_cases hl : l = []
    · rw [hl]
      exact ⟨x, by simp, fun y hy => by rw [List.mem_singleton.mp hy]; exact less_irrefl _⟩
    · obtain ⟨z, hz, h⟩ := least_ex P l hl
      cases q : nameLess (P x) (P z) with
      | false => exact ⟨z, List.mem_cons_of_mem _ hz, fun y hy => (List.mem_cons.mp hy).elim (fun e => by rw [e]; exact q) (h y)⟩
      | true =>
        refine ⟨x, by simp, fun y hy => ?_⟩
        rcases List.mem_cons.mp hy with e | hy
        · rw [e]
          exact less_irrefl _
        · cases g : nameLess (P y) (P x) with
          | false => rfl
          | true =>
            have : nameLess (P y) (P z) = true := less_trans g q
            rw [h y hy] at this
            cases this
theorem chief_ex (I : Inv s) {b : Nat} (h : isOn s b = true) : ∃ x, Rc s b x ∧ chief s x = true := by
  obtain ⟨x, hx, hl⟩ := least_ex (nameAt s) (piece s b) (fun e => by
    have := (mem_piece I).mpr (Rc.refl h)
    rw [e] at this
    cases this)
  exact ⟨x, (mem_piece I).mp hx, chief_least I ((mem_piece I).mp hx) fun c r => hl c ((mem_piece I).mpr r)⟩
/-! ### costs -/
theorem lesser_none (m : Option Nat) : lesser m none = m := by
  cases m <;> rfl
theorem lesser_le {m g : Option Nat} {v : Nat} (h : m = some v ∨ g = some v) : ∃ u, lesser m g = some u ∧ u ≤ v := by
  cases m with
  | none =>
    cases g with
    | none => rcases h with h | h <;> cases h
    | some b =>
      rcases h with h | h
      · cases h
      · exact ⟨b, rfl, by rw [Option.some.inj h]; exact Nat.le_refl _⟩
  | some a =>
    cases g with
    | none =>
      rcases h with h | h
      · exact ⟨a, rfl, by rw [Option.some.inj h]; exact Nat.le_refl _⟩
      · cases h
    | some b =>
      refine ⟨min a b, rfl, ?_⟩
      rcases h with h | h <;> rw [← Option.some.inj h] <;> omega
theorem lesser_from {m g : Option Nat} {u : Nat} (h : lesser m g = some u) : m = some u ∨ g = some u := by
  cases m with
  | none => exact .inr h
  | some a =>
    cases g with
    | none => exact .inl h
    | some b =>
      have : min a b = u := Option.some.inj h
      rw [← this]
      by_cases q : a ≤ b
      · exact .inl (by rw [Nat.min_eq_left q])
      · exact .inr (by rw [Nat.min_eq_right (by omega)])
theorem fold_le {g : Nat → Option Nat} : ∀ (ps : List Nat) (m : Option Nat) {v : Nat}, (m = some v ∨ ∃ p ∈ ps, g p = some v) → ∃ u, ps.foldl (fun m p => lesser m (g p)) m = some u ∧ u ≤ v
  | [], m, v, h => by
    rcases h with h | ⟨p, hp, _⟩
    · exact ⟨v, h, Nat.le_refl _⟩
    · cases hp
  | p :: ps, m, v, h => by
    rw [List.foldl_cons]
    by_cases q : m = some v ∨ g p = some v
    · obtain ⟨u, hu, hv⟩ := lesser_le q
      obtain ⟨u2, h1, h2⟩ := fold_le (g := g) ps (lesser m (g p)) (.inl hu)
      exact ⟨u2, h1, by omega⟩
    · rcases h with h | ⟨p', hp, h⟩
      · exact absurd (.inl h) q
      · rcases List.mem_cons.mp hp with e | hp
        · rw [e] at h
          exact absurd (.inr h) q
        · exact fold_le ps _ (.inr ⟨p', hp, h⟩)
theorem fold_from {g : Nat → Option Nat} : ∀ (ps : List Nat) (m : Option Nat) {u : Nat}, ps.foldl (fun m p => lesser m (g p)) m = some u → m = some u ∨ ∃ p ∈ ps, g p = some u
  | [], m, u, h => .inl h
  | p :: ps, m, u, h => by
    rw [List.foldl_cons] at h
    rcases fold_from ps _ h with h | ⟨p', hp, h⟩
    · rcases lesser_from h with h | h
      · exact .inl h
      · exact .inr ⟨p, by simp, h⟩
    · exact .inr ⟨p', List.mem_cons_of_mem _ hp, h⟩
def viaPort (s : State) (d : List (Option Nat)) (b p : Nat) : Option Nat := match across s b p with
  | none => none
  | some x => (d.getD x.1 none).map fun n => n + (portAt s b p).cost
theorem relaxed_at (d : List (Option Nat)) (b : Nat) : (relaxed s d).getD b none = if b < s.bridges.length then (List.range 16).foldl (fun m p => lesser m (viaPort s d b p)) (d.getD b none) else none := by
  unfold relaxed
  rw [getD_map_range]
  by_cases h : b < s.bridges.length
  · rw [if_pos h, if_pos h]
    show (List.range 16).foldl _ _ = _
    congr 1
    funext m p
    unfold viaPort
    cases across s b p with
    | none => exact (lesser_none m).symm
    | some x => rfl
  · rw [if_neg h, if_neg h]
theorem via_iff {d : List (Option Nat)} {b v : Nat} : (∃ p ∈ List.range 16, viaPort s d b p = some v) ↔ ∃ y c u, Lv s b y c ∧ d.getD y none = some u ∧ u + c = v := by
  constructor
  · rintro ⟨p, hp, h⟩
    unfold viaPort at h
    cases q : across s b p with
    | none =>
      rw [q] at h
      cases h
    | some x =>
      rw [q] at h
      obtain ⟨u, hu, hv⟩ := Option.map_eq_some_iff.mp h
      exact ⟨x.1, _, u, ⟨p, x.2, List.mem_range.mp hp, q, rfl⟩, hu, hv⟩
  · rintro ⟨y, c, u, ⟨p, q, hp, ha, hc⟩, hd, hv⟩
    refine ⟨p, List.mem_range.mpr hp, ?_⟩
    unfold viaPort
    rw [ha]
    show (d.getD y none).map _ = _
    rw [hd, hc, ← hv]
    rfl
abbrev Ch (s : State) : Nat → Prop := fun x => chief s x = true
theorem chief_on (I : Inv s) {x : Nat} (h : Ch s x) : isOn s x = true := ((chief_iff I).mp h).1
def d0 (s : State) : List (Option Nat) := (List.range s.bridges.length).map fun b => if chief s b = true then some 0 else none
theorem d_le (I : Inv s) (k : Nat) {x : Nat} {l : List Nat} {v : Nat} (w : Wk s (Ch s) x l v) (hl : l.length ≤ k + 1) : ∃ u, (times (relaxed s) k (d0 s)).getD x none = some u ∧ u ≤ v := by
  induction k generalizing x l v with
  | zero =>
    cases w with
    | nil h =>
      refine ⟨0, ?_, Nat.le_refl _⟩
      show (d0 s).getD x none = some 0
      unfold d0
      rw [getD_map_range, if_pos (on_lt (chief_on I h)), if_pos h]
    | cons h w => cases w <;> simp at hl
  | succ k ih =>
    rw [times_succ, relaxed_at, if_pos (w.lt (fun z hz => on_lt (chief_on I hz)) x (by cases w <;> simp))]
    cases w with
    | nil h =>
      obtain ⟨u, hu, hv⟩ := ih (.nil h) (by simp)
      obtain ⟨u2, h1, h2⟩ := fold_le (g := viaPort s (times (relaxed s) k (d0 s)) x) (List.range 16) _ (.inl hu)
      exact ⟨u2, h1, by omega⟩
    | @cons _ y c v l h w =>
      obtain ⟨u, hu, hv⟩ := ih w (by simp at hl; omega)
      obtain ⟨u2, h1, h2⟩ := fold_le (g := viaPort s (times (relaxed s) k (d0 s)) x) (List.range 16) ((times (relaxed s) k (d0 s)).getD x none) (.inr (via_iff.mpr ⟨y, c, u, h, hu, rfl⟩))
      exact ⟨u2, h1, by omega⟩
theorem d_from (k : Nat) {x u : Nat} (h : (times (relaxed s) k (d0 s)).getD x none = some u) : ∃ l, Wk s (Ch s) x l u := by
  induction k generalizing x u with
  | zero =>
    have h : (d0 s).getD x none = some u := h
    unfold d0 at h
    rw [getD_map_range] at h
    by_cases hx : x < s.bridges.length
    · rw [if_pos hx] at h
      by_cases hc : chief s x = true
      · rw [if_pos hc] at h
        rw [← Option.some.inj h]
        exact ⟨_, .nil hc⟩
      · rw [if_neg hc] at h
        cases h
    · rw [if_neg hx] at h
      cases h
  | succ k ih =>
    rw [times_succ, relaxed_at] at h
    by_cases hx : x < s.bridges.length
    · rw [if_pos hx] at h
      rcases fold_from _ _ h with h | h
      · exact ih h
      · obtain ⟨y, c, v, h1, h2, h3⟩ := via_iff.mp h
        obtain ⟨l, w⟩ := ih h2
        rw [← h3]
        exact ⟨_, .cons h1 w⟩
    · rw [if_neg hx] at h
      cases h
/-- what the cheapest way costs -/
def dst (s : State) (b : Nat) : Option Nat := (costs s).getD b none
theorem dst_from {x u : Nat} (h : dst s x = some u) : ∃ l, Wk s (Ch s) x l u := d_from BRIDGES h
theorem dst_le (I : Inv s) {x : Nat} {l : List Nat} {v : Nat} (w : Wk s (Ch s) x l v) : ∃ u, dst s x = some u ∧ u ≤ v := by
  obtain ⟨l2, v2, w2, hv, hl⟩ := w.short I (fun z hz => on_lt (chief_on I hz))
  obtain ⟨u, hu, h2⟩ := d_le I BRIDGES w2 (Nat.le_trans hl (by decide))
  exact ⟨u, hu, by omega⟩
theorem dst_on (I : Inv s) {x : Nat} (h : isOn s x = true) : ∃ u, dst s x = some u := by
  obtain ⟨t, r, ht⟩ := chief_ex I h
  obtain ⟨l, v, w⟩ := r.wk (T := Ch s) ht
  obtain ⟨u, hu, _⟩ := dst_le I w
  exact ⟨u, hu⟩
theorem dst_off (I : Inv s) {x : Nat} (h : isOn s x = false) : dst s x = none := by
  cases q : dst s x with
  | none => rfl
  | some u =>
    obtain ⟨l, w⟩ := dst_from q
    obtain ⟨t, _, r⟩ := w.rc fun z hz => chief_on I hz
    rw [r.on.1] at h
    cases h
/-! ### costs made less, step by step -/
/-- what stands there is what some way costs -/
def Snd (s : State) (d : Nat → Option Nat) : Prop := ∀ x u, d x = some u → ∃ l, Wk s (Ch s) x l u
/-- at x stands no more than what ways of so many cables cost -/
def Up (s : State) (d : Nat → Option Nat) (k x : Nat) : Prop := ∀ l v, Wk s (Ch s) x l v → l.length ≤ k + 1 → ∃ u, d x = some u ∧ u ≤ v
def putN (d : Nat → Option Nat) (x u : Nat) : Nat → Option Nat := fun y => if y = x then some u else d y
theorem putN_same {d : Nat → Option Nat} {x u : Nat} : putN d x u x = some u := if_pos rfl
theorem putN_ne {d : Nat → Option Nat} {x u y : Nat} (h : y ≠ x) : putN d x u y = d y := if_neg h
/-- one is no more than the other -/
def Le (d e : Nat → Option Nat) : Prop := ∀ x u, e x = some u → ∃ v, d x = some v ∧ v ≤ u
theorem Le.refl (d : Nat → Option Nat) : Le d d := fun _ u h => ⟨u, h, Nat.le_refl _⟩
theorem Le.trans {d e f : Nat → Option Nat} (a : Le d e) (b : Le e f) : Le d f := fun x u h => by
  obtain ⟨v, h1, h2⟩ := b x u h
  obtain ⟨w, h3, h4⟩ := a x v h1
  exact ⟨w, h3, by omega⟩
theorem Up.le {d e : Nat → Option Nat} {k x : Nat} (h : Up s e k x) (g : Le d e) : Up s d k x := fun l v w hl => by
  obtain ⟨u, h1, h2⟩ := h l v w hl
  obtain ⟨u2, h3, h4⟩ := g x u h1
  exact ⟨u2, h3, by omega⟩
/-- the step is wanted -/
def Want (d : Nat → Option Nat) (x y c : Nat) : Prop := ∃ u, d y = some u ∧ ∀ v, d x = some v → u + c < v
theorem Want.le {d : Nat → Option Nat} {x y c u : Nat} (h : Want d x y c) (hu : d y = some u) : Le (putN d x (u + c)) d := fun z v hz => by
  by_cases e : z = x
  · rw [e] at hz ⊢
    obtain ⟨u', h1, h2⟩ := h
    rw [hu] at h1
    cases h1
    exact ⟨_, putN_same, Nat.le_of_lt (h2 v hz)⟩
  · exact ⟨v, by rw [putN_ne e]; exact hz, Nat.le_refl _⟩
theorem Snd.put {d : Nat → Option Nat} (h : Snd s d) {x y c u : Nat} (hc : Lv s x y c) (hu : d y = some u) : Snd s (putN d x (u + c)) := fun z v hz => by
  by_cases e : z = x
  · rw [e, putN_same] at hz
    rw [← Option.some.inj hz, e]
    obtain ⟨l, w⟩ := h y u hu
    exact ⟨_, .cons hc w⟩
  · rw [putN_ne e] at hz
    exact h z v hz
/-- nothing is wanted once all ways of 31 cables are accounted for -/
theorem no_want (I : Inv s) {d : Nat → Option Nat} (h : Snd s d) {x y c : Nat} (hc : Lv s x y c) {k : Nat} (hk : 31 ≤ k) (hu : Up s d k x) : ¬ Want d x y c := fun ⟨u, h1, h2⟩ => by
  obtain ⟨l, w⟩ := h y u h1
  obtain ⟨l2, v2, w2, hv, hl⟩ := (Wk.cons hc w).short I (fun z hz => on_lt (chief_on I hz))
  obtain ⟨u3, h3, h4⟩ := hu l2 v2 w2 (by omega)
  have := h2 u3 h3
  omega
/-- where nothing is wanted in a piece the costs are those of the cheapest ways -/
theorem all_done (I : Inv s) {d : Nat → Option Nat} (h : Snd s d) {b c : Nat} (hb : Rc s b c) (hc : chief s c = true) (h0 : ∃ u, d c = some u ∧ u = 0) (nw : ∀ x y k, Rc s b x → Lv s x y k → ¬ Want d x y k) : ∀ x, Rc s b x → d x = dst s x := by
  have key : ∀ {x : Nat} {l : List Nat} {v : Nat}, Wk s (Ch s) x l v → Rc s b x → ∃ u, d x = some u ∧ u ≤ v := by
    intro x l v w
    induction w with
    | @nil x hx =>
      intro r
      have e : c = x := chief_uniq I hc hx ((hb.symm I).trans r)
      rw [← e]
      obtain ⟨u, h1, h2⟩ := h0
      exact ⟨u, h1, by omega⟩
    | @cons x y k v l hxy w ih =>
      intro r
      obtain ⟨u, h1, h2⟩ := ih (r.trans (.step hxy (.refl hxy.on.2)))
      have n := nw x y k r hxy
      cases q : d x with
      | none => exact absurd ⟨u, h1, fun v hv => by rw [q] at hv; cases hv⟩ n
      | some m =>
        refine ⟨m, rfl, ?_⟩
        apply Decidable.byContradiction
        intro z
        refine n ⟨u, h1, fun v hv => ?_⟩
        rw [q] at hv
        rw [← Option.some.inj hv]
        omega
  intro x r
  obtain ⟨u, hu⟩ := dst_on I r.on.2
  obtain ⟨l, w⟩ := dst_from hu
  obtain ⟨u1, h1, h2⟩ := key w r
  obtain ⟨l1, w1⟩ := h x u1 h1
  obtain ⟨u2, h3, h4⟩ := dst_le I w1
  rw [hu] at h3
  cases h3
  rw [h1, hu]
  exact congrArg some (by omega)
end
end Sw
/-! plain roots, plainly blocked ports -/
namespace Sw
open Vbcnac
theorem leastOf_snoc : ∀ (l : List (List Nat × Nat)) (x : List Nat × Nat), leastOf (l ++ [x]) = match leastOf l with
      | none => some x
      | some y => if less x.1 y.1 = true then some x else some y
  | [], x => rfl
  | z :: l, x => by
    have ih := leastOf_snoc l x
    have e1 : leastOf (z :: l ++ [x]) = match leastOf (l ++ [x]) with
      | none => some z
      | some y => if less y.1 z.1 = true then some y else some z := rfl
    have e2 : leastOf (z :: l) = match leastOf l with
      | none => some z
      | some y => if less y.1 z.1 = true then some y else some z := rfl
    rw [e1, e2, ih]
    cases hm : leastOf l with
    | none => rfl
    | some m =>
      show (match (if less x.1 m.1 = true then some x else some m) with
        | none => some z
        | some y => if less y.1 z.1 = true then some y else some z) = match (if less m.1 z.1 = true then some m else some z) with
        | none => some x
        | some y => if less x.1 y.1 = true then some x else some y
      by_cases h1 : less x.1 m.1 = true
      · rw [if_pos h1]
        by_cases h2 : less m.1 z.1 = true
        · rw [if_pos h2]
          show (if less x.1 z.1 = true then some x else some z) = if less x.1 m.1 = true then some x else some m
          rw [if_pos h1, if_pos (less_trans h1 h2)]
        · rw [if_neg h2]
      · rw [if_neg h1]
        by_cases h2 : less m.1 z.1 = true
        · rw [if_pos h2]
          show (if less m.1 z.1 = true then some m else some z) = if less x.1 m.1 = true then some x else some m
          rw [if_pos h2, if_neg h1]
        · rw [if_neg h2]
          show (if less m.1 z.1 = true then some m else some z) = if less x.1 z.1 = true then some x else some z
          have h3 : ¬ less x.1 z.1 = true := fun h => by
            rcases less_tri x.1 m.1 with k | k | k
            · exact h1 k
            · exact h2 (k ▸ h)
            · exact h2 (less_trans k h)
          rw [if_neg h2, if_neg h3]
theorem leastOf_mem : ∀ {l : List (List Nat × Nat)} {x : List Nat × Nat}, leastOf l = some x → x ∈ l
  | z :: r, x, h => by
    unfold leastOf at h
    cases e : leastOf r with
    | none =>
      rw [e] at h
      rw [← Option.some.inj h]
      simp
    | some y =>
      rw [e] at h
      by_cases q : less y.1 z.1 = true
      · have h : (if less y.1 z.1 = true then some y else some z) = some x := h
        rw [if_pos q] at h
        rw [← Option.some.inj h]
        exact List.mem_cons_of_mem _ (leastOf_mem e)
      · have h : (if less y.1 z.1 = true then some y else some z) = some x := h
        rw [if_neg q] at h
        rw [← Option.some.inj h]
        simp
section
variable {s : State}
def prow (s : State) (b p : Nat) (x : Nat × Nat) : List Nat := [(nameAt s x.1).1, (nameAt s x.1).2, (portAt s x.1 x.2).rank, x.2, (portAt s b p).rank, p]
def wayAt (s : State) (d : List (Option Nat)) (b p : Nat) : Option (List Nat × Nat) := match across s b p with
  | none => none
  | some x => match d.getD b none, d.getD x.1 none with
    | some m, some n => if n + (portAt s b p).cost = m then some (prow s b p x, p) else none
    | _, _ => none
def waysTo (s : State) (d : List (Option Nat)) (b k : Nat) : List (List Nat × Nat) := (List.range k).filterMap (wayAt s d b)
theorem ways_to (d : List (Option Nat)) (b : Nat) : ways s d b = waysTo s d b 16 := rfl
theorem waysTo_succ (d : List (Option Nat)) (b k : Nat) : waysTo s d b (k + 1) = match wayAt s d b k with
    | none => waysTo s d b k
    | some r => waysTo s d b k ++ [r] := by
  unfold waysTo
  rw [List.range_succ, List.filterMap_append]
  rw [List.filterMap_cons, List.filterMap_nil]
  cases wayAt s d b k with
  | none => exact List.append_nil _
  | some r => rfl
theorem wayAt_none {d : List (Option Nat)} {b p : Nat} (h : across s b p = none) : wayAt s d b p = none := by
  unfold wayAt
  rw [h]
theorem wayAt_some {d : List (Option Nat)} {b p m n : Nat} {x : Nat × Nat} (h : across s b p = some x) (h1 : d.getD b none = some m) (h2 : d.getD x.1 none = some n) : wayAt s d b p = if n + (portAt s b p).cost = m then some (prow s b p x, p) else none := by
  unfold wayAt
  rw [h]
  show (match d.getD b none, d.getD x.1 none with
    | some m, some n => if n + (portAt s b p).cost = m then some (prow s b p x, p) else none
    | _, _ => none) = _
  rw [h1, h2]
theorem waysTo_last {d : List (Option Nat)} {b k : Nat} {x : List Nat × Nat} (h : leastOf (waysTo s d b k) = some x) : x.1.length = 6 ∧ x.1[5]? = some x.2 ∧ x.2 < k := by
  obtain ⟨p, hp, e⟩ := List.mem_filterMap.mp (leastOf_mem h)
  unfold wayAt at e
  cases q : across s b p with
  | none =>
    rw [q] at e
    cases e
  | some y =>
    rw [q] at e
    have e : (match d.getD b none, d.getD y.1 none with
      | some m, some n => if n + (portAt s b p).cost = m then some (prow s b p y, p) else none
      | _, _ => none) = some x := e
    cases q1 : d.getD b none with
    | none =>
      rw [q1] at e
      cases e
    | some m =>
      cases q2 : d.getD y.1 none with
      | none =>
        rw [q1, q2] at e
        cases e
      | some n =>
        rw [q1, q2] at e
        have e : (if n + (portAt s b p).cost = m then some (prow s b p y, p) else none) = some x := e
        by_cases z : n + (portAt s b p).cost = m
        · rw [if_pos z] at e
          rw [← Option.some.inj e]
          exact ⟨rfl, rfl, List.mem_range.mp hp⟩
        · rw [if_neg z] at e
          cases e
/-- a port is plainly blocked -/
def blk (s : State) (x : Nat × Nat) : Bool := isOn s x.1 && (!decide (plainRoot s (costs s) x.1 = some x.2) && match across s x.1 x.2 with
  | none => false
  | some y => !less (endRow s (costs s) x) (endRow s (costs s) y))
theorem role_blk (x : Nat × Nat) : plainRole s (costs s) x.1 x.2 ≠ .blocked ↔ blk s x = false := by
  unfold plainRole blk
  cases h1 : isOn s x.1 with
  | false =>
    rw [if_pos rfl]
    exact ⟨fun _ => rfl, fun _ z => by cases z⟩
  | true =>
    rw [if_neg (by decide)]
    by_cases h2 : plainRoot s (costs s) x.1 = some x.2
    · rw [if_pos h2, decide_eq_true h2]
      exact ⟨fun _ => rfl, fun _ z => by cases z⟩
    · rw [if_neg h2, decide_eq_false h2]
      cases across s x.1 x.2 with
      | none => exact ⟨fun _ => rfl, fun _ z => by cases z⟩
      | some y =>
        show (if less (endRow s (costs s) x) (endRow s (costs s) y) = true then Role.designated else Role.blocked) ≠ .blocked ↔ (true && (!false && !less (endRow s (costs s) x) (endRow s (costs s) y))) = false
        cases less (endRow s (costs s) x) (endRow s (costs s) y) with
        | true => exact ⟨fun _ => rfl, fun _ z => by cases z⟩
        | false => exact ⟨fun z => absurd rfl z, fun z => by cases z⟩
def nbs (s : State) (b : Nat) : List (Nat × Nat) := (List.range 16).filterMap fun p => (across s b p).map fun x => ((portAt s b p).cost, x.1)
theorem mem_nbs {b c y : Nat} : (c, y) ∈ nbs s b ↔ Lv s b y c := by
  unfold nbs
  rw [List.mem_filterMap]
  constructor
  · rintro ⟨p, hp, e⟩
    obtain ⟨x, hx, e2⟩ := Option.map_eq_some_iff.mp e
    injection e2 with e3 e4
    exact ⟨p, x.2, List.mem_range.mp hp, by rw [hx, ← e4], e3⟩
  · rintro ⟨p, q, hp, ha, hc⟩
    refine ⟨p, List.mem_range.mpr hp, ?_⟩
    rw [ha, ← hc]
    rfl
theorem nbs_len (b : Nat) : (nbs s b).length ≤ 16 := by
  unfold nbs
  exact Nat.le_trans (List.length_filterMap_le _ _) (by simp)
end
end Sw
/-! a search over live cables; costs spread pass by pass -/
namespace Sw
open Vbcnac
section
variable {s : State} {b : Nat}
structure Srp (s : State) (b : Nat) (ks : List Nat) : Prop where
  nd : ks.Nodup
  b0 : b ∈ ks
  rc : ∀ x ∈ ks, Rc s b x
theorem Srp.len {ks : List Nat} (I : Inv s) (S : Srp s b ks) : ks.length ≤ 32 := Nat.le_trans (nodup_le S.nd fun x hx => on_lt (S.rc x hx).on.2) I.nb
theorem srp_start (h : isOn s b = true) : Srp s b [b] := ⟨by simp, by simp, fun x hx => by rw [List.mem_singleton.mp hx]; exact .refl h⟩
theorem Srp.add {ks : List Nat} (S : Srp s b ks) {x y c : Nat} (hx : x ∈ ks) (h : Lv s x y c) (hy : y ∉ ks) : Srp s b (ks ++ [y]) := by
  refine ⟨?_, List.mem_append_left _ S.b0, fun z hz => ?_⟩
  · rw [List.nodup_append]
    refine ⟨S.nd, by simp, fun a ha c hc e => ?_⟩
    rw [List.mem_singleton.mp hc] at e
    exact hy (e ▸ ha)
  · rcases List.mem_append.mp hz with hz | hz
    · exact S.rc z hz
    · rw [List.mem_singleton.mp hz]
      exact (S.rc x hx).trans (.step h (.refl h.on.2))
theorem Srp.all {ks : List Nat} (S : Srp s b ks) (hc : ∀ x ∈ ks, ∀ y c, Lv s x y c → y ∈ ks) (x : Nat) : x ∈ ks ↔ Rc s b x := by
  refine ⟨S.rc x, fun r => ?_⟩
  have key : ∀ {y x : Nat}, Rc s y x → y ∈ ks → x ∈ ks := by
    intro y x r
    induction r with
    | refl _ => exact id
    | step h _ ih => exact fun hy => ih (hc _ hy _ _ h)
  exact key r S.b0
/-- what stands before a pass -/
structure Bas (s : State) (b c : Nat) (ks : List Nat) (d : Nat → Option Nat) (k : Nat) : Prop where
  snd : Snd s d
  up : ∀ x, Rc s b x → Up s d k x
  ks : ∀ x, x ∈ ks ↔ Rc s b x
  ch : chief s c = true
  rc : Rc s b c
  d0 : d c = some 0
/-- within a pass: i bridges are done, and of bridge x the cables E -/
structure Pas (s : State) (b : Nat) (ks : List Nat) (d : Nat → Option Nat) (k : Nat) (e : Nat → Option Nat) (dn : Bool) (i x : Nat) (E : List (Nat × Nat)) : Prop where
  snd : Snd s e
  le : Le e d
  out : ∀ z, ¬ Rc s b z → e z = d z
  up : ∀ z ∈ ks.take i, Up s e (k + 1) z
  ed : ∀ a ∈ E, ∀ l v, Wk s (Ch s) a.2 l v → l.length ≤ k + 1 → ∃ u, e x = some u ∧ u ≤ v + a.1
  dn1 : dn = true → e = d ∧ (∀ z ∈ ks.take i, ∀ y c, Lv s z y c → ¬ Want d z y c) ∧ ∀ a ∈ E, ¬ Want d x a.2 a.1
  dn2 : 31 ≤ k → dn = true
variable {c k i x : Nat} {ks : List Nat} {d e : Nat → Option Nat} {dn : Bool} {E : List (Nat × Nat)}
theorem bas_start (I : Inv s) (snd : Snd s d) (hk : ∀ x, x ∈ ks ↔ Rc s b x) (ch : chief s c = true) (rc : Rc s b c) (d0 : d c = some 0) : Bas s b c ks d 0 := by
  refine ⟨snd, fun x r l v w hl => ?_, hk, ch, rc, d0⟩
  cases w with
  | nil h =>
    have : c = x := chief_uniq I ch h ((rc.symm I).trans r)
    rw [← this]
    exact ⟨0, d0, Nat.le_refl _⟩
  | cons h w => cases w <;> simp at hl
theorem pas_start (B : Bas s b c ks d k) : Pas s b ks d k d true 0 x [] :=
  ⟨B.snd, Le.refl d, fun _ _ => rfl, fun z hz => (by simp at hz), fun a ha => (by cases ha), fun _ => ⟨rfl, fun z hz => (by simp at hz), fun a ha => (by cases ha)⟩, fun _ => rfl⟩
theorem Pas.skip (B : Bas s b c ks d k) (A : Pas s b ks d k e dn i x E) (hx : Rc s b x) {a : Nat × Nat} (ha : Lv s x a.2 a.1) (hn : ¬ Want e x a.2 a.1) : Pas s b ks d k e dn i x (E ++ [a]) := by
  refine { A with ed := fun a' ha' l v w hl => ?_, dn1 := fun h => ?_ }
  · rcases List.mem_append.mp ha' with ha' | ha'
    · exact A.ed a' ha' l v w hl
    · rw [List.mem_singleton.mp ha'] at w ⊢
      obtain ⟨u, h1, h2⟩ := (B.up a.2 (hx.trans (.step ha (.refl ha.on.2)))).le A.le l v w hl
      cases q : e x with
      | none => exact absurd ⟨u, h1, fun v hv => by rw [q] at hv; cases hv⟩ hn
      | some m =>
        refine ⟨m, rfl, ?_⟩
        apply Decidable.byContradiction
        intro z
        refine hn ⟨u, h1, fun v' hv => ?_⟩
        rw [q] at hv
        rw [← Option.some.inj hv]
        omega
  · obtain ⟨h1, h2, h3⟩ := A.dn1 h
    refine ⟨h1, h2, fun a' ha' => ?_⟩
    rcases List.mem_append.mp ha' with ha' | ha'
    · exact h3 a' ha'
    · rw [List.mem_singleton.mp ha', ← h1]
      exact hn
theorem Pas.take (I : Inv s) (B : Bas s b c ks d k) (A : Pas s b ks d k e dn i x E) (hx : Rc s b x) {a : Nat × Nat} (ha : Lv s x a.2 a.1) (hw : Want e x a.2 a.1) {u : Nat} (hu : e a.2 = some u) : Pas s b ks d k (putN e x (u + a.1)) false i x (E ++ [a]) := by
  have hle := hw.le hu
  refine ⟨A.snd.put ha hu, hle.trans A.le, fun z hz => ?_, fun z hz => (A.up z hz).le hle, fun a' ha' l v w hl => ?_, fun h => (by cases h), fun hk => ?_⟩
  · rw [putN_ne (show z ≠ x from fun q => hz (by rw [q]; exact hx))]
    exact A.out z hz
  · rcases List.mem_append.mp ha' with ha' | ha'
    · obtain ⟨u1, h1, h2⟩ := A.ed a' ha' l v w hl
      obtain ⟨u2, h3, h4⟩ := hle x u1 h1
      exact ⟨u2, h3, by omega⟩
    · rw [List.mem_singleton.mp ha'] at w ⊢
      obtain ⟨u1, h1, h2⟩ := (B.up a.2 (hx.trans (.step ha (.refl ha.on.2)))).le A.le l v w hl
      rw [hu] at h1
      cases h1
      exact ⟨_, putN_same, by omega⟩
  · exact absurd hw (no_want I A.snd ha hk ((B.up x hx).le A.le))
theorem Pas.d0 (B : Bas s b c ks d k) (A : Pas s b ks d k e dn i x E) : e c = some 0 := by
  obtain ⟨v, h1, h2⟩ := A.le c 0 B.d0
  rw [h1]
  exact congrArg some (by omega)
theorem Pas.next (I : Inv s) (B : Bas s b c ks d k) (A : Pas s b ks d k e dn i x (nbs s x)) (hx : ks[i]? = some x) {x' : Nat} : Pas s b ks d k e dn (i + 1) x' [] := by
  have hr : Rc s b x := (B.ks x).mp (List.mem_of_getElem? hx)
  have tk : ks.take (i + 1) = ks.take i ++ [x] := by
    rw [List.take_add_one, hx]
    rfl
  refine ⟨A.snd, A.le, A.out, fun z hz => ?_, fun a ha => (by cases ha), fun h => ?_, A.dn2⟩
  · rw [tk] at hz
    rcases List.mem_append.mp hz with hz | hz
    · exact A.up z hz
    · rw [List.mem_singleton.mp hz]
      intro l v w hl
      cases w with
      | nil h =>
        have : c = x := chief_uniq I B.ch h ((B.rc.symm I).trans hr)
        rw [← this]
        exact ⟨0, A.d0 B, Nat.le_refl _⟩
      | @cons _ y c' v l h w =>
        obtain ⟨u, h1, h2⟩ := A.ed (c', y) (mem_nbs.mpr h) l v w (by simp at hl; omega)
        exact ⟨u, h1, h2⟩
  · obtain ⟨h1, h2, h3⟩ := A.dn1 h
    refine ⟨h1, fun z hz y c' hc => ?_, fun a ha => (by cases ha)⟩
    rw [tk] at hz
    rcases List.mem_append.mp hz with hz | hz
    · exact h2 z hz y c' hc
    · rw [List.mem_singleton.mp hz] at hc ⊢
      exact h3 (c', y) (mem_nbs.mpr hc)
theorem Pas.done (B : Bas s b c ks d k) (A : Pas s b ks d k e dn ks.length x E) : Bas s b c ks e (k + 1) :=
  ⟨A.snd, fun z r => A.up z (by rw [List.take_length]; exact (B.ks z).mpr r), B.ks, B.ch, B.rc, A.d0 B⟩
/-- a pass that changed nothing -/
theorem Pas.still (I : Inv s) (B : Bas s b c ks d k) (A : Pas s b ks d k e true ks.length x E) : ∀ z, Rc s b z → e z = dst s z := by
  obtain ⟨h1, h2, _⟩ := A.dn1 rfl
  rw [h1]
  refine all_done I B.snd B.rc B.ch ⟨0, B.d0, rfl⟩ fun z y c' r hl => h2 z ?_ y c' hl
  rw [List.take_length]
  exact (B.ks z).mpr r
/-! ### piece by piece -/
structure Net0 (s : State) (i : Nat) (d : Nat → Option Nat) : Prop where
  snd : Snd s d
  fin : ∀ j, j < i → isOn s j = true → ∀ x, Rc s j x → d x = dst s x
  none : ∀ x u, d x = some u → ∃ j, j < i ∧ Rc s j x
theorem net0_start : Net0 s 0 fun _ => .none := ⟨fun x u h => (by cases h), fun j h => absurd h (Nat.not_lt_zero _), fun x u h => (by cases h)⟩
theorem Net0.off (A : Net0 s i d) (h : isOn s i = false) : Net0 s (i + 1) d := by
  refine ⟨A.snd, fun j hj ho x r => ?_, fun x u hx => ?_⟩
  · by_cases e : j = i
    · rw [e, h] at ho
      cases ho
    · exact A.fin j (by omega) ho x r
  · obtain ⟨j, h1, h2⟩ := A.none x u hx
    exact ⟨j, by omega, h2⟩
theorem Net0.had (A : Net0 s i d) {u : Nat} (h : d i = some u) : Net0 s (i + 1) d := by
  obtain ⟨j, h1, h2⟩ := A.none i u h
  refine ⟨A.snd, fun j' hj ho x r => ?_, fun x u hx => ?_⟩
  · by_cases e : j' = i
    · rw [e] at r
      exact A.fin j h1 h2.on.1 x (h2.trans r)
    · exact A.fin j' (by omega) ho x r
  · obtain ⟨j, h1, h2⟩ := A.none x u hx
    exact ⟨j, by omega, h2⟩
theorem Net0.snd1 (A : Net0 s i d) (hc : chief s c = true) : Snd s (putN d c 0) := fun z v hz => by
  by_cases e : z = c
  · rw [e, putN_same] at hz
    rw [← Option.some.inj hz, e]
    exact ⟨_, .nil hc⟩
  · rw [putN_ne e] at hz
    exact A.snd z v hz
theorem Net0.piece (I : Inv s) (A : Net0 s i d) {e : Nat → Option Nat} (rc : Rc s i c) (h1 : ∀ x, Rc s i x → e x = dst s x) (h2 : ∀ x, ¬ Rc s i x → e x = putN d c 0 x) : Net0 s (i + 1) e := by
  have h3 : ∀ x, ¬ Rc s i x → e x = d x := fun x hx => by
    rw [h2 x hx, putN_ne]
    intro q
    rw [q] at hx
    exact hx rc
  refine ⟨fun x u hx => ?_, fun j hj ho x r => ?_, fun x u hx => ?_⟩
  · by_cases q : Rc s i x
    · rw [h1 x q] at hx
      exact dst_from hx
    · rw [h3 x q] at hx
      exact A.snd x u hx
  · by_cases q : Rc s i x
    · exact h1 x q
    · rw [h3 x q]
      by_cases z : j = i
      · rw [z] at r
        exact absurd r q
      · exact A.fin j (by omega) ho x r
  · by_cases q : Rc s i x
    · exact ⟨i, by omega, q⟩
    · rw [h3 x q] at hx
      obtain ⟨j, g1, g2⟩ := A.none x u hx
      exact ⟨j, by omega, g2⟩
theorem Net0.all (I : Inv s) (A : Net0 s s.bridges.length d) (x : Nat) : d x = dst s x := by
  cases h : isOn s x with
  | true => exact A.fin x (on_lt h) h x (.refl h)
  | false =>
    rw [dst_off I h]
    cases q : d x with
    | none => rfl
    | some u =>
      obtain ⟨j, _, r⟩ := A.none x u q
      rw [r.on.2] at h
      cases h
end
end Sw
namespace Sw
open PySem PySem.Spec PyProof.Rows L2
/-- what the top has left, as the walk asks for it -/
structure Txt (K : PySem.W.Frag) (mg : Str → Option Value) : Prop where
  says : He.SaysD fa fn K
  tups : tupsB K = true
  glo : ∀ x, (He.Fa.glo x).ok K = true → mg x = some (.ref (He.ga K x))
  free : ∀ x, (He.Fa.free x).ok K = true → mg x = none
  int : ∀ x i, (He.Fa.int x i).ok K = true → ∃ t, mg x = some (.int i t)
section
variable {P : Program} {w : World} {K : PySem.W.Frag} {mg : Str → Option Value} {base : Heap}
theorem Txt.g (T : Txt K mg) (x : Str) (i : Nat) (h : fa[i]? = some (.glo x) := by rfl) : mg x = some (.ref (He.ga K x)) := T.glo x (T.says.fact i h)
theorem Txt.f (T : Txt K mg) (x : Str) (i : Nat) (h : fa[i]? = some (.free x) := by rfl) : mg x = none := T.free x (T.says.fact i h)
/-- a def of the module keeps its promise, and is found by its name -/
structure Does (P : Program) (w : World) (K : PySem.W.Frag) (mg : Str → Option Value) (base : Heap) (k : Nat) (x : Str) (ps : List Str) (sp : Sp) : Prop where
  ex : ∃ fd, FnOk P w K mg base CX0 k (He.ga K x) fd ps sp ∧ Binds K fd ps [] ∧ ∃ oc od osl, K.lookup (He.ga K x) = some ⟨oc, od, .func fd, osl⟩
  gl : mg x = some (.ref (He.ga K x))
  kp : PySem.W.keepIn K (.ref (He.ga K x)) = true
theorem does_of {d : He.DefD} {x : Str} {N ps : List Str} {k : Nat} {sp : Sp} (T : Txt K mg) (i : Nat) (hd : fn[i]? = some d) (hat : d.at_ = (x, none)) (hdf : d.dfl = []) (hkw : d.kwd = []) (hg : mg x = some (.ref (He.ga K x))) (S : FnScope N ps d.scope)
    (hbind : ∀ (kV doc pm : Value) (an : Option Addr) (cdv ct : Value) (us : List Value), us.length = ps.length → bindArgs (PySem.W.fnOf d.name d.qual d.params d.body d.scope .none kV doc pm an cdv ct) ⟨us, []⟩ = pure (ps.zip us))
    (len : ∀ vs H Q E, sp vs H Q E → vs.length = ps.length)
    (body : ∀ (cdv : Value) (A : Around) (outer : List Env) (s : Shared) (H : Hp) (vs : List V) (Q : VK) (E : XK), Room k (A.deeper (envOfC d.qual d.scope s.heap.objs.size (He.ga K x) cdv)) → sp vs H Q E →
      ∃ t, PSs (cxOf CX0 P w K mg base N d.qual d.scope (He.ga K x) cdv A outer s H E).nox d.body t ∧ t { nx := fun _ H' => Q .non H', rt := Q } (start N vs) H) : Does P w K mg base (k + 1) x ps sp := by
  obtain ⟨fd, F⟩ := T.says.def_ i hd
  have e0 : He.fAd K d.at_ = He.ga K x := by rw [hat] <;> rfl
  have e1 : d.dvs K = [] := by
    unfold He.DefD.dvs
    rw [hdf] <;> rfl
  have e2 : d.kws K = [] := by
    unfold He.DefD.kws
    rw [hkw] <;> rfl
  rw [e0, e1] at F
  refine ⟨⟨fd, FunD.ok F S len fun cdv A outer s H vs Q E hr h => ?_, F.bindsN hbind, ?_⟩, hg, F.kp⟩
  · obtain ⟨t, h1, h2⟩ := body cdv A outer s H vs Q E hr h
    exact ⟨t, h1.nox, h2⟩
  · obtain ⟨oc, od, dV, kV, doc, pm, an, cdv, ct, osl, _, lk, _, _, _⟩ := F.ex
    exact ⟨oc, od, osl, lk⟩
theorem Txt.g_name_of (T : Txt K mg) : mg "name_of" = some (.ref (He.ga K "name_of")) := T.g "name_of" 0
theorem Txt.g_forwards (T : Txt K mg) : mg "forwards" = some (.ref (He.ga K "forwards")) := T.g "forwards" 1
theorem Txt.g_cable_at (T : Txt K mg) : mg "cable_at" = some (.ref (He.ga K "cable_at")) := T.g "cable_at" 2
theorem Txt.g_cables_of (T : Txt K mg) : mg "cables_of" = some (.ref (He.ga K "cables_of")) := T.g "cables_of" 3
theorem Txt.g_empty_port (T : Txt K mg) : mg "empty_port" = some (.ref (He.ga K "empty_port")) := T.g "empty_port" 4
theorem Txt.g_begin_anew (T : Txt K mg) : mg "begin_anew" = some (.ref (He.ga K "begin_anew")) := T.g "begin_anew" 5
theorem Txt.g_set_cable (T : Txt K mg) : mg "set_cable" = some (.ref (He.ga K "set_cable")) := T.g "set_cable" 6
theorem Txt.g_lay_cable (T : Txt K mg) : mg "lay_cable" = some (.ref (He.ga K "lay_cable")) := T.g "lay_cable" 7
theorem Txt.g_cut_cable (T : Txt K mg) : mg "cut_cable" = some (.ref (He.ga K "cut_cable")) := T.g "cut_cable" 8
theorem Txt.g_begin_neighbours_anew (T : Txt K mg) : mg "begin_neighbours_anew" = some (.ref (He.ga K "begin_neighbours_anew")) := T.g "begin_neighbours_anew" 9
theorem Txt.g_turn_off (T : Txt K mg) : mg "turn_off" = some (.ref (He.ga K "turn_off")) := T.g "turn_off" 10
theorem Txt.g_turn_on (T : Txt K mg) : mg "turn_on" = some (.ref (He.ga K "turn_on")) := T.g "turn_on" 11
theorem Txt.g_held_by (T : Txt K mg) : mg "held_by" = some (.ref (He.ga K "held_by")) := T.g "held_by" 12
theorem Txt.g_row_of_way (T : Txt K mg) : mg "row_of_way" = some (.ref (He.ga K "row_of_way")) := T.g "row_of_way" 13
theorem Txt.g_hello_at (T : Txt K mg) : mg "hello_at" = some (.ref (He.ga K "hello_at")) := T.g "hello_at" 14
theorem Txt.g_roles_of (T : Txt K mg) : mg "roles_of" = some (.ref (He.ga K "roles_of")) := T.g "roles_of" 15
theorem Txt.g_make_rounds (T : Txt K mg) : mg "make_rounds" = some (.ref (He.ga K "make_rounds")) := T.g "make_rounds" 16
theorem Txt.g_make_round (T : Txt K mg) : mg "make_round" = some (.ref (He.ga K "make_round")) := T.g "make_round" 17
theorem Txt.g_beginning_of (T : Txt K mg) : mg "beginning_of" = some (.ref (He.ga K "beginning_of")) := T.g "beginning_of" 18
theorem Txt.g_renew_hellos (T : Txt K mg) : mg "renew_hellos" = some (.ref (He.ga K "renew_hellos")) := T.g "renew_hellos" 19
theorem Txt.g_renew_waits (T : Txt K mg) : mg "renew_waits" = some (.ref (He.ga K "renew_waits")) := T.g "renew_waits" 20
theorem Txt.g_renew_notices (T : Txt K mg) : mg "renew_notices" = some (.ref (He.ga K "renew_notices")) := T.g "renew_notices" 21
theorem Txt.g_age_stations (T : Txt K mg) : mg "age_stations" = some (.ref (He.ga K "age_stations")) := T.g "age_stations" 22
theorem Txt.g_age_all_stations (T : Txt K mg) : mg "age_all_stations" = some (.ref (He.ga K "age_all_stations")) := T.g "age_all_stations" 23
theorem Txt.g_refusal_of (T : Txt K mg) : mg "refusal_of" = some (.ref (He.ga K "refusal_of")) := T.g "refusal_of" 24
theorem Txt.g_begin (T : Txt K mg) : mg "begin" = some (.ref (He.ga K "begin")) := T.g "begin" 25
theorem Txt.g_add_bridge (T : Txt K mg) : mg "add_bridge" = some (.ref (He.ga K "add_bridge")) := T.g "add_bridge" 26
theorem Txt.g_cable_call (T : Txt K mg) : mg "cable_call" = some (.ref (He.ga K "cable_call")) := T.g "cable_call" 27
theorem Txt.g_cut_call (T : Txt K mg) : mg "cut_call" = some (.ref (He.ga K "cut_call")) := T.g "cut_call" 28
theorem Txt.g_off_call (T : Txt K mg) : mg "off_call" = some (.ref (He.ga K "off_call")) := T.g "off_call" 29
theorem Txt.g_on_call (T : Txt K mg) : mg "on_call" = some (.ref (He.ga K "on_call")) := T.g "on_call" 30
theorem Txt.g_set_rank (T : Txt K mg) : mg "set_rank" = some (.ref (He.ga K "set_rank")) := T.g "set_rank" 31
theorem Txt.g_set_cost (T : Txt K mg) : mg "set_cost" = some (.ref (He.ga K "set_cost")) := T.g "set_cost" 32
theorem Txt.g_set_port_rank (T : Txt K mg) : mg "set_port_rank" = some (.ref (He.ga K "set_port_rank")) := T.g "set_port_rank" 33
theorem Txt.g_rounds_call (T : Txt K mg) : mg "rounds_call" = some (.ref (He.ga K "rounds_call")) := T.g "rounds_call" 34
theorem Txt.g_ports_left_by (T : Txt K mg) : mg "ports_left_by" = some (.ref (He.ga K "ports_left_by")) := T.g "ports_left_by" 35
theorem Txt.g_learn (T : Txt K mg) : mg "learn" = some (.ref (He.ga K "learn")) := T.g "learn" 36
theorem Txt.g_places_to_pass (T : Txt K mg) : mg "places_to_pass" = some (.ref (He.ga K "places_to_pass")) := T.g "places_to_pass" 37
theorem Txt.g_live_cable (T : Txt K mg) : mg "live_cable" = some (.ref (He.ga K "live_cable")) := T.g "live_cable" 38
theorem Txt.g_neighbours_of (T : Txt K mg) : mg "neighbours_of" = some (.ref (He.ga K "neighbours_of")) := T.g "neighbours_of" 39
theorem Txt.g_piece_of (T : Txt K mg) : mg "piece_of" = some (.ref (He.ga K "piece_of")) := T.g "piece_of" 40
theorem Txt.g_chief_of (T : Txt K mg) : mg "chief_of" = some (.ref (He.ga K "chief_of")) := T.g "chief_of" 41
theorem Txt.g_costs_of_net (T : Txt K mg) : mg "costs_of_net" = some (.ref (He.ga K "costs_of_net")) := T.g "costs_of_net" 42
theorem Txt.g_spread_costs (T : Txt K mg) : mg "spread_costs" = some (.ref (He.ga K "spread_costs")) := T.g "spread_costs" 43
theorem Txt.g_plain_tree (T : Txt K mg) : mg "plain_tree" = some (.ref (He.ga K "plain_tree")) := T.g "plain_tree" 44
theorem Txt.g_root_place (T : Txt K mg) : mg "root_place" = some (.ref (He.ga K "root_place")) := T.g "root_place" 45
theorem Txt.g_row_of_port (T : Txt K mg) : mg "row_of_port" = some (.ref (He.ga K "row_of_port")) := T.g "row_of_port" 46
theorem Txt.g_is_plainly_blocked (T : Txt K mg) : mg "is_plainly_blocked" = some (.ref (He.ga K "is_plainly_blocked")) := T.g "is_plainly_blocked" 47
theorem Txt.g_plain_cables (T : Txt K mg) : mg "plain_cables" = some (.ref (He.ga K "plain_cables")) := T.g "plain_cables" 48
theorem Txt.g_forwarding_cables (T : Txt K mg) : mg "forwarding_cables" = some (.ref (He.ga K "forwarding_cables")) := T.g "forwarding_cables" 49
theorem Txt.g_way_between (T : Txt K mg) : mg "way_between" = some (.ref (He.ga K "way_between")) := T.g "way_between" 50
theorem Txt.g_rows_of (T : Txt K mg) : mg "rows_of" = some (.ref (He.ga K "rows_of")) := T.g "rows_of" 51
theorem Txt.g_port_call (T : Txt K mg) : mg "port_call" = some (.ref (He.ga K "port_call")) := T.g "port_call" 52
theorem Txt.g_view_call (T : Txt K mg) : mg "view_call" = some (.ref (He.ga K "view_call")) := T.g "view_call" 53
theorem Txt.g_tree_call (T : Txt K mg) : mg "tree_call" = some (.ref (He.ga K "tree_call")) := T.g "tree_call" 54
theorem Txt.g_plain_call (T : Txt K mg) : mg "plain_call" = some (.ref (He.ga K "plain_call")) := T.g "plain_call" 55
theorem Txt.g_frame_call (T : Txt K mg) : mg "frame_call" = some (.ref (He.ga K "frame_call")) := T.g "frame_call" 56
theorem Txt.g_stations_call (T : Txt K mg) : mg "stations_call" = some (.ref (He.ga K "stations_call")) := T.g "stations_call" 57
theorem Txt.g_way_call (T : Txt K mg) : mg "way_call" = some (.ref (He.ga K "way_call")) := T.g "way_call" 58
theorem Txt.g_quiet_call (T : Txt K mg) : mg "quiet_call" = some (.ref (He.ga K "quiet_call")) := T.g "quiet_call" 59
theorem Txt.g_answers (T : Txt K mg) : mg "answers" = some (.ref (He.ga K "answers")) := T.g "answers" 60
theorem Txt.g_answer_of (T : Txt K mg) : mg "answer_of" = some (.ref (He.ga K "answer_of")) := T.g "answer_of" 61
theorem Txt.g_changing_answer (T : Txt K mg) : mg "changing_answer" = some (.ref (He.ga K "changing_answer")) := T.g "changing_answer" 62
theorem Txt.g_asking_answer (T : Txt K mg) : mg "asking_answer" = some (.ref (He.ga K "asking_answer")) := T.g "asking_answer" 63
theorem Txt.f_list (T : Txt K mg) : mg "list" = none := T.f "list" 64
theorem Txt.f_any (T : Txt K mg) : mg "any" = none := T.f "any" 65
theorem Txt.f_len (T : Txt K mg) : mg "len" = none := T.f "len" 66
theorem Txt.f_enumerate (T : Txt K mg) : mg "enumerate" = none := T.f "enumerate" 67
theorem Txt.f_zip (T : Txt K mg) : mg "zip" = none := T.f "zip" 68
theorem Txt.f_range (T : Txt K mg) : mg "range" = none := T.f "range" 69
theorem Txt.f_sorted (T : Txt K mg) : mg "sorted" = none := T.f "sorted" 70
theorem Txt.f_min (T : Txt K mg) : mg "min" = none := T.f "min" 71
theorem Txt.i_PORTS (T : Txt K mg) : ∃ t, mg "PORTS" = some (.int (16) t) := T.int "PORTS" (16) (T.says.fact 72)
theorem Txt.i_NEW_COST (T : Txt K mg) : ∃ t, mg "NEW_COST" = some (.int (100) t) := T.int "NEW_COST" (100) (T.says.fact 73)
theorem Txt.i_NEW_RANK (T : Txt K mg) : ∃ t, mg "NEW_RANK" = some (.int (128) t) := T.int "NEW_RANK" (128) (T.says.fact 74)
theorem Txt.i_NO_ROLE (T : Txt K mg) : ∃ t, mg "NO_ROLE" = some (.int (0) t) := T.int "NO_ROLE" (0) (T.says.fact 75)
theorem Txt.i_ROOT (T : Txt K mg) : ∃ t, mg "ROOT" = some (.int (1) t) := T.int "ROOT" (1) (T.says.fact 76)
theorem Txt.i_DESIGNATED (T : Txt K mg) : ∃ t, mg "DESIGNATED" = some (.int (2) t) := T.int "DESIGNATED" (2) (T.says.fact 77)
theorem Txt.i_BLOCKED (T : Txt K mg) : ∃ t, mg "BLOCKED" = some (.int (3) t) := T.int "BLOCKED" (3) (T.says.fact 78)
theorem Txt.i_NO_PORT (T : Txt K mg) : ∃ t, mg "NO_PORT" = some (.int (-1) t) := T.int "NO_PORT" (-1) (T.says.fact 79)
theorem Txt.i_NOT_BEGUN (T : Txt K mg) : ∃ t, mg "NOT_BEGUN" = some (.int (-1) t) := T.int "NOT_BEGUN" (-1) (T.says.fact 80)
theorem Txt.i_OUT_OF_RANGE (T : Txt K mg) : ∃ t, mg "OUT_OF_RANGE" = some (.int (-2) t) := T.int "OUT_OF_RANGE" (-2) (T.says.fact 81)
theorem Txt.i_NO_BRIDGE (T : Txt K mg) : ∃ t, mg "NO_BRIDGE" = some (.int (-3) t) := T.int "NO_BRIDGE" (-3) (T.says.fact 82)
theorem Txt.i_TOO_MANY (T : Txt K mg) : ∃ t, mg "TOO_MANY" = some (.int (-4) t) := T.int "TOO_MANY" (-4) (T.says.fact 83)
theorem Txt.i_NUMBER_BORNE (T : Txt K mg) : ∃ t, mg "NUMBER_BORNE" = some (.int (-5) t) := T.int "NUMBER_BORNE" (-5) (T.says.fact 84)
theorem Txt.i_ONE_PORT (T : Txt K mg) : ∃ t, mg "ONE_PORT" = some (.int (-6) t) := T.int "ONE_PORT" (-6) (T.says.fact 85)
theorem Txt.i_HAS_CABLE (T : Txt K mg) : ∃ t, mg "HAS_CABLE" = some (.int (-7) t) := T.int "HAS_CABLE" (-7) (T.says.fact 86)
theorem Txt.i_NO_CABLE (T : Txt K mg) : ∃ t, mg "NO_CABLE" = some (.int (-8) t) := T.int "NO_CABLE" (-8) (T.says.fact 87)
theorem Txt.i_IS_OFF (T : Txt K mg) : ∃ t, mg "IS_OFF" = some (.int (-9) t) := T.int "IS_OFF" (-9) (T.says.fact 88)
theorem Txt.i_IS_ON (T : Txt K mg) : ∃ t, mg "IS_ON" = some (.int (-10) t) := T.int "IS_ON" (-10) (T.says.fact 89)
theorem Txt.i_MOST_BRIDGES (T : Txt K mg) : ∃ t, mg "MOST_BRIDGES" = some (.int (32) t) := T.int "MOST_BRIDGES" (32) (T.says.fact 90)
theorem Txt.i_FRAME_AT_OFF (T : Txt K mg) : ∃ t, mg "FRAME_AT_OFF" = some (.int (-11) t) := T.int "FRAME_AT_OFF" (-11) (T.says.fact 91)
theorem Txt.i_FRAME_AT_CABLE (T : Txt K mg) : ∃ t, mg "FRAME_AT_CABLE" = some (.int (-12) t) := T.int "FRAME_AT_CABLE" (-12) (T.says.fact 92)
theorem Txt.i_FRAME_NOT_FORWARDED (T : Txt K mg) : ∃ t, mg "FRAME_NOT_FORWARDED" = some (.int (-13) t) := T.int "FRAME_NOT_FORWARDED" (-13) (T.says.fact 93)
theorem Txt.i_NO_WAY (T : Txt K mg) : ∃ t, mg "NO_WAY" = some (.int (-14) t) := T.int "NO_WAY" (-14) (T.says.fact 94)
theorem Txt.g_BRIDGE (T : Txt K mg) : mg "BRIDGE" = some (.ref (He.ga K "BRIDGE")) := T.g "BRIDGE" 95
theorem Txt.g_PORT (T : Txt K mg) : mg "PORT" = some (.ref (He.ga K "PORT")) := T.g "PORT" 96
theorem Txt.g_RANK (T : Txt K mg) : mg "RANK" = some (.ref (He.ga K "RANK")) := T.g "RANK" 97
theorem Txt.g_PORT_RANK (T : Txt K mg) : mg "PORT_RANK" = some (.ref (He.ga K "PORT_RANK")) := T.g "PORT_RANK" 98
theorem Txt.g_COST (T : Txt K mg) : mg "COST" = some (.ref (He.ga K "COST")) := T.g "COST" 99
theorem Txt.g_ROUNDS (T : Txt K mg) : mg "ROUNDS" = some (.ref (He.ga K "ROUNDS")) := T.g "ROUNDS" 100
theorem Txt.g_BRIDGE_NUMBER (T : Txt K mg) : mg "BRIDGE_NUMBER" = some (.ref (He.ga K "BRIDGE_NUMBER")) := T.g "BRIDGE_NUMBER" 101
theorem Txt.g_STATION (T : Txt K mg) : mg "STATION" = some (.ref (He.ga K "STATION")) := T.g "STATION" 102
theorem Txt.g_STATION_OR_EVERYBODY (T : Txt K mg) : mg "STATION_OR_EVERYBODY" = some (.ref (He.ga K "STATION_OR_EVERYBODY")) := T.g "STATION_OR_EVERYBODY" 103
theorem Txt.g_COUNTS (T : Txt K mg) : mg "COUNTS" = some (.ref (He.ga K "COUNTS")) := T.g "COUNTS" 104
theorem Txt.g_Bridge (T : Txt K mg) : mg "Bridge" = some (.ref (He.ga K "Bridge")) := T.g "Bridge" 105
theorem Txt.c_Bridge (T : Txt K mg) : Cls K (He.ga K "Bridge") := He.cls_ok (x := "Bridge") (T.says.fact 106)
theorem Txt.m_Bridge (T : Txt K mg) : Mk K (He.ga K "Bridge") (He.ma K (He.ga K "Bridge") "__init__") := He.mkr_ok (x := "Bridge") (T.says.fact 107)
theorem Txt.n_Bridge_rank (T : Txt K mg) : NoAttr K (He.ga K "Bridge") "rank" := He.noat_ok (x := "Bridge") (f := "rank") (T.says.fact 108)
theorem Txt.n_Bridge_number (T : Txt K mg) : NoAttr K (He.ga K "Bridge") "number" := He.noat_ok (x := "Bridge") (f := "number") (T.says.fact 109)
theorem Txt.n_Bridge_is_on (T : Txt K mg) : NoAttr K (He.ga K "Bridge") "is_on" := He.noat_ok (x := "Bridge") (f := "is_on") (T.says.fact 110)
theorem Txt.n_Bridge_costs (T : Txt K mg) : NoAttr K (He.ga K "Bridge") "costs" := He.noat_ok (x := "Bridge") (f := "costs") (T.says.fact 111)
theorem Txt.n_Bridge_ranks (T : Txt K mg) : NoAttr K (He.ga K "Bridge") "ranks" := He.noat_ok (x := "Bridge") (f := "ranks") (T.says.fact 112)
theorem Txt.n_Bridge_cables (T : Txt K mg) : NoAttr K (He.ga K "Bridge") "cables" := He.noat_ok (x := "Bridge") (f := "cables") (T.says.fact 113)
theorem Txt.n_Bridge_hellos (T : Txt K mg) : NoAttr K (He.ga K "Bridge") "hellos" := He.noat_ok (x := "Bridge") (f := "hellos") (T.says.fact 114)
theorem Txt.n_Bridge_ages (T : Txt K mg) : NoAttr K (He.ga K "Bridge") "ages" := He.noat_ok (x := "Bridge") (f := "ages") (T.says.fact 115)
theorem Txt.n_Bridge_waits (T : Txt K mg) : NoAttr K (He.ga K "Bridge") "waits" := He.noat_ok (x := "Bridge") (f := "waits") (T.says.fact 116)
theorem Txt.n_Bridge_notices (T : Txt K mg) : NoAttr K (He.ga K "Bridge") "notices" := He.noat_ok (x := "Bridge") (f := "notices") (T.says.fact 117)
theorem Txt.n_Bridge_stations (T : Txt K mg) : NoAttr K (He.ga K "Bridge") "stations" := He.noat_ok (x := "Bridge") (f := "stations") (T.says.fact 118)
theorem Txt.g_Net (T : Txt K mg) : mg "Net" = some (.ref (He.ga K "Net")) := T.g "Net" 119
theorem Txt.c_Net (T : Txt K mg) : Cls K (He.ga K "Net") := He.cls_ok (x := "Net") (T.says.fact 120)
theorem Txt.m_Net (T : Txt K mg) : Mk K (He.ga K "Net") (He.ma K (He.ga K "Net") "__init__") := He.mkr_ok (x := "Net") (T.says.fact 121)
theorem Txt.n_Net_age (T : Txt K mg) : NoAttr K (He.ga K "Net") "age" := He.noat_ok (x := "Net") (f := "age") (T.says.fact 122)
theorem Txt.n_Net_wait (T : Txt K mg) : NoAttr K (He.ga K "Net") "wait" := He.noat_ok (x := "Net") (f := "wait") (T.says.fact 123)
theorem Txt.n_Net_keep (T : Txt K mg) : NoAttr K (He.ga K "Net") "keep" := He.noat_ok (x := "Net") (f := "keep") (T.says.fact 124)
theorem Txt.n_Net_room (T : Txt K mg) : NoAttr K (He.ga K "Net") "room" := He.noat_ok (x := "Net") (f := "room") (T.says.fact 125)
theorem Txt.n_Net_bridges (T : Txt K mg) : NoAttr K (He.ga K "Net") "bridges" := He.noat_ok (x := "Net") (f := "bridges") (T.says.fact 126)
theorem Txt.n_Net_quiet (T : Txt K mg) : NoAttr K (He.ga K "Net") "quiet" := He.noat_ok (x := "Net") (f := "quiet") (T.says.fact 127)
theorem Txt.g_Held (T : Txt K mg) : mg "Held" = some (.ref (He.ga K "Held")) := T.g "Held" 128
theorem Txt.c_Held (T : Txt K mg) : Cls K (He.ga K "Held") := He.cls_ok (x := "Held") (T.says.fact 129)
theorem Txt.m_Held (T : Txt K mg) : Mk K (He.ga K "Held") (He.ma K (He.ga K "Held") "__init__") := He.mkr_ok (x := "Held") (T.says.fact 130)
theorem Txt.n_Held_root (T : Txt K mg) : NoAttr K (He.ga K "Held") "root" := He.noat_ok (x := "Held") (f := "root") (T.says.fact 131)
theorem Txt.n_Held_cost (T : Txt K mg) : NoAttr K (He.ga K "Held") "cost" := He.noat_ok (x := "Held") (f := "cost") (T.says.fact 132)
theorem Txt.n_Held_place (T : Txt K mg) : NoAttr K (He.ga K "Held") "place" := He.noat_ok (x := "Held") (f := "place") (T.says.fact 133)
theorem Txt.n_Held_age (T : Txt K mg) : NoAttr K (He.ga K "Held") "age" := He.noat_ok (x := "Held") (f := "age") (T.says.fact 134)
theorem Txt.g_Beginning (T : Txt K mg) : mg "Beginning" = some (.ref (He.ga K "Beginning")) := T.g "Beginning" 135
theorem Txt.c_Beginning (T : Txt K mg) : Cls K (He.ga K "Beginning") := He.cls_ok (x := "Beginning") (T.says.fact 136)
theorem Txt.m_Beginning (T : Txt K mg) : Mk K (He.ga K "Beginning") (He.ma K (He.ga K "Beginning") "__init__") := He.mkr_ok (x := "Beginning") (T.says.fact 137)
theorem Txt.n_Beginning_roles (T : Txt K mg) : NoAttr K (He.ga K "Beginning") "roles" := He.noat_ok (x := "Beginning") (f := "roles") (T.says.fact 138)
theorem Txt.n_Beginning_heard (T : Txt K mg) : NoAttr K (He.ga K "Beginning") "heard" := He.noat_ok (x := "Beginning") (f := "heard") (T.says.fact 139)
theorem Txt.n_Beginning_given (T : Txt K mg) : NoAttr K (He.ga K "Beginning") "given" := He.noat_ok (x := "Beginning") (f := "given") (T.says.fact 140)
theorem Txt.g_Session (T : Txt K mg) : mg "Session" = some (.ref (He.ga K "Session")) := T.g "Session" 141
theorem Txt.c_Session (T : Txt K mg) : Cls K (He.ga K "Session") := He.cls_ok (x := "Session") (T.says.fact 142)
theorem Txt.m_Session (T : Txt K mg) : Mk K (He.ga K "Session") (He.ma K (He.ga K "Session") "__init__") := He.mkr_ok (x := "Session") (T.says.fact 143)
theorem Txt.n_Session_net (T : Txt K mg) : NoAttr K (He.ga K "Session") "net" := He.noat_ok (x := "Session") (f := "net") (T.says.fact 144)
theorem Txt.g_Plain (T : Txt K mg) : mg "Plain" = some (.ref (He.ga K "Plain")) := T.g "Plain" 145
theorem Txt.c_Plain (T : Txt K mg) : Cls K (He.ga K "Plain") := He.cls_ok (x := "Plain") (T.says.fact 146)
theorem Txt.m_Plain (T : Txt K mg) : Mk K (He.ga K "Plain") (He.ma K (He.ga K "Plain") "__init__") := He.mkr_ok (x := "Plain") (T.says.fact 147)
theorem Txt.n_Plain_costs (T : Txt K mg) : NoAttr K (He.ga K "Plain") "costs" := He.noat_ok (x := "Plain") (f := "costs") (T.says.fact 148)
theorem Txt.n_Plain_root_places (T : Txt K mg) : NoAttr K (He.ga K "Plain") "root_places" := He.noat_ok (x := "Plain") (f := "root_places") (T.says.fact 149)
theorem Txt.t_BRIDGE (T : Txt K mg) (H : Hp) : SqT K H (He.ga K "BRIDGE") [.int (0), .int (31)] := He.tupB_ok (x := "BRIDGE") (vs := [.int (0), .int (31)]) (He.ba T.tups).1 H
theorem Txt.t_PORT (T : Txt K mg) (H : Hp) : SqT K H (He.ga K "PORT") [.int (0), .int (15)] := He.tupB_ok (x := "PORT") (vs := [.int (0), .int (15)]) (He.ba (He.ba T.tups).2).1 H
theorem Txt.t_RANK (T : Txt K mg) (H : Hp) : SqT K H (He.ga K "RANK") [.int (0), .int (65535)] := He.tupB_ok (x := "RANK") (vs := [.int (0), .int (65535)]) (He.ba (He.ba (He.ba T.tups).2).2).1 H
theorem Txt.t_PORT_RANK (T : Txt K mg) (H : Hp) : SqT K H (He.ga K "PORT_RANK") [.int (0), .int (255)] := He.tupB_ok (x := "PORT_RANK") (vs := [.int (0), .int (255)]) (He.ba (He.ba (He.ba (He.ba T.tups).2).2).2).1 H
theorem Txt.t_COST (T : Txt K mg) (H : Hp) : SqT K H (He.ga K "COST") [.int (1), .int (1000000000)] := He.tupB_ok (x := "COST") (vs := [.int (1), .int (1000000000)]) (He.ba (He.ba (He.ba (He.ba (He.ba T.tups).2).2).2).2).1 H
theorem Txt.t_ROUNDS (T : Txt K mg) (H : Hp) : SqT K H (He.ga K "ROUNDS") [.int (1), .int (1000)] := He.tupB_ok (x := "ROUNDS") (vs := [.int (1), .int (1000)]) (He.ba (He.ba (He.ba (He.ba (He.ba (He.ba T.tups).2).2).2).2).2).1 H
theorem Txt.t_BRIDGE_NUMBER (T : Txt K mg) (H : Hp) : SqT K H (He.ga K "BRIDGE_NUMBER") [.int (0), .int (281474976710655)] := He.tupB_ok (x := "BRIDGE_NUMBER") (vs := [.int (0), .int (281474976710655)]) (He.ba (He.ba (He.ba (He.ba (He.ba (He.ba (He.ba T.tups).2).2).2).2).2).2).1 H
theorem Txt.t_STATION (T : Txt K mg) (H : Hp) : SqT K H (He.ga K "STATION") [.int (0), .int (281474976710654)] := He.tupB_ok (x := "STATION") (vs := [.int (0), .int (281474976710654)]) (He.ba (He.ba (He.ba (He.ba (He.ba (He.ba (He.ba (He.ba T.tups).2).2).2).2).2).2).2).1 H
theorem Txt.t_STATION_OR_EVERYBODY (T : Txt K mg) (H : Hp) : SqT K H (He.ga K "STATION_OR_EVERYBODY") [.int (0), .int (281474976710655)] := He.tupB_ok (x := "STATION_OR_EVERYBODY") (vs := [.int (0), .int (281474976710655)]) (He.ba (He.ba (He.ba (He.ba (He.ba (He.ba (He.ba (He.ba (He.ba T.tups).2).2).2).2).2).2).2).2).1 H
theorem Txt.t_COUNTS (T : Txt K mg) (H : Hp) : SqT K H (He.ga K "COUNTS") [.int (4), .int (2), .int (4), .int (2), .int (1), .int (1), .int (2), .int (3), .int (3), .int (1), .int (2), .int (1), .int (0), .int (0), .int (4), .int (1), .int (2), .int (0)] := He.tupB_ok (x := "COUNTS") (vs := [.int (4), .int (2), .int (4), .int (2), .int (1), .int (1), .int (2), .int (3), .int (3), .int (1), .int (2), .int (1), .int (0), .int (0), .int (4), .int (1), .int (2), .int (0)]) (He.ba (He.ba (He.ba (He.ba (He.ba (He.ba (He.ba (He.ba (He.ba T.tups).2).2).2).2).2).2).2).2).2 H
/-- a class of the module: what its __init__ keeps -/
structure DoesC (P : Program) (w : World) (K : PySem.W.Frag) (mg : Str → Option Value) (base : Heap) (k : Nat) (x : Str) (ps : List Str) (sp : Sp) : Prop where
  ex : ∃ fd, FnOk P w K mg base CX0 k (He.ma K (He.ga K x) "__init__") fd ps sp ∧ Binds K fd ps []
theorem doesC_of {d : He.DefD} {x : Str} {N ps : List Str} {k : Nat} {sp : Sp} (T : Txt K mg) (i : Nat) (hd : fn[i]? = some d) (hat : d.at_ = (x, some ("__init__" : Str))) (hdf : d.dfl = []) (hkw : d.kwd = []) (hm : Mk K (He.ga K x) (He.ma K (He.ga K x) "__init__")) (S : FnScope N ps d.scope)
    (hbind : ∀ (kV doc pm : Value) (an : Option Addr) (cdv ct : Value) (us : List Value), us.length = ps.length → bindArgs (PySem.W.fnOf d.name d.qual d.params d.body d.scope .none kV doc pm an cdv ct) ⟨us, []⟩ = pure (ps.zip us))
    (len : ∀ vs H Q E, sp vs H Q E → vs.length = ps.length)
    (body : ∀ (cdv : Value) (A : Around) (outer : List Env) (s : Shared) (H : Hp) (vs : List V) (Q : VK) (E : XK), Room k (A.deeper (envOfC d.qual d.scope s.heap.objs.size (He.ma K (He.ga K x) "__init__") cdv)) → sp vs H Q E →
      ∃ t, PSs (cxOf CX0 P w K mg base N d.qual d.scope (He.ma K (He.ga K x) "__init__") cdv A outer s H E).nox d.body t ∧ t { nx := fun _ H' => Q .non H', rt := Q } (start N vs) H) : DoesC P w K mg base (k + 1) x ps sp := by
  obtain ⟨fd, F⟩ := T.says.def_ i hd
  have e0 : He.fAd K d.at_ = He.ma K (He.ga K x) "__init__" := by rw [hat] <;> rfl
  have e1 : d.dvs K = [] := by
    unfold He.DefD.dvs
    rw [hdf] <;> rfl
  have e2 : d.kws K = [] := by
    unfold He.DefD.kws
    rw [hkw] <;> rfl
  rw [e0, e1] at F
  refine ⟨⟨fd, FunD.ok F S len fun cdv A outer s H vs Q E hr h => ?_, F.bindsN hbind⟩⟩
  obtain ⟨t, h1, h2⟩ := body cdv A outer s H vs Q E hr h
  exact ⟨t, h1.nox, h2⟩
theorem hu64 {A : Around} {k : Nat} (hr : Room k A) : A.units + 64 < cLine := by
  have := hr.un
  omega
section
variable {X : Cx} {x : Str} {p pos : Pos} {e : Expr} {es : List Expr} {t : TA} {k : Nat} {ps : List Str} {sp : Sp}
/-- a call of such a def -/
theorem pe_f (D : Does X.prog X.w X.K X.mg X.base k x ps sp) (hr : Room k X.A) (hg : Gl X x) (ha : PA X (e :: es) t) (hdb : (x == ("__debug__" : Str)) = false := by decide)
    (he : starEach (e :: es) X.env = (false, eval e X.env) :: starEach es X.env := by rfl) (hpl : (backTo pos (starEach es X.env)).any (·.1) = false := by rfl) : PE X (.Call (.Name x p) (e :: es) [] pos) (tCall sp [] E0 t) := by
  obtain ⟨fd, F, b, _⟩ := D.ex
  exact pe_call F hr hg D.gl D.kp b .nil pass0 ha hdb he hpl
/-- a new object of such a class -/
theorem pe_c {C : Addr} {f : Addr} (M : Mk X.K C f) (hm : X.mg x = some (.ref C)) (D : ∃ fd, FnOk X.prog X.w X.K X.mg X.base CX0 k f fd ps sp ∧ Binds X.K fd ps []) (hr : Room (k + 1) X.A) (hg : Gl X x) (ha : PA X (e :: es) t) (hdb : (x == ("__debug__" : Str)) = false := by decide)
    (he : starEach (e :: es) X.env = (false, eval e X.env) :: starEach es X.env := by rfl) (hpl : (backTo pos (starEach es X.env)).any (·.1) = false := by rfl) : PE X (.Call (.Name x p) (e :: es) [] pos) (tMake C sp [] E0 t) := by
  obtain ⟨fd, F, b⟩ := D
  exact pe_make M F hr hg hm b .nil pass0 ha hdb he hpl
theorem pe_c0 {C : Addr} {f : Addr} (M : Mk X.K C f) (hm : X.mg x = some (.ref C)) (D : ∃ fd, FnOk X.prog X.w X.K X.mg X.base CX0 k f fd ps sp ∧ Binds X.K fd ps []) (hr : Room (k + 1) X.A) (hg : Gl X x) (hdb : (x == ("__debug__" : Str)) = false := by decide) : PE X (.Call (.Name x p) [] [] pos) (tMake C sp [] E0 tNil) := by
  obtain ⟨fd, F, b⟩ := D
  exact pe_make0 M F hr hg hm b .nil pass0 hdb
/-! the same rules with the written part named (within comprehensions) -/
theorem pe_fldK {K : PySem.W.Frag} (hK : X.K = K) {o : Expr} {f : Str} {ta : TE} (he : PE X o ta) (hb : attributeBase o f X.env (eval o X.env) = eval o X.env) : PE X (.Attribute o f pos) (tFld K ta f) := by
  subst hK
  exact pe_fld he hb
theorem ix_tupK {K : PySem.W.Frag} (hK : X.K = K) : IxR X (rIxT K) := by
  subst hK
  exact ix_tup
theorem ix_listK {K : PySem.W.Frag} (hK : X.K = K) : IxR X (rIxL K) := by
  subst hK
  exact ix_list
theorem op_catK {K : PySem.W.Frag} (hK : X.K = K) : OpR X (binaryOp .Add) (rCatT K) := by
  subst hK
  exact op_catT
/-- a number of the module -/
theorem pe_gi {i : Int} (hm : ∃ t, X.mg x = some (.int i t)) (hg : Gl X x) (hd : (x == ("__debug__" : Str)) = false := by decide) : PE X (.Name x pos) (tC (.int i)) := by
  obtain ⟨t, h⟩ := hm
  exact pe_glob hg h ⟨t, rfl⟩ hd
/-- an object of the module -/
theorem pe_gr {a : Addr} (hm : X.mg x = some (.ref a)) (hg : Gl X x) (hd : (x == ("__debug__" : Str)) = false := by decide) : PE X (.Name x pos) (tC (.ref a)) := pe_glob hg hm rfl hd
end
end
end Sw
/-! ### t >= u of two tuples of numbers -/
namespace Sw
open PySem PySem.Spec PyProof.Rows L2
theorem vals_at : ∀ {its : List Value} {ns : List Int}, IntsAre its ns → ∀ j, j < its.toArray.size → ∃ t, its.toArray[j]? = some (.int (ns.getD j 0) t)
  | _, _, .nil, j, h => by simp at h
  | _, _, .cons n t r, 0, _ => ⟨t, by simp⟩
  | _, _, .cons n t r, j + 1, h => by
    obtain ⟨u, e⟩ := vals_at r j (by simpa using h)
    exact ⟨u, by simpa using e⟩
def geI (ns ms : List Int) : Bool := Ob.lexAt (fun j => decide (ns.getD j 0 = ms.getD j 0)) (fun j => decide (ms.getD j 0 ≤ ns.getD j 0)) (decide (ns.length ≥ ms.length)) 0 (min ns.length ms.length)
def rGeT (K : PySem.W.Frag) : R2 := fun x y H Q => ∃ (a b : Addr) (ns ms : List Int), x = .ref a ∧ y = .ref b ∧ SqT K H a (ns.map V.int) ∧ SqT K H b (ms.map V.int) ∧ Q (.bl (geI ns ms)) H
theorem op_geT {X : Cx} (hu : X.A.units < cLine) : OpR X (compareOp .GtE) (rGeT X.K) := by
  intro pins s σ H x y v u Q I rx ry h
  obtain ⟨a, b, ns, ms, hx, hy, ha, hb, q⟩ := h
  subst hx hy
  cases rx
  cases ry
  obtain ⟨us, r1, p1, _⟩ := I.tuple ha
  obtain ⟨zs, r2, p2, _⟩ := I.tuple hb
  have i1 : IntsAre us ns := Vals.ints r1
  have i2 : IntsAre zs ms := Vals.ints r2
  have e1 : us.toArray.size = ns.length := by
    rw [List.size_toArray]
    exact i1.length
  have e2 : zs.toArray.size = ms.length := by
    rw [List.size_toArray]
    exact i2.length
  have at1 : ∀ j (hj : j < us.toArray.size), ∃ t, us.toArray[j] = .int (ns.getD j 0) t := fun j hj => by
    obtain ⟨t, e⟩ := vals_at i1 j hj
    exact ⟨t, (Array.getElem?_eq_some_iff.mp e).2⟩
  have at2 : ∀ j (hj : j < zs.toArray.size), ∃ t, zs.toArray[j] = .int (ms.getD j 0) t := fun j hj => by
    obtain ⟨t, e⟩ := vals_at i2 j hj
    exact ⟨t, (Array.getElem?_eq_some_iff.mp e).2⟩
  have key := Ob.RcOp.tuples_ge (A := X.A) (s := s) (e := fun j => decide (ns.getD j 0 = ms.getD j 0)) (r := fun j => decide (ms.getD j 0 ≤ ns.getD j 0)) p1 p2 hu
    (fun j hj hk => by
      obtain ⟨t, et⟩ := at1 j hj
      obtain ⟨t', et'⟩ := at2 j hk
      rw [et, et']
      have z : decide (ns.getD j 0 = ms.getD j 0) = (ns.getD j 0 == ms.getD j 0) := by
        by_cases q : ns.getD j 0 = ms.getD j 0
        · rw [decide_eq_true q, beq_iff_eq.mpr q]
        · rw [decide_eq_false q, beq_eq_false_iff_ne.mpr q]
      rw [z]
      exact SeqAt.EqAt.int_int _ _ _ _)
    (fun j hj hk _ => by
      obtain ⟨t, et⟩ := at1 j hj
      obtain ⟨t', et'⟩ := at2 j hk
      rw [et, et']
      exact Ob.RcOp.ge_int _ _ _ _)
  rw [e1, e2] at key
  exact key X.prog X.w X.xe (EP X pins σ Q) ⟨.bl _, H, I, rfl, q⟩
end Sw
namespace Sw
open PySem PySem.Spec PyProof.Rows L2
/-! ### how the state lies in the heap -/
/-- a bridge's fields -/
def bF (x : Vbcnac.Bridge) (l : Nat → Addr) (st : Addr) : List (Str × V) := [("rank", .int x.rank), ("number", .int x.number), ("is_on", .bl x.on), ("costs", .ref (l 0)), ("ranks", .ref (l 1)), ("cables", .ref (l 2)), ("hellos", .ref (l 3)), ("ages", .ref (l 4)), ("waits", .ref (l 5)), ("notices", .ref (l 6)), ("stations", .ref st)]
/-- the net's fields -/
def nF (s : Vbcnac.State) (bl : Addr) : List (Str × V) := [("age", .int s.age), ("wait", .int s.wait), ("keep", .int s.keep), ("room", .int s.room), ("bridges", .ref bl), ("quiet", .int s.quiet)]
section
variable (x : Vbcnac.Bridge) (l : Nat → Addr) (st : Addr)
theorem bF_rank : (bF x l st).lookup ("rank" : Str) = some (.int x.rank) := by rfl
theorem bF_number : (bF x l st).lookup ("number" : Str) = some (.int x.number) := by rfl
theorem bF_on : (bF x l st).lookup ("is_on" : Str) = some (.bl x.on) := by rfl
theorem bF_costs : (bF x l st).lookup ("costs" : Str) = some (.ref (l 0)) := by rfl
theorem bF_ranks : (bF x l st).lookup ("ranks" : Str) = some (.ref (l 1)) := by rfl
theorem bF_cables : (bF x l st).lookup ("cables" : Str) = some (.ref (l 2)) := by rfl
theorem bF_hellos : (bF x l st).lookup ("hellos" : Str) = some (.ref (l 3)) := by rfl
theorem bF_ages : (bF x l st).lookup ("ages" : Str) = some (.ref (l 4)) := by rfl
theorem bF_waits : (bF x l st).lookup ("waits" : Str) = some (.ref (l 5)) := by rfl
theorem bF_notices : (bF x l st).lookup ("notices" : Str) = some (.ref (l 6)) := by rfl
theorem bF_stations : (bF x l st).lookup ("stations" : Str) = some (.ref st) := by rfl
end
section
variable (s : Vbcnac.State) (bl : Addr)
theorem nF_age : (nF s bl).lookup ("age" : Str) = some (.int s.age) := by rfl
theorem nF_wait : (nF s bl).lookup ("wait" : Str) = some (.int s.wait) := by rfl
theorem nF_keep : (nF s bl).lookup ("keep" : Str) = some (.int s.keep) := by rfl
theorem nF_room : (nF s bl).lookup ("room" : Str) = some (.int s.room) := by rfl
theorem nF_bridges : (nF s bl).lookup ("bridges" : Str) = some (.ref bl) := by rfl
theorem nF_quiet : (nF s bl).lookup ("quiet" : Str) = some (.int s.quiet) := by rfl
end

section
variable (x : Vbcnac.Bridge) (l : Nat → Addr) (st p : Addr) (s : Vbcnac.State) (bl : Addr)
/-- list k stands elsewhere -/
def setA (l : Nat → Addr) (k : Nat) (p : Addr) : Nat → Addr := fun j => if j = k then p else l j
theorem setA_same {k : Nat} {l : Nat → Addr} {p : Addr} : setA l k p k = p := if_pos rfl
theorem setA_ne {k j : Nat} {l : Nat → Addr} {p : Addr} (h : j ≠ k) : setA l k p j = l j := if_neg h
theorem pF_rank (r : Nat) : putF "rank" (.int r) (bF x l st) = bF { x with rank := r } l st := by rfl
theorem pF_on (b : Bool) : putF "is_on" (.bl b) (bF x l st) = bF { x with on := b } l st := by rfl
theorem pF_hellos : putF "hellos" (.ref p) (bF x l st) = bF x (setA l 3 p) st := by rfl
theorem pF_ages : putF "ages" (.ref p) (bF x l st) = bF x (setA l 4 p) st := by rfl
theorem pF_waits : putF "waits" (.ref p) (bF x l st) = bF x (setA l 5 p) st := by rfl
theorem pF_notices : putF "notices" (.ref p) (bF x l st) = bF x (setA l 6 p) st := by rfl
theorem pF_stations : putF "stations" (.ref p) (bF x l st) = bF x l p := by rfl
theorem pF_quiet (n : Nat) : putF "quiet" (.int n) (nF s bl) = nF { s with quiet := n } bl := by rfl
end
/-! ### values -/
/-- the port at a cable's other end -/
def Cab (H : Hp) (v : V) : Option (Nat × Nat) → Prop
  | none => v = .non
  | some x => ∃ a, v = .ref a ∧ H a = some (.tup [.int x.1, .int x.2])
/-- seven numbers -/
def told (t : Vbcnac.Told) : List V := t.key.map fun n : Nat => V.int n
/-- a stored hello -/
def Hel (H : Hp) (v : V) : Option Vbcnac.Heard → Prop
  | none => v = .non
  | some h => ∃ a, v = .ref a ∧ H a = some (.tup (told h.told))
/-- what stands in list k at a port's place: cost, rank, cable, hello, age, wait, notice -/
def PV (H : Hp) (k : Nat) (v : V) (p : Vbcnac.Port) : Prop := match k with
  | 0 => v = .int p.cost
  | 1 => v = .int p.rank
  | 2 => Cab H v p.peer
  | 3 => Hel H v p.heard
  | 4 => ∃ z : Int, v = .int z ∧ ∀ h, p.heard = some h → z = h.age
  | 5 => v = .int p.wait
  | _ => v = .bl p.notice
def isT : HO → Bool
  | .tup _ => true
  | _ => false
/-- the tuples of a heap stand in another -/
def Tup (H H' : Hp) : Prop := ∀ b xs, H b = some (.tup xs) → H' b = some (.tup xs)
theorem Tup.of_same {H H' : Hp} (e : Same H H') : Tup H H' := fun b xs h => e b _ h
theorem Cab.mono {H H' : Hp} (e : Tup H H') {v : V} {o : Option (Nat × Nat)} (h : Cab H v o) : Cab H' v o := by
  cases o with
  | none => exact h
  | some x =>
    obtain ⟨a, e1, e2⟩ := h
    exact ⟨a, e1, e _ _ e2⟩
theorem Hel.mono {H H' : Hp} (e : Tup H H') {v : V} {o : Option Vbcnac.Heard} (h : Hel H v o) : Hel H' v o := by
  cases o with
  | none => exact h
  | some x =>
    obtain ⟨a, e1, e2⟩ := h
    exact ⟨a, e1, e _ _ e2⟩
theorem PV.mono {H H' : Hp} (e : Tup H H') {k : Nat} {v : V} {p : Vbcnac.Port} (h : PV H k v p) : PV H' k v p := by
  match k with
  | 0 => exact h
  | 1 => exact h
  | 2 => exact Cab.mono e h
  | 3 => exact Hel.mono e h
  | 4 => exact h
  | 5 => exact h
  | _ + 6 => exact h
/-- one of the stations -/
def Ent (H : Hp) (kv : Key × V) (x : Vbcnac.Station) : Prop := kv.1 = .inl (x.number : Int) ∧ ∃ a, kv.2 = .ref a ∧ H a = some (.tup [.int x.port, .int x.age])
/-- the stations: in some order -/
def Sta (H : Hp) (kvs : List (Key × V)) (l : List Vbcnac.Station) : Prop := ∃ m : List Vbcnac.Station, m.Perm l ∧ Paired (Ent H) kvs m
theorem Ent.mono {H H' : Hp} (e : Tup H H') {kv : Key × V} {x : Vbcnac.Station} (h : Ent H kv x) : Ent H' kv x := by
  obtain ⟨h1, a, h2, h3⟩ := h
  exact ⟨h1, a, h2, e _ _ h3⟩
theorem Paired.imp {α β : Type} {R S : α → β → Prop} (h : ∀ a b, R a b → S a b) : ∀ {xs : List α} {ys : List β}, Paired R xs ys → Paired S xs ys
  | _, _, .nil => .nil
  | _, _, .cons r t => .cons (h _ _ r) (Paired.imp h t)
theorem Sta.mono {H H' : Hp} (e : Tup H H') {kvs : List (Key × V)} {l : List Vbcnac.Station} (h : Sta H kvs l) : Sta H' kvs l := by
  obtain ⟨m, p, q⟩ := h
  exact ⟨m, p, Paired.imp (fun _ _ => Ent.mono e) q⟩
/-! ### a bridge, the net -/
structure BrAt (K : PySem.W.Frag) (ow : Addr → Nat) (H : Hp) (i : Nat) (a : Addr) (x : Vbcnac.Bridge) (dx : Addr) (l : Nat → Addr) (st : Addr) (vs : Nat → List V) (kvs : List (Key × V)) : Prop where
  self : H a = some (.ins (He.ga K "Bridge") dx (bF x l st))
  oa : ow a = 16 * i + 16
  lst : ∀ k, k < 7 → H (l k) = some (.lst (vs k))
  ol : ∀ k, k < 7 → ow (l k) = 16 * i + 17 + k
  len : ∀ k, k < 7 → (vs k).length = x.ports.length
  val : ∀ k, k < 7 → ∀ p v, (vs k)[p]? = some v → PV H k v (x.ports.getD p {})
  dct : H st = some (.dK kvs)
  os : ow st = 16 * i + 24
  sta : Sta H kvs x.stations
structure NetAt (K : PySem.W.Frag) (ow : Addr → Nat) (as : List Addr) (H : Hp) (n : Addr) (s : Vbcnac.State) : Prop where
  ex : ∃ dx bl, H n = some (.ins (He.ga K "Net") dx (nF s bl)) ∧ H bl = some (.lst (as.map V.ref)) ∧ ow n = 1 ∧ ow bl = 2
  len : as.length = s.bridges.length
  br : ∀ i a, as[i]? = some a → ∃ dx l st vs kvs, BrAt K ow H i a (Vbcnac.bridgeAt s i) dx l st vs kvs
  fp : ∀ b, ow b ≠ 0 → ∃ o, H b = some o ∧ isT o = false
section
variable {K : PySem.W.Frag} {ow ow' : Addr → Nat} {as : List Addr} {H H' : Hp} {n a : Addr} {s : Vbcnac.State} {i : Nat} {x x' : Vbcnac.Bridge} {dx : Addr} {l : Nat → Addr} {st : Addr} {vs : Nat → List V} {kvs : List (Key × V)}
/-- what's owned stands, and tuples -/
theorem BrAt.keep (B : BrAt K ow H i a x dx l st vs kvs) (h : ∀ b o, H b = some o → (ow b / 16 = i + 1 ∨ isT o = true) → H' b = some o) (hw : ∀ b, ow b / 16 = i + 1 → ow' b = ow b) : BrAt K ow' H' i a x dx l st vs kvs := by
  have t : Tup H H' := fun b xs e => h b _ e (.inr rfl)
  have d0 : ∀ k, k < 7 → ow (l k) / 16 = i + 1 := fun k hk => by rw [B.ol k hk]; omega
  have d1 : ow a / 16 = i + 1 := by rw [B.oa]; omega
  have d2 : ow st / 16 = i + 1 := by rw [B.os]; omega
  exact ⟨h _ _ B.self (.inl d1), by rw [hw _ d1]; exact B.oa, fun k hk => h _ _ (B.lst k hk) (.inl (d0 k hk)), fun k hk => by rw [hw _ (d0 k hk)]; exact B.ol k hk, B.len, fun k hk p v e => PV.mono t (B.val k hk p v e), h _ _ B.dct (.inl d2), by rw [hw _ d2]; exact B.os, Sta.mono t B.sta⟩
theorem NetAt.keep (N : NetAt K ow as H n s) (h : ∀ b o, H b = some o → (ow b ≠ 0 ∨ isT o = true) → H' b = some o) : NetAt K ow as H' n s := by
  obtain ⟨dx, bl, h1, h2, h3, h4⟩ := N.ex
  refine ⟨⟨dx, bl, h _ _ h1 (.inl (by rw [h3]; decide)), h _ _ h2 (.inl (by rw [h4]; decide)), h3, h4⟩, N.len, fun i a e => ?_, fun b hb => ?_⟩
  · obtain ⟨dx, l, st, vs, kvs, B⟩ := N.br i a e
    exact ⟨dx, l, st, vs, kvs, B.keep (fun b o e q => h b o e (q.imp (fun z => by omega) id)) fun _ _ => rfl⟩
  · obtain ⟨o, e1, e2⟩ := N.fp b hb
    exact ⟨o, h b o e1 (.inl hb), e2⟩
theorem NetAt.same (N : NetAt K ow as H n s) (e : Same H H') : NetAt K ow as H' n s := N.keep fun b o h _ => e b o h
theorem NetAt.tup (N : NetAt K ow as H n s) {b : Addr} {xs : List V} (h : H b = some (.tup xs)) : ow b = 0 := by
  apply Decidable.byContradiction
  intro q
  obtain ⟨o, e1, e2⟩ := N.fp b q
  rw [h] at e1
  cases e1
  cases e2
theorem NetAt.new (N : NetAt K ow as H n s) {b : Addr} (h : H b = none) : ow b = 0 := by
  apply Decidable.byContradiction
  intro q
  obtain ⟨o, e1, e2⟩ := N.fp b q
  rw [h] at e1
  cases e1
/-- what is not the net's stands -/
def Frm (ow : Addr → Nat) (H H' : Hp) : Prop := ∀ b o, H b = some o → ow b = 0 → H' b = some o
/-- the net owns what it owned, and new things -/
def Grow (H : Hp) (ow ow' : Addr → Nat) : Prop := ∀ b, ow' b ≠ 0 → ow b ≠ 0 ∨ H b = none
theorem Frm.refl (ow : Addr → Nat) (H : Hp) : Frm ow H H := fun _ _ e _ => e
theorem Grow.refl (H : Hp) (ow : Addr → Nat) : Grow H ow ow := fun _ e => .inl e
theorem Frm.trans {ow ow' : Addr → Nat} {H H1 H2 : Hp} (a : Frm ow H H1) (g : Grow H ow ow') (b : Frm ow' H1 H2) : Frm ow H H2 := fun c o e z => by
  refine b c o (a c o e z) ?_
  apply Decidable.byContradiction
  intro q
  rcases g c q with h | h
  · exact h z
  · rw [h] at e
    cases e
theorem Grow.trans {ow ow' ow2 : Addr → Nat} {H H1 : Hp} (a : Frm ow H H1) (g : Grow H ow ow') (k : Grow H1 ow' ow2) : Grow H ow ow2 := fun c e => by
  rcases k c e with h | h
  · exact g c h
  · by_cases z : ow c = 0
    · right
      cases q : H c with
      | none => rfl
      | some o =>
        rw [a c o q z] at h
        cases h
    · exact .inl z
theorem NetAt.tups (N : NetAt K ow as H n s) (a : Frm ow H H') : Tup H H' := fun b xs e => a b _ e (N.tup e)
theorem NetAt.lt (N : NetAt K ow as H n s) (e : as[i]? = some a) : i < s.bridges.length := by
  rw [← N.len]
  exact (List.getElem?_eq_some_iff.mp e).1
theorem NetAt.addr (N : NetAt K ow as H n s) (h : i < s.bridges.length) : ∃ a, as[i]? = some a := by
  rw [← N.len] at h
  exact ⟨_, List.getElem?_eq_getElem h⟩
/-! ### one bridge changed -/
theorem NetAt.put (N : NetAt K ow as H n s) (e : as[i]? = some a) (B : BrAt K ow' H' i a x' dx l st vs kvs) (h1 : ∀ b o, H b = some o → ow b / 16 ≠ i + 1 → H' b = some o) (h2 : ∀ b, ow b / 16 ≠ i + 1 → ow b ≠ 0 → ow' b = ow b)
    (h3 : ∀ b, ow' b ≠ 0 → ∃ o, H' b = some o ∧ isT o = false) : NetAt K ow' as H' n (Vbcnac.setBridge s i x') := by
  obtain ⟨dn, bl, k1, k2, k3, k4⟩ := N.ex
  have hi := N.lt e
  have f1 : ow n / 16 ≠ i + 1 := by rw [k3]; omega
  have f2 : ow bl / 16 ≠ i + 1 := by rw [k4]; omega
  refine ⟨⟨dn, bl, h1 _ _ k1 f1, h1 _ _ k2 f2, by rw [h2 _ f1 (by rw [k3]; decide)]; exact k3, by rw [h2 _ f2 (by rw [k4]; decide)]; exact k4⟩, by rw [len_set]; exact N.len, fun j b hj => ?_, h3⟩
  by_cases q : j = i
  · subst q
    rw [e] at hj
    cases hj
    rw [bridgeAt_same hi]
    exact ⟨dx, l, st, vs, kvs, B⟩
  · rw [bridgeAt_ne q]
    obtain ⟨dx, l, st, vs, kvs, C⟩ := N.br j b hj
    refine ⟨dx, l, st, vs, kvs, C.keep (fun c o k z => ?_) fun c z => h2 c (by omega) (by omega)⟩
    rcases z with z | z
    · exact h1 c o k (by omega)
    · cases o with
      | tup xs =>
        refine h1 c _ k ?_
        rw [N.tup k]
        omega
      | _ => cases z
theorem BrAt.la (B : BrAt K ow H i a x dx l st vs kvs) {k : Nat} (hk : k < 7) : l k ≠ a := ne_of (B.lst k hk) B.self (by intro z; cases z)
theorem BrAt.ls (B : BrAt K ow H i a x dx l st vs kvs) {k : Nat} (hk : k < 7) : l k ≠ st := ne_of (B.lst k hk) B.dct (by intro z; cases z)
theorem BrAt.sa (B : BrAt K ow H i a x dx l st vs kvs) : st ≠ a := ne_of B.dct B.self (by intro z; cases z)
theorem BrAt.ll (B : BrAt K ow H i a x dx l st vs kvs) {j k : Nat} (hj : j < 7) (hk : k < 7) (h : j ≠ k) : l j ≠ l k := fun e => by
  have h1 := B.ol j hj
  rw [e, B.ol k hk] at h1
  omega
theorem tup_upd {H : Hp} {p : Addr} {o u : HO} (h : H p = some o) (ho : isT o = false) : Tup H (upd H p u) := fun b xs e => by
  have q : b ≠ p := fun z => by
    rw [z, h] at e
    cases e
    cases ho
  rw [upd_ne q]
  exact e
theorem tup_new {H : Hp} {p : Addr} {u : HO} (h : H p = none) : Tup H (upd H p u) := fun b xs e => by
  rw [upd_ne (ne_of_none e h)]
  exact e
/-- a place of a list stored to -/
theorem BrAt.setL (B : BrAt K ow H i a x dx l st vs kvs) {k p : Nat} {v : V} {P' : Vbcnac.Port} (hk : k < 7) (hv : PV H k v P') (ho : ∀ k', k' < 7 → k' ≠ k → ∀ v', PV H k' v' (x.ports.getD p {}) → PV H k' v' P') :
    BrAt K ow (upd H (l k) (.lst ((vs k).set p v))) i a { x with ports := x.ports.set p P' } dx l st (fun j => if j = k then (vs k).set p v else vs j) kvs := by
  have t : Tup H (upd H (l k) (.lst ((vs k).set p v))) := tup_upd (B.lst k hk) rfl
  refine ⟨by rw [upd_ne (B.la hk).symm]; exact B.self, B.oa, fun j hj => ?_, B.ol, fun j hj => ?_, fun j hj q u e => ?_, by rw [upd_ne (B.ls hk).symm]; exact B.dct, B.os, Sta.mono t B.sta⟩
  · by_cases e : j = k
    · subst e
      rw [if_pos rfl]
      exact upd_same
    · rw [if_neg e, upd_ne (B.ll hj hk e)]
      exact B.lst j hj
  · show _ = (x.ports.set p P').length
    rw [List.length_set]
    split
    · rename_i e
      rw [List.length_set]
      exact B.len k hk
    · exact B.len j hj
  · show PV _ j u ((x.ports.set p P').getD q {})
    rw [getD_set]
    refine PV.mono t ?_
    by_cases e1 : j = k
    · subst e1
      rw [if_pos rfl, List.getElem?_set] at e
      by_cases e2 : p = q
      · subst e2
        by_cases e3 : p < (vs j).length
        · rw [if_pos rfl, if_pos e3] at e
          rw [if_pos ⟨rfl, by rw [← B.len j hj]; exact e3⟩, ← Option.some.inj e]
          exact hv
        · rw [if_pos rfl, if_neg e3] at e
          cases e
      · rw [if_neg e2] at e
        rw [if_neg fun z => e2 z.1.symm]
        exact B.val j hj q u e
    · rw [if_neg e1] at e
      split
      · rename_i z
        have := B.val j hj q u e
        rw [z.1] at this
        exact ho j hj e1 u this
      · exact B.val j hj q u e
/-- list k of a bridge, its value at a place -/
theorem BrAt.get (B : BrAt K ow H i a x dx l st vs kvs) {k p : Nat} (hk : k < 7) (hp : p < x.ports.length) : ∃ v, (vs k)[p]? = some v ∧ PV H k v (x.ports.getD p {}) := by
  have h : p < (vs k).length := by
    rw [B.len k hk]
    exact hp
  exact ⟨_, List.getElem?_eq_getElem h, B.val k hk p _ (List.getElem?_eq_getElem h)⟩
theorem NetAt.setL (N : NetAt K ow as H n s) (e : as[i]? = some a) (B : BrAt K ow H i a (Vbcnac.bridgeAt s i) dx l st vs kvs) {k p : Nat} {v : V} {P' : Vbcnac.Port} (hk : k < 7) (hv : PV H k v P') (ho : ∀ k', k' < 7 → k' ≠ k → ∀ v', PV H k' v' (Vbcnac.portAt s i p) → PV H k' v' P') :
    NetAt K ow as (upd H (l k) (.lst ((vs k).set p v))) n (Vbcnac.setPort s i p P') := by
  refine N.put e (B.setL hk hv ho) (fun b o q z => ?_) (fun _ _ _ => rfl) fun b z => ?_
  · rw [upd_ne]
    · exact q
    · intro y
      rw [y, B.ol k hk] at z
      omega
  · by_cases y : b = l k
    · rw [y]
      exact ⟨_, upd_same, rfl⟩
    · rw [upd_ne y]
      exact N.fp b z
/-- only what's bridge i's is changed -/
def Frm1 (i : Nat) (ow : Addr → Nat) (H H' : Hp) : Prop := ∀ b o, H b = some o → ow b / 16 ≠ i + 1 → H' b = some o
theorem Frm1.frm (h : Frm1 i ow H H') : Frm ow H H' := fun b o e z => h b o e (by rw [z]; omega)
/-- a change of one bridge -/
structure Loc1 (i : Nat) (H H' : Hp) (ow ow' : Addr → Nat) : Prop where
  fr : Frm1 i ow H H'
  ag : ∀ c, ow c / 16 ≠ i + 1 → ow c ≠ 0 → ow' c = ow c
  gr : Grow H ow ow'
theorem Loc1.same (h : Frm1 i ow H H') : Loc1 i H H' ow ow := ⟨h, fun _ _ _ => rfl, Grow.refl _ _⟩
theorem frm1_set {u : HO} (h : ow a / 16 = i + 1) : Frm1 i ow H (upd H a u) := fun b o e z => by
  rw [upd_ne]
  · exact e
  · intro y
    rw [y] at z
    exact z h
theorem frm_set (h : ow a ≠ 0) {u : HO} : Frm ow H (upd H a u) := fun b o e z => by
  rw [upd_ne]
  · exact e
  · intro y
    rw [y] at z
    exact h z
end
end Sw
namespace Sw
open PySem PySem.Spec PyProof.Rows L2
/-! ### readings, one construct a step -/
section
variable {K : PySem.W.Frag} {σ : L2.St} {H : Hp} {D : Ends} {Q : VK} {QA : List V → Hp → Prop} {QB : Bool → Hp → Prop} {i : Nat} {v x y : V} {ta tb tc te tv : TE} {tA : TA} {tt tu : TT} {t u ts : TS} {g : TG} {r r' : R2} {f : Str} {b : Bool} {sp : Sp} {C : Addr}
theorem r_seq (h : t { D with nx := u D } σ H) : tSeq t u D σ H := h
/-- what stands behind a statement -/
theorem nx {X : L2.St → Hp → Prop} {R : VK} {B C' : L2.St → Hp → Prop} (h : X σ H) : (Ends.mk X R B C').nx σ H := h
theorem r_asg (h : te σ H fun x H1 => g x σ H1 D.nx) : tAsg te g D σ H := h
theorem r_set (h : te σ H fun x H1 => D.nx (σ.set i (some x)) H1) : tAsg te (gName i) D σ H := h
theorem r_drop (h : te σ H fun _ H1 => D.nx σ H1) : tDrop te D σ H := h
theorem r_ret (h : te σ H D.rt) : tRet te D σ H := h
theorem r_if (h : tt σ H fun b H1 => if b = true then t D σ H1 else u D σ H1) : tIfS tt t u D σ H := h
theorem r_next (h : D.nx σ H) : tNext D σ H := h
theorem r_c (h : Q v H) : tC v σ H Q := h
theorem r_op (h : ta σ H fun x H1 => tb σ H1 fun y H2 => r x y H2 Q) : tOp r ta tb σ H Q := h
theorem r_nil (h : QA [] H) : tNil σ H QA := h
theorem r_cons (h : te σ H fun x H1 => tA σ H1 fun xs H2 => QA (x :: xs) H2) : tCons te tA σ H QA := h
theorem r_tup (h : tA σ H fun xs H1 => xs.length ≤ sizeLine ∧ ∀ p, H1 p = none → Q (.ref p) (upd H1 p (.tup xs))) : tTup tA σ H Q := h
theorem r_lst (h : tA σ H fun xs H1 => xs.length ≤ sizeLine ∧ ∀ p, H1 p = none → Q (.ref p) (upd H1 p (.lst xs))) : tLst tA σ H Q := h
theorem r_call {E : XK} (h : tA σ H fun vs H1 => sp (vs ++ []) H1 Q E) : tCall sp [] E tA σ H Q := h
theorem r_make {E : XK} (h : tA σ H fun vs H1 => ∀ x dx, H1 x = none → H1 dx = none → dx ≠ x → sp (.ref x :: (vs ++ [])) (upd (upd H1 dx (.own x)) x (.ins C dx [])) (fun v H2 => v = .non ∧ Q (.ref x) H2) E) : tMake C sp [] E tA σ H Q := h
theorem r_cb {r : List V → Hp → VK → Prop} (h : tA σ H fun vs H1 => r vs H1 Q) : tCB r tA σ H Q := h
theorem r_test (h : te σ H fun x H' => ∃ k, x = .bl k ∧ QB k H') : tTest te σ H QB := h
theorem r_tb (h : te σ H fun x H1 => ∃ c, x = .bl c ∧ QB c H1) : tB te σ H QB := h
theorem r_and (h : tt σ H fun c H1 => if c = true then tu σ H1 QB else QB false H1) : tAnd tt tu σ H QB := h
theorem r_or (h : tt σ H fun c H1 => if c = true then QB true H1 else tu σ H1 QB) : tOr tt tu σ H QB := h
theorem r_not (h : tt σ H fun c H1 => QB (!c) H1) : tNot tt σ H QB := h
theorem r_andV (h : ta σ H fun x H1 => ∃ c, x = .bl c ∧ if c = true then tb σ H1 Q else Q (.bl false) H1) : tAndV ta tb σ H Q := h
theorem r_ife (h : tt σ H fun c H1 => if c = true then ta σ H1 Q else tb σ H1 Q) : tIf tt ta tb σ H Q := h
theorem r_chain (h : ta σ H fun x H1 => tb σ H1 fun y H2 => r x y H2 fun z H3 => ∃ k, z = .bl k ∧ (if k = true then tc σ H3 fun w' H4 => r' y w' H4 Q else Q (.bl false) H3)) : tChain r r' ta tb tc σ H Q := h
theorem r_sub {to ti : TE} {tS : TSet} {QS : L2.St → Hp → Prop} (h : to σ H fun o H1 => ti σ H1 fun i H2 => tS o i v H2 fun H3 => QS σ H3) : gSub to ti tS v σ H QS := h
theorem r_slice {rs : V → Option Int → Option Int → Hp → VK → Prop} {tl th : TO} (h : te σ H fun x H1 => tl σ H1 fun l H2 => th σ H2 fun u H3 => rs x l u H3 Q) : tSl rs te tl th σ H Q := h
theorem r_nopart {QO : Option Int → Hp → Prop} (h : QO none H) : tNoPart σ H QO := h
theorem r_part {QO : Option Int → Hp → Prop} (h : te σ H fun x H1 => ∃ i, x = .int i ∧ QO (some i) H1) : tPart te σ H QO := h
theorem r_bm {T : String} {rm : V → List V → Hp → VK → Prop} (h : te σ H fun x H1 => tyV K T x H1 ∧ tA σ H1 fun xs H2 => rm x xs H2 Q) : tBM K T rm te tA σ H Q := h
theorem r_bm0 {T : String} {rm : V → List V → Hp → VK → Prop} (h : te σ H fun x H1 => tyV K T x H1 ∧ rm x [] H1 Q) : tBM0 K T rm te σ H Q := h
theorem r_fld (h : ta σ H fun x H1 => ∃ a C dx fs v, x = .ref a ∧ H1 a = some (.ins C dx fs) ∧ Cls K C ∧ NoAttr K C f ∧ fs.lookup f = some v ∧ Q v H1) : tFld K ta f σ H Q := h
theorem r_dput {td ty : TE} (h : tv σ H fun v H1 => td σ H1 fun x H2 => ty σ H2 fun y H3 => ∃ a H4, x = .ref a ∧ DPut H3 a y v H4 ∧ D.nx σ H4) : sDPut td ty tv D σ H := h
theorem r_dget {td ty : TE} (h : td σ H fun x H1 => ty σ H1 fun y H2 => ∃ a v, x = .ref a ∧ DGet H2 a y (some v) ∧ Q v H2) : tDGet td ty σ H Q := h
theorem r_din {td ty : TE} (h : ty σ H fun y H1 => td σ H1 fun x H2 => ∃ a o, x = .ref a ∧ DGet H2 a y o ∧ Q (.bl o.isSome) H2) : tDIn ty td σ H Q := h
theorem r_dnin {td ty : TE} (h : ty σ H fun y H1 => td σ H1 fun x H2 => ∃ a o, x = .ref a ∧ DGet H2 a y o ∧ Q (.bl (!o.isSome)) H2) : tDNotIn ty td σ H Q := h
theorem r_for {wi : TI} (h : wi σ H fun J H1 => ∃ W : Nat → Nat → L2.St → Hp → Prop, (∃ m, W 0 m σ H1) ∧ ∀ i m σ H, W i m σ H →
      (J.stop i H ∧ D.nx σ H) ∨ (J.go i H ∧ ∃ N : L2.St → Hp → Prop, (∀ σ' H', N σ' H' → ∃ m', m' < m ∧ W (i + 1) m' σ' H') ∧ ∀ x H', J.yld i H x H' → g x σ H' fun σ2 H2 => ts { D with nx := N, ct := N, bk := D.nx } σ2 H2)) : tFor wi g ts D σ H := h
theorem r_enum {R : It → Hp → Prop} (h : tA σ H fun vs H1 => ∃ a xs, vs = [.ref a] ∧ SqL K H1 a xs ∧ R (Ite K a) H1) : iEnum K tA σ H R := h
theorem r_ilist {R : It → Hp → Prop} (h : te σ H fun x H1 => ∃ a, x = .ref a ∧ (∃ xs, SqL K H1 a xs) ∧ R (Itl K a) H1) : iList K te σ H R := h
theorem r_ituple {R : It → Hp → Prop} (h : te σ H fun x H1 => ∃ a, x = .ref a ∧ (∃ xs, SqT K H1 a xs) ∧ R (Itt K a) H1) : iTup K te σ H R := h
theorem r_range {R : It → Hp → Prop} (h : tA σ H fun vs H1 => ∃ j : Int, vs = [.int j] ∧ -(2 ^ 62) ≤ j ∧ j < 2 ^ 62 ∧ R (Itr 0 j.toNat) H1) : iRng1 tA σ H R := h
theorem r_gtup {n : Nat} {tg : TGs} {QS : L2.St → Hp → Prop} (h : ∃ a xs, v = .ref a ∧ SqT K H a xs ∧ xs.length = n ∧ tg xs σ H QS) : gTup K n tg v σ H QS := h
theorem if_y {c : Bool} {A B : Prop} (h : A) (hc : c = true := by rfl) : if c = true then A else B := by
  rw [if_pos hc]
  exact h
theorem if_n {c : Bool} {A B : Prop} (h : B) (hc : c = false := by rfl) : if c = true then A else B := by
  rw [hc, if_neg Bool.false_ne_true]
  exact h
/-! known values -/
theorem go (h : Val te σ H v) (q : Q v H) : te σ H Q := h Q q
theorem vv (h : σ[i]? = some (some v) := by rfl) : Val (tVar i) σ H v := val_var h
theorem v_ixT {a : Addr} {xs : List V} {j : Nat} (h : Val te σ H (.ref a)) (ht : SqT K H a xs) (hj : xs[j]? = some v) : Val (tOp (rIxT K) te (tC (.int (j : Int)))) σ H v := fun Q q => h _ ⟨a, xs, _, v, rfl, rfl, ht, atI_nat hj, q⟩
theorem v_ixL {a : Addr} {xs : List V} {j : Nat} (h : Val te σ H (.ref a)) (hb : Val tb σ H (.int (j : Int))) (ht : H a = some (.lst xs)) (hj : xs[j]? = some v) : Val (tOp (rIxL K) te tb) σ H v := fun Q q => h _ (hb _ ⟨a, xs, _, v, rfl, rfl, SqL.of ht, atI_nat hj, q⟩)
end
section
variable {P : Program} {w : World} {K : PySem.W.Frag} {mg : Str → Option Value} {base : Heap} {ow ow' : Addr → Nat} {as : List Addr} {H H' : Hp} {n a : Addr} {s : Vbcnac.State} {i b p : Nat} {x x' : Vbcnac.Bridge} {dx : Addr} {l : Nat → Addr} {st : Addr} {vs : Nat → List V} {kvs : List (Key × V)}
variable {σ : L2.St} {te tb : TE} {v : V} {t : Addr} {xs : List V}
theorem NetAt.bridge (N : NetAt K ow as H n s) (T : Txt K mg) (e : as[b]? = some a) (h : Val te σ H (.ref n)) (hb : Val tb σ H (.int (b : Int))) : Val (tOp (rIxL K) (tFld K te "bridges") tb) σ H (.ref a) := by
  obtain ⟨dn, bl, k1, k2, k3, k4⟩ := N.ex
  refine v_ixL (val_fld h k1 T.c_Net T.n_Net_bridges (nF_bridges s bl)) hb k2 ?_
  rw [List.getElem?_map, e]
  rfl
theorem NetAt.fage (N : NetAt K ow as H n s) (T : Txt K mg) (h : Val te σ H (.ref n)) : Val (tFld K te "age") σ H (.int s.age) := by
  obtain ⟨dn, bl, k1, k2, k3, k4⟩ := N.ex
  exact val_fld h k1 T.c_Net T.n_Net_age (nF_age s bl)
theorem NetAt.fwait (N : NetAt K ow as H n s) (T : Txt K mg) (h : Val te σ H (.ref n)) : Val (tFld K te "wait") σ H (.int s.wait) := by
  obtain ⟨dn, bl, k1, k2, k3, k4⟩ := N.ex
  exact val_fld h k1 T.c_Net T.n_Net_wait (nF_wait s bl)
theorem NetAt.fkeep (N : NetAt K ow as H n s) (T : Txt K mg) (h : Val te σ H (.ref n)) : Val (tFld K te "keep") σ H (.int s.keep) := by
  obtain ⟨dn, bl, k1, k2, k3, k4⟩ := N.ex
  exact val_fld h k1 T.c_Net T.n_Net_keep (nF_keep s bl)
theorem NetAt.froom (N : NetAt K ow as H n s) (T : Txt K mg) (h : Val te σ H (.ref n)) : Val (tFld K te "room") σ H (.int s.room) := by
  obtain ⟨dn, bl, k1, k2, k3, k4⟩ := N.ex
  exact val_fld h k1 T.c_Net T.n_Net_room (nF_room s bl)
theorem NetAt.fquiet (N : NetAt K ow as H n s) (T : Txt K mg) (h : Val te σ H (.ref n)) : Val (tFld K te "quiet") σ H (.int s.quiet) := by
  obtain ⟨dn, bl, k1, k2, k3, k4⟩ := N.ex
  exact val_fld h k1 T.c_Net T.n_Net_quiet (nF_quiet s bl)
theorem BrAt.fon (B : BrAt K ow H i a x dx l st vs kvs) (T : Txt K mg) (h : Val te σ H (.ref a)) : Val (tFld K te "is_on") σ H (.bl x.on) := val_fld h B.self T.c_Bridge T.n_Bridge_is_on (bF_on x l st)
theorem BrAt.frank (B : BrAt K ow H i a x dx l st vs kvs) (T : Txt K mg) (h : Val te σ H (.ref a)) : Val (tFld K te "rank") σ H (.int x.rank) := val_fld h B.self T.c_Bridge T.n_Bridge_rank (bF_rank x l st)
theorem BrAt.fnumber (B : BrAt K ow H i a x dx l st vs kvs) (T : Txt K mg) (h : Val te σ H (.ref a)) : Val (tFld K te "number") σ H (.int x.number) := val_fld h B.self T.c_Bridge T.n_Bridge_number (bF_number x l st)
theorem BrAt.fcosts (B : BrAt K ow H i a x dx l st vs kvs) (T : Txt K mg) (h : Val te σ H (.ref a)) : Val (tFld K te "costs") σ H (.ref (l 0)) := val_fld h B.self T.c_Bridge T.n_Bridge_costs (bF_costs x l st)
theorem BrAt.franks (B : BrAt K ow H i a x dx l st vs kvs) (T : Txt K mg) (h : Val te σ H (.ref a)) : Val (tFld K te "ranks") σ H (.ref (l 1)) := val_fld h B.self T.c_Bridge T.n_Bridge_ranks (bF_ranks x l st)
theorem BrAt.fcables (B : BrAt K ow H i a x dx l st vs kvs) (T : Txt K mg) (h : Val te σ H (.ref a)) : Val (tFld K te "cables") σ H (.ref (l 2)) := val_fld h B.self T.c_Bridge T.n_Bridge_cables (bF_cables x l st)
theorem BrAt.fhellos (B : BrAt K ow H i a x dx l st vs kvs) (T : Txt K mg) (h : Val te σ H (.ref a)) : Val (tFld K te "hellos") σ H (.ref (l 3)) := val_fld h B.self T.c_Bridge T.n_Bridge_hellos (bF_hellos x l st)
theorem BrAt.fages (B : BrAt K ow H i a x dx l st vs kvs) (T : Txt K mg) (h : Val te σ H (.ref a)) : Val (tFld K te "ages") σ H (.ref (l 4)) := val_fld h B.self T.c_Bridge T.n_Bridge_ages (bF_ages x l st)
theorem BrAt.fwaits (B : BrAt K ow H i a x dx l st vs kvs) (T : Txt K mg) (h : Val te σ H (.ref a)) : Val (tFld K te "waits") σ H (.ref (l 5)) := val_fld h B.self T.c_Bridge T.n_Bridge_waits (bF_waits x l st)
theorem BrAt.fnotices (B : BrAt K ow H i a x dx l st vs kvs) (T : Txt K mg) (h : Val te σ H (.ref a)) : Val (tFld K te "notices") σ H (.ref (l 6)) := val_fld h B.self T.c_Bridge T.n_Bridge_notices (bF_notices x l st)
theorem BrAt.fstations (B : BrAt K ow H i a x dx l st vs kvs) (T : Txt K mg) (h : Val te σ H (.ref a)) : Val (tFld K te "stations") σ H (.ref st) := val_fld h B.self T.c_Bridge T.n_Bridge_stations (bF_stations x l st)
/-! numbers compared -/
theorem dec_int (m k : Nat) : decide (V.int (m : Int) = V.int (k : Int)) = (m == k) := by
  by_cases z : m = k
  · rw [z]
    simp
  · have z2 : ¬ V.int (m : Int) = V.int (k : Int) := fun y => z (Int.ofNat.inj (V.int.inj y))
    rw [decide_eq_false z2]
    exact (beq_eq_false_iff_ne.mpr z).symm
theorem isOn_at {b : Nat} (h : b < s.bridges.length) : Vbcnac.isOn s b = (Vbcnac.bridgeAt s b).on := by
  unfold Vbcnac.isOn
  simp [h]
end
/-! ### name_of -/
section
variable {P : Program} {w : World} {K : PySem.W.Frag} {mg : Str → Option Value} {base : Heap}
def sp_name_of (K : PySem.W.Frag) : Sp := fun vs H Q _ => ∃ ow i a x dx l st ws kvs, vs = [.ref a] ∧ BrAt K ow H i a x dx l st ws kvs ∧ ∀ p, H p = none → Q (.ref p) (upd H p (.tup [.int x.rank, .int x.number]))
theorem sc_name_of : FnScope ["bridge"] ["bridge"] D_name_of.scope := ⟨rfl, rfl, rfl, by decide +kernel, rfl, by decide +kernel, by decide +kernel⟩
theorem ok_name_of (T : Txt K mg) : Does P w K mg base 1 "name_of" ["bridge"] (sp_name_of K) := by
  refine does_of T 2 (d := D_name_of) rfl rfl rfl rfl T.g_name_of sc_name_of (fun _ _ _ _ _ _ us hl => match us, hl with | [_], _ => rfl) (fun vs H Q E h => ?_) (fun cdv A outer s H vs Q E hr h => ⟨_, pss_one (ps_ret (pe_tup (pa_cons (pe_fld (pv 0) rfl) (pa_cons (pe_fld (pv 0) rfl) pa_nil)))), ?_⟩)
  · obtain ⟨ow, i, a, x, dx, l, st, ws, kvs, rfl, _⟩ := h
    rfl
  · obtain ⟨ow, i, a, x, dx, l, st, ws, kvs, rfl, B, hQ⟩ := h
    exact r_ret (r_tup (r_cons (go (B.frank T vv) (r_cons (go (B.fnumber T vv) (r_nil ⟨by show 2 ≤ sizeLine; decide, fun p hp => hQ p hp⟩))))))
/-! ### forwards -/
def sp_forwards (K : PySem.W.Frag) : Sp := fun vs H Q _ => ∃ ow as n s t b p, vs = [.ref n, .ref t] ∧ NetAt K ow as H n s ∧ H t = some (.tup [.int (b : Nat), .int (p : Nat)]) ∧ b < s.bridges.length ∧ p < (Vbcnac.bridgeAt s b).ports.length ∧ Q (.bl (Vbcnac.forwards s b p)) H
theorem sc_forwards : FnScope ["net", "port", "bridge"] ["net", "port"] D_forwards.scope := ⟨rfl, rfl, rfl, by decide +kernel, rfl, by decide +kernel, by decide +kernel⟩
theorem ok_forwards (T : Txt K mg) : Does P w K mg base 1 "forwards" ["net", "port"] (sp_forwards K) := by
  refine does_of T 3 (d := D_forwards) rfl rfl rfl rfl T.g_forwards sc_forwards (fun _ _ _ _ _ _ us hl => match us, hl with | [_, _], _ => rfl) (fun vs H Q E h => ?_) (fun cdv A outer s H vs Q E hr h => ⟨_, pss_cons (ps_set (i := 2) sc_forwards.nd rfl (.inl rfl) (pe_ix ix_list (pe_fld (pv 0) rfl) (pe_ix ix_tup (pv 1) pe_int (fun _ _ => rfl)) (fun _ _ => rfl)))
    (pss_one (ps_ret (pe_and (pe_fld (pv 2) rfl) (pe_one (pe_cmpR op_eq (pe_ix ix_list (pe_fld (pv 2) rfl) (pe_ix ix_tup (pv 1) pe_int (fun _ _ => rfl)) (fun _ _ => rfl)) (pe_fld (pv 0) rfl) (nomark _)))))), ?_⟩)
  · obtain ⟨ow, as, n, s, t, b, p, rfl, _⟩ := h
    rfl
  · obtain ⟨ow, as, n, s, t, b, p, rfl, N, ht, hb, hp, hQ⟩ := h
    obtain ⟨a, e⟩ := N.addr hb
    obtain ⟨dx, l, st, ws, kvs, B⟩ := N.br b a e
    obtain ⟨v, hv, pv⟩ := B.get (k := 5) (by decide) hp
    refine r_seq (r_set (go (N.bridge T e vv (v_ixT (j := 0) vv (SqT.of ht) rfl)) (r_ret (r_andV (go (B.fon T vv) ⟨_, rfl, ?_⟩)))))
    unfold Vbcnac.forwards at hQ
    rw [isOn_at hb] at hQ
    cases q : (Vbcnac.bridgeAt s b).on with
    | false =>
      rw [q] at hQ
      exact hQ
    | true =>
      rw [q] at hQ
      cases (show v = .int (Vbcnac.portAt s b p).wait from pv)
      refine iteT (r_op (go (v_ixL (B.fwaits T vv) (v_ixT (j := 1) vv (SqT.of ht) rfl) (B.lst 5 (by decide)) hv) (go (N.fwait T vv) ⟨rfl, ?_⟩)))
      rw [dec_int]
      exact hQ
end
end Sw
namespace Sw
open PySem PySem.Spec PyProof.Rows L2
section
variable {K : PySem.W.Frag} {σ : L2.St} {H : Hp} {D : Ends} {Q : VK} {i j : Nat} {v v1 v2 v3 v4 : V} {te to ti t1 t2 t3 t4 : TE} {sp : Sp} {a : Addr} {xs : List V}
/-- a place of a list stored to -/
theorem r_setL (hv : Val te σ H v) (ho : Val to σ H (.ref a)) (hi : Val ti σ H (.int (j : Int))) (hl : H a = some (.lst xs)) (hj : j < xs.length) (q : D.nx σ (upd H a (.lst (xs.set j v)))) : tAsg te (gSub to ti rSetL) D σ H := by
  refine hv _ (ho _ (hi _ ⟨a, xs, _, j, rfl, rfl, hl, ?_, q⟩))
  unfold ixN
  rw [if_pos (Int.natCast_nonneg j), if_pos (by omega)]
  rfl
/-! calls of known arguments -/
theorem c1 (h1 : Val t1 σ H v1) (h : sp [v1] H Q E0) : tCall sp [] E0 (tCons t1 tNil) σ H Q := h1 _ h
theorem c2 (h1 : Val t1 σ H v1) (h2 : Val t2 σ H v2) (h : sp [v1, v2] H Q E0) : tCall sp [] E0 (tCons t1 (tCons t2 tNil)) σ H Q := h1 _ (h2 _ h)
theorem c3 (h1 : Val t1 σ H v1) (h2 : Val t2 σ H v2) (h3 : Val t3 σ H v3) (h : sp [v1, v2, v3] H Q E0) : tCall sp [] E0 (tCons t1 (tCons t2 (tCons t3 tNil))) σ H Q := h1 _ (h2 _ (h3 _ h))
theorem c4 (h1 : Val t1 σ H v1) (h2 : Val t2 σ H v2) (h3 : Val t3 σ H v3) (h4 : Val t4 σ H v4) (h : sp [v1, v2, v3, v4] H Q E0) : tCall sp [] E0 (tCons t1 (tCons t2 (tCons t3 (tCons t4 tNil)))) σ H Q := h1 _ (h2 _ (h3 _ (h4 _ h)))
end
section
variable {P : Program} {w : World} {K : PySem.W.Frag} {mg : Str → Option Value} {base : Heap}
/-! ### cable_at -/
def sp_cable_at (K : PySem.W.Frag) : Sp := fun vs H Q _ => ∃ ow as n s t b p, vs = [.ref n, .ref t] ∧ NetAt K ow as H n s ∧ H t = some (.tup [.int (b : Nat), .int (p : Nat)]) ∧ b < s.bridges.length ∧ p < (Vbcnac.bridgeAt s b).ports.length ∧ ∀ v, Cab H v (Vbcnac.portAt s b p).peer → Q v H
theorem sc_cable_at : FnScope ["net", "port"] ["net", "port"] D_cable_at.scope := ⟨rfl, rfl, rfl, by decide +kernel, rfl, by decide +kernel, by decide +kernel⟩
-- level 1; slots 0:net 1:port; captured []
theorem ok_cable_at (T : Txt K mg) : Does P w K mg base 1 "cable_at" ["net", "port"] (sp_cable_at K) := by
  refine does_of T 4 (d := D_cable_at) rfl rfl rfl rfl T.g_cable_at sc_cable_at (fun _ _ _ _ _ _ us hl => match us, hl with | [_, _], _ => rfl) (fun vs H Q E h => by obtain ⟨_, _, _, _, _, _, _, rfl, _⟩ := h; rfl) (fun cdv A outer s H vs Q E hr h => ⟨_, (pss_one (ps_ret (pe_ix ix_list (pe_fld (pe_ix ix_list (pe_fld (pv 0) rfl) (pe_ix ix_tup (pv 1) pe_int (fun _ _ => rfl)) (fun _ _ => rfl)) rfl) (pe_ix ix_tup (pv 1) pe_int (fun _ _ => rfl)) (fun _ _ => rfl)))), ?_⟩)
  obtain ⟨ow, as, n, s, t, b, p, rfl, N, ht, hb, hp, hQ⟩ := h
  obtain ⟨a, e⟩ := N.addr hb
  obtain ⟨dx, l, st, ws, kvs, B⟩ := N.br b a e
  obtain ⟨v, hv, pv⟩ := B.get (k := 2) (by decide) hp
  exact r_ret (go (v_ixL (B.fcables T (N.bridge T e vv (v_ixT (j := 0) vv (SqT.of ht) rfl))) (v_ixT (j := 1) vv (SqT.of ht) rfl) (B.lst 2 (by decide)) hv) (hQ v pv))
/-! ### set_cable -/
def sp_set_cable (K : PySem.W.Frag) : Sp := fun vs H Q _ => ∃ ow as n s t b p v x, vs = [.ref n, .ref t, v] ∧ NetAt K ow as H n s ∧ H t = some (.tup [.int (b : Nat), .int (p : Nat)]) ∧ b < s.bridges.length ∧ p < (Vbcnac.bridgeAt s b).ports.length ∧ Cab H v x ∧
  ∀ H', NetAt K ow as H' n (Vbcnac.setPeer s b p x) → Frm1 b ow H H' → Q .non H'
theorem sc_set_cable : FnScope ["net", "port", "other", "bridge"] ["net", "port", "other"] D_set_cable.scope := ⟨rfl, rfl, rfl, by decide +kernel, rfl, by decide +kernel, by decide +kernel⟩
-- level 1; slots 0:net 1:port 2:other 3:bridge; captured []
theorem ok_set_cable (T : Txt K mg) : Does P w K mg base 1 "set_cable" ["net", "port", "other"] (sp_set_cable K) := by
  refine does_of T 8 (d := D_set_cable) rfl rfl rfl rfl T.g_set_cable sc_set_cable (fun _ _ _ _ _ _ us hl => match us, hl with | [_, _, _], _ => rfl) (fun vs H Q E h => by obtain ⟨_, _, _, _, _, _, _, _, _, rfl, _⟩ := h; rfl) (fun cdv A outer s H vs Q E hr h => ⟨_, (pss_cons (ps_set (i := 3) sc_set_cable.nd rfl (.inl rfl) (pe_ix ix_list (pe_fld (pv 0) rfl) (pe_ix ix_tup (pv 1) pe_int (fun _ _ => rfl)) (fun _ _ => rfl)))
      (pss_one (ps_asg (pv 2) (pg_sub (pe_fld (pv 3) rfl) (pe_ix ix_tup (pv 1) pe_int (fun _ _ => rfl)) set_list)))), ?_⟩)
  obtain ⟨ow, as, n, s, t, b, p, v, x, rfl, N, ht, hb, hp, hx, hQ⟩ := h
  obtain ⟨a, e⟩ := N.addr hb
  obtain ⟨dx, l, st, ws, kvs, B⟩ := N.br b a e
  refine r_seq (r_set (go (N.bridge T e vv (v_ixT (j := 0) vv (SqT.of ht) rfl)) (r_setL vv (B.fcables T vv) (v_ixT (j := 1) vv (SqT.of ht) rfl) (B.lst 2 (by decide)) (by rw [B.len 2 (by decide)]; exact hp) ?_)))
  refine hQ _ (N.setL e B (k := 2) (P' := { Vbcnac.portAt s b p with peer := x }) (by decide) hx fun k hk hne v hv => ?_) (frm1_set (by rw [B.ol 2 (by decide)]; omega))
  match k, hk, hne with
  | 0, _, _ => exact hv
  | 1, _, _ => exact hv
  | 3, _, _ => exact hv
  | 4, _, _ => exact hv
  | 5, _, _ => exact hv
  | 6, _, _ => exact hv
/-! ### empty_port -/
theorem getD_set_same {l : List Vbcnac.Port} {p : Nat} {x : Vbcnac.Port} (h : p < l.length) : (l.set p x).getD p {} = x := by
  rw [getD_set, if_pos ⟨rfl, h⟩]
def sp_empty_port (K : PySem.W.Frag) : Sp := fun vs H Q _ => ∃ ow as n s i a p, vs = [.ref a, .int (p : Nat)] ∧ NetAt K ow as H n s ∧ as[i]? = some a ∧ p < (Vbcnac.bridgeAt s i).ports.length ∧
  ∀ H', NetAt K ow as H' n (Vbcnac.setPort s i p (Vbcnac.anew (Vbcnac.portAt s i p))) → Frm1 i ow H H' → Q .non H'
theorem sc_empty_port : FnScope ["bridge", "place"] ["bridge", "place"] D_empty_port.scope := ⟨rfl, rfl, rfl, by decide +kernel, rfl, by decide +kernel, by decide +kernel⟩
-- level 1; slots 0:bridge 1:place; captured []
theorem ok_empty_port (T : Txt K mg) : Does P w K mg base 1 "empty_port" ["bridge", "place"] (sp_empty_port K) := by
  refine does_of T 6 (d := D_empty_port) rfl rfl rfl rfl T.g_empty_port sc_empty_port (fun _ _ _ _ _ _ us hl => match us, hl with | [_, _], _ => rfl) (fun vs H Q E h => by obtain ⟨_, _, _, _, _, _, _, rfl, _⟩ := h; rfl) (fun cdv A outer s H vs Q E hr h => ⟨_, (pss_cons (ps_asg pe_non (pg_sub (pe_fld (pv 0) rfl) (pv 1) set_list))
      (pss_cons (ps_asg pe_int (pg_sub (pe_fld (pv 0) rfl) (pv 1) set_list))
      (pss_cons (ps_asg pe_int (pg_sub (pe_fld (pv 0) rfl) (pv 1) set_list))
      (pss_one (ps_asg pe_bl (pg_sub (pe_fld (pv 0) rfl) (pv 1) set_list)))))), ?_⟩)
  obtain ⟨ow, as, n, s, i, a, p, rfl, N, e, hp, hQ⟩ := h
  obtain ⟨dx, l, st, ws, kvs, B⟩ := N.br i a e
  refine r_seq (r_setL val_c (B.fhellos T vv) vv (B.lst 3 (by decide)) (by rw [B.len 3 (by decide)]; exact hp) ?_)
  have B1 := B.setL (k := 3) (p := p) (v := .non) (P' := { Vbcnac.portAt s i p with heard := none }) (by decide) rfl fun k hk hne v hv => by
    match k, hk, hne with
    | 0, _, _ => exact hv
    | 1, _, _ => exact hv
    | 2, _, _ => exact hv
    | 4, _, _ =>
      obtain ⟨z, h1, _⟩ := hv
      exact ⟨z, h1, fun h q => nomatch q⟩
    | 5, _, _ => exact hv
    | 6, _, _ => exact hv
  have p1 : p < ((Vbcnac.bridgeAt s i).ports.set p { Vbcnac.portAt s i p with heard := none }).length := by
    rw [List.length_set]
    exact hp
  refine r_seq (r_setL val_c (B1.fages T vv) vv (B1.lst 4 (by decide)) (by rw [B1.len 4 (by decide)]; exact p1) ?_)
  have B2 := B1.setL (k := 4) (p := p) (v := .int 0) (P' := { Vbcnac.portAt s i p with heard := none }) (by decide) ⟨0, rfl, fun h q => nomatch q⟩ fun k hk hne v hv => by
    rw [getD_set_same hp] at hv
    exact hv
  have p2 : p < (((Vbcnac.bridgeAt s i).ports.set p { Vbcnac.portAt s i p with heard := none }).set p { Vbcnac.portAt s i p with heard := none }).length := by
    rw [List.length_set]
    exact p1
  refine r_seq (r_setL val_c (B2.fwaits T vv) vv (B2.lst 5 (by decide)) (by rw [B2.len 5 (by decide)]; exact p2) ?_)
  have B3 := B2.setL (k := 5) (p := p) (v := .int 0) (P' := { Vbcnac.portAt s i p with heard := none, wait := 0 }) (by decide) rfl fun k hk hne v hv => by
    rw [getD_set_same p1] at hv
    match k, hk, hne with
    | 0, _, _ => exact hv
    | 1, _, _ => exact hv
    | 2, _, _ => exact hv
    | 3, _, _ => exact hv
    | 4, _, _ => exact hv
    | 6, _, _ => exact hv
  have p3 : p < ((((Vbcnac.bridgeAt s i).ports.set p { Vbcnac.portAt s i p with heard := none }).set p { Vbcnac.portAt s i p with heard := none }).set p { Vbcnac.portAt s i p with heard := none, wait := 0 }).length := by
    rw [List.length_set]
    exact p2
  refine r_setL val_c (B3.fnotices T vv) vv (B3.lst 6 (by decide)) (by rw [B3.len 6 (by decide)]; exact p3) ?_
  have B4 := B3.setL (k := 6) (p := p) (v := .bl false) (P' := Vbcnac.anew (Vbcnac.portAt s i p)) (by decide) rfl fun k hk hne v hv => by
    rw [getD_set_same p2] at hv
    match k, hk, hne with
    | 0, _, _ => exact hv
    | 1, _, _ => exact hv
    | 2, _, _ => exact hv
    | 3, _, _ => exact hv
    | 4, _, _ => exact hv
    | 5, _, _ => exact hv
    | k + 6, hk, hne => exact absurd (by omega) hne
  have eb : ({ Vbcnac.bridgeAt s i with ports := (((((Vbcnac.bridgeAt s i).ports.set p { Vbcnac.portAt s i p with heard := none }).set p { Vbcnac.portAt s i p with heard := none }).set p { Vbcnac.portAt s i p with heard := none, wait := 0 }).set p (Vbcnac.anew (Vbcnac.portAt s i p))) } : Vbcnac.Bridge) = { Vbcnac.bridgeAt s i with ports := (Vbcnac.bridgeAt s i).ports.set p (Vbcnac.anew (Vbcnac.portAt s i p)) } := by
    rw [List.set_set, List.set_set, List.set_set]
  have ne : ∀ k, k < 7 → ∀ b o, H b = some o → ow b / 16 ≠ i + 1 → b ≠ l k := fun k hk b o _ z y => by
    rw [y, B.ol k hk] at z
    omega
  refine hQ _ (N.put e (eb ▸ B4) (fun b o q z => ?_) (fun _ _ _ => rfl) fun b z => ?_) (fun b o q z => ?_)
  · rw [upd_ne (ne 6 (by decide) b o q z), upd_ne (ne 5 (by decide) b o q z), upd_ne (ne 4 (by decide) b o q z), upd_ne (ne 3 (by decide) b o q z)]
    exact q
  · by_cases y6 : b = l 6
    · rw [y6, upd_same]
      exact ⟨_, rfl, rfl⟩
    rw [upd_ne y6]
    by_cases y5 : b = l 5
    · rw [y5, upd_same]
      exact ⟨_, rfl, rfl⟩
    rw [upd_ne y5]
    by_cases y4 : b = l 4
    · rw [y4, upd_same]
      exact ⟨_, rfl, rfl⟩
    rw [upd_ne y4]
    by_cases y3 : b = l 3
    · rw [y3, upd_same]
      exact ⟨_, rfl, rfl⟩
    rw [upd_ne y3]
    exact N.fp b z
  · rw [upd_ne (ne 6 (by decide) b o q z), upd_ne (ne 5 (by decide) b o q z), upd_ne (ne 4 (by decide) b o q z), upd_ne (ne 3 (by decide) b o q z)]
    exact q
end
end Sw
namespace Sw
open PySem PySem.Spec PyProof.Rows L2
/-! ### a bridge's lists, stations and numbers replaced -/
section
variable {K : PySem.W.Frag} {ow ow' : Addr → Nat} {as : List Addr} {H H' : Hp} {n a : Addr} {s : Vbcnac.State} {i : Nat} {x x' : Vbcnac.Bridge} {dx : Addr} {l l' : Nat → Addr} {st st' : Addr} {vs vs' : Nat → List V} {kvs kvs' : List (Key × V)}
/-- the codes with a bridge's parts at new places -/
def code (ow : Addr → Nat) (i : Nat) (a : Addr) (l : Nat → Addr) (st : Addr) : Addr → Nat := fun b =>
  if b = a then 16 * i + 16 else if b = st then 16 * i + 24 else if b = l 0 then 16 * i + 17 else if b = l 1 then 16 * i + 18 else if b = l 2 then 16 * i + 19 else if b = l 3 then 16 * i + 20 else if b = l 4 then 16 * i + 21 else if b = l 5 then 16 * i + 22 else if b = l 6 then 16 * i + 23
  else if ow b / 16 = i + 1 then 0 else ow b
theorem code_l (hla : ∀ k, k < 7 → l k ≠ a) (hls : ∀ k, k < 7 → l k ≠ st) (inj : ∀ j k, j < 7 → k < 7 → j ≠ k → l j ≠ l k) : ∀ k, k < 7 → code ow i a l st (l k) = 16 * i + 17 + k := by
  intro k hk
  unfold code
  rw [if_neg (hla k hk), if_neg (hls k hk)]
  match k, hk with
  | 0, hk => rw [if_pos rfl]
  | 1, hk => rw [if_neg (inj 1 0 hk (by decide) (by decide)), if_pos rfl]
  | 2, hk => rw [if_neg (inj 2 0 hk (by decide) (by decide)), if_neg (inj 2 1 hk (by decide) (by decide)), if_pos rfl]
  | 3, hk => rw [if_neg (inj 3 0 hk (by decide) (by decide)), if_neg (inj 3 1 hk (by decide) (by decide)), if_neg (inj 3 2 hk (by decide) (by decide)), if_pos rfl]
  | 4, hk => rw [if_neg (inj 4 0 hk (by decide) (by decide)), if_neg (inj 4 1 hk (by decide) (by decide)), if_neg (inj 4 2 hk (by decide) (by decide)), if_neg (inj 4 3 hk (by decide) (by decide)), if_pos rfl]
  | 5, hk => rw [if_neg (inj 5 0 hk (by decide) (by decide)), if_neg (inj 5 1 hk (by decide) (by decide)), if_neg (inj 5 2 hk (by decide) (by decide)), if_neg (inj 5 3 hk (by decide) (by decide)), if_neg (inj 5 4 hk (by decide) (by decide)), if_pos rfl]
  | 6, hk => rw [if_neg (inj 6 0 hk (by decide) (by decide)), if_neg (inj 6 1 hk (by decide) (by decide)), if_neg (inj 6 2 hk (by decide) (by decide)), if_neg (inj 6 3 hk (by decide) (by decide)), if_neg (inj 6 4 hk (by decide) (by decide)), if_neg (inj 6 5 hk (by decide) (by decide)), if_pos rfl]
theorem code_or (b : Addr) : b = a ∨ b = st ∨ (∃ k, k < 7 ∧ b = l k) ∨ code ow i a l st b = if ow b / 16 = i + 1 then 0 else ow b := by
  by_cases h : b = a
  · exact .inl h
  by_cases h1 : b = st
  · exact .inr (.inl h1)
  by_cases h2 : ∃ k, k < 7 ∧ b = l k
  · exact .inr (.inr (.inl h2))
  refine .inr (.inr (.inr ?_))
  have z : ∀ k, k < 7 → b ≠ l k := fun k hk e => h2 ⟨k, hk, e⟩
  unfold code
  rw [if_neg h, if_neg h1, if_neg (z 0 (by decide)), if_neg (z 1 (by decide)), if_neg (z 2 (by decide)), if_neg (z 3 (by decide)), if_neg (z 4 (by decide)), if_neg (z 5 (by decide)), if_neg (z 6 (by decide))]
/-- only the bridge's own object is changed -/
theorem NetAt.swap (N : NetAt K ow as H n s) (e : as[i]? = some a) (B : BrAt K ow H i a x dx l st vs kvs) (hl : ∀ k, k < 7 → l' k = l k ∨ ow (l' k) = 0) (hs : st' = st ∨ ow st' = 0) (inj : ∀ j k, j < 7 → k < 7 → j ≠ k → l' j ≠ l' k)
    (h1 : H' a = some (.ins (He.ga K "Bridge") dx (bF x' l' st'))) (h2 : ∀ k, k < 7 → H' (l' k) = some (.lst (vs' k))) (h3 : H' st' = some (.dK kvs')) (h4 : ∀ k, k < 7 → (vs' k).length = x'.ports.length)
    (h5 : ∀ k, k < 7 → ∀ p v, (vs' k)[p]? = some v → PV H' k v (x'.ports.getD p {})) (h6 : Sta H' kvs' x'.stations) (fr : ∀ b o, H b = some o → b ≠ a → H' b = some o) :
    NetAt K (code ow i a l' st') as H' n (Vbcnac.setBridge s i x') ∧ (∀ b, code ow i a l' st' b ≠ 0 → ow b ≠ 0 ∨ b = st' ∨ ∃ k, k < 7 ∧ b = l' k) ∧ ∀ b, ow b / 16 ≠ i + 1 → ow b ≠ 0 → code ow i a l' st' b = ow b := by
  have la : ∀ k, k < 7 → l' k ≠ a := fun k hk => ne_of (h2 k hk) h1 (by intro z; cases z)
  have ls : ∀ k, k < 7 → l' k ≠ st' := fun k hk => ne_of (h2 k hk) h3 (by intro z; cases z)
  have sa : st' ≠ a := ne_of h3 h1 (by intro z; cases z)
  have hc := code_l (ow := ow) (i := i) la ls inj
  have ca : code ow i a l' st' a = 16 * i + 16 := by
    unfold code
    rw [if_pos rfl]
  have cs : code ow i a l' st' st' = 16 * i + 24 := by
    unfold code
    rw [if_neg sa, if_pos rfl]
  have ag : ∀ b, ow b / 16 ≠ i + 1 → ow b ≠ 0 → code ow i a l' st' b = ow b := fun b z1 z2 => by
    rcases code_or (ow := ow) (i := i) (a := a) (l := l') (st := st') b with y | y | ⟨k, hk, y⟩ | y
    · rw [y, B.oa] at z1
      omega
    · rcases hs with g | g
      · rw [y, g, B.os] at z1
        omega
      · rw [y] at z2
        exact absurd g z2
    · rcases hl k hk with g | g
      · rw [y, g, B.ol k hk] at z1
        omega
      · rw [y] at z2
        exact absurd g z2
    · rw [y, if_neg z1]
  refine ⟨N.put e ⟨h1, ca, h2, hc, h4, h5, h3, cs, h6⟩ (fun b o q z => ?_) ag (fun b z => ?_), fun b z => ?_, ag⟩
  · refine fr b o q fun y => ?_
    rw [y, B.oa] at z
    omega
  · rcases code_or (ow := ow) (i := i) (a := a) (l := l') (st := st') b with y | y | ⟨k, hk, y⟩ | y
    · rw [y]
      exact ⟨_, h1, rfl⟩
    · rw [y]
      exact ⟨_, h3, rfl⟩
    · rw [y]
      exact ⟨_, h2 k hk, rfl⟩
    · rw [y] at z
      split at z
      · exact absurd rfl z
      · rename_i g
        obtain ⟨o, e1, e2⟩ := N.fp b z
        refine ⟨o, fr b o e1 fun q => ?_, e2⟩
        rw [q, B.oa] at g
        omega
  · rcases code_or (ow := ow) (i := i) (a := a) (l := l') (st := st') b with y | y | ⟨k, hk, y⟩ | y
    · rw [y, B.oa]
      exact .inl (by omega)
    · exact .inr (.inl y)
    · exact .inr (.inr ⟨k, hk, y⟩)
    · rw [y] at z
      split at z
      · exact absurd rfl z
      · exact .inl z
/-- what was the net's own, but the bridge's object, or new: a heap where only that object is another -/
theorem frm1_of (ha : ow a / 16 = i + 1) (fr : ∀ b o, H b = some o → b ≠ a → H' b = some o) : Frm1 i ow H H' := fun b o q z => fr b o q fun y => by
  rw [y] at z
  exact z ha
theorem BrAt.oa1 (B : BrAt K ow H i a x dx l st vs kvs) : ow a / 16 = i + 1 := by
  rw [B.oa]
  omega
theorem BrAt.inj (B : BrAt K ow H i a x dx l st vs kvs) : ∀ j k, j < 7 → k < 7 → j ≠ k → l j ≠ l k := fun j k hj hk h => B.ll hj hk h
theorem BrAt.oa0 (B : BrAt K ow H i a x dx l st vs kvs) : ow a ≠ 0 := by
  rw [B.oa]
  omega
end
/-! ### sixteen of one value -/
theorem wipe1 (σ : L2.St) (j : Nat) (x : Option V) : wipe ((wipe σ [j]).set j x) [j] = wipe σ [j] := by
  show (((σ.set j none).set j x).set j none) = σ.set j none
  rw [List.set_set, List.set_set]
theorem r_yes {σ : L2.St} {H : Hp} {QB : Bool → Hp → Prop} (h : QB true H) : tYes σ H QB := h
theorem lc_const {σ : L2.St} {H : Hp} {Q : VK} {j : Nat} {v : V} (q : ∀ p, H p = none → Q (.ref p) (upd H p (.lst (List.replicate 16 v)))) : tLc (iRng1 (tCons (tC (.int 16)) tNil)) (gName j) tYes (tC v) [j] σ H Q := by
  refine ⟨16, rfl, by decide, by decide, fun D hD => lc_range (lo := 0) (n := 16) (fun i H' => H' = upd H D (.lst (List.replicate i v))) rfl (fun i H' hi hP => ?_) fun H' hP => ?_⟩
  · refine ⟨wipe1 _ _ _, ?_⟩
    refine r_yes (iteT ?_)
    refine ⟨List.replicate i v, by rw [hP]; exact upd_same, by rw [List.length_replicate]; exact Nat.lt_of_lt_of_le hi (by decide), ?_⟩
    rw [hP, upd_upd, List.replicate_succ']
  · rw [hP]
    exact q D hD
/-- o.f = e -/
theorem r_sfld {K : PySem.W.Frag} {σ : L2.St} {H : Hp} {D : Ends} {ta tv : TE} {f : Str} (h : tv σ H fun y H1 => ta σ H1 fun x H2 => ∃ a C dx fs, x = .ref a ∧ H2 a = some (.ins C dx fs) ∧ Cls K C ∧ NoAttr K C f ∧ fs.length < 1000 ∧ D.nx σ (upd H2 a (.ins C dx (putF f y fs)))) : sFld K ta tv f D σ H := h
theorem r_newK {σ : L2.St} {H : Hp} {Q : VK} (h : ∀ p, H p = none → Q (.ref p) (upd H p (.dK []))) : tDNewK σ H Q := h
section
variable {P : Program} {w : World} {K : PySem.W.Frag} {mg : Str → Option Value} {base : Heap}
/-! ### begin_anew -/
def sp_begin_anew (K : PySem.W.Frag) : Sp := fun vs H Q _ => ∃ ow as n s t b p, vs = [.ref n, .ref t] ∧ NetAt K ow as H n s ∧ H t = some (.tup [.int (b : Nat), .int (p : Nat)]) ∧ b < s.bridges.length ∧ p < (Vbcnac.bridgeAt s b).ports.length ∧ (Vbcnac.bridgeAt s b).ports.length = 16 ∧
  ∀ H' ow', NetAt K ow' as H' n (Vbcnac.touch s b p) → Loc1 b H H' ow ow' → Q .non H'
theorem sc_begin_anew : FnScope ["net", "port", "forwarded", "bridge", "place"] ["net", "port"] D_begin_anew.scope := ⟨rfl, rfl, rfl, by decide +kernel, rfl, by decide +kernel, by decide +kernel⟩
-- level 2; slots 0:net 1:port 2:forwarded 3:bridge 4:place; captured []
theorem ok_begin_anew (T : Txt K mg) (G_forwards : Does P w K mg base 1 "forwards" ["net", "port"] (sp_forwards K)) (G_empty_port : Does P w K mg base 1 "empty_port" ["bridge", "place"] (sp_empty_port K)) : Does P w K mg base 2 "begin_anew" ["net", "port"] (sp_begin_anew K) := by
  refine does_of T 7 (d := D_begin_anew) rfl rfl rfl rfl T.g_begin_anew sc_begin_anew (fun _ _ _ _ _ _ us hl => match us, hl with | [_, _], _ => rfl) (fun vs H Q E h => by obtain ⟨_, _, _, _, _, _, _, rfl, _⟩ := h; rfl) (fun cdv A outer s H vs Q E hr h => ⟨_, (pss_cons (ps_set (i := 2) sc_begin_anew.nd rfl (.inl rfl) (pe_f G_forwards (hr.mono (by decide)) (by rfl) (pa_cons (pv 0) (pa_cons (pv 1) pa_nil))))
      (pss_cons (ps_set (i := 3) sc_begin_anew.nd rfl (.inl rfl) (pe_ix ix_list (pe_fld (pv 0) rfl) (pe_ix ix_tup (pv 1) pe_int (fun _ _ => rfl)) (fun _ _ => rfl)))
      (pss_cons (ps_expr (pe_f G_empty_port (hr.mono (by decide)) (by rfl) (pa_cons (pv 3) (pa_cons (pe_ix ix_tup (pv 1) pe_int (fun _ _ => rfl)) pa_nil))))
      (pss_one (ps_if (pt_val (pv 2)) (pss_cons (ps_fld (pv 3) pe_dnewK rfl)
      (pss_one (ps_fld (pv 3) (pe_lc (own := [("place", 4)]) (tt := tYes) (g := gName 4) rfl sc_begin_anew.nd (pi_range1 (by rfl) T.f_range (pa_cons (pe_gi T.i_PORTS rfl) pa_nil)) (blkOk_by (own := [("place", 4)]) (N := ["net", "port", "forwarded", "bridge", "place"]) (sc := D_begin_anew.scope) (by decide +kernel)) (fun _ _ _ _ _ => (pg_name (i := 4) sc_begin_anew.nd rfl (.inl rfl))) (fun _ _ _ _ _ => pts_nil) (fun _ _ _ _ _ => pe_bl)) rfl))) pss_nil))))), ?_⟩)
  obtain ⟨ow, as, n, s, t, b, p, rfl, N, ht, hb, hp, h16, hQ⟩ := h
  obtain ⟨a, e⟩ := N.addr hb
  refine r_seq (r_set (c2 vv vv ⟨ow, as, n, s, t, b, p, rfl, N, ht, hb, hp, ?_⟩))
  refine r_seq (r_set (go (N.bridge T e vv (v_ixT (j := 0) vv (SqT.of ht) rfl)) ?_))
  refine r_seq (r_drop (c2 vv (v_ixT (j := 1) vv (SqT.of ht) rfl) ⟨ow, as, n, s, b, a, p, rfl, N, e, hp, fun H1 N1 f1 => ?_⟩))
  refine r_if (r_tb (go vv ⟨_, rfl, ?_⟩))
  cases q : Vbcnac.forwards s b p with
  | false =>
    refine iteF (r_next (hQ H1 ow ?_ (Loc1.same f1)))
    rw [touch_eq, q, if_neg (by decide)]
    exact N1
  | true =>
    obtain ⟨dx, l, st, ws, kvs, B⟩ := N1.br b a e
    have hb1 : b < (Vbcnac.setPort s b p (Vbcnac.anew (Vbcnac.portAt s b p))).bridges.length := by
      rw [len_setPort]
      exact hb
    have l16 : (Vbcnac.bridgeAt (Vbcnac.setPort s b p (Vbcnac.anew (Vbcnac.portAt s b p))) b).ports.length = 16 := by
      rw [plen_setPort]
      exact h16
    have tq : Vbcnac.touch s b p = Vbcnac.setBridge (Vbcnac.setPort s b p (Vbcnac.anew (Vbcnac.portAt s b p))) b (Vbcnac.stirred (Vbcnac.bridgeAt (Vbcnac.setPort s b p (Vbcnac.anew (Vbcnac.portAt s b p))) b)) := by
      rw [touch_eq, q, if_pos rfl]
    refine iteT (r_seq (r_sfld (r_newK fun p1 n1 => ?_)))
    have a1 : (upd H1 p1 (.dK [])) a = some (.ins (He.ga K "Bridge") dx (bF (Vbcnac.bridgeAt (Vbcnac.setPort s b p (Vbcnac.anew (Vbcnac.portAt s b p))) b) l st)) := by
      rw [upd_ne (ne_of_none B.self n1)]
      exact B.self
    refine go vv ⟨a, _, dx, _, rfl, a1, T.c_Bridge, T.n_Bridge_stations, by show 11 < 1000; decide, ?_⟩
    rw [pF_stations]
    refine r_sfld (lc_const fun p2 n2 => ?_)
    have n2' : H1 p2 = none := by
      cases z : H1 p2 with
      | none => rfl
      | some o =>
        by_cases y : p2 = a
        · rw [y, upd_same] at n2
          cases n2
        · rw [upd_ne y, upd_ne (ne_of_none z n1), z] at n2
          cases n2
    have p12 : p1 ≠ a := fun y => by
      rw [y, B.self] at n1
      cases n1
    have p22 : p2 ≠ a := fun y => by
      rw [y, B.self] at n2'
      cases n2'
    have p21 : p2 ≠ p1 := fun y => by
      rw [y, upd_ne p12, upd_same] at n2
      cases n2
    have a2 : (upd (upd (upd H1 p1 (.dK [])) a (.ins (He.ga K "Bridge") dx (bF (Vbcnac.bridgeAt (Vbcnac.setPort s b p (Vbcnac.anew (Vbcnac.portAt s b p))) b) l p1))) p2 (.lst (List.replicate 16 (.bl true)))) a = some (.ins (He.ga K "Bridge") dx (bF (Vbcnac.bridgeAt (Vbcnac.setPort s b p (Vbcnac.anew (Vbcnac.portAt s b p))) b) l p1)) := by
      rw [upd_ne p22.symm, upd_same]
    refine go vv ⟨a, _, dx, _, rfl, a2, T.c_Bridge, T.n_Bridge_notices, by show 11 < 1000; decide, ?_⟩
    rw [pF_notices]
    have fr : ∀ c o, H1 c = some o → c ≠ a → (upd (upd (upd (upd H1 p1 (.dK [])) a (.ins (He.ga K "Bridge") dx (bF (Vbcnac.bridgeAt (Vbcnac.setPort s b p (Vbcnac.anew (Vbcnac.portAt s b p))) b) l p1))) p2 (.lst (List.replicate 16 (.bl true)))) a (.ins (He.ga K "Bridge") dx (bF (Vbcnac.bridgeAt (Vbcnac.setPort s b p (Vbcnac.anew (Vbcnac.portAt s b p))) b) (setA l 6 p2) p1))) c = some o := fun c o z y => by
      rw [upd_ne y, upd_ne (ne_of_none z n2'), upd_ne y, upd_ne (ne_of_none z n1)]
      exact z
    have lp : ∀ k, k < 7 → l k ≠ p2 := fun k hk => ne_of_none (B.lst k hk) n2'
    have tup : Tup H1 (upd (upd (upd (upd H1 p1 (.dK [])) a (.ins (He.ga K "Bridge") dx (bF (Vbcnac.bridgeAt (Vbcnac.setPort s b p (Vbcnac.anew (Vbcnac.portAt s b p))) b) l p1))) p2 (.lst (List.replicate 16 (.bl true)))) a (.ins (He.ga K "Bridge") dx (bF (Vbcnac.bridgeAt (Vbcnac.setPort s b p (Vbcnac.anew (Vbcnac.portAt s b p))) b) (setA l 6 p2) p1))) := fun c xs z => fr c _ z fun y => by
      rw [y, B.self] at z
      cases z
    refine And.elim (fun M gg => ?_) (N1.swap e B (l' := setA l 6 p2) (st' := p1) (vs' := fun k => if k = 6 then List.replicate 16 (.bl true) else ws k) (kvs' := []) (x' := Vbcnac.stirred (Vbcnac.bridgeAt (Vbcnac.setPort s b p (Vbcnac.anew (Vbcnac.portAt s b p))) b)) (fun k hk => ?_) (.inr (N1.new n1)) (fun j k hj hk hjk => ?_) upd_same (fun k hk => ?_) ?_ (fun k hk => ?_) (fun k hk q v hv => ?_) ⟨[], .refl _, .nil⟩ fr)
    · obtain ⟨g, ag⟩ := gg
      refine hQ _ _ (by rw [tq]; exact M) ⟨fun c o z1 z2 => frm1_of B.oa1 fr c o (f1 c o z1 z2) z2, ag, fun c z => ?_⟩
      have f1 := f1.frm
      rcases g c z with y | y | ⟨k, hk, y⟩
      · exact .inl y
      · rw [y]
        by_cases z1 : ow p1 = 0
        · right
          cases z2 : H p1 with
          | none => rfl
          | some o =>
            rw [f1 _ _ z2 z1] at n1
            cases n1
        · exact .inl z1
      · rw [y]
        by_cases y6 : k = 6
        · rw [y6, setA_same]
          by_cases z1 : ow p2 = 0
          · right
            cases z2 : H p2 with
            | none => rfl
            | some o =>
              rw [f1 _ _ z2 z1] at n2'
              cases n2'
          · exact .inl z1
        · rw [setA_ne y6, B.ol k hk]
          exact .inl (by omega)
    · by_cases y : k = 6
      · rw [y, setA_same]
        exact .inr (N1.new n2')
      · rw [setA_ne y]
        exact .inl rfl
    · by_cases y1 : j = 6
      · rw [y1, setA_same, setA_ne (fun z => hjk (by rw [y1, z]))]
        exact (lp k hk).symm
      · by_cases y2 : k = 6
        · rw [y2, setA_same, setA_ne y1]
          exact lp j hj
        · rw [setA_ne y1, setA_ne y2]
          exact B.ll hj hk hjk
    · by_cases y : k = 6
      · rw [y, setA_same, if_pos rfl, upd_ne p22, upd_same]
      · rw [setA_ne y, if_neg y]
        exact fr _ _ (B.lst k hk) (B.la hk)
    · rw [upd_ne p12, upd_ne p21.symm, upd_ne p12, upd_same]
    · show _ = (List.map _ _).length
      rw [List.length_map, l16]
      by_cases y : k = 6
      · rw [if_pos y, List.length_replicate]
      · rw [if_neg y, B.len k hk, l16]
    · show PV _ k v ((List.map _ _).getD q {})
      rw [map_getD]
      by_cases y : k = 6
      · rw [if_pos y] at hv
        have hq : q < 16 := by
          have := (List.getElem?_eq_some_iff.mp hv).1
          rw [List.length_replicate] at this
          exact this
        rw [List.getElem?_replicate, if_pos hq] at hv
        rw [if_pos (by rw [l16]; exact hq), y, ← Option.some.inj hv]
        rfl
      · rw [if_neg y] at hv
        have hq : q < 16 := by
          have := (List.getElem?_eq_some_iff.mp hv).1
          rw [B.len k hk, l16] at this
          exact this
        rw [if_pos (by rw [l16]; exact hq)]
        have h0 := PV.mono tup (B.val k hk q v hv)
        match k, hk, y with
        | 0, _, _ => exact h0
        | 1, _, _ => exact h0
        | 2, _, _ => exact h0
        | 3, _, _ => exact h0
        | 4, _, _ => exact h0
        | 5, _, _ => exact h0
        | k + 6, hk, hne => exact absurd (by omega) hne
end
end Sw
namespace Sw
open PySem PySem.Spec PyProof.Rows L2
section
variable {K : PySem.W.Frag} {ow ow1 ow2 : Addr → Nat} {as : List Addr} {H H1 H2 : Hp} {n a : Addr} {s : Vbcnac.State} {i : Nat} {x x' : Vbcnac.Bridge} {dx : Addr} {l l' : Nat → Addr} {st st' : Addr} {vs vs' : Nat → List V} {kvs kvs' : List (Key × V)}
theorem Loc1.trans (h : Loc1 i H H1 ow ow1) (k : Loc1 i H1 H2 ow1 ow2) : Loc1 i H H2 ow ow2 := by
  refine ⟨fun c o e z => ?_, fun c z1 z2 => ?_, Grow.trans h.fr.frm h.gr k.gr⟩
  · refine k.fr c o (h.fr c o e z) ?_
    by_cases y : ow c = 0
    · by_cases y1 : ow1 c = 0
      · rw [y1]
        omega
      · rcases h.gr c y1 with q | q
        · exact absurd y q
        · rw [q] at e
          cases e
    · rw [h.ag c z y]
      exact z
  · have e := h.ag c z1 z2
    rw [k.ag c (by rw [e]; exact z1) (by rw [e]; exact z2), e]
theorem Loc1.frm (h : Loc1 i H H1 ow ow1) : Frm ow H H1 := h.fr.frm
/-- a number of the bridge's own object is changed -/
theorem NetAt.field (N : NetAt K ow as H n s) (e : as[i]? = some a) (B : BrAt K ow H i a (Vbcnac.bridgeAt s i) dx l st vs kvs) (hp : x'.ports = (Vbcnac.bridgeAt s i).ports) (hs : x'.stations = (Vbcnac.bridgeAt s i).stations) :
    ∃ ow', NetAt K ow' as (upd H a (.ins (He.ga K "Bridge") dx (bF x' l st))) n (Vbcnac.setBridge s i x') ∧ Loc1 i H (upd H a (.ins (He.ga K "Bridge") dx (bF x' l st))) ow ow' := by
  have fr : ∀ b o, H b = some o → b ≠ a → (upd H a (.ins (He.ga K "Bridge") dx (bF x' l st))) b = some o := fun b o q z => by
    rw [upd_ne z]
    exact q
  have t : Tup H (upd H a (.ins (He.ga K "Bridge") dx (bF x' l st))) := tup_upd B.self rfl
  obtain ⟨M, g, ag⟩ := N.swap e B (l' := l) (st' := st) (vs' := vs) (kvs' := kvs) (x' := x') (fun _ _ => .inl rfl) (.inl rfl) B.inj upd_same (fun k hk => fr _ _ (B.lst k hk) (B.la hk)) (fr _ _ B.dct B.sa) (fun k hk => by rw [hp]; exact B.len k hk)
    (fun k hk p v hv => by rw [hp]; exact PV.mono t (B.val k hk p v hv)) (by rw [hs]; exact Sta.mono t B.sta) fr
  refine ⟨_, M, frm1_of B.oa1 fr, ag, fun b z => ?_⟩
  rcases g b z with y | y | ⟨k, hk, y⟩
  · exact .inl y
  · rw [y, B.os]
    exact .inl (by omega)
  · rw [y, B.ol k hk]
    exact .inl (by omega)
/-- the stations' dict is a new one, empty -/
theorem NetAt.noSt (N : NetAt K ow as H n s) (e : as[i]? = some a) (B : BrAt K ow H i a (Vbcnac.bridgeAt s i) dx l st vs kvs) {p : Addr} (np : H p = none) :
    ∃ ow', NetAt K ow' as (upd (upd H p (.dK [])) a (.ins (He.ga K "Bridge") dx (bF (Vbcnac.bridgeAt s i) l p))) n (Vbcnac.setBridge s i { Vbcnac.bridgeAt s i with stations := [] }) ∧ Loc1 i H (upd (upd H p (.dK [])) a (.ins (He.ga K "Bridge") dx (bF (Vbcnac.bridgeAt s i) l p))) ow ow' := by
  have pa : p ≠ a := fun y => by
    rw [y, B.self] at np
    cases np
  have fr : ∀ b o, H b = some o → b ≠ a → (upd (upd H p (.dK [])) a (.ins (He.ga K "Bridge") dx (bF (Vbcnac.bridgeAt s i) l p))) b = some o := fun b o q z => by
    rw [upd_ne z, upd_ne (ne_of_none q np)]
    exact q
  have t : Tup H (upd (upd H p (.dK [])) a (.ins (He.ga K "Bridge") dx (bF (Vbcnac.bridgeAt s i) l p))) := fun b xs q => fr b _ q fun y => by
    rw [y, B.self] at q
    cases q
  obtain ⟨M, g, ag⟩ := N.swap e B (l' := l) (st' := p) (vs' := vs) (kvs' := []) (x' := { Vbcnac.bridgeAt s i with stations := [] }) (fun _ _ => .inl rfl) (.inr (N.new np)) B.inj upd_same (fun k hk => fr _ _ (B.lst k hk) (B.la hk)) (by rw [upd_ne pa, upd_same]) (fun k hk => B.len k hk)
    (fun k hk p v hv => PV.mono t (B.val k hk p v hv)) ⟨[], .refl _, .nil⟩ fr
  refine ⟨_, M, frm1_of B.oa1 fr, ag, fun b z => ?_⟩
  rcases g b z with y | y | ⟨k, hk, y⟩
  · exact .inl y
  · rw [y]
    exact .inr np
  · rw [y, B.ol k hk]
    exact .inl (by omega)
end
section
variable {P : Program} {w : World} {K : PySem.W.Frag} {mg : Str → Option Value} {base : Heap}
/-! ### lay_cable -/
def W16 (s : Vbcnac.State) : Prop := ∀ c, c < s.bridges.length → (Vbcnac.bridgeAt s c).ports.length = 16
theorem w16_peer {s : Vbcnac.State} (h : W16 s) (b p : Nat) (x : Option (Nat × Nat)) : W16 (Vbcnac.setPeer s b p x) := fun c hc => by
  unfold Vbcnac.setPeer at hc ⊢
  rw [len_setPort] at hc
  rw [plen_setPort]
  exact h c hc
theorem w16_rest {s s' : Vbcnac.State} (h : W16 s) (hl : s'.bridges.length = s.bridges.length) (hr : ∀ c, rest (Vbcnac.bridgeAt s' c) = rest (Vbcnac.bridgeAt s c)) : W16 s' := fun c hc => by
  rw [hl] at hc
  rw [show (Vbcnac.bridgeAt s' c).ports.length = (Vbcnac.bridgeAt s c).ports.length from congrArg (fun z => z.2.2.2) (hr c)]
  exact h c hc
theorem w16_touch {s : Vbcnac.State} (h : W16 s) (b p : Nat) : W16 (Vbcnac.touch s b p) := w16_rest h (len_touch s b p) (rest_touch s b p)
theorem len_setPeer (s : Vbcnac.State) (b p : Nat) (x : Option (Nat × Nat)) : (Vbcnac.setPeer s b p x).bridges.length = s.bridges.length := len_setPort _ _ _ _
def sp_lay_cable (K : PySem.W.Frag) : Sp := fun vs H Q _ => ∃ ow as n s t u b p c q, vs = [.ref n, .ref t, .ref u] ∧ NetAt K ow as H n s ∧ H t = some (.tup [.int (b : Nat), .int (p : Nat)]) ∧ H u = some (.tup [.int (c : Nat), .int (q : Nat)]) ∧ b < s.bridges.length ∧ p < 16 ∧ c < s.bridges.length ∧ q < 16 ∧ W16 s ∧
  ∀ H' ow', NetAt K ow' as H' n (Vbcnac.joined s b p c q) → Frm ow H H' → Grow H ow ow' → Q .non H'
theorem sc_lay_cable : FnScope ["net", "port", "other"] ["net", "port", "other"] D_lay_cable.scope := ⟨rfl, rfl, rfl, by decide +kernel, rfl, by decide +kernel, by decide +kernel⟩
-- level 3; slots 0:net 1:port 2:other; captured []
theorem ok_lay_cable (T : Txt K mg) (G_set_cable : Does P w K mg base 1 "set_cable" ["net", "port", "other"] (sp_set_cable K)) (G_begin_anew : Does P w K mg base 2 "begin_anew" ["net", "port"] (sp_begin_anew K)) : Does P w K mg base 3 "lay_cable" ["net", "port", "other"] (sp_lay_cable K) := by
  refine does_of T 9 (d := D_lay_cable) rfl rfl rfl rfl T.g_lay_cable sc_lay_cable (fun _ _ _ _ _ _ us hl => match us, hl with | [_, _, _], _ => rfl) (fun vs H Q E h => by obtain ⟨_, _, _, _, _, _, _, _, _, _, rfl, _⟩ := h; rfl) (fun cdv A outer s H vs Q E hr h => ⟨_, (pss_cons (ps_expr (pe_f G_set_cable (hr.mono (by decide)) (by rfl) (pa_cons (pv 0) (pa_cons (pv 1) (pa_cons (pv 2) pa_nil)))))
      (pss_cons (ps_expr (pe_f G_set_cable (hr.mono (by decide)) (by rfl) (pa_cons (pv 0) (pa_cons (pv 2) (pa_cons (pv 1) pa_nil)))))
      (pss_cons (ps_expr (pe_f G_begin_anew (hr.mono (by decide)) (by rfl) (pa_cons (pv 0) (pa_cons (pv 1) pa_nil))))
      (pss_one (ps_expr (pe_f G_begin_anew (hr.mono (by decide)) (by rfl) (pa_cons (pv 0) (pa_cons (pv 2) pa_nil)))))))), ?_⟩)
  obtain ⟨ow, as, n, s, t, u, b, p, c, q, rfl, N, ht, hu, hb, hp, hc, hq, hw, hQ⟩ := h
  refine r_seq (r_drop (c3 vv vv vv ⟨ow, as, n, s, t, b, p, _, some (c, q), rfl, N, ht, hb, by rw [hw b hb]; exact hp, ⟨u, rfl, hu⟩, fun H1 N1 f1 => ?_⟩))
  have t1 := N.tups f1.frm
  have w1 := w16_peer hw b p (some (c, q))
  have l1 := len_setPeer s b p (some (c, q))
  refine r_seq (r_drop (c3 vv vv vv ⟨ow, as, n, _, u, c, q, _, some (b, p), rfl, N1, t1 _ _ hu, by rw [l1]; exact hc, by rw [w1 c (by rw [l1]; exact hc)]; exact hq, ⟨t, rfl, t1 _ _ ht⟩, fun H2 N2 f2 => ?_⟩))
  have t2 := N1.tups f2.frm
  have w2 := w16_peer w1 c q (some (b, p))
  have l2 : (Vbcnac.setPeer (Vbcnac.setPeer s b p (some (c, q))) c q (some (b, p))).bridges.length = s.bridges.length := (len_setPeer _ _ _ _).trans l1
  refine r_seq (r_drop (c2 vv vv ⟨ow, as, n, _, t, b, p, rfl, N2, t2 _ _ (t1 _ _ ht), by rw [l2]; exact hb, by rw [w2 b (by rw [l2]; exact hb)]; exact hp, w2 b (by rw [l2]; exact hb), fun H3 ow3 N3 f3 => ?_⟩))
  have t3 := N2.tups f3.frm
  have w3 := w16_touch w2 b p
  have l3 := (len_touch (Vbcnac.setPeer (Vbcnac.setPeer s b p (some (c, q))) c q (some (b, p))) b p).trans l2
  refine r_drop (c2 vv vv ⟨ow3, as, n, _, u, c, q, rfl, N3, t3 _ _ (t2 _ _ (t1 _ _ hu)), by rw [l3]; exact hc, by rw [w3 c (by rw [l3]; exact hc)]; exact hq, w3 c (by rw [l3]; exact hc), fun H4 ow4 N4 f4 => ?_⟩)
  have f12 : Frm ow H H2 := f1.frm.trans (Grow.refl _ _) f2.frm
  have g3 : Grow H ow ow3 := Grow.trans f12 (Grow.refl _ _) f3.gr
  have f13 : Frm ow H H3 := f12.trans (Grow.refl _ _) f3.frm
  exact hQ H4 ow4 N4 (f13.trans g3 f4.frm) (Grow.trans f13 g3 f4.gr)
/-! ### cut_cable -/
def sp_cut_cable (K : PySem.W.Frag) : Sp := fun vs H Q _ => ∃ ow as n s t b p c q, vs = [.ref n, .ref t] ∧ NetAt K ow as H n s ∧ H t = some (.tup [.int (b : Nat), .int (p : Nat)]) ∧ (Vbcnac.portAt s b p).peer = some (c, q) ∧ b < s.bridges.length ∧ p < 16 ∧ c < s.bridges.length ∧ q < 16 ∧ W16 s ∧
  ∀ H' ow', NetAt K ow' as H' n (Vbcnac.parted s b p c q) → Frm ow H H' → Grow H ow ow' → Q .non H'
theorem sc_cut_cable : FnScope ["net", "port", "other"] ["net", "port"] D_cut_cable.scope := ⟨rfl, rfl, rfl, by decide +kernel, rfl, by decide +kernel, by decide +kernel⟩
-- level 3; slots 0:net 1:port 2:other; captured []
theorem ok_cut_cable (T : Txt K mg) (G_cable_at : Does P w K mg base 1 "cable_at" ["net", "port"] (sp_cable_at K)) (G_set_cable : Does P w K mg base 1 "set_cable" ["net", "port", "other"] (sp_set_cable K)) (G_begin_anew : Does P w K mg base 2 "begin_anew" ["net", "port"] (sp_begin_anew K)) : Does P w K mg base 3 "cut_cable" ["net", "port"] (sp_cut_cable K) := by
  refine does_of T 10 (d := D_cut_cable) rfl rfl rfl rfl T.g_cut_cable sc_cut_cable (fun _ _ _ _ _ _ us hl => match us, hl with | [_, _], _ => rfl) (fun vs H Q E h => by obtain ⟨_, _, _, _, _, _, _, _, _, rfl, _⟩ := h; rfl) (fun cdv A outer s H vs Q E hr h => ⟨_, (pss_cons (ps_set (i := 2) sc_cut_cable.nd rfl (.inl rfl) (pe_f G_cable_at (hr.mono (by decide)) (by rfl) (pa_cons (pv 0) (pa_cons (pv 1) pa_nil))))
      (pss_cons (ps_expr (pe_f G_set_cable (hr.mono (by decide)) (by rfl) (pa_cons (pv 0) (pa_cons (pv 1) (pa_cons pe_non pa_nil)))))
      (pss_cons (ps_expr (pe_f G_set_cable (hr.mono (by decide)) (by rfl) (pa_cons (pv 0) (pa_cons (pv 2) (pa_cons pe_non pa_nil)))))
      (pss_cons (ps_expr (pe_f G_begin_anew (hr.mono (by decide)) (by rfl) (pa_cons (pv 0) (pa_cons (pv 1) pa_nil))))
      (pss_one (ps_expr (pe_f G_begin_anew (hr.mono (by decide)) (by rfl) (pa_cons (pv 0) (pa_cons (pv 2) pa_nil))))))))), ?_⟩)
  obtain ⟨ow, as, n, s, t, b, p, c, q, rfl, N, ht, hpe, hb, hp, hc, hq, hw, hQ⟩ := h
  refine r_seq (r_set (c2 vv vv ⟨ow, as, n, s, t, b, p, rfl, N, ht, hb, by rw [hw b hb]; exact hp, fun v hv => ?_⟩))
  rw [hpe] at hv
  obtain ⟨u, rfl, hu⟩ := hv
  refine r_seq (r_drop (c3 vv vv val_c ⟨ow, as, n, s, t, b, p, _, none, rfl, N, ht, hb, by rw [hw b hb]; exact hp, rfl, fun H1 N1 f1 => ?_⟩))
  have t1 := N.tups f1.frm
  have w1 := w16_peer hw b p none
  have l1 := len_setPeer s b p none
  refine r_seq (r_drop (c3 vv vv val_c ⟨ow, as, n, _, u, c, q, _, none, rfl, N1, t1 _ _ hu, by rw [l1]; exact hc, by rw [w1 c (by rw [l1]; exact hc)]; exact hq, rfl, fun H2 N2 f2 => ?_⟩))
  have t2 := N1.tups f2.frm
  have w2 := w16_peer w1 c q none
  have l2 : (Vbcnac.setPeer (Vbcnac.setPeer s b p none) c q none).bridges.length = s.bridges.length := (len_setPeer _ _ _ _).trans l1
  refine r_seq (r_drop (c2 vv vv ⟨ow, as, n, _, t, b, p, rfl, N2, t2 _ _ (t1 _ _ ht), by rw [l2]; exact hb, by rw [w2 b (by rw [l2]; exact hb)]; exact hp, w2 b (by rw [l2]; exact hb), fun H3 ow3 N3 f3 => ?_⟩))
  have t3 := N2.tups f3.frm
  have w3 := w16_touch w2 b p
  have l3 := (len_touch (Vbcnac.setPeer (Vbcnac.setPeer s b p none) c q none) b p).trans l2
  refine r_drop (c2 vv vv ⟨ow3, as, n, _, u, c, q, rfl, N3, t3 _ _ (t2 _ _ (t1 _ _ hu)), by rw [l3]; exact hc, by rw [w3 c (by rw [l3]; exact hc)]; exact hq, w3 c (by rw [l3]; exact hc), fun H4 ow4 N4 f4 => ?_⟩)
  have f12 : Frm ow H H2 := f1.frm.trans (Grow.refl _ _) f2.frm
  have g3 : Grow H ow ow3 := Grow.trans f12 (Grow.refl _ _) f3.gr
  have f13 : Frm ow H H3 := f12.trans (Grow.refl _ _) f3.frm
  exact hQ H4 ow4 N4 (f13.trans g3 f4.frm) (Grow.trans f13 g3 f4.gr)
end
end Sw
namespace Sw
open PySem PySem.Spec PyProof.Rows L2
section
variable {P : Program} {w : World} {K : PySem.W.Frag} {mg : Str → Option Value} {base : Heap}
/-! ### begin_neighbours_anew -/
theorem take_succ' {α : Type} {l : List α} {i : Nat} {x : α} (h : l[i]? = some x) : l.take (i + 1) = l.take i ++ [x] := by
  rw [List.take_add_one, h]
  rfl
/-- the far ends at the first k ports -/
def far (s : Vbcnac.State) (b k : Nat) : List (Nat × Nat) := ((Vbcnac.bridgeAt s b).ports.take k).filterMap fun p => p.peer.bind fun x => if x.1 = b then none else some x
theorem far_all (s : Vbcnac.State) (b : Nat) : far s b (Vbcnac.bridgeAt s b).ports.length = Vbcnac.farEnds s b := by
  unfold far Vbcnac.farEnds
  rw [List.take_length]
theorem far_succ {s : Vbcnac.State} {b k : Nat} (h : k < (Vbcnac.bridgeAt s b).ports.length) : far s b (k + 1) = far s b k ++ ((Vbcnac.portAt s b k).peer.bind fun x => if x.1 = b then none else some x).toList := by
  unfold far
  rw [take_succ' (portAt_get h), List.filterMap_append]
  refine congrArg (_ ++ ·) ?_
  rw [List.filterMap_cons, List.filterMap_nil]
  cases ((Vbcnac.portAt s b k).peer.bind fun x => if x.1 = b then none else some x) <;> rfl
theorem touchAll_app (s : Vbcnac.State) (l m : List (Nat × Nat)) : Vbcnac.touchAll s (l ++ m) = Vbcnac.touchAll (Vbcnac.touchAll s l) m := List.foldl_append
theorem len_touchAll : ∀ (l : List (Nat × Nat)) (s : Vbcnac.State), (Vbcnac.touchAll s l).bridges.length = s.bridges.length
  | [], _ => rfl
  | x :: r, s => (len_touchAll r _).trans (len_touch _ _ _)
theorem w16_touchAll : ∀ (l : List (Nat × Nat)) {s : Vbcnac.State}, W16 s → W16 (Vbcnac.touchAll s l)
  | [], _, h => h
  | x :: r, s, h => w16_touchAll r (w16_touch h x.1 x.2)
def sp_begin_neighbours_anew (K : PySem.W.Frag) : Sp := fun vs H Q _ => ∃ ow as n s b, vs = [.ref n, .int (b : Nat)] ∧ NetAt K ow as H n s ∧ b < s.bridges.length ∧ W16 s ∧ (∀ p x, (Vbcnac.portAt s b p).peer = some x → x.1 < s.bridges.length ∧ x.2 < 16) ∧
  ∀ H' ow', NetAt K ow' as H' n (Vbcnac.touchAll s (Vbcnac.farEnds s b)) → Frm ow H H' → Grow H ow ow' → Q .non H'
theorem sc_begin_neighbours_anew : FnScope ["net", "number", "other"] ["net", "number"] D_begin_neighbours_anew.scope := ⟨rfl, rfl, rfl, by decide +kernel, rfl, by decide +kernel, by decide +kernel⟩
-- level 3; slots 0:net 1:number 2:other; captured []
theorem ok_begin_neighbours_anew (T : Txt K mg) (G_begin_anew : Does P w K mg base 2 "begin_anew" ["net", "port"] (sp_begin_anew K)) : Does P w K mg base 3 "begin_neighbours_anew" ["net", "number"] (sp_begin_neighbours_anew K) := by
  refine does_of T 11 (d := D_begin_neighbours_anew) rfl rfl rfl rfl T.g_begin_neighbours_anew sc_begin_neighbours_anew (fun _ _ _ _ _ _ us hl => match us, hl with | [_, _], _ => rfl) (fun vs H Q E h => by obtain ⟨_, _, _, _, _, rfl, _⟩ := h; rfl) (fun cdv A outer s H vs Q E hr h => ⟨_, (pss_one (ps_for PassesOwn.never rfl (pi_list (pe_fld (pe_ix ix_list (pe_fld (pv 0) rfl) (pv 1) (fun _ _ => rfl)) rfl)) (pg_name (i := 2) sc_begin_neighbours_anew.nd rfl (.inl rfl)) (pss_one (ps_if (PW.pt (pw_and (pt_cmpR op_notN (pv 2) pe_non (nomark _)) (pw_and1 (pt_cmpR op_ne (pe_ix ix_tup (pv 2) pe_int (fun _ _ => rfl)) (pv 1) (nomark _))))) (pss_one (ps_expr (pe_f G_begin_anew (hr.mono (by decide)) (by rfl) (pa_cons (pv 0) (pa_cons (pv 2) pa_nil))))) pss_nil)))), ?_⟩)
  obtain ⟨ow, as, n, s, b, rfl, N, hb, hw, hpe, hQ⟩ := h
  obtain ⟨a, e⟩ := N.addr hb
  obtain ⟨dx, l, st, ws, kvs, B⟩ := N.br b a e
  have l16 : (ws 2).length = 16 := (B.len 2 (by decide)).trans (hw b hb)
  refine r_for (r_ilist (go (B.fcables T (N.bridge T e vv vv)) ⟨l 2, rfl, ⟨_, SqL.of (B.lst 2 (by decide))⟩, for_list (K := K) (a := l 2) (xs := ws 2)
    (fun k σ H' => ∃ ow' v, σ = [some (.ref n), some (.int (b : Nat)), v] ∧ NetAt K ow' as H' n (Vbcnac.touchAll s (far s b k)) ∧ Frm ow H H' ∧ Grow H ow ow' ∧ H' (l 2) = some (.lst (ws 2)) ∧ ow' (l 2) = 16 * b + 19)
    ⟨ow, none, rfl, N, Frm.refl _ _, Grow.refl _ _, B.lst 2 (by decide), B.ol 2 (by decide)⟩ (fun k σ H' _ ⟨_, _, _, _, _, _, h2, _⟩ => SqL.of h2) (fun k v σ H' hk ⟨ow1, v0, es, N1, f1, g1, h2, o2⟩ => ?_) fun σ H' ⟨ow1, v0, es, N1, f1, g1, _, _⟩ => ?_⟩))
  · subst es
    have hk16 : k < 16 := by
      have := (List.getElem?_eq_some_iff.mp hk).1
      rw [l16] at this
      exact this
    have hkp : k < (Vbcnac.bridgeAt s b).ports.length := by
      rw [hw b hb]
      exact hk16
    have pvk : Cab H v (Vbcnac.portAt s b k).peer := B.val 2 (by decide) k v hk
    have hfs := far_succ hkp
    cases hx : (Vbcnac.portAt s b k).peer with
    | none =>
      rw [hx] at pvk hfs
      cases (show v = .non from pvk)
      refine r_if (r_and (r_test (r_op (go vv (r_c ⟨rfl, _, rfl, if_n (if_n (r_next ?_))⟩)))))
      refine ⟨ow1, some .non, rfl, ?_, f1, g1, h2, o2⟩
      rw [hfs]
      simpa using N1
    | some x =>
      rw [hx] at pvk hfs
      obtain ⟨u, rfl, hu⟩ := pvk
      have hu1 := N.tups f1 _ _ hu
      refine r_if (r_and (r_test (r_op (go vv (r_c ⟨rfl, _, rfl, if_y (r_test (r_op (go (v_ixT (j := 0) vv (SqT.of hu1) rfl) (go vv ⟨rfl, _, rfl, ?_⟩))))⟩)))))
      rw [dec_int]
      by_cases hxb : x.1 = b
      · rw [hxb, beq_self_eq_true]
        refine if_n (r_next ⟨ow1, some (.ref u), rfl, ?_, f1, g1, h2, o2⟩)
        rw [hfs]
        simpa [hxb] using N1
      · rw [beq_eq_false_iff_ne.mpr hxb]
        obtain ⟨q1, q2⟩ := hpe k x hx
        have w1 := w16_touchAll (far s b k) hw
        have l1 := len_touchAll (far s b k) s
        refine if_y (r_drop (c2 vv vv ⟨ow1, as, n, _, u, x.1, x.2, rfl, N1, hu1, by rw [l1]; exact q1, by rw [w1 _ (by rw [l1]; exact q1)]; exact q2, w1 _ (by rw [l1]; exact q1), fun H2 ow2 N2 f2 => ?_⟩))
        have hne : ow1 (l 2) / 16 ≠ x.1 + 1 := by
          rw [o2]
          omega
        refine ⟨ow2, some (.ref u), rfl, ?_, f1.trans g1 f2.frm, Grow.trans f1 g1 f2.gr, f2.fr _ _ h2 hne, by rw [f2.ag _ hne (by rw [o2]; omega)]; exact o2⟩
        rw [hfs, touchAll_app]
        show NetAt K ow2 as H2 n (Vbcnac.touchAll (Vbcnac.touchAll s (far s b k)) (if x.1 = b then none else some x).toList)
        rw [if_neg hxb]
        exact N2
  · subst es
    refine hQ H' ow1 ?_ f1 g1
    have e16 : (ws 2).length = (Vbcnac.bridgeAt s b).ports.length := B.len 2 (by decide)
    rw [e16, far_all] at N1
    exact N1
end
end Sw
namespace Sw
open PySem PySem.Spec PyProof.Rows L2
/-! ### turn_off -/
theorem set_twice (s : Vbcnac.State) (b : Nat) (x y : Vbcnac.Bridge) : Vbcnac.setBridge (Vbcnac.setBridge s b x) b y = Vbcnac.setBridge s b y := by
  unfold Vbcnac.setBridge
  simp only [List.set_set]
def offTo (s : Vbcnac.State) (b k : Nat) : Vbcnac.State := Vbcnac.setBridge s b { Vbcnac.bridgeAt s b with on := false, ports := ((Vbcnac.bridgeAt s b).ports.take k).map Vbcnac.anew ++ (Vbcnac.bridgeAt s b).ports.drop k }
theorem anew_at {l : List Vbcnac.Port} {k : Nat} (h : k < l.length) : ((l.take k).map Vbcnac.anew ++ l.drop k).getD k {} = l.getD k {} := by
  rw [List.getD_eq_getElem?_getD, List.getElem?_append_right (by rw [List.length_map, List.length_take]; omega), List.length_map, List.length_take, List.getElem?_drop, List.getD_eq_getElem?_getD]
  congr 2
  omega
theorem anew_set {l : List Vbcnac.Port} {k : Nat} (h : k < l.length) : ((l.take k).map Vbcnac.anew ++ l.drop k).set k (Vbcnac.anew (l.getD k {})) = (l.take (k + 1)).map Vbcnac.anew ++ l.drop (k + 1) := by
  have e : l[k]? = some (l.getD k {}) := by
    rw [List.getD_eq_getElem?_getD, List.getElem?_eq_getElem h]
    rfl
  rw [List.set_append, if_neg (by rw [List.length_map, List.length_take]; omega), take_succ' e, List.map_append, List.length_map, List.length_take, List.drop_eq_getElem_cons h]
  have e2 : k - min k l.length = 0 := by omega
  rw [e2, List.set_cons_zero, List.append_assoc]
  rfl
theorem offTo_succ {s : Vbcnac.State} {b k : Nat} (hb : b < s.bridges.length) (hk : k < (Vbcnac.bridgeAt s b).ports.length) : Vbcnac.setPort (offTo s b k) b k (Vbcnac.anew (Vbcnac.portAt (offTo s b k) b k)) = offTo s b (k + 1) := by
  unfold Vbcnac.setPort Vbcnac.portAt offTo
  rw [bridgeAt_same hb, set_twice]
  show Vbcnac.setBridge s b { Vbcnac.bridgeAt s b with on := false, ports := List.set _ _ _ } = _
  rw [anew_at hk, anew_set hk]
theorem offTo_zero (s : Vbcnac.State) (b : Nat) : offTo s b 0 = Vbcnac.setBridge s b { Vbcnac.bridgeAt s b with on := false } := rfl
def offAll (s : Vbcnac.State) (b : Nat) : Vbcnac.State := Vbcnac.setBridge s b { Vbcnac.bridgeAt s b with on := false, ports := (Vbcnac.bridgeAt s b).ports.map Vbcnac.anew, stations := [] }
theorem offTo_all {s : Vbcnac.State} {b : Nat} (hb : b < s.bridges.length) (h : (Vbcnac.bridgeAt s b).ports.length = 16) : Vbcnac.setBridge (offTo s b 16) b { Vbcnac.bridgeAt (offTo s b 16) b with stations := [] } = offAll s b := by
  unfold offTo offAll
  rw [bridgeAt_same hb, set_twice]
  show Vbcnac.setBridge s b { Vbcnac.bridgeAt s b with on := false, ports := _ ++ _, stations := [] } = _
  rw [← h, List.take_length, List.drop_length, List.append_nil]
theorem offAll_peer {s : Vbcnac.State} {b : Nat} (hb : b < s.bridges.length) (p : Nat) : (Vbcnac.portAt (offAll s b) b p).peer = (Vbcnac.portAt s b p).peer := by
  unfold offAll
  rw [portAt_setBridge, if_pos ⟨rfl, hb⟩]
  show (((Vbcnac.bridgeAt s b).ports.map Vbcnac.anew).getD p {}).peer = _
  rw [map_getD]
  split
  · rfl
  · rename_i h
    rw [portAt_ge (Nat.le_of_not_lt h)]
theorem far_same {s t : Vbcnac.State} {b : Nat} (h : (Vbcnac.bridgeAt t b).ports.map (·.peer) = (Vbcnac.bridgeAt s b).ports.map (·.peer)) : Vbcnac.farEnds t b = Vbcnac.farEnds s b := by
  unfold Vbcnac.farEnds
  have e : ∀ l : List Vbcnac.Port, l.filterMap (fun p => p.peer.bind fun x => if x.1 = b then none else some x) = (l.map (·.peer)).filterMap fun o => o.bind fun x => if x.1 = b then none else some x := fun l => by
    rw [List.filterMap_map]
    rfl
  rw [e, e, h]
theorem offAll_far {s : Vbcnac.State} {b : Nat} (hb : b < s.bridges.length) : Vbcnac.farEnds (offAll s b) b = Vbcnac.farEnds s b := by
  refine far_same ?_
  unfold offAll
  rw [bridgeAt_same hb]
  show ((Vbcnac.bridgeAt s b).ports.map Vbcnac.anew).map _ = _
  rw [List.map_map]
  rfl
section
variable {P : Program} {w : World} {K : PySem.W.Frag} {mg : Str → Option Value} {base : Heap}
def sp_turn_off (K : PySem.W.Frag) : Sp := fun vs H Q _ => ∃ ow as n s b, vs = [.ref n, .int (b : Nat)] ∧ NetAt K ow as H n s ∧ b < s.bridges.length ∧ W16 s ∧ (∀ p x, (Vbcnac.portAt s b p).peer = some x → x.1 < s.bridges.length ∧ x.2 < 16) ∧
  ∀ H' ow', NetAt K ow' as H' n (Vbcnac.turnedOff s b) → Frm ow H H' → Grow H ow ow' → Q .non H'
theorem sc_turn_off : FnScope ["net", "number", "bridge", "place"] ["net", "number"] D_turn_off.scope := ⟨rfl, rfl, rfl, by decide +kernel, rfl, by decide +kernel, by decide +kernel⟩
-- level 4; slots 0:net 1:number 2:bridge 3:place; captured []
theorem ok_turn_off (T : Txt K mg) (G_empty_port : Does P w K mg base 1 "empty_port" ["bridge", "place"] (sp_empty_port K)) (G_begin_neighbours_anew : Does P w K mg base 3 "begin_neighbours_anew" ["net", "number"] (sp_begin_neighbours_anew K)) : Does P w K mg base 4 "turn_off" ["net", "number"] (sp_turn_off K) := by
  refine does_of T 12 (d := D_turn_off) rfl rfl rfl rfl T.g_turn_off sc_turn_off (fun _ _ _ _ _ _ us hl => match us, hl with | [_, _], _ => rfl) (fun vs H Q E h => by obtain ⟨_, _, _, _, _, rfl, _⟩ := h; rfl) (fun cdv A outer s H vs Q E hr h => ⟨_, (pss_cons (ps_set (i := 2) sc_turn_off.nd rfl (.inl rfl) (pe_ix ix_list (pe_fld (pv 0) rfl) (pv 1) (fun _ _ => rfl)))
      (pss_cons (ps_fld (pv 2) pe_bl rfl)
      (pss_cons (ps_for PassesOwn.never rfl (pi_range1 (by rfl) T.f_range (pa_cons (pe_gi T.i_PORTS rfl) pa_nil)) (pg_name (i := 3) sc_turn_off.nd rfl (.inl rfl)) (pss_one (ps_expr (pe_f G_empty_port (hr.mono (by decide)) (by rfl) (pa_cons (pv 2) (pa_cons (pv 3) pa_nil))))))
      (pss_cons (ps_fld (pv 2) pe_dnewK rfl)
      (pss_one (ps_expr (pe_f G_begin_neighbours_anew (hr.mono (by decide)) (by rfl) (pa_cons (pv 0) (pa_cons (pv 1) pa_nil))))))))), ?_⟩)
  obtain ⟨ow, as, n, s, b, rfl, N, hb, hw, hpe, hQ⟩ := h
  obtain ⟨a, e⟩ := N.addr hb
  obtain ⟨dx, l, st, ws, kvs, B⟩ := N.br b a e
  have l16 := hw b hb
  refine r_seq (r_set (go (N.bridge T e vv vv) (r_seq (r_sfld (r_c (go vv ⟨a, _, dx, _, rfl, B.self, T.c_Bridge, T.n_Bridge_is_on, by show 11 < 1000; decide, ?_⟩))))))
  rw [pF_on]
  obtain ⟨ow1, N1, c1⟩ := N.field e B (x' := { Vbcnac.bridgeAt s b with on := false }) rfl rfl
  rw [← offTo_zero] at N1
  refine r_seq (r_for (r_range (r_cons (r_c (r_nil ⟨16, rfl, by decide, by decide, for_range (lo := 0) (n := 16)
    (fun k σ H' => ∃ ow' v, σ = [some (.ref n), some (.int (b : Nat)), some (.ref a), v] ∧ NetAt K ow' as H' n (offTo s b k) ∧ Loc1 b H H' ow ow') ⟨ow1, none, rfl, N1, c1⟩ ?hs ?hd⟩)))))
  case hs =>
    rintro k σ H' hk ⟨ow2, v0, rfl, N2, c2'⟩
    rw [Int.zero_add]
    have hk2 : k < (Vbcnac.bridgeAt s b).ports.length := by rw [l16]; exact hk
    refine r_drop (c2 vv vv ⟨ow2, as, n, _, b, a, k, rfl, N2, e, ?_, fun H3 N3 f3 => ?_⟩)
    · unfold offTo
      rw [bridgeAt_same hb]
      show k < (_ ++ _ : List Vbcnac.Port).length
      rw [List.length_append, List.length_map, List.length_take, List.length_drop]
      omega
    · rw [offTo_succ hb hk2] at N3
      exact ⟨ow2, some (.int (k : Nat)), rfl, N3, c2'.trans (Loc1.same f3)⟩
  case hd =>
    rintro σ H' ⟨ow2, v0, rfl, N2, c2'⟩
    obtain ⟨dx2, l2, st2, ws2, kvs2, B2⟩ := N2.br b a e
    refine r_seq (r_sfld (r_newK fun p np => go vv ⟨a, _, dx2, _, rfl, by rw [upd_ne (ne_of_none B2.self np)]; exact B2.self, T.c_Bridge, T.n_Bridge_stations, by show 11 < 1000; decide, ?_⟩))
    rw [pF_stations]
    obtain ⟨ow3, N3, c3'⟩ := N2.noSt e B2 np
    rw [offTo_all hb l16] at N3
    have c := c2'.trans c3'
    have lS : (offAll s b).bridges.length = s.bridges.length := len_set _ _ _
    have wS : W16 (offAll s b) := fun c hc => by
      rw [lS] at hc
      unfold offAll
      rw [bridgeAt_set]
      split
      · show ((Vbcnac.bridgeAt s b).ports.map Vbcnac.anew).length = 16
        rw [List.length_map]
        exact l16
      · exact hw c hc
    refine r_drop (c2 vv vv ⟨ow3, as, n, _, b, rfl, N3, by rw [lS]; exact hb, wS, fun p x hx => ?_, fun H4 ow4 N4 f4 g4 => ?_⟩)
    · rw [offAll_peer hb] at hx
      rw [lS]
      exact hpe p x hx
    · rw [offAll_far hb] at N4
      exact hQ H4 ow4 N4 (c.frm.trans c.gr f4) (Grow.trans c.frm c.gr g4)
end
end Sw
namespace Sw
open PySem PySem.Spec PyProof.Rows L2
/-! ### rows compared -/
def zs (l : List Nat) : List Int := l.map fun n : Nat => (n : Int)
theorem zs_V (l : List Nat) : (zs l).map V.int = l.map fun n : Nat => V.int n := by
  unfold zs
  rw [List.map_map]
  rfl
theorem lex_less : ∀ (l m : List Nat), HT.lexLt (zs l) (zs m) = Vbcnac.less l m
  | [], [] => rfl
  | [], _ :: _ => rfl
  | _ :: _, [] => rfl
  | a :: l, b :: m => by
    have ih := lex_less l m
    show (if (a : Int) = (b : Int) then HT.lexLt (zs l) (zs m) else decide ((a : Int) < b)) = (decide (a < b) || (a == b && Vbcnac.less l m))
    by_cases e : a = b
    · subst e
      rw [if_pos rfl, ih]
      simp
    · have e0 : ¬ (a : Int) = (b : Int) := fun z => e (Int.ofNat.inj z)
      rw [if_neg e0]
      have e2 : (a == b) = false := beq_eq_false_iff_ne.mpr e
      rw [e2]
      by_cases h : a < b
      · simp [h]
      · simp [h]
theorem geAt : ∀ (k i : Nat) (l m : List Nat), l.length = i + k → m.length = i + k → Ob.lexAt (fun j => decide ((zs l).getD j 0 = (zs m).getD j 0)) (fun j => decide ((zs m).getD j 0 ≤ (zs l).getD j 0)) true i k = !Vbcnac.less (l.drop i) (m.drop i)
  | 0, i, l, m, hl, hm => by
    rw [Ob.lexAt_zero, List.drop_eq_nil_of_le (by omega), List.drop_eq_nil_of_le (by omega)]
    rfl
  | k + 1, i, l, m, hl, hm => by
    have h1 : i < l.length := by omega
    have h2 : i < m.length := by omega
    have g1 : (zs l).getD i 0 = (l[i] : Int) := by
      unfold zs
      simp [h1]
    have g2 : (zs m).getD i 0 = (m[i] : Int) := by
      unfold zs
      simp [h2]
    rw [Ob.lexAt_succ, g1, g2, List.drop_eq_getElem_cons h1, List.drop_eq_getElem_cons h2]
    show _ = !(decide (l[i] < m[i]) || (l[i] == m[i] && Vbcnac.less (l.drop (i + 1)) (m.drop (i + 1))))
    by_cases e : l[i] = m[i]
    · rw [if_pos (by rw [e]; exact decide_eq_true rfl), geAt k (i + 1) l m (by omega) (by omega), e]
      simp
    · have e2 : ¬ (l[i] : Int) = (m[i] : Int) := fun z => e (Int.ofNat.inj z)
      have e3 : (l[i] == m[i]) = false := beq_eq_false_iff_ne.mpr e
      rw [if_neg (by rw [decide_eq_false e2]; decide), e3]
      by_cases h : l[i] < m[i]
      · simp [h]
      · simp [h]
        omega
theorem ge_less {l m : List Nat} (h : l.length = m.length) : geI (zs l) (zs m) = !Vbcnac.less l m := by
  have h1 : (zs l).length = l.length := List.length_map _
  have h2 : (zs m).length = m.length := List.length_map _
  unfold geI
  rw [h1, h2, h, Nat.min_self, decide_eq_true (Nat.le_refl _)]
  exact geAt m.length 0 l m (by omega) (by omega)
section
variable {K : PySem.W.Frag} {σ : L2.St} {H : Hp} {D : Ends} {Q : VK} {QS : L2.St → Hp → Prop} {i j : Nat} {v x y : V} {te to : TE} {a t : Addr} {xs : List V} {l m : List Nat}
/-- a pair laid on two names -/
theorem g2 (ht : H t = some (.tup [x, y])) (h : QS ((σ.set i (some x)).set j (some y)) H) : gTup K 2 (gCons (gName i) (gCons (gName j) gNil)) (.ref t) σ H QS :=
  ⟨t, _, rfl, SqT.of ht, rfl, x, [y], rfl, y, [], rfl, rfl, h⟩
theorem ty_list (h : H a = some (.lst xs)) : tyV K "list" (.ref a) H := Or.inl ⟨rfl, _, SqL.of h⟩
/-- xs.append(e) -/
theorem r_app (ho : Val to σ H (.ref a)) (hl : H a = some (.lst xs)) (h : te σ H fun y H1 => H1 a = some (.lst xs) ∧ xs.length < sizeLine ∧ D.nx σ (upd H1 a (.lst (xs ++ [y])))) (mono : ∀ Q Q' : VK, (∀ v H1, Q v H1 → Q' v H1) → te σ H Q → te σ H Q') : tDrop (tBM K "list" rAppend to (tCons te tNil)) D σ H :=
  ho _ ⟨.inl ⟨rfl, _, SqL.of hl⟩, mono _ _ (fun y H1 ⟨h1, h2, h3⟩ => ⟨a, xs, y, rfl, rfl, h1, h2, h3⟩) h⟩
/-- tuples compared by < -/
theorem v_ltT {b : Addr} (h1 : H a = some (.tup ((zs l).map V.int))) (h2 : H b = some (.tup ((zs m).map V.int))) (q : Q (.bl (Vbcnac.less l m)) H) : rLtT K (.ref a) (.ref b) H Q :=
  ⟨a, b, zs l, zs m, rfl, rfl, SqT.of h1, SqT.of h2, by rw [lex_less]; exact q⟩
theorem v_geT {b : Addr} (h1 : H a = some (.tup ((zs l).map V.int))) (h2 : H b = some (.tup ((zs m).map V.int))) (hl : l.length = m.length) (q : Q (.bl (!Vbcnac.less l m)) H) : rGeT K (.ref a) (.ref b) H Q :=
  ⟨a, b, zs l, zs m, rfl, rfl, SqT.of h1, SqT.of h2, by rw [ge_less hl]; exact q⟩
theorem same_new {H : Hp} {p : Addr} {o : HO} (h : H p = none) : Same H (upd H p o) := fun b u e => by
  rw [upd_ne (ne_of_none e h)]
  exact e
theorem new_back {H H' : Hp} {p : Addr} (e : Same H H') (h : H' p = none) : H p = none := e.free h
end
section
variable {P : Program} {w : World} {K : PySem.W.Frag} {mg : Str → Option Value} {base : Heap}
/-! ### turn_on -/
def sp_turn_on (K : PySem.W.Frag) : Sp := fun vs H Q _ => ∃ ow as n s b, vs = [.ref n, .int (b : Nat)] ∧ NetAt K ow as H n s ∧ b < s.bridges.length ∧ W16 s ∧ (∀ p x, (Vbcnac.portAt s b p).peer = some x → x.1 < s.bridges.length ∧ x.2 < 16) ∧
  ∀ H' ow', NetAt K ow' as H' n (Vbcnac.turnedOn s b) → Frm ow H H' → Grow H ow ow' → Q .non H'
theorem sc_turn_on : FnScope ["net", "number", "bridge"] ["net", "number"] D_turn_on.scope := ⟨rfl, rfl, rfl, by decide +kernel, rfl, by decide +kernel, by decide +kernel⟩
-- level 4; slots 0:net 1:number 2:bridge; captured []
theorem ok_turn_on (T : Txt K mg) (G_begin_neighbours_anew : Does P w K mg base 3 "begin_neighbours_anew" ["net", "number"] (sp_begin_neighbours_anew K)) : Does P w K mg base 4 "turn_on" ["net", "number"] (sp_turn_on K) := by
  refine does_of T 13 (d := D_turn_on) rfl rfl rfl rfl T.g_turn_on sc_turn_on (fun _ _ _ _ _ _ us hl => match us, hl with | [_, _], _ => rfl) (fun vs H Q E h => by obtain ⟨_, _, _, _, _, rfl, _⟩ := h; rfl) (fun cdv A outer s H vs Q E hr h => ⟨_, (pss_cons (ps_set (i := 2) sc_turn_on.nd rfl (.inl rfl) (pe_ix ix_list (pe_fld (pv 0) rfl) (pv 1) (fun _ _ => rfl)))
      (pss_cons (ps_fld (pv 2) pe_bl rfl)
      (pss_one (ps_expr (pe_f G_begin_neighbours_anew (hr.mono (by decide)) (by rfl) (pa_cons (pv 0) (pa_cons (pv 1) pa_nil))))))), ?_⟩)
  obtain ⟨ow, as, n, s, b, rfl, N, hb, hw, hpe, hQ⟩ := h
  obtain ⟨a, e⟩ := N.addr hb
  obtain ⟨dx, l, st, ws, kvs, B⟩ := N.br b a e
  refine r_seq (r_set (go (N.bridge T e vv vv) (r_seq (r_sfld (r_c (go vv ⟨a, _, dx, _, rfl, B.self, T.c_Bridge, T.n_Bridge_is_on, by show 11 < 1000; decide, ?_⟩))))))
  rw [pF_on]
  obtain ⟨ow1, N1, k1⟩ := N.field e B (x' := { Vbcnac.bridgeAt s b with on := true }) rfl rfl
  have lS : (Vbcnac.setBridge s b { Vbcnac.bridgeAt s b with on := true }).bridges.length = s.bridges.length := len_set _ _ _
  have hP : ∀ p, Vbcnac.portAt (Vbcnac.setBridge s b { Vbcnac.bridgeAt s b with on := true }) b p = Vbcnac.portAt s b p := fun p => by
    rw [portAt_setBridge, if_pos ⟨rfl, hb⟩]
    rfl
  have hF : Vbcnac.farEnds (Vbcnac.setBridge s b { Vbcnac.bridgeAt s b with on := true }) b = Vbcnac.farEnds s b := far_same (by rw [bridgeAt_same hb])
  refine r_drop (c2 vv vv ⟨ow1, as, n, _, b, rfl, N1, by rw [lS]; exact hb, fun c hc => ?_, fun p x hx => ?_, fun H4 ow4 N4 f4 g4 => ?_⟩)
  · rw [lS] at hc
    rw [bridgeAt_set]
    split
    · exact hw b hb
    · exact hw c hc
  · rw [hP] at hx
    rw [lS]
    exact hpe p x hx
  · rw [hF] at N4
    exact hQ H4 ow4 N4 (k1.frm.trans k1.gr f4) (Grow.trans k1.frm k1.gr g4)
/-! ### cables_of -/
/-- a port as a value; two -/
def Pt (H : Hp) (v : V) (x : Nat × Nat) : Prop := ∃ a, v = .ref a ∧ H a = some (.tup [.int x.1, .int x.2])
def PP (H : Hp) (v : V) (x : (Nat × Nat) × (Nat × Nat)) : Prop := ∃ a u1 u2, v = .ref a ∧ H a = some (.tup [u1, u2]) ∧ Pt H u1 x.1 ∧ Pt H u2 x.2
theorem Pt.mono {H H' : Hp} (e : Tup H H') {v : V} {x : Nat × Nat} (h : Pt H v x) : Pt H' v x := by
  obtain ⟨a, h1, h2⟩ := h
  exact ⟨a, h1, e _ _ h2⟩
theorem PP.mono {H H' : Hp} (e : Tup H H') {v : V} {x : (Nat × Nat) × (Nat × Nat)} (h : PP H v x) : PP H' v x := by
  obtain ⟨a, u1, u2, h1, h2, h3, h4⟩ := h
  exact ⟨a, u1, u2, h1, e _ _ h2, h3.mono e, h4.mono e⟩
theorem Paired.app {α β : Type} {R : α → β → Prop} : ∀ {xs : List α} {ys : List β} {x : α} {y : β}, Paired R xs ys → R x y → Paired R (xs ++ [x]) (ys ++ [y])
  | _, _, _, _, .nil, h => .cons h .nil
  | _, _, _, _, .cons r t, h => .cons r (Paired.app t h)
/-- the cable at a port, told by its lesser end -/
def cab (s : Vbcnac.State) (b p : Nat) : Option ((Nat × Nat) × (Nat × Nat)) := match (Vbcnac.portAt s b p).peer with
  | none => none
  | some y => if Vbcnac.less [b, p] [y.1, y.2] = true then some ((b, p), y) else none
def rowTo (s : Vbcnac.State) (b k : Nat) : List ((Nat × Nat) × (Nat × Nat)) := (List.range k).filterMap fun p => cab s b p
def cabsTo (s : Vbcnac.State) (b : Nat) : List ((Nat × Nat) × (Nat × Nat)) := (List.range b).flatMap fun c => rowTo s c 16
def cabs (s : Vbcnac.State) : List ((Nat × Nat) × (Nat × Nat)) := cabsTo s s.bridges.length
theorem rowTo_succ (s : Vbcnac.State) (b k : Nat) : rowTo s b (k + 1) = rowTo s b k ++ (cab s b k).toList := by
  unfold rowTo
  rw [List.range_succ, List.filterMap_append, List.filterMap_cons, List.filterMap_nil]
  cases cab s b k <;> rfl
theorem rowTo_len (s : Vbcnac.State) (b k : Nat) : (rowTo s b k).length ≤ k := by
  unfold rowTo
  refine Nat.le_trans (List.length_filterMap_le _ _) ?_
  rw [List.length_range]
  exact Nat.le_refl _
theorem cabsTo_succ (s : Vbcnac.State) (b : Nat) : cabsTo s (b + 1) = cabsTo s b ++ rowTo s b 16 := by
  unfold cabsTo
  rw [List.range_succ, List.flatMap_append]
  simp
theorem cabsTo_len (s : Vbcnac.State) : ∀ b, (cabsTo s b).length ≤ 16 * b
  | 0 => Nat.le_refl _
  | b + 1 => by
    have h1 := cabsTo_len s b
    have h2 := rowTo_len s b 16
    rw [cabsTo_succ, List.length_append]
    omega
theorem pt_zs (x : Nat × Nat) : ([.int x.1, .int x.2] : List V) = (zs [x.1, x.2]).map V.int := rfl
def sp_cables_of (K : PySem.W.Frag) : Sp := fun vs H Q _ => ∃ ow as n s, vs = [.ref n] ∧ NetAt K ow as H n s ∧ W16 s ∧ s.bridges.length ≤ 32 ∧
  ∀ H' p us, Same H H' → H p = none → H' p = some (.lst us) → Paired (PP H') us (cabs s) → Q (.ref p) H'
theorem sc_cables_of : FnScope ["net", "cables", "number", "bridge", "place", "other"] ["net"] D_cables_of.scope := ⟨rfl, rfl, rfl, by decide +kernel, rfl, by decide +kernel, by decide +kernel⟩
-- level 1; slots 0:net 1:cables 2:number 3:bridge 4:place 5:other; captured []
theorem ok_cables_of (T : Txt K mg) : Does P w K mg base 1 "cables_of" ["net"] (sp_cables_of K) := by
  refine does_of T 5 (d := D_cables_of) rfl rfl rfl rfl T.g_cables_of sc_cables_of (fun _ _ _ _ _ _ us hl => match us, hl with | [_], _ => rfl) (fun vs H Q E h => by obtain ⟨_, _, _, _, rfl, _⟩ := h; rfl) (fun cdv A outer s H vs Q E hr h => ⟨_, (pss_cons (ps_set (i := 1) sc_cables_of.nd rfl (.inl rfl) (pe_lst pa_nil))
      (pss_cons (ps_for PassesOwn.never rfl (pi_enum (by rfl) T.f_enumerate (pa_cons (pe_fld (pv 0) rfl) pa_nil)) (pg_tup (n := 2) rfl (pgs_cons (pg_name (i := 2) sc_cables_of.nd rfl (.inl rfl)) (pgs_cons (pg_name (i := 3) sc_cables_of.nd rfl (.inl rfl)) pgs_nil))) (pss_one (ps_for PassesOwn.never rfl (pi_enum (by rfl) T.f_enumerate (pa_cons (pe_fld (pv 3) rfl) pa_nil)) (pg_tup (n := 2) rfl (pgs_cons (pg_name (i := 4) sc_cables_of.nd rfl (.inl rfl)) (pgs_cons (pg_name (i := 5) sc_cables_of.nd rfl (.inl rfl)) pgs_nil))) (pss_one (ps_if (PW.pt (pw_and (pt_cmpR op_notN (pv 5) pe_non (nomark _)) (pw_and1 (pt_cmpR (op_ltT hr.units0) (pe_tup (pa_cons (pv 2) (pa_cons (pv 4) pa_nil))) (pv 5) (nomark _))))) (pss_one (ps_expr (pe_bm PySem.F.plainAttrs_list PySem.F.slot_list_append PySem.F.type_list_append mt_append (pv 1) (pa_cons (pe_tup (pa_cons (pe_tup (pa_cons (pv 2) (pa_cons (pv 4) pa_nil))) (pa_cons (pv 5) pa_nil))) pa_nil)))) pss_nil)))))
      (pss_one (ps_ret (pv 1))))), ?_⟩)
  obtain ⟨ow, as, n, s, rfl, N, hw, hn, hQ⟩ := h
  obtain ⟨dn, bl, k1, k2, k3, k4⟩ := N.ex
  refine r_seq (r_set (r_lst (r_nil ⟨by show 0 ≤ sizeLine; decide, fun L hL => ?_⟩)))
  have e0 : Same H (upd H L (.lst [])) := same_new hL
  refine r_seq (r_for (r_enum (r_cons (go (val_fld vv (e0 _ _ k1) T.c_Net T.n_Net_bridges (nF_bridges s bl)) (r_nil ⟨bl, as.map V.ref, rfl, SqL.of (e0 _ _ k2), for_it walk_enum
    (fun b σ H' => ∃ v2 v3 v4 v5 us, σ = [some (.ref n), some (.ref L), v2, v3, v4, v5] ∧ Same H H' ∧ H' L = some (.lst us) ∧ Paired (PP H') us (cabsTo s b)) ⟨none, none, none, none, [], rfl, e0, upd_same, .nil⟩ (fun b σ H' _ ⟨_, _, _, _, _, _, e1, _⟩ => SqL.of (e1 _ _ k2)) ?hs ?hd⟩)))))
  case hd =>
    rintro σ H' ⟨v2, v3, v4, v5, us, rfl, e1, hl, hp⟩
    have e2 : (as.map V.ref).length = s.bridges.length := (List.length_map _).trans N.len
    rw [e2] at hp
    exact r_ret (go vv (hQ H' L us e1 hL hl hp))
  case hs =>
    rintro b x σ H1 H2 hb ⟨v2, v3, v4, v5, us, rfl, e1, hl, hp⟩ ⟨t, z1, z2, rfl, ht, rfl, y1, y2⟩
    cases y1
    have hb2 : b < s.bridges.length := by
      rw [List.length_map, N.len] at hb
      exact hb
    obtain ⟨a, e⟩ := N.addr hb2
    have y3 : (as.map V.ref)[b]? = some z2 := y2
    rw [List.getElem?_map, e] at y3
    cases y3
    obtain ⟨dx, l, st, ws, kvs, B⟩ := N.br b a e
    have e2 : Same H (upd H1 t (.tup [.int (b : Nat), .ref a])) := e1.trans (same_new ht)
    have hl2 : (upd H1 t (.tup [.int (b : Nat), .ref a])) L = some (.lst us) := by
      rw [upd_ne (ne_of_none hl ht)]
      exact hl
    refine g2 upd_same (r_for (r_enum (r_cons (go (val_fld vv (e2 _ _ B.self) T.c_Bridge T.n_Bridge_cables (bF_cables _ l st)) (r_nil ⟨l 2, ws 2, rfl, SqL.of (e2 _ _ (B.lst 2 (by decide))), for_it walk_enum
      (fun k σ H' => ∃ v4 v5 us, σ = [some (.ref n), some (.ref L), some (.int (b : Nat)), some (.ref a), v4, v5] ∧ Same H H' ∧ H' L = some (.lst us) ∧ Paired (PP H') us (cabsTo s b ++ rowTo s b k)) ⟨v4, v5, us, rfl, e2, hl2, ?_⟩ (fun b σ H' _ ⟨_, _, _, _, e1, _⟩ => SqL.of (e1 _ _ (B.lst 2 (by decide)))) ?hs2 ?hd2⟩)))))
    · show Paired _ _ (cabsTo s b ++ [])
      rw [List.append_nil]
      exact Paired.imp (fun _ _ => PP.mono (Tup.of_same (same_new ht))) hp
    case hd2 =>
      rintro σ H3 ⟨v4, v5, us, rfl, e3, hl3, hp3⟩
      refine ⟨_, _, v4, v5, us, rfl, e3, hl3, ?_⟩
      rw [cabsTo_succ, ← hw b hb2, ← B.len 2 (by decide)]
      exact hp3
    case hs2 =>
      rintro k x σ H3 H4 hk ⟨v4, v5, us, rfl, e3, hl3, hp3⟩ ⟨t2, z1, v, rfl, ht2, rfl, y1, y2⟩
      cases y1
      have hk2 : k < 16 := by
        rw [B.len 2 (by decide), hw b hb2] at hk
        exact hk
      have hc : Cab H v (Vbcnac.portAt s b k).peer := B.val 2 (by decide) k v y2
      have e4 : Same H (upd H3 t2 (.tup [.int (k : Nat), v])) := e3.trans (same_new ht2)
      have hl4 : (upd H3 t2 (.tup [.int (k : Nat), v])) L = some (.lst us) := by
        rw [upd_ne (ne_of_none hl3 ht2)]
        exact hl3
      have hp4 := Paired.imp (fun _ _ => PP.mono (Tup.of_same (same_new (o := .tup [.int (k : Nat), v]) ht2))) hp3
      have hr := rowTo_succ s b k
      refine g2 upd_same (r_if (r_and (r_test (r_op (go vv (r_c ⟨rfl, _, rfl, ?_⟩))))))
      cases hx : (Vbcnac.portAt s b k).peer with
      | none =>
        rw [hx] at hc
        cases (show v = .non from hc)
        refine if_n (if_n (r_next ⟨_, _, us, rfl, e4, hl4, ?_⟩))
        have hcb : cab s b k = none := by
          unfold cab
          rw [hx]
        rw [hr, hcb]
        simpa using hp4
      | some y =>
        rw [hx] at hc
        obtain ⟨u, rfl, hu⟩ := hc
        refine if_y (r_test (r_op (r_tup (r_cons (go vv (r_cons (go vv (r_nil ⟨by show 2 ≤ sizeLine; decide, fun p hp => go vv ?_⟩))))))))
        have e5 := e4.trans (same_new (o := .tup [.int (b : Nat), .int (k : Nat)]) hp)
        have hl5 : (upd (upd H3 t2 (.tup [.int (k : Nat), .ref u])) p (.tup [.int (b : Nat), .int (k : Nat)])) L = some (.lst us) := by
          rw [upd_ne (ne_of_none hl4 hp)]
          exact hl4
        have hp5 := Paired.imp (fun _ _ => PP.mono (Tup.of_same (same_new (o := .tup [.int (b : Nat), .int (k : Nat)]) hp))) hp4
        refine v_ltT (l := [b, k]) (m := [y.1, y.2]) upd_same (e5 _ _ hu) ⟨_, rfl, ?_⟩
        cases hq : Vbcnac.less [b, k] [y.1, y.2] with
        | false =>
          refine if_n (r_next ⟨_, _, us, rfl, e5, hl5, ?_⟩)
          have hcb : cab s b k = none := by
            unfold cab
            rw [hx]
            show (if Vbcnac.less [b, k] [y.1, y.2] = true then _ else none) = none
            rw [hq]
            rfl
          rw [hr, hcb]
          simpa using hp5
        | true =>
          have hcb : cab s b k = some ((b, k), y) := by
            unfold cab
            rw [hx]
            show (if Vbcnac.less [b, k] [y.1, y.2] = true then _ else none) = _
            rw [hq]
            rfl
          refine if_y (r_drop (r_bm (go vv ⟨ty_list hl5, r_cons (r_tup (r_cons (r_tup (r_cons (go vv (r_cons (go vv (r_nil ⟨by show 2 ≤ sizeLine; decide, fun p2 hp2 => r_cons (go vv (r_nil ⟨by show 2 ≤ sizeLine; decide, fun p3 hp3 => r_nil ?_⟩))⟩))))))))⟩)))
          have e6 := e5.trans (same_new (o := .tup [.int (b : Nat), .int (k : Nat)]) hp2)
          have n2 := same_new (o := .tup [.int (b : Nat), .int (k : Nat)]) hp2
          have n3 := same_new (o := .tup [.ref p2, .ref u]) hp3
          refine ⟨L, us, _, rfl, rfl, n3 _ _ (n2 _ _ hl5), ?_, ⟨_, _, _, rfl, ?_, upd_same, ?_⟩⟩
          · have q1 := (PySem.Paired.length hp5)
            have q2 := cabsTo_len s b
            have q3 := rowTo_len s b k
            rw [List.length_append] at q1
            refine Nat.lt_of_lt_of_le (m := 1024) ?_ (by decide)
            omega
          · intro c o hc
            have hcL : c ≠ L := fun z => by
              rw [z, hL] at hc
              cases hc
            rw [upd_ne hcL]
            exact n3 _ _ (e6 _ _ hc)
          · have tt : Tup (upd (upd (upd (upd H3 t2 (.tup [.int (k : Nat), .ref u])) p (.tup [.int (b : Nat), .int (k : Nat)])) p2 (.tup [.int (b : Nat), .int (k : Nat)])) p3 (.tup [.ref p2, .ref u])) (upd (upd (upd (upd (upd H3 t2 (.tup [.int (k : Nat), .ref u])) p (.tup [.int (b : Nat), .int (k : Nat)])) p2 (.tup [.int (b : Nat), .int (k : Nat)])) p3 (.tup [.ref p2, .ref u])) L (.lst (us ++ [.ref p3]))) := tup_upd (n3 _ _ (n2 _ _ hl5)) rfl
            rw [hr, hcb, ← List.append_assoc]
            refine Paired.app (Paired.imp (fun _ _ z => PP.mono tt (PP.mono (Tup.of_same (n2.trans n3)) z)) hp5) (PP.mono tt ⟨p3, .ref p2, .ref u, rfl, upd_same, ⟨p2, rfl, n3 _ _ upd_same⟩, u, rfl, n3 _ _ (e6 _ _ hu)⟩)
end
end Sw
namespace Sw
open PySem PySem.Spec PyProof.Rows L2
/-! ### what an __init__ has made so far -/
structure Made (H0 H : Hp) (p C dx : Addr) (fs : List (Str × V)) (ms : List (Addr × HO)) : Prop where
  self : H p = some (.ins C dx fs)
  made : ∀ x ∈ ms, H x.1 = some x.2 ∧ H0 x.1 = none ∧ x.1 ≠ p
  nd : (ms.map (·.1)).Nodup
  kept : ∀ b o, H0 b = some o → b ≠ p → H b = some o
theorem Made.step {H0 H : Hp} {p C dx c : Addr} {fs fs' : List (Str × V)} {ms : List (Addr × HO)} {o : HO} (M : Made H0 H p C dx fs ms) (h : H c = none) : (upd H c o) p = some (.ins C dx fs) ∧ Made H0 (upd (upd H c o) p (.ins C dx fs')) p C dx fs' (ms ++ [(c, o)]) := by
  have cp : c ≠ p := fun z => by
    rw [z, M.self] at h
    cases h
  refine ⟨by rw [upd_ne cp.symm]; exact M.self, upd_same, fun x hx => ?_, ?_, fun b u hb hne => ?_⟩
  · rcases List.mem_append.mp hx with hx | hx
    · obtain ⟨m1, m2, m3⟩ := M.made x hx
      rw [upd_ne m3, upd_ne (ne_of_none m1 h)]
      exact ⟨m1, m2, m3⟩
    · cases List.mem_singleton.mp hx
      refine ⟨by rw [upd_ne cp, upd_same], ?_, cp⟩
      cases q : H0 c with
      | none => rfl
      | some u =>
        rw [M.kept c u q cp] at h
        cases h
  · rw [List.map_append, List.nodup_append]
    refine ⟨M.nd, by simp, fun a ha b hb => ?_⟩
    obtain ⟨x, hx, rfl⟩ := List.mem_map.mp ha
    have e : b = c := by simpa using hb
    rw [e]
    exact ne_of_none (M.made x hx).1 h
  · rw [upd_ne hne, upd_ne (ne_of_none (M.kept b u hb hne) h)]
    exact M.kept b u hb hne
theorem Made.set {H0 H : Hp} {p C dx : Addr} {fs fs' : List (Str × V)} {ms : List (Addr × HO)} (M : Made H0 H p C dx fs ms) : Made H0 (upd H p (.ins C dx fs')) p C dx fs' ms :=
  ⟨upd_same, fun x hx => by
    obtain ⟨m1, m2, m3⟩ := M.made x hx
    rw [upd_ne m3]
    exact ⟨m1, m2, m3⟩, M.nd, fun b u hb hne => by
    rw [upd_ne hne]
    exact M.kept b u hb hne⟩
theorem Made.at {H0 H : Hp} {p C dx : Addr} {fs : List (Str × V)} {ms : List (Addr × HO)} (M : Made H0 H p C dx fs ms) (i : Nat) {c : Addr} {o : HO} (h : ms[i]? = some (c, o) := by rfl) : H c = some o ∧ H0 c = none := by
  obtain ⟨h1, h2, _⟩ := M.made (c, o) (List.mem_of_getElem? h)
  exact ⟨h1, h2⟩
section
variable {K : PySem.W.Frag} {σ : L2.St} {H0 H : Hp} {D : Ends} {p C dx : Addr} {fs : List (Str × V)} {ms : List (Addr × HO)} {f : Str} {i j : Nat} {v : V} {te : TE}
/-- self.f = a known value -/
theorem r_mkV (M : Made H0 H p C dx fs ms) (hC : Cls K C) (hn : NoAttr K C f) (hl : fs.length < 1000) (hv : Val te σ H v) {fs' : List (Str × V)} (hf : putF f v fs = fs') (q : ∀ H', Made H0 H' p C dx fs' ms → D.nx σ H') (ha : σ[i]? = some (some (.ref p)) := by rfl) : sFld K (tVar i) te f D σ H :=
  hv _ ⟨_, ha, p, C, dx, fs, rfl, M.self, hC, hn, hl, by rw [hf]; exact q _ M.set⟩
/-- self.f = sixteen of one value -/
theorem r_mkL (M : Made H0 H p C dx fs ms) (hC : Cls K C) (hn : NoAttr K C f) (hl : fs.length < 1000) {fs' : Addr → List (Str × V)} (hf : ∀ c, putF f (.ref c) fs = fs' c) (q : ∀ c H', Made H0 H' p C dx (fs' c) (ms ++ [(c, .lst (List.replicate 16 v))]) → D.nx σ H') (ha : σ[i]? = some (some (.ref p)) := by rfl) :
    sFld K (tVar i) (tLc (iRng1 (tCons (tC (.int 16)) tNil)) (gName j) tYes (tC v) [j]) f D σ H :=
  lc_const fun c nc => ⟨_, ha, p, C, dx, fs, rfl, (M.step (fs' := []) nc).1, hC, hn, hl, by rw [hf]; exact q c _ (M.step nc).2⟩
/-- self.f = {}, [] -/
theorem r_mkK (M : Made H0 H p C dx fs ms) (hC : Cls K C) (hn : NoAttr K C f) (hl : fs.length < 1000) {fs' : Addr → List (Str × V)} (hf : ∀ c, putF f (.ref c) fs = fs' c) (q : ∀ c H', Made H0 H' p C dx (fs' c) (ms ++ [(c, .dK [])]) → D.nx σ H') (ha : σ[i]? = some (some (.ref p)) := by rfl) : sFld K (tVar i) tDNewK f D σ H :=
  fun c nc => ⟨_, ha, p, C, dx, fs, rfl, (M.step (fs' := []) nc).1, hC, hn, hl, by rw [hf]; exact q c _ (M.step nc).2⟩
theorem r_mkT (M : Made H0 H p C dx fs ms) (hC : Cls K C) (hn : NoAttr K C f) (hl : fs.length < 1000) {fs' : Addr → List (Str × V)} (hf : ∀ c, putF f (.ref c) fs = fs' c) (q : ∀ c H', Made H0 H' p C dx (fs' c) (ms ++ [(c, .dT [])]) → D.nx σ H') (ha : σ[i]? = some (some (.ref p)) := by rfl) : sFld K (tVar i) tDNewT f D σ H :=
  fun c nc => ⟨_, ha, p, C, dx, fs, rfl, (M.step (fs' := []) nc).1, hC, hn, hl, by rw [hf]; exact q c _ (M.step nc).2⟩
theorem r_mkN (M : Made H0 H p C dx fs ms) (hC : Cls K C) (hn : NoAttr K C f) (hl : fs.length < 1000) {fs' : Addr → List (Str × V)} (hf : ∀ c, putF f (.ref c) fs = fs' c) (q : ∀ c H', Made H0 H' p C dx (fs' c) (ms ++ [(c, .lst [])]) → D.nx σ H') (ha : σ[i]? = some (some (.ref p)) := by rfl) : sFld K (tVar i) (tLst tNil) f D σ H :=
  ⟨Nat.zero_le _, fun c nc => ⟨_, ha, p, C, dx, fs, rfl, (M.step (fs' := []) nc).1, hC, hn, hl, by rw [hf]; exact q c _ (M.step nc).2⟩⟩
theorem Made.zero (h : H p = some (.ins C dx [])) : Made H H p C dx [] [] := ⟨h, fun _ h => (by cases h), List.nodup_nil, fun _ _ h _ => h⟩
end
section
variable {P : Program} {w : World} {K : PySem.W.Frag} {mg : Str → Option Value} {base : Heap}
/-- what stands in a new bridge's lists -/
def newV (k : Nat) : V := match k with
  | 0 => .int 100
  | 1 => .int 128
  | 2 => .non
  | 3 => .non
  | 4 => .int 0
  | 5 => .int 0
  | _ => .bl false
def sp_Bridge (K : PySem.W.Frag) : Sp := fun vs H Q _ => ∃ p dx r m, vs = [.ref p, .int (r : Nat), .int (m : Nat)] ∧ H p = some (.ins (He.ga K "Bridge") dx []) ∧
  ∀ H' l st, H' p = some (.ins (He.ga K "Bridge") dx (bF { rank := r, number := m } l st)) → (∀ k, k < 7 → H (l k) = none ∧ H' (l k) = some (.lst (List.replicate 16 (newV k)))) → (∀ j k, j < 7 → k < 7 → j ≠ k → l j ≠ l k) → H st = none → H' st = some (.dK []) →
    (∀ b o, H b = some o → b ≠ p → H' b = some o) → Q .non H'
theorem sc_Bridge_init : FnScope ["self", "rank", "number", "place"] ["self", "rank", "number"] D_Bridge_init.scope := ⟨rfl, rfl, rfl, by decide +kernel, rfl, by decide +kernel, by decide +kernel⟩
-- level 1; slots 0:self 1:rank 2:number 3:place; captured []
theorem ok_Bridge_init (T : Txt K mg) : DoesC P w K mg base 1 "Bridge" ["self", "rank", "number"] (sp_Bridge K) := by
  refine doesC_of T 0 (d := D_Bridge_init) rfl rfl rfl rfl T.m_Bridge sc_Bridge_init (fun _ _ _ _ _ _ us hl => match us, hl with | [_, _, _], _ => rfl) (fun vs H Q E h => by obtain ⟨_, _, _, _, rfl, _⟩ := h; rfl) (fun cdv A outer s H vs Q E hr h => ⟨_, (pss_cons (ps_fld (pv 0) (pv 1) rfl)
      (pss_cons (ps_fld (pv 0) (pv 2) rfl)
      (pss_cons (ps_fld (pv 0) pe_bl rfl)
      (pss_cons (ps_fld (pv 0) (pe_lc (own := [("place", 3)]) (tt := tYes) (g := gName 3) rfl sc_Bridge_init.nd (pi_range1 (by rfl) T.f_range (pa_cons (pe_gi T.i_PORTS rfl) pa_nil)) (blkOk_by (own := [("place", 3)]) (N := ["self", "rank", "number", "place"]) (sc := D_Bridge_init.scope) (by decide +kernel)) (fun _ _ _ _ _ => (pg_name (i := 3) sc_Bridge_init.nd rfl (.inl rfl))) (fun _ _ _ _ _ => pts_nil) (fun _ _ _ _ _ => (pe_gi T.i_NEW_COST rfl))) rfl)
      (pss_cons (ps_fld (pv 0) (pe_lc (own := [("place", 3)]) (tt := tYes) (g := gName 3) rfl sc_Bridge_init.nd (pi_range1 (by rfl) T.f_range (pa_cons (pe_gi T.i_PORTS rfl) pa_nil)) (blkOk_by (own := [("place", 3)]) (N := ["self", "rank", "number", "place"]) (sc := D_Bridge_init.scope) (by decide +kernel)) (fun _ _ _ _ _ => (pg_name (i := 3) sc_Bridge_init.nd rfl (.inl rfl))) (fun _ _ _ _ _ => pts_nil) (fun _ _ _ _ _ => (pe_gi T.i_NEW_RANK rfl))) rfl)
      (pss_cons (ps_fld (pv 0) (pe_lc (own := [("place", 3)]) (tt := tYes) (g := gName 3) rfl sc_Bridge_init.nd (pi_range1 (by rfl) T.f_range (pa_cons (pe_gi T.i_PORTS rfl) pa_nil)) (blkOk_by (own := [("place", 3)]) (N := ["self", "rank", "number", "place"]) (sc := D_Bridge_init.scope) (by decide +kernel)) (fun _ _ _ _ _ => (pg_name (i := 3) sc_Bridge_init.nd rfl (.inl rfl))) (fun _ _ _ _ _ => pts_nil) (fun _ _ _ _ _ => pe_non)) rfl)
      (pss_cons (ps_fld (pv 0) (pe_lc (own := [("place", 3)]) (tt := tYes) (g := gName 3) rfl sc_Bridge_init.nd (pi_range1 (by rfl) T.f_range (pa_cons (pe_gi T.i_PORTS rfl) pa_nil)) (blkOk_by (own := [("place", 3)]) (N := ["self", "rank", "number", "place"]) (sc := D_Bridge_init.scope) (by decide +kernel)) (fun _ _ _ _ _ => (pg_name (i := 3) sc_Bridge_init.nd rfl (.inl rfl))) (fun _ _ _ _ _ => pts_nil) (fun _ _ _ _ _ => pe_non)) rfl)
      (pss_cons (ps_fld (pv 0) (pe_lc (own := [("place", 3)]) (tt := tYes) (g := gName 3) rfl sc_Bridge_init.nd (pi_range1 (by rfl) T.f_range (pa_cons (pe_gi T.i_PORTS rfl) pa_nil)) (blkOk_by (own := [("place", 3)]) (N := ["self", "rank", "number", "place"]) (sc := D_Bridge_init.scope) (by decide +kernel)) (fun _ _ _ _ _ => (pg_name (i := 3) sc_Bridge_init.nd rfl (.inl rfl))) (fun _ _ _ _ _ => pts_nil) (fun _ _ _ _ _ => pe_int)) rfl)
      (pss_cons (ps_fld (pv 0) (pe_lc (own := [("place", 3)]) (tt := tYes) (g := gName 3) rfl sc_Bridge_init.nd (pi_range1 (by rfl) T.f_range (pa_cons (pe_gi T.i_PORTS rfl) pa_nil)) (blkOk_by (own := [("place", 3)]) (N := ["self", "rank", "number", "place"]) (sc := D_Bridge_init.scope) (by decide +kernel)) (fun _ _ _ _ _ => (pg_name (i := 3) sc_Bridge_init.nd rfl (.inl rfl))) (fun _ _ _ _ _ => pts_nil) (fun _ _ _ _ _ => pe_int)) rfl)
      (pss_cons (ps_fld (pv 0) (pe_lc (own := [("place", 3)]) (tt := tYes) (g := gName 3) rfl sc_Bridge_init.nd (pi_range1 (by rfl) T.f_range (pa_cons (pe_gi T.i_PORTS rfl) pa_nil)) (blkOk_by (own := [("place", 3)]) (N := ["self", "rank", "number", "place"]) (sc := D_Bridge_init.scope) (by decide +kernel)) (fun _ _ _ _ _ => (pg_name (i := 3) sc_Bridge_init.nd rfl (.inl rfl))) (fun _ _ _ _ _ => pts_nil) (fun _ _ _ _ _ => pe_bl)) rfl)
      (pss_one (ps_fld (pv 0) pe_dnewK rfl)))))))))))), ?_⟩)
  obtain ⟨p, dx, r, m, rfl, hp, hQ⟩ := h
  refine r_seq (r_mkV (Made.zero hp) T.c_Bridge T.n_Bridge_rank (by show 0 < 1000; decide) (v := .int (r : Nat)) vv (fs' := [("rank", .int (r : Nat))]) (by rfl) fun H1 M => nx ?_)
  refine r_seq (r_mkV M T.c_Bridge T.n_Bridge_number (by show 1 < 1000; decide) (v := .int (m : Nat)) vv (fs' := [("rank", .int (r : Nat)), ("number", .int (m : Nat))]) (by rfl) fun H1 M => nx ?_)
  refine r_seq (r_mkV M T.c_Bridge T.n_Bridge_is_on (by show 2 < 1000; decide) (v := .bl true) val_c (fs' := [("rank", .int (r : Nat)), ("number", .int (m : Nat)), ("is_on", .bl true)]) (by rfl) fun H1 M => nx ?_)
  refine r_seq (r_mkL M T.c_Bridge T.n_Bridge_costs (by show 3 < 1000; decide) (fs' := fun c => [("rank", .int (r : Nat)), ("number", .int (m : Nat)), ("is_on", .bl true), ("costs", .ref c)]) (fun _ => by rfl) fun c0 H1 M => nx ?_)
  refine r_seq (r_mkL M T.c_Bridge T.n_Bridge_ranks (by show 4 < 1000; decide) (fs' := fun c => [("rank", .int (r : Nat)), ("number", .int (m : Nat)), ("is_on", .bl true), ("costs", .ref c0), ("ranks", .ref c)]) (fun _ => by rfl) fun c1 H1 M => nx ?_)
  refine r_seq (r_mkL M T.c_Bridge T.n_Bridge_cables (by show 5 < 1000; decide) (fs' := fun c => [("rank", .int (r : Nat)), ("number", .int (m : Nat)), ("is_on", .bl true), ("costs", .ref c0), ("ranks", .ref c1), ("cables", .ref c)]) (fun _ => by rfl) fun c2 H1 M => nx ?_)
  refine r_seq (r_mkL M T.c_Bridge T.n_Bridge_hellos (by show 6 < 1000; decide) (fs' := fun c => [("rank", .int (r : Nat)), ("number", .int (m : Nat)), ("is_on", .bl true), ("costs", .ref c0), ("ranks", .ref c1), ("cables", .ref c2), ("hellos", .ref c)]) (fun _ => by rfl) fun c3 H1 M => nx ?_)
  refine r_seq (r_mkL M T.c_Bridge T.n_Bridge_ages (by show 7 < 1000; decide) (fs' := fun c => [("rank", .int (r : Nat)), ("number", .int (m : Nat)), ("is_on", .bl true), ("costs", .ref c0), ("ranks", .ref c1), ("cables", .ref c2), ("hellos", .ref c3), ("ages", .ref c)]) (fun _ => by rfl) fun c4 H1 M => nx ?_)
  refine r_seq (r_mkL M T.c_Bridge T.n_Bridge_waits (by show 8 < 1000; decide) (fs' := fun c => [("rank", .int (r : Nat)), ("number", .int (m : Nat)), ("is_on", .bl true), ("costs", .ref c0), ("ranks", .ref c1), ("cables", .ref c2), ("hellos", .ref c3), ("ages", .ref c4), ("waits", .ref c)]) (fun _ => by rfl) fun c5 H1 M => nx ?_)
  refine r_seq (r_mkL M T.c_Bridge T.n_Bridge_notices (by show 9 < 1000; decide) (fs' := fun c => [("rank", .int (r : Nat)), ("number", .int (m : Nat)), ("is_on", .bl true), ("costs", .ref c0), ("ranks", .ref c1), ("cables", .ref c2), ("hellos", .ref c3), ("ages", .ref c4), ("waits", .ref c5), ("notices", .ref c)]) (fun _ => by rfl) fun c6 H1 M => nx ?_)
  refine r_mkK M T.c_Bridge T.n_Bridge_stations (by show 10 < 1000; decide) (fs' := fun c => [("rank", .int (r : Nat)), ("number", .int (m : Nat)), ("is_on", .bl true), ("costs", .ref c0), ("ranks", .ref c1), ("cables", .ref c2), ("hellos", .ref c3), ("ages", .ref c4), ("waits", .ref c5), ("notices", .ref c6), ("stations", .ref c)]) (fun _ => by rfl) fun st H1 M => ?_
  have nd := M.nd
  refine hQ _ (fun k => [c0, c1, c2, c3, c4, c5, c6].getD k 0) st M.self (fun k hk => ?_) (fun j k hj hk hne => ?_) (M.at (c := st) (o := .dK []) 7).2 (M.at (c := st) (o := .dK []) 7).1 M.kept
  · match k, hk with
    | 0, _ => exact (M.at (c := c0) (o := .lst (List.replicate 16 (.int 100))) 0).symm
    | 1, _ => exact (M.at (c := c1) (o := .lst (List.replicate 16 (.int 128))) 1).symm
    | 2, _ => exact (M.at (c := c2) (o := .lst (List.replicate 16 .non)) 2).symm
    | 3, _ => exact (M.at (c := c3) (o := .lst (List.replicate 16 .non)) 3).symm
    | 4, _ => exact (M.at (c := c4) (o := .lst (List.replicate 16 (.int 0))) 4).symm
    | 5, _ => exact (M.at (c := c5) (o := .lst (List.replicate 16 (.int 0))) 5).symm
    | 6, _ => exact (M.at (c := c6) (o := .lst (List.replicate 16 (.bl false))) 6).symm
  · intro e
    have nd7 : ([c0, c1, c2, c3, c4, c5, c6] : List Addr).Nodup := (List.nodup_append.mp (show ([c0, c1, c2, c3, c4, c5, c6] ++ [st] : List Addr).Nodup from nd)).1
    have e1 : ([c0, c1, c2, c3, c4, c5, c6] : List Addr)[j]'hj = ([c0, c1, c2, c3, c4, c5, c6] : List Addr)[k]'hk := by
      rw [List.getD_eq_getElem?_getD, List.getD_eq_getElem?_getD, List.getElem?_eq_getElem (show j < ([c0, c1, c2, c3, c4, c5, c6] : List Addr).length from hj), List.getElem?_eq_getElem (show k < ([c0, c1, c2, c3, c4, c5, c6] : List Addr).length from hk)] at e
      exact e
    exact hne ((List.getElem_inj nd7).mp e1)
end
end Sw
namespace Sw
open PySem PySem.Spec PyProof.Rows L2
section
variable {P : Program} {w : World} {K : PySem.W.Frag} {mg : Str → Option Value} {base : Heap}
/-! ### Net -/
def newNet (a w k r : Nat) : Vbcnac.State := { begun := true, age := a, wait := w, keep := k, room := r }
def sp_Net (K : PySem.W.Frag) : Sp := fun vs H Q _ => ∃ p dx a w k r, vs = [.ref p, .int (a : Nat), .int (w : Nat), .int (k : Nat), .int (r : Nat)] ∧ H p = some (.ins (He.ga K "Net") dx []) ∧
  ∀ H' bl, H' p = some (.ins (He.ga K "Net") dx (nF (newNet a w k r) bl)) → H bl = none → H' bl = some (.lst []) → (∀ b o, H b = some o → b ≠ p → H' b = some o) → Q .non H'
theorem sc_Net_init : FnScope ["self", "age", "wait", "keep", "room"] ["self", "age", "wait", "keep", "room"] D_Net_init.scope := ⟨rfl, rfl, rfl, by decide +kernel, rfl, by decide +kernel, by decide +kernel⟩
-- level 1; slots 0:self 1:age 2:wait 3:keep 4:room; captured []
theorem ok_Net_init (T : Txt K mg) : DoesC P w K mg base 1 "Net" ["self", "age", "wait", "keep", "room"] (sp_Net K) := by
  refine doesC_of T 1 (d := D_Net_init) rfl rfl rfl rfl T.m_Net sc_Net_init (fun _ _ _ _ _ _ us hl => match us, hl with | [_, _, _, _, _], _ => rfl) (fun vs H Q E h => by obtain ⟨_, _, _, _, _, _, rfl, _⟩ := h; rfl) (fun cdv A outer s H vs Q E hr h => ⟨_, (pss_cons (ps_fld (pv 0) (pv 1) rfl)
      (pss_cons (ps_fld (pv 0) (pv 2) rfl)
      (pss_cons (ps_fld (pv 0) (pv 3) rfl)
      (pss_cons (ps_fld (pv 0) (pv 4) rfl)
      (pss_cons (ps_fld (pv 0) (pe_lst pa_nil) rfl)
      (pss_one (ps_fld (pv 0) pe_int rfl))))))), ?_⟩)
  obtain ⟨p, dx, a, w, k, r, rfl, hp, hQ⟩ := h
  refine r_seq (r_mkV (Made.zero hp) T.c_Net T.n_Net_age (by show 0 < 1000; decide) (v := .int (a : Nat)) vv (fs' := [("age", .int (a : Nat))]) (by rfl) fun H1 M => nx ?_)
  refine r_seq (r_mkV M T.c_Net T.n_Net_wait (by show 1 < 1000; decide) (v := .int (w : Nat)) vv (fs' := [("age", .int (a : Nat)), ("wait", .int (w : Nat))]) (by rfl) fun H1 M => nx ?_)
  refine r_seq (r_mkV M T.c_Net T.n_Net_keep (by show 2 < 1000; decide) (v := .int (k : Nat)) vv (fs' := [("age", .int (a : Nat)), ("wait", .int (w : Nat)), ("keep", .int (k : Nat))]) (by rfl) fun H1 M => nx ?_)
  refine r_seq (r_mkV M T.c_Net T.n_Net_room (by show 3 < 1000; decide) (v := .int (r : Nat)) vv (fs' := [("age", .int (a : Nat)), ("wait", .int (w : Nat)), ("keep", .int (k : Nat)), ("room", .int (r : Nat))]) (by rfl) fun H1 M => nx ?_)
  refine r_seq (r_mkN M T.c_Net T.n_Net_bridges (by show 4 < 1000; decide) (fs' := fun c => [("age", .int (a : Nat)), ("wait", .int (w : Nat)), ("keep", .int (k : Nat)), ("room", .int (r : Nat)), ("bridges", .ref c)]) (fun _ => by rfl) fun bl H1 M => nx ?_)
  refine r_mkV M T.c_Net T.n_Net_quiet (by show 5 < 1000; decide) (v := .int 0) val_c (fs' := [("age", .int (a : Nat)), ("wait", .int (w : Nat)), ("keep", .int (k : Nat)), ("room", .int (r : Nat)), ("bridges", .ref bl), ("quiet", .int 0)]) (by rfl) fun H1 M => ?_
  exact hQ H1 bl M.self (M.at (c := bl) (o := .lst []) 0).2 (M.at (c := bl) (o := .lst []) 0).1 M.kept
/-! ### Session -/
def sp_Session (K : PySem.W.Frag) : Sp := fun vs H Q _ => ∃ p dx, vs = [.ref p] ∧ H p = some (.ins (He.ga K "Session") dx []) ∧
  ∀ H', H' p = some (.ins (He.ga K "Session") dx [("net", .non)]) → (∀ b o, H b = some o → b ≠ p → H' b = some o) → Q .non H'
theorem sc_Session_init : FnScope ["self"] ["self"] D_Session_init.scope := ⟨rfl, rfl, rfl, by decide +kernel, rfl, by decide +kernel, by decide +kernel⟩
-- level 1; slots 0:self; captured []
theorem ok_Session_init (T : Txt K mg) : DoesC P w K mg base 1 "Session" ["self"] (sp_Session K) := by
  refine doesC_of T 28 (d := D_Session_init) rfl rfl rfl rfl T.m_Session sc_Session_init (fun _ _ _ _ _ _ us hl => match us, hl with | [_], _ => rfl) (fun vs H Q E h => by obtain ⟨_, _, rfl, _⟩ := h; rfl) (fun cdv A outer s H vs Q E hr h => ⟨_, (pss_one (ps_fld (pv 0) pe_non rfl)), ?_⟩)
  obtain ⟨p, dx, rfl, hp, hQ⟩ := h
  refine r_mkV (Made.zero hp) T.c_Session T.n_Session_net (by show 0 < 1000; decide) (v := .non) val_c (fs' := [("net", .non)]) (by rfl) fun H1 M => ?_
  exact hQ H1 M.self M.kept
/-! ### Held -/
def heldF (r c p a : V) : List (Str × V) := [("root", r), ("cost", c), ("place", p), ("age", a)]
def sp_Held (K : PySem.W.Frag) : Sp := fun vs H Q _ => ∃ p dx r c pl a, vs = [.ref p, r, c, pl, a] ∧ H p = some (.ins (He.ga K "Held") dx []) ∧
  ∀ H', H' p = some (.ins (He.ga K "Held") dx (heldF r c pl a)) → (∀ b o, H b = some o → b ≠ p → H' b = some o) → Q .non H'
theorem sc_Held_init : FnScope ["self", "root", "cost", "place", "age"] ["self", "root", "cost", "place", "age"] D_Held_init.scope := ⟨rfl, rfl, rfl, by decide +kernel, rfl, by decide +kernel, by decide +kernel⟩
-- level 1; slots 0:self 1:root 2:cost 3:place 4:age; captured []
theorem ok_Held_init (T : Txt K mg) : DoesC P w K mg base 1 "Held" ["self", "root", "cost", "place", "age"] (sp_Held K) := by
  refine doesC_of T 14 (d := D_Held_init) rfl rfl rfl rfl T.m_Held sc_Held_init (fun _ _ _ _ _ _ us hl => match us, hl with | [_, _, _, _, _], _ => rfl) (fun vs H Q E h => by obtain ⟨_, _, _, _, _, _, rfl, _⟩ := h; rfl) (fun cdv A outer s H vs Q E hr h => ⟨_, (pss_cons (ps_fld (pv 0) (pv 1) rfl)
      (pss_cons (ps_fld (pv 0) (pv 2) rfl)
      (pss_cons (ps_fld (pv 0) (pv 3) rfl)
      (pss_one (ps_fld (pv 0) (pv 4) rfl))))), ?_⟩)
  obtain ⟨p, dx, r, c, pl, a, rfl, hp, hQ⟩ := h
  refine r_seq (r_mkV (Made.zero hp) T.c_Held T.n_Held_root (by show 0 < 1000; decide) (v := r) vv (fs' := [("root", r)]) (by rfl) fun H1 M => nx ?_)
  refine r_seq (r_mkV M T.c_Held T.n_Held_cost (by show 1 < 1000; decide) (v := c) vv (fs' := [("root", r), ("cost", c)]) (by rfl) fun H1 M => nx ?_)
  refine r_seq (r_mkV M T.c_Held T.n_Held_place (by show 2 < 1000; decide) (v := pl) vv (fs' := [("root", r), ("cost", c), ("place", pl)]) (by rfl) fun H1 M => nx ?_)
  refine r_mkV M T.c_Held T.n_Held_age (by show 3 < 1000; decide) (v := a) vv (fs' := heldF r c pl a) (by rfl) fun H1 M => ?_
  exact hQ H1 M.self M.kept
/-! ### Beginning -/
def begF (r h g : Addr) : List (Str × V) := [("roles", .ref r), ("heard", .ref h), ("given", .ref g)]
def sp_Beginning (K : PySem.W.Frag) : Sp := fun vs H Q _ => ∃ p dx, vs = [.ref p] ∧ H p = some (.ins (He.ga K "Beginning") dx []) ∧
  ∀ H' r h g, H' p = some (.ins (He.ga K "Beginning") dx (begF r h g)) → H r = none → H h = none → H g = none → h ≠ g → H' r = some (.lst []) → H' h = some (.dT []) → H' g = some (.dT []) → (∀ b o, H b = some o → b ≠ p → H' b = some o) → Q .non H'
theorem sc_Beginning_init : FnScope ["self"] ["self"] D_Beginning_init.scope := ⟨rfl, rfl, rfl, by decide +kernel, rfl, by decide +kernel, by decide +kernel⟩
-- level 1; slots 0:self; captured []
theorem ok_Beginning_init (T : Txt K mg) : DoesC P w K mg base 1 "Beginning" ["self"] (sp_Beginning K) := by
  refine doesC_of T 19 (d := D_Beginning_init) rfl rfl rfl rfl T.m_Beginning sc_Beginning_init (fun _ _ _ _ _ _ us hl => match us, hl with | [_], _ => rfl) (fun vs H Q E h => by obtain ⟨_, _, rfl, _⟩ := h; rfl) (fun cdv A outer s H vs Q E hr h => ⟨_, (pss_cons (ps_fld (pv 0) (pe_lst pa_nil) rfl)
      (pss_cons (ps_fld (pv 0) pe_dnewT rfl)
      (pss_one (ps_fld (pv 0) pe_dnewT rfl)))), ?_⟩)
  obtain ⟨p, dx, rfl, hp, hQ⟩ := h
  refine r_seq (r_mkN (Made.zero hp) T.c_Beginning T.n_Beginning_roles (by show 0 < 1000; decide) (fs' := fun c => [("roles", .ref c)]) (fun _ => by rfl) fun r H1 M => nx ?_)
  refine r_seq (r_mkT M T.c_Beginning T.n_Beginning_heard (by show 1 < 1000; decide) (fs' := fun c => [("roles", .ref r), ("heard", .ref c)]) (fun _ => by rfl) fun hh H1 M => nx ?_)
  refine r_mkT M T.c_Beginning T.n_Beginning_given (by show 2 < 1000; decide) (fs' := fun c => begF r hh c) (fun _ => by rfl) fun g H1 M => ?_
  have nd : ([r, hh, g] : List Addr).Nodup := M.nd
  refine hQ H1 r hh g M.self (M.at (c := r) (o := .lst []) 0).2 (M.at (c := hh) (o := .dT []) 1).2 (M.at (c := g) (o := .dT []) 2).2 ?_ (M.at (c := r) (o := .lst []) 0).1 (M.at (c := hh) (o := .dT []) 1).1 (M.at (c := g) (o := .dT []) 2).1 M.kept
  simp at nd
  exact nd.2
/-! ### Plain -/
def plainF (c r : Addr) : List (Str × V) := [("costs", .ref c), ("root_places", .ref r)]
def sp_Plain (K : PySem.W.Frag) : Sp := fun vs H Q _ => ∃ p dx c, vs = [.ref p, .ref c] ∧ H p = some (.ins (He.ga K "Plain") dx []) ∧
  ∀ H' r, H' p = some (.ins (He.ga K "Plain") dx (plainF c r)) → H r = none → H' r = some (.dK []) → (∀ b o, H b = some o → b ≠ p → H' b = some o) → Q .non H'
theorem sc_Plain_init : FnScope ["self", "costs"] ["self", "costs"] D_Plain_init.scope := ⟨rfl, rfl, rfl, by decide +kernel, rfl, by decide +kernel, by decide +kernel⟩
-- level 1; slots 0:self 1:costs; captured []
theorem ok_Plain_init (T : Txt K mg) : DoesC P w K mg base 1 "Plain" ["self", "costs"] (sp_Plain K) := by
  refine doesC_of T 43 (d := D_Plain_init) rfl rfl rfl rfl T.m_Plain sc_Plain_init (fun _ _ _ _ _ _ us hl => match us, hl with | [_, _], _ => rfl) (fun vs H Q E h => by obtain ⟨_, _, _, rfl, _⟩ := h; rfl) (fun cdv A outer s H vs Q E hr h => ⟨_, (pss_cons (ps_fld (pv 0) (pv 1) rfl)
      (pss_one (ps_fld (pv 0) pe_dnewK rfl))), ?_⟩)
  obtain ⟨p, dx, c, rfl, hp, hQ⟩ := h
  refine r_seq (r_mkV (Made.zero hp) T.c_Plain T.n_Plain_costs (by show 0 < 1000; decide) (v := .ref c) vv (fs' := [("costs", .ref c)]) (by rfl) fun H1 M => nx ?_)
  refine r_mkK M T.c_Plain T.n_Plain_root_places (by show 1 < 1000; decide) (fs' := fun r => plainF c r) (fun _ => by rfl) fun r H1 M => ?_
  exact hQ H1 r M.self (M.at (c := r) (o := .dK []) 0).2 (M.at (c := r) (o := .dK []) 0).1 M.kept
/-! ### refusal_of -/
def inSpan (n : Int) (r : Int × Int) : Bool := decide (r.1 ≤ n) && decide (n ≤ r.2)
/-- the refusals that every call has, of a net with so many bridges -/
def ref3 (len : Nat) (ns : List Int) (rs : List (Int × Int)) (bs : List Int) : Int := if (ns.zip rs).all (fun x => inSpan x.1 x.2) = true then (if bs.any (fun b => decide ((len : Int) ≤ b)) = true then -3 else 0) else -2
def Spn (K : PySem.W.Frag) (u : V) (r : Int × Int) : Prop := ∃ a, u = .ref a ∧ ∀ H, SqT K H a [.int r.1, .int r.2]
theorem Paired.get {α β : Type} {R : α → β → Prop} : ∀ {xs : List α} {ys : List β} {i : Nat} {x : α}, Paired R xs ys → xs[i]? = some x → ∃ y, ys[i]? = some y ∧ R x y
  | _, _, _, _, .nil, e => by simp at e
  | _, _, 0, _, .cons r _, e => by
    simp at e
    subst e
    exact ⟨_, rfl, r⟩
  | _, _, i + 1, x, .cons _ t, e => by
    obtain ⟨u, h1, h2⟩ := Paired.get (i := i) (x := x) t (by simpa using e)
    exact ⟨u, by simpa using h1, h2⟩
theorem same_sqT {H H' : Hp} {K : PySem.W.Frag} {a : Addr} {xs : List V} (e : Same H H') (h : SqT K H a xs) : SqT K H' a xs := by
  rcases h with (h | ⟨o, h⟩) | h
  · exact .inl (.inl (e _ _ h))
  · exact .inl (.inr ⟨o, e _ _ h⟩)
  · exact .inr h
theorem r_zip {K : PySem.W.Frag} {tA : TA} {σ : L2.St} {H : Hp} {R : It → Hp → Prop} (h : tA σ H fun vs H1 => ∃ a b xs ys, vs = [.ref a, .ref b] ∧ ((SqL K H1 a xs ∧ SqL K H1 b ys ∧ R (Itz K a b) H1) ∨ (SqT K H1 a xs ∧ SqT K H1 b ys ∧ R (RZ.ItzT K a b) H1))) : RZ.iZipA K tA σ H R := h
def sp_refusal_of (K : PySem.W.Frag) : Sp := fun vs H Q _ => ∃ v tn tr tb ns rs us bs, vs = [v, .ref tn, .ref tr, .ref tb] ∧ SqT K H tn (ns.map V.int) ∧ SqT K H tr us ∧ Paired (Spn K) us rs ∧ ns.length = rs.length ∧ SqT K H tb (bs.map V.int) ∧
  ((v = .non ∧ ∀ H', Same H H' → Q (.int (-1)) H') ∨ ∃ ow as n s, v = .ref n ∧ NetAt K ow as H n s ∧ ∀ H', Same H H' → Q (.int (ref3 s.bridges.length ns rs bs)) H')
theorem sc_refusal_of : FnScope ["net", "numbers", "ranges", "bridges", "number", "span"] ["net", "numbers", "ranges", "bridges"] D_refusal_of.scope := ⟨rfl, rfl, rfl, by decide +kernel, rfl, by decide +kernel, by decide +kernel⟩
-- level 1; slots 0:net 1:numbers 2:ranges 3:bridges 4:number 5:span; captured []
theorem ok_refusal_of (T : Txt K mg) : Does P w K mg base 1 "refusal_of" ["net", "numbers", "ranges", "bridges"] (sp_refusal_of K) := by
  refine does_of T 29 (d := D_refusal_of) rfl rfl rfl rfl T.g_refusal_of sc_refusal_of (fun _ _ _ _ _ _ us hl => match us, hl with | [_, _, _, _], _ => rfl) (fun vs H Q E h => by obtain ⟨_, _, _, _, _, _, _, _, rfl, _⟩ := h; rfl) (fun cdv A outer s H vs Q E hr h => ⟨_, (pss_cons (ps_if (pt_cmpR op_isN (pv 0) pe_non (nomark _)) (pss_one (ps_ret (pe_gi T.i_NOT_BEGUN rfl))) pss_nil)
      (pss_cons (ps_for PassesOwn.never rfl (RZ.pi_zipA (by rfl) T.f_zip (pa_cons (pv 1) (pa_cons (pv 2) pa_nil))) (pg_tup (n := 2) rfl (pgs_cons (pg_name (i := 4) sc_refusal_of.nd rfl (.inl rfl)) (pgs_cons (pg_name (i := 5) sc_refusal_of.nd rfl (.inl rfl)) pgs_nil))) (pss_one (ps_if (pt_not (pt_chain op_le op_le (pe_ix ix_tup (pv 5) pe_int (fun _ _ => rfl)) (pv 4) (pe_ix ix_tup (pv 5) pe_int (fun _ _ => rfl)))) (pss_one (ps_ret (pe_gi T.i_OUT_OF_RANGE rfl))) pss_nil)))
      (pss_cons (ps_for PassesOwn.never rfl (pi_tup (pv 3)) (pg_name (i := 4) sc_refusal_of.nd rfl (.inl rfl)) (pss_one (ps_if (pt_cmpR op_ge (pv 4) (pe_callB call_len_seq (by rfl) T.f_len PySem.boot_len (pa_cons (pe_fld (pv 0) rfl) pa_nil)) (nomark _)) (pss_one (ps_ret (pe_gi T.i_NO_BRIDGE rfl))) pss_nil)))
      (pss_one (ps_ret pe_int))))), ?_⟩)
  obtain ⟨v, tn, tr, tb, ns, rs, us, bs, rfl, hn, hrr, hp, hl, hb, hv⟩ := h
  rcases hv with ⟨rfl, hQ⟩ | ⟨ow, as, n, s, rfl, N, hQ⟩
  · exact r_seq (r_if (r_test (r_op (go vv (r_c ⟨rfl, _, rfl, if_y (r_ret (r_c (hQ H (Same.refl H))))⟩)))))
  · obtain ⟨dn, bl, k1, k2, k3, k4⟩ := N.ex
    have lu : us.length = rs.length := PySem.Paired.length hp
    refine r_seq (r_if (r_test (r_op (go vv (r_c ⟨rfl, _, rfl, if_n (r_next (nx ?_))⟩)))))
    refine r_seq (r_for (r_zip (r_cons (go vv (r_cons (go vv (r_nil ⟨tn, tr, _, _, rfl, .inr ⟨hn, hrr, RZ.for_zipT (by rw [List.length_map, hl, lu]) (fun i σ H' => ∃ v4 v5, σ = [some (.ref n), some (.ref tn), some (.ref tr), some (.ref tb), v4, v5] ∧ Same H H' ∧ ((ns.zip rs).take i).all (fun x => inSpan x.1 x.2) = true) ⟨none, none, rfl, Same.refl H, rfl⟩
      (fun i σ H' ⟨_, _, _, e, _⟩ => ⟨same_sqT e hn, same_sqT e hrr⟩) ?hs ?hd⟩⟩)))))))
    case hs =>
      rintro i x y t σ H1 hx hy ⟨v4, v5, rfl, e, ha⟩ ht
      obtain ⟨z, hz, rfl⟩ : ∃ z, ns[i]? = some z ∧ x = .int z := by
        rw [List.getElem?_map] at hx
        cases q : ns[i]? with
        | none => rw [q] at hx; cases hx
        | some z => rw [q] at hx; exact ⟨z, rfl, (Option.some.inj hx).symm⟩
      obtain ⟨r, hr1, a, rfl, hs⟩ := Paired.get hp hy
      have hzip : (ns.zip rs)[i]? = some (z, r) := by
        rw [List.zip, List.getElem?_zipWith, hz, hr1]
      have e1 : Same H (upd H1 t (.tup [.int z, .ref a])) := e.trans (same_new ht)
      refine g2 upd_same (r_if (r_not (r_test (r_chain (go (v_ixT (j := 0) vv (hs _) rfl) (go vv ⟨_, _, rfl, rfl, _, rfl, ?_⟩))))))
      have hspan : inSpan z r = (decide (r.1 ≤ z) && decide (z ≤ r.2)) := rfl
      have hstep : ((ns.zip rs).take (i + 1)).all (fun x => inSpan x.1 x.2) = inSpan z r := by
        rw [take_succ' hzip, List.all_append, ha]
        simp
      have hno : inSpan z r = false → ref3 s.bridges.length ns rs bs = -2 := fun q => by
        unfold ref3
        rw [if_neg]
        intro hall
        have := List.all_eq_true.mp hall (z, r) (List.mem_of_getElem? hzip)
        rw [q] at this
        cases this
      cases q1 : decide (r.1 ≤ z) with
      | false =>
        refine if_n ⟨_, rfl, if_y (r_ret (r_c ?_))⟩
        have := hQ _ e1
        rw [hno (by rw [hspan, q1]; rfl)] at this
        exact this
      | true =>
        refine if_y (go (v_ixT (j := 1) vv (hs _) rfl) ⟨_, _, rfl, rfl, _, rfl, ?_⟩)
        cases q2 : decide (z ≤ r.2) with
        | false =>
          refine if_y (r_ret (r_c ?_))
          have := hQ _ e1
          rw [hno (by rw [hspan, q1, q2]; rfl)] at this
          exact this
        | true =>
          refine if_n (r_next ⟨_, _, rfl, e1, ?_⟩)
          rw [hstep, hspan, q1, q2]
          rfl
    case hd =>
      rintro σ H1 ⟨v4, v5, rfl, e, ha⟩
      have hall : (ns.zip rs).all (fun x => inSpan x.1 x.2) = true := by
        rw [List.length_map] at ha
        rw [List.take_of_length_le (by rw [List.length_zip]; omega)] at ha
        exact ha
      refine nx (r_seq (r_for (r_ituple (go vv ⟨tb, rfl, ⟨_, same_sqT e hb⟩, for_tup (K := K) (a := tb) (xs := bs.map V.int) (fun i σ H' => ∃ v4 v5, σ = [some (.ref n), some (.ref tn), some (.ref tr), some (.ref tb), v4, v5] ∧ H' = H1 ∧ (bs.take i).any (fun b => decide ((s.bridges.length : Int) ≤ b)) = false) ⟨v4, v5, rfl, rfl, rfl⟩
        (fun i σ H' _ ⟨_, _, _, e2, _⟩ => by rw [e2]; exact same_sqT e hb) ?hs2 ?hd2⟩))))
      case hs2 =>
        rintro i x σ H2 hx ⟨w4, w5, rfl, rfl, ha2⟩
        obtain ⟨z, hz, rfl⟩ : ∃ z, bs[i]? = some z ∧ x = .int z := by
          rw [List.getElem?_map] at hx
          cases q : bs[i]? with
          | none => rw [q] at hx; cases hx
          | some z => rw [q] at hx; exact ⟨z, rfl, (Option.some.inj hx).symm⟩
        have hlen : (as.map V.ref).length = s.bridges.length := (List.length_map _).trans N.len
        refine r_if (r_test (r_op (go vv (r_cb (r_cons (go (val_fld vv (e _ _ k1) T.c_Net T.n_Net_bridges (nF_bridges s bl)) (r_nil ⟨bl, _, rfl, .inl (SqL.of (e _ _ k2)), _, _, rfl, rfl, _, rfl, ?_⟩)))))))
        rw [hlen]
        cases q : decide ((s.bridges.length : Int) ≤ z) with
        | true =>
          refine if_y (r_ret (r_c ?_))
          have := hQ _ e
          have h3 : ref3 s.bridges.length ns rs bs = -3 := by
            unfold ref3
            rw [if_pos hall, if_pos]
            exact List.any_eq_true.mpr ⟨z, List.mem_of_getElem? hz, q⟩
          rw [h3] at this
          exact this
        | false =>
          refine if_n (r_next ⟨_, _, rfl, rfl, ?_⟩)
          rw [take_succ' hz, List.any_append, ha2]
          simp only [List.any_cons, List.any_nil, q]
          rfl
      case hd2 =>
        rintro σ H2 ⟨w4, w5, rfl, rfl, ha2⟩
        refine nx (r_ret (r_c ?_))
        have := hQ _ e
        have h3 : ref3 s.bridges.length ns rs bs = 0 := by
          unfold ref3
          rw [List.length_map, List.take_length] at ha2
          rw [if_pos hall, ha2]
          rfl
        rw [h3] at this
        exact this
end
end Sw
namespace Sw
open PySem PySem.Spec PyProof.Rows L2
/-! ### calls: what they ask, what they answer -/
section
variable {K : PySem.W.Frag} {ow ow' : Addr → Nat} {as as' : List Addr} {H H1 H' : Hp} {v : V} {s s' : Vbcnac.State} {n : Addr} {Q : VK}
def SesAt (K : PySem.W.Frag) (ow : Addr → Nat) (as : List Addr) (H : Hp) (v : V) (s : Vbcnac.State) : Prop := (v = .non ∧ s.begun = false ∧ ∀ b, ow b = 0) ∨ ∃ n, v = .ref n ∧ NetAt K ow as H n s ∧ s.begun = true ∧ Inv s
def Ans (K : PySem.W.Frag) (v : V) (ow : Addr → Nat) (H : Hp) (x : Vbcnac.State × List Int) (Q : VK) : Prop := ∀ H' ow' as' p, SesAt K ow' as' H' v x.1 → Frm ow H H' → Grow H ow ow' → (∀ o, H p = some o → ow p ≠ 0) → ow' p = 0 → H' p = some (.lst (x.2.map V.int)) → Q (.ref p) H'
theorem SesAt.same (S : SesAt K ow as H v s) (e : Same H H') : SesAt K ow as H' v s := by
  rcases S with h | ⟨n, h1, h2, h3⟩
  · exact .inl h
  · exact .inr ⟨n, h1, h2.same e, h3⟩
theorem SesAt.new (S : SesAt K ow as H v s) {p : Addr} (h : H p = none) : ow p = 0 := by
  rcases S with ⟨_, _, h1⟩ | ⟨n, h1, h2, h3⟩
  · exact h1 p
  · exact h2.new h
theorem Ans.later {x : Vbcnac.State × List Int} (A : Ans K v ow H x Q) (e : Same H H1) : Ans K v ow H1 x Q := fun H' ow' as' p S F G hp h0 hl => A H' ow' as' p S (fun b o h z => F b o (e b o h) z) (fun b h => (G b h).imp id e.free) (fun o h => hp o (e _ _ h)) h0 hl
theorem Ans.ret {x : Vbcnac.State × List Int} (A : Ans K v ow H x Q) (S : SesAt K ow' as' H1 v x.1) (F : Frm ow H H1) (G : Grow H ow ow') {l : List V} (hl : l = x.2.map V.int) : ∀ p, H1 p = none → Q (.ref p) (upd H1 p (.lst l)) := fun p hp => by
  subst hl
  refine A _ ow' as' p (S.same (same_new hp)) (fun b o h z => same_new hp b o (F b o h z)) G (fun o h z => ?_) (S.new hp) upd_same
  rw [F _ _ h z] at hp
  cases hp
theorem Ans.eq {x y : Vbcnac.State × List Int} (A : Ans K v ow H x Q) (e : x = y) : Ans K v ow H y Q := e ▸ A
/-! ### the net's own numbers, bridges -/
theorem NetAt.quiet (N : NetAt K ow as H n s) (k : Nat) {dx bl : Addr} (h : H n = some (.ins (He.ga K "Net") dx (nF s bl))) : NetAt K ow as (upd H n (.ins (He.ga K "Net") dx (nF { s with quiet := k } bl))) n { s with quiet := k } := by
  obtain ⟨dx', bl', h1, h2, h3, h4⟩ := N.ex
  have e : dx' = dx ∧ bl' = bl := by
    rw [h] at h1
    injection h1 with h1
    injection h1 with _ e1 e2
    refine ⟨e1.symm, ?_⟩
    have e3 := congrArg (fun l => l.getD 4 (("" : Str), V.non)) e2
    have e4 : (("bridges" : Str), V.ref bl) = (("bridges" : Str), V.ref bl') := e3
    exact (V.ref.inj (Prod.mk.inj e4).2).symm
  obtain ⟨rfl, rfl⟩ := e
  have fr : ∀ b o, H b = some o → b ≠ n → (upd H n (.ins (He.ga K "Net") dx' (nF { s with quiet := k } bl'))) b = some o := fun b o q z => by
    rw [upd_ne z]
    exact q
  refine ⟨⟨dx', bl', upd_same, fr _ _ h2 (ne_of h2 h1 (by intro z; cases z)), h3, h4⟩, N.len, fun i a e => ?_, fun b hb => ?_⟩
  · obtain ⟨dx, l, st, vs, kvs, B⟩ := N.br i a e
    refine ⟨dx, l, st, vs, kvs, B.keep (fun b o q z => fr b o q fun y => ?_) fun _ _ => rfl⟩
    rw [y] at q z
    rcases z with z | z
    · rw [h3] at z
      omega
    · rw [h1] at q
      cases q
      cases z
  · obtain ⟨o, e1, e2⟩ := N.fp b hb
    by_cases y : b = n
    · rw [y, upd_same]
      exact ⟨_, rfl, rfl⟩
    · exact ⟨o, fr b o e1 y, e2⟩
/-- net.quiet = 0 -/
theorem r_quiet {mg : Str → Option Value} {σ : L2.St} {D : Ends} (T : Txt K mg) (N : NetAt K ow as H n s) (h : ∀ H', NetAt K ow as H' n { s with quiet := 0 } → Frm ow H H' → D.nx σ H') (ha : σ[0]? = some (some (.ref n)) := by rfl) : sFld K (tVar 0) (tC (.int 0)) "quiet" D σ H := by
  obtain ⟨dx, bl, h1, h2, h3, h4⟩ := N.ex
  refine ⟨_, ha, n, _, dx, _, rfl, h1, T.c_Net, T.n_Net_quiet, by show 6 < 1000; decide, ?_⟩
  rw [show (putF "quiet" (.int 0) (nF s bl)) = nF { s with quiet := 0 } bl from pF_quiet s bl 0]
  exact h _ (N.quiet 0 h1) (frm_set (by rw [h3]; decide))
end
/-! ### refusals -/
theorem step_none {s : Vbcnac.State} {c : Vbcnac.Call} (h : s.begun = false) (hb : Vbcnac.isBegin c = false) : Vbcnac.step s c = (s, [-1]) := by
  unfold Vbcnac.step
  rw [if_pos ⟨hb, h⟩]
theorem step_ref {s : Vbcnac.State} {c : Vbcnac.Call} (h : s.begun = true) {ns : List Int} {rs : List (Int × Int)} {bs : List Int} (h1 : Vbcnac.inRange c = (ns.zip rs).all fun x => inSpan x.1 x.2) (h2 : Vbcnac.named c = bs) :
    Vbcnac.step s c = if ref3 s.bridges.length ns rs bs = 0 then Vbcnac.does s c else (s, [ref3 s.bridges.length ns rs bs]) := by
  unfold Vbcnac.step ref3
  rw [if_neg (by rw [h]; simp), h1, h2]
  cases (ns.zip rs).all fun x => inSpan x.1 x.2 with
  | false => rfl
  | true =>
    cases bs.any fun b => decide ((s.bridges.length : Int) ≤ b) with
    | false => rfl
    | true => rfl
theorem ref3_zero {len : Nat} {ns : List Int} {rs : List (Int × Int)} {bs : List Int} (h : ref3 len ns rs bs = 0) : (∀ x ∈ ns.zip rs, x.2.1 ≤ x.1 ∧ x.1 ≤ x.2.2) ∧ ∀ b ∈ bs, b < (len : Int) := by
  unfold ref3 at h
  cases q : (ns.zip rs).all fun x => inSpan x.1 x.2 with
  | false =>
    rw [q] at h
    cases h
  | true =>
    rw [q] at h
    cases q2 : bs.any fun b => decide ((len : Int) ≤ b) with
    | true =>
      rw [q2] at h
      cases h
    | false =>
      refine ⟨fun x hx => ?_, fun b hb => ?_⟩
      · have := List.all_eq_true.mp q x hx
        unfold inSpan at this
        simpa using this
      · have := List.any_eq_false.mp q2 b hb
        simpa using this
section
variable {K : PySem.W.Frag} {σ : L2.St} {H : Hp} {D : Ends} {u : TS} {ta tb tc : TE} {v : V} {ow : Addr → Nat} {as : List Addr} {s : Vbcnac.State} {c : Vbcnac.Call} {ns : List Int} {rs : List (Int × Int)} {bs : List Int}
/-- the look at a call's arguments, and the refusal's answer -/
theorem r_refusal (k : Nat) (S : SesAt K ow as H v s) (A : Ans K v ow H (Vbcnac.step s c) D.rt) (hb : Vbcnac.isBegin c = false) (h1 : Vbcnac.inRange c = (ns.zip rs).all fun x => inSpan x.1 x.2) (h2 : Vbcnac.named c = bs) (hl : ns.length = rs.length) (hv : σ[0]? = some (some v)) (hk : k < σ.length)
    (harg : ∀ QA : List V → Hp → Prop, (∀ tn tr tb us H1, Same H H1 → SqT K H1 tn (ns.map V.int) → SqT K H1 tr us → Paired (Spn K) us rs → SqT K H1 tb (bs.map V.int) → QA [.ref tn, .ref tr, .ref tb] H1) → (tCons ta (tCons tb (tCons tc tNil))) σ H QA)
    (hgo : ∀ n H1, v = .ref n → NetAt K ow as H1 n s → Same H H1 → s.begun = true → Inv s → ref3 s.bridges.length ns rs bs = 0 → Ans K v ow H1 (Vbcnac.does s c) D.rt → u D (σ.set k (some (.int 0))) H1) :
    tSeq (tAsg (tCall (sp_refusal_of K) [] E0 (tCons (tVar 0) (tCons ta (tCons tb (tCons tc tNil))))) (gName k)) (tSeq (tIfS (tTest (tOp rNe (tVar k) (tC (.int 0)))) (tRet (tLst (tCons (tVar k) tNil))) tNext) u) D σ H := by
  have ret : ∀ (r : Int) H2, r ≠ 0 → Same H H2 → Vbcnac.step s c = (s, [r]) → tSeq (tIfS (tTest (tOp rNe (tVar k) (tC (.int 0)))) (tRet (tLst (tCons (tVar k) tNil))) tNext) u D (σ.set k (some (.int r))) H2 := fun r H2 hr e es => by
    have hs : (σ.set k (some (.int r)))[k]? = some (some (.int r)) := by rw [List.getElem?_set_self hk]
    refine r_seq (r_if (r_test (r_op ⟨_, hs, r_c ⟨rfl, _, rfl, ?_⟩⟩)))
    have hd : (!decide (V.int r = V.int 0)) = true := by
      rw [decide_eq_false fun z => hr (V.int.inj z)]
      rfl
    rw [hd]
    refine if_y (r_ret (r_lst (r_cons ⟨_, hs, r_nil ⟨by show 1 ≤ sizeLine; decide, ?_⟩⟩)))
    have A2 := (A.eq es).later e
    exact A2.ret (S.same e) (Frm.refl _ _) (Grow.refl _ _) rfl
  refine r_seq (r_set (r_call ⟨v, hv, harg _ fun tn tr tb us H1 e t1 t2 t3 t4 => ?_⟩))
  refine ⟨v, tn, tr, tb, ns, rs, us, bs, rfl, t1, t2, t3, hl, t4, ?_⟩
  rcases S with ⟨rfl, hbeg, _⟩ | ⟨n, rfl, N, hbeg, I⟩
  · exact .inl ⟨rfl, fun H2 e2 => nx (ret (-1) H2 (by decide) (e.trans e2) (step_none hbeg hb))⟩
  · refine .inr ⟨ow, as, n, s, rfl, N.same e, fun H2 e2 => nx ?_⟩
    have es := step_ref hbeg h1 h2
    by_cases z : ref3 s.bridges.length ns rs bs = 0
    · rw [if_pos z] at es
      rw [z]
      have hs : (σ.set k (some (.int 0)))[k]? = some (some (.int 0)) := by rw [List.getElem?_set_self hk]
      exact r_seq (r_if (r_test (r_op ⟨_, hs, r_c ⟨rfl, _, rfl, if_n (r_next (nx (hgo n H2 rfl ((N.same e).same e2) (e.trans e2) hbeg I z ((A.eq es).later (e.trans e2)))))⟩⟩)))
    · rw [if_neg z] at es
      exact ret _ H2 z (e.trans e2) es
end
end Sw
namespace Sw
open PySem PySem.Spec PyProof.Rows L2
section
variable {P : Program} {w : World} {K : PySem.W.Frag} {mg : Str → Option Value} {base : Heap}
theorem nat_of {b : Int} (h : 0 ≤ b) : ∃ n : Nat, b = (n : Int) := ⟨b.toNat, (Int.toNat_of_nonneg h).symm⟩
/-! ### set_rank -/
def sp_set_rank (K : PySem.W.Frag) : Sp := fun vs H Q _ => ∃ v b r ow as s, vs = [v, .int b, .int r] ∧ SesAt K ow as H v s ∧ Ans K v ow H (Vbcnac.step s (.rank b r)) Q
theorem sc_set_rank : FnScope ["net", "number", "rank", "refusal", "bridge"] ["net", "number", "rank"] D_set_rank.scope := ⟨rfl, rfl, rfl, by decide +kernel, rfl, by decide +kernel, by decide +kernel⟩
-- level 2; slots 0:net 1:number 2:rank 3:refusal 4:bridge; captured []
theorem ok_set_rank (T : Txt K mg) (G_refusal_of : Does P w K mg base 1 "refusal_of" ["net", "numbers", "ranges", "bridges"] (sp_refusal_of K)) : Does P w K mg base 2 "set_rank" ["net", "number", "rank"] (sp_set_rank K) := by
  refine does_of T 36 (d := D_set_rank) rfl rfl rfl rfl T.g_set_rank sc_set_rank (fun _ _ _ _ _ _ us hl => match us, hl with | [_, _, _], _ => rfl) (fun vs H Q E h => by obtain ⟨_, _, _, _, _, _, rfl, _⟩ := h; rfl) (fun cdv A outer s H vs Q E hr h => ⟨_, (pss_cons (ps_set (i := 3) sc_set_rank.nd rfl (.inl rfl) (pe_f G_refusal_of (hr.mono (by decide)) (by rfl) (pa_cons (pv 0) (pa_cons (pe_tup (pa_cons (pv 1) (pa_cons (pv 2) pa_nil))) (pa_cons (pe_tup (pa_cons (pe_gr T.g_BRIDGE rfl) (pa_cons (pe_gr T.g_RANK rfl) pa_nil))) (pa_cons (pe_tup (pa_cons (pv 1) pa_nil)) pa_nil))))))
      (pss_cons (ps_if (pt_cmpR op_ne (pv 3) pe_int (nomark _)) (pss_one (ps_ret (pe_lst (pa_cons (pv 3) pa_nil)))) pss_nil)
      (pss_cons (ps_set (i := 4) sc_set_rank.nd rfl (.inl rfl) (pe_ix ix_list (pe_fld (pv 0) rfl) (pv 1) (fun _ _ => rfl)))
      (pss_cons (ps_fld (pv 4) (pv 2) rfl)
      (pss_cons (ps_fld (pv 0) pe_int rfl)
      (pss_one (ps_ret (pe_lst (pa_cons pe_int pa_nil))))))))), ?_⟩)
  obtain ⟨v, b, r, ow, as, s, rfl, S, A⟩ := h
  refine r_refusal (c := .rank b r) (ns := [b, r]) (rs := [(0, 31), (0, 65535)]) (bs := [b]) 3 S A rfl ?_ rfl rfl rfl (by show 3 < 5; decide) (fun QA q => ?_) fun n H1 hv N e hbeg I z A1 => ?_
  · show (Vbcnac.isB b && Vbcnac.within r 0 65535) = (inSpan b (0, 31) && (inSpan r (0, 65535) && true))
    rw [Bool.and_true]
    rfl
  · refine r_cons (r_tup (r_cons (go vv (r_cons (go vv (r_nil ⟨by show 2 ≤ sizeLine; decide, fun t1 n1 => r_cons (r_tup (r_cons (r_c (r_cons (r_c (r_nil ⟨by show 2 ≤ sizeLine; decide, fun t2 n2 => r_cons (r_tup (r_cons (go vv (r_nil ⟨by show 1 ≤ sizeLine; decide, fun t3 n3 => r_nil ?_⟩))))⟩))))))⟩))))))
    have e1 := same_new (o := .tup [.int b, .int r]) n1
    have e2 := same_new (o := .tup [.ref (He.ga K "BRIDGE"), .ref (He.ga K "RANK")]) n2
    have e3 := same_new (o := .tup [.int b]) n3
    exact q t1 t2 t3 _ _ (e1.trans (e2.trans e3)) (SqT.of (e3 _ _ (e2 _ _ upd_same))) (SqT.of (e3 _ _ upd_same)) (.cons ⟨_, rfl, fun H => T.t_BRIDGE H⟩ (.cons ⟨_, rfl, fun H => T.t_RANK H⟩ .nil)) (SqT.of upd_same)
  · subst hv
    obtain ⟨hr, hb⟩ := ref3_zero z
    have hb1 : 0 ≤ b ∧ b ≤ 31 := hr (b, (0, 31)) (by simp)
    have hr1 : 0 ≤ r ∧ r ≤ 65535 := hr (r, (0, 65535)) (by simp)
    have hb2 := hb b (by simp)
    obtain ⟨b, rfl⟩ := nat_of hb1.1
    obtain ⟨r, rfl⟩ := nat_of hr1.1
    have hb3 : b < s.bridges.length := by omega
    obtain ⟨a, ea⟩ := N.addr hb3
    obtain ⟨dx, l, st, ws, kvs, B⟩ := N.br b a ea
    refine r_seq (r_set (go (N.bridge T ea vv vv) (nx (r_seq (r_sfld (go vv (go vv ⟨a, _, dx, _, rfl, B.self, T.c_Bridge, T.n_Bridge_rank, by show 11 < 1000; decide, nx ?_⟩)))))))
    rw [pF_rank]
    obtain ⟨ow1, N1, c1⟩ := N.field ea B (x' := { Vbcnac.bridgeAt s b with rank := r }) rfl rfl
    refine r_seq (r_quiet T N1 fun H2 N2 f2 => nx ?_)
    refine r_ret (r_lst (r_cons (r_c (r_nil ⟨by show 1 ≤ sizeLine; decide, ?_⟩))))
    refine A1.ret (ow' := ow1) (as' := as) (.inr ⟨n, rfl, ?_, hbeg, ?_⟩) (c1.frm.trans c1.gr f2) c1.gr rfl
    · exact N2
    · exact inv_quiet (inv_rank I hb3) 0
/-! ### set_cost, set_port_rank -/
def sp_set_cost (K : PySem.W.Frag) : Sp := fun vs H Q _ => ∃ v t b p r ow as s, vs = [v, .ref t, .int r] ∧ H t = some (.tup [.int b, .int p]) ∧ SesAt K ow as H v s ∧ Ans K v ow H (Vbcnac.step s (.cost b p r)) Q
theorem sc_set_cost : FnScope ["net", "port", "cost", "refusal", "bridge"] ["net", "port", "cost"] D_set_cost.scope := ⟨rfl, rfl, rfl, by decide +kernel, rfl, by decide +kernel, by decide +kernel⟩
-- level 2; slots 0:net 1:port 2:cost 3:refusal 4:bridge; captured []
theorem ok_set_cost (T : Txt K mg) (G_refusal_of : Does P w K mg base 1 "refusal_of" ["net", "numbers", "ranges", "bridges"] (sp_refusal_of K)) : Does P w K mg base 2 "set_cost" ["net", "port", "cost"] (sp_set_cost K) := by
  refine does_of T 37 (d := D_set_cost) rfl rfl rfl rfl T.g_set_cost sc_set_cost (fun _ _ _ _ _ _ us hl => match us, hl with | [_, _, _], _ => rfl) (fun vs H Q E h => by obtain ⟨_, _, _, _, _, _, _, _, rfl, _⟩ := h; rfl) (fun cdv A outer s H vs Q E hr h => ⟨_, (pss_cons (ps_set (i := 3) sc_set_cost.nd rfl (.inl rfl) (pe_f G_refusal_of (hr.mono (by decide)) (by rfl) (pa_cons (pv 0) (pa_cons (pe_op op_catT (pv 1) (pe_tup (pa_cons (pv 2) pa_nil))) (pa_cons (pe_tup (pa_cons (pe_gr T.g_BRIDGE rfl) (pa_cons (pe_gr T.g_PORT rfl) (pa_cons (pe_gr T.g_COST rfl) pa_nil)))) (pa_cons (pe_tup (pa_cons (pe_ix ix_tup (pv 1) pe_int (fun _ _ => rfl)) pa_nil)) pa_nil))))))
      (pss_cons (ps_if (pt_cmpR op_ne (pv 3) pe_int (nomark _)) (pss_one (ps_ret (pe_lst (pa_cons (pv 3) pa_nil)))) pss_nil)
      (pss_cons (ps_set (i := 4) sc_set_cost.nd rfl (.inl rfl) (pe_ix ix_list (pe_fld (pv 0) rfl) (pe_ix ix_tup (pv 1) pe_int (fun _ _ => rfl)) (fun _ _ => rfl)))
      (pss_cons (ps_asg (pv 2) (pg_sub (pe_fld (pv 4) rfl) (pe_ix ix_tup (pv 1) pe_int (fun _ _ => rfl)) set_list))
      (pss_cons (ps_fld (pv 0) pe_int rfl)
      (pss_one (ps_ret (pe_lst (pa_cons pe_int pa_nil))))))))), ?_⟩)
  obtain ⟨v, t, b, p, r, ow, as, s, rfl, ht, S, A⟩ := h
  refine r_refusal (c := .cost b p r) (ns := [b, p, r]) (rs := [(0, 31), (0, 15), (1, 1000000000)]) (bs := [b]) 3 S A rfl ?_ rfl rfl rfl (by show 3 < 5; decide) (fun QA q => ?_) fun n H1 hv N e hbeg I z A1 => ?_
  · show (Vbcnac.isB b && Vbcnac.isP p && Vbcnac.within r 1 1000000000) = (inSpan b (0, 31) && (inSpan p (0, 15) && (inSpan r (1, 1000000000) && true)))
    rw [Bool.and_true, Bool.and_assoc]
    rfl
  · refine r_cons (r_op (go vv (r_tup (r_cons (go vv (r_nil ⟨by show 1 ≤ sizeLine; decide, fun t0 n0 => ?_⟩))))))
    have e0 := same_new (o := .tup [.int r]) n0
    refine ⟨t, t0, _, _, rfl, rfl, SqT.of (e0 _ _ ht), SqT.of upd_same, by simp, by show 3 ≤ sizeLine; decide, fun y => (by cases y), fun _ t1 n1 => ?_⟩
    have e1 := same_new (o := .tup [.int b, .int p, .int r]) n1
    refine r_cons (r_tup (r_cons (r_c (r_cons (r_c (r_cons (r_c (r_nil ⟨by show 3 ≤ sizeLine; decide, fun t2 n2 => r_cons (r_tup (r_cons (go (v_ixT (j := 0) (xs := [.int b, .int p]) vv (SqT.of ?_) rfl) (r_nil ⟨by show 1 ≤ sizeLine; decide, fun t3 n3 => r_nil ?_⟩))))⟩))))))))
    · rw [upd_ne (ne_of_none (e1 _ _ (e0 _ _ ht)) n2)]
      exact e1 _ _ (e0 _ _ ht)
    have e2 := same_new (o := .tup [.ref (He.ga K "BRIDGE"), .ref (He.ga K "PORT"), .ref (He.ga K "COST")]) n2
    have e3 := same_new (o := .tup [.int b]) n3
    exact q t1 t2 t3 _ _ (e0.trans (e1.trans (e2.trans e3))) (SqT.of (e3 _ _ (e2 _ _ upd_same))) (SqT.of (e3 _ _ upd_same)) (.cons ⟨_, rfl, fun H => T.t_BRIDGE H⟩ (.cons ⟨_, rfl, fun H => T.t_PORT H⟩ (.cons ⟨_, rfl, fun H => T.t_COST H⟩ .nil))) (SqT.of upd_same)
  · subst hv
    obtain ⟨hr, hb⟩ := ref3_zero z
    have hb1 : 0 ≤ b ∧ b ≤ 31 := hr (b, (0, 31)) (by simp)
    have hp1 : 0 ≤ p ∧ p ≤ 15 := hr (p, (0, 15)) (by simp)
    have hr1 : 1 ≤ r ∧ r ≤ 1000000000 := hr (r, (1, 1000000000)) (by simp)
    have hb2 := hb b (by simp)
    obtain ⟨b, rfl⟩ := nat_of hb1.1
    obtain ⟨p, rfl⟩ := nat_of hp1.1
    obtain ⟨r, rfl⟩ := nat_of (Int.le_trans (by decide) hr1.1)
    have hb3 : b < s.bridges.length := by omega
    have hp3 : p < (Vbcnac.bridgeAt s b).ports.length := by
      rw [I.np b hb3]
      have := hp1.2
      omega
    have ht1 := e _ _ ht
    obtain ⟨a, ea⟩ := N.addr hb3
    obtain ⟨dx, l, st, ws, kvs, B⟩ := N.br b a ea
    refine r_seq (r_set (go (N.bridge T ea vv (v_ixT (j := 0) vv (SqT.of ht1) rfl)) (nx (r_seq (r_setL vv (B.fcosts T vv) (v_ixT (j := 1) vv (SqT.of ht1) rfl) (B.lst 0 (by decide)) (by rw [B.len 0 (by decide)]; exact hp3) (nx ?_))))))
    have N1 := N.setL ea B (k := 0) (v := .int (r : Nat)) (p := p) (P' := { Vbcnac.portAt s b p with cost := r }) (by decide) rfl fun k hk hne v hv => by
      match k, hk, hne with
      | 1, _, _ => exact hv
      | 2, _, _ => exact hv
      | 3, _, _ => exact hv
      | 4, _, _ => exact hv
      | 5, _, _ => exact hv
      | 6, _, _ => exact hv
    have f1 : Frm ow H1 (upd H1 (l 0) (.lst ((ws 0).set p (.int (r : Nat))))) := frm_set (by rw [B.ol 0 (by decide)]; omega)
    refine r_seq (r_quiet T N1 fun H2 N2 f2 => nx ?_)
    refine r_ret (r_lst (r_cons (r_c (r_nil ⟨by show 1 ≤ sizeLine; decide, ?_⟩))))
    refine A1.ret (ow' := ow) (as' := as) (.inr ⟨n, rfl, ?_, hbeg, ?_⟩) (f1.trans (Grow.refl _ _) f2) (Grow.refl _ _) rfl
    · exact N2
    · exact inv_quiet (inv_port (p := p) (x := { Vbcnac.portAt s b p with cost := r }) I hb3 rfl rfl rfl rfl (by show 1 ≤ r; omega)) 0
def sp_set_port_rank (K : PySem.W.Frag) : Sp := fun vs H Q _ => ∃ v t b p r ow as s, vs = [v, .ref t, .int r] ∧ H t = some (.tup [.int b, .int p]) ∧ SesAt K ow as H v s ∧ Ans K v ow H (Vbcnac.step s (.order b p r)) Q
theorem sc_set_port_rank : FnScope ["net", "port", "rank", "refusal", "bridge"] ["net", "port", "rank"] D_set_port_rank.scope := ⟨rfl, rfl, rfl, by decide +kernel, rfl, by decide +kernel, by decide +kernel⟩
-- level 2; slots 0:net 1:port 2:rank 3:refusal 4:bridge; captured []
theorem ok_set_port_rank (T : Txt K mg) (G_refusal_of : Does P w K mg base 1 "refusal_of" ["net", "numbers", "ranges", "bridges"] (sp_refusal_of K)) : Does P w K mg base 2 "set_port_rank" ["net", "port", "rank"] (sp_set_port_rank K) := by
  refine does_of T 38 (d := D_set_port_rank) rfl rfl rfl rfl T.g_set_port_rank sc_set_port_rank (fun _ _ _ _ _ _ us hl => match us, hl with | [_, _, _], _ => rfl) (fun vs H Q E h => by obtain ⟨_, _, _, _, _, _, _, _, rfl, _⟩ := h; rfl) (fun cdv A outer s H vs Q E hr h => ⟨_, (pss_cons (ps_set (i := 3) sc_set_port_rank.nd rfl (.inl rfl) (pe_f G_refusal_of (hr.mono (by decide)) (by rfl) (pa_cons (pv 0) (pa_cons (pe_op op_catT (pv 1) (pe_tup (pa_cons (pv 2) pa_nil))) (pa_cons (pe_tup (pa_cons (pe_gr T.g_BRIDGE rfl) (pa_cons (pe_gr T.g_PORT rfl) (pa_cons (pe_gr T.g_PORT_RANK rfl) pa_nil)))) (pa_cons (pe_tup (pa_cons (pe_ix ix_tup (pv 1) pe_int (fun _ _ => rfl)) pa_nil)) pa_nil))))))
      (pss_cons (ps_if (pt_cmpR op_ne (pv 3) pe_int (nomark _)) (pss_one (ps_ret (pe_lst (pa_cons (pv 3) pa_nil)))) pss_nil)
      (pss_cons (ps_set (i := 4) sc_set_port_rank.nd rfl (.inl rfl) (pe_ix ix_list (pe_fld (pv 0) rfl) (pe_ix ix_tup (pv 1) pe_int (fun _ _ => rfl)) (fun _ _ => rfl)))
      (pss_cons (ps_asg (pv 2) (pg_sub (pe_fld (pv 4) rfl) (pe_ix ix_tup (pv 1) pe_int (fun _ _ => rfl)) set_list))
      (pss_cons (ps_fld (pv 0) pe_int rfl)
      (pss_one (ps_ret (pe_lst (pa_cons pe_int pa_nil))))))))), ?_⟩)
  obtain ⟨v, t, b, p, r, ow, as, s, rfl, ht, S, A⟩ := h
  refine r_refusal (c := .order b p r) (ns := [b, p, r]) (rs := [(0, 31), (0, 15), (0, 255)]) (bs := [b]) 3 S A rfl ?_ rfl rfl rfl (by show 3 < 5; decide) (fun QA q => ?_) fun n H1 hv N e hbeg I z A1 => ?_
  · show (Vbcnac.isB b && Vbcnac.isP p && Vbcnac.within r 0 255) = (inSpan b (0, 31) && (inSpan p (0, 15) && (inSpan r (0, 255) && true)))
    rw [Bool.and_true, Bool.and_assoc]
    rfl
  · refine r_cons (r_op (go vv (r_tup (r_cons (go vv (r_nil ⟨by show 1 ≤ sizeLine; decide, fun t0 n0 => ?_⟩))))))
    have e0 := same_new (o := .tup [.int r]) n0
    refine ⟨t, t0, _, _, rfl, rfl, SqT.of (e0 _ _ ht), SqT.of upd_same, by simp, by show 3 ≤ sizeLine; decide, fun y => (by cases y), fun _ t1 n1 => ?_⟩
    have e1 := same_new (o := .tup [.int b, .int p, .int r]) n1
    refine r_cons (r_tup (r_cons (r_c (r_cons (r_c (r_cons (r_c (r_nil ⟨by show 3 ≤ sizeLine; decide, fun t2 n2 => r_cons (r_tup (r_cons (go (v_ixT (j := 0) (xs := [.int b, .int p]) vv (SqT.of ?_) rfl) (r_nil ⟨by show 1 ≤ sizeLine; decide, fun t3 n3 => r_nil ?_⟩))))⟩))))))))
    · rw [upd_ne (ne_of_none (e1 _ _ (e0 _ _ ht)) n2)]
      exact e1 _ _ (e0 _ _ ht)
    have e2 := same_new (o := .tup [.ref (He.ga K "BRIDGE"), .ref (He.ga K "PORT"), .ref (He.ga K "PORT_RANK")]) n2
    have e3 := same_new (o := .tup [.int b]) n3
    exact q t1 t2 t3 _ _ (e0.trans (e1.trans (e2.trans e3))) (SqT.of (e3 _ _ (e2 _ _ upd_same))) (SqT.of (e3 _ _ upd_same)) (.cons ⟨_, rfl, fun H => T.t_BRIDGE H⟩ (.cons ⟨_, rfl, fun H => T.t_PORT H⟩ (.cons ⟨_, rfl, fun H => T.t_PORT_RANK H⟩ .nil))) (SqT.of upd_same)
  · subst hv
    obtain ⟨hr, hb⟩ := ref3_zero z
    have hb1 : 0 ≤ b ∧ b ≤ 31 := hr (b, (0, 31)) (by simp)
    have hp1 : 0 ≤ p ∧ p ≤ 15 := hr (p, (0, 15)) (by simp)
    have hr1 : 0 ≤ r ∧ r ≤ 255 := hr (r, (0, 255)) (by simp)
    have hb2 := hb b (by simp)
    obtain ⟨b, rfl⟩ := nat_of hb1.1
    obtain ⟨p, rfl⟩ := nat_of hp1.1
    obtain ⟨r, rfl⟩ := nat_of hr1.1
    have hb3 : b < s.bridges.length := by omega
    have hp3 : p < (Vbcnac.bridgeAt s b).ports.length := by
      rw [I.np b hb3]
      have := hp1.2
      omega
    have ht1 := e _ _ ht
    obtain ⟨a, ea⟩ := N.addr hb3
    obtain ⟨dx, l, st, ws, kvs, B⟩ := N.br b a ea
    refine r_seq (r_set (go (N.bridge T ea vv (v_ixT (j := 0) vv (SqT.of ht1) rfl)) (nx (r_seq (r_setL vv (B.franks T vv) (v_ixT (j := 1) vv (SqT.of ht1) rfl) (B.lst 1 (by decide)) (by rw [B.len 1 (by decide)]; exact hp3) (nx ?_))))))
    have N1 := N.setL ea B (k := 1) (v := .int (r : Nat)) (p := p) (P' := { Vbcnac.portAt s b p with rank := r }) (by decide) rfl fun k hk hne v hv => by
      match k, hk, hne with
      | 0, _, _ => exact hv
      | 2, _, _ => exact hv
      | 3, _, _ => exact hv
      | 4, _, _ => exact hv
      | 5, _, _ => exact hv
      | 6, _, _ => exact hv
    have f1 : Frm ow H1 (upd H1 (l 1) (.lst ((ws 1).set p (.int (r : Nat))))) := frm_set (by rw [B.ol 1 (by decide)]; omega)
    refine r_seq (r_quiet T N1 fun H2 N2 f2 => nx ?_)
    refine r_ret (r_lst (r_cons (r_c (r_nil ⟨by show 1 ≤ sizeLine; decide, ?_⟩))))
    refine A1.ret (ow' := ow) (as' := as) (.inr ⟨n, rfl, ?_, hbeg, ?_⟩) (f1.trans (Grow.refl _ _) f2) (Grow.refl _ _) rfl
    · exact N2
    · exact inv_quiet (inv_port (p := p) (x := { Vbcnac.portAt s b p with rank := r }) I hb3 rfl rfl rfl rfl (I.cost b p)) 0
end
end Sw
namespace Sw
open PySem PySem.Spec PyProof.Rows L2
section
variable {P : Program} {w : World} {K : PySem.W.Frag} {mg : Str → Option Value} {base : Heap}
/-- ( (b,), (BRIDGE,), (b,) ) -/
theorem args_b (T : Txt K mg) {σ : L2.St} {H : Hp} {i : Nat} {b : Int} (hv : σ[i]? = some (some (.int b))) : ∀ QA : List V → Hp → Prop, (∀ tn tr tb us H1, Same H H1 → SqT K H1 tn (([b] : List Int).map V.int) → SqT K H1 tr us → Paired (Spn K) us [(0, 31)] → SqT K H1 tb (([b] : List Int).map V.int) → QA [.ref tn, .ref tr, .ref tb] H1) →
    (tCons (tTup (tCons (tVar i) tNil)) (tCons (tTup (tCons (tC (.ref (He.ga K "BRIDGE"))) tNil)) (tCons (tTup (tCons (tVar i) tNil)) tNil))) σ H QA := fun QA q => by
  refine r_cons (r_tup (r_cons (go (vv hv) (r_nil ⟨by show 1 ≤ sizeLine; decide, fun t1 n1 => r_cons (r_tup (r_cons (r_c (r_nil ⟨by show 1 ≤ sizeLine; decide, fun t2 n2 => r_cons (r_tup (r_cons (go (vv hv) (r_nil ⟨by show 1 ≤ sizeLine; decide, fun t3 n3 => r_nil ?_⟩))))⟩))))⟩))))
  have e1 := same_new (o := .tup [.int b]) n1
  have e2 := same_new (o := .tup [.ref (He.ga K "BRIDGE")]) n2
  have e3 := same_new (o := .tup [.int b]) n3
  exact q t1 t2 t3 _ _ (e1.trans (e2.trans e3)) (SqT.of (e3 _ _ (e2 _ _ upd_same))) (SqT.of (e3 _ _ upd_same)) (.cons ⟨_, rfl, fun H => T.t_BRIDGE H⟩ .nil) (SqT.of upd_same)
/-- ( port, (BRIDGE, PORT), (port[0],) ) -/
theorem args_p (T : Txt K mg) {σ : L2.St} {H : Hp} {i : Nat} {t : Addr} {b p : Int} (hv : σ[i]? = some (some (.ref t))) (ht : H t = some (.tup [.int b, .int p])) : ∀ QA : List V → Hp → Prop, (∀ tn tr tb us H1, Same H H1 → SqT K H1 tn (([b, p] : List Int).map V.int) → SqT K H1 tr us → Paired (Spn K) us [(0, 31), (0, 15)] → SqT K H1 tb (([b] : List Int).map V.int) → QA [.ref tn, .ref tr, .ref tb] H1) →
    (tCons (tVar i) (tCons (tTup (tCons (tC (.ref (He.ga K "BRIDGE"))) (tCons (tC (.ref (He.ga K "PORT"))) tNil))) (tCons (tTup (tCons (tOp (rIxT K) (tVar i) (tC (.int 0))) tNil)) tNil))) σ H QA := fun QA q => by
  refine r_cons (go (vv hv) (r_cons (r_tup (r_cons (r_c (r_cons (r_c (r_nil ⟨by show 2 ≤ sizeLine; decide, fun t2 n2 => r_cons (r_tup (r_cons (go (v_ixT (j := 0) (xs := [.int b, .int p]) (vv hv) (SqT.of ?_) rfl) (r_nil ⟨by show 1 ≤ sizeLine; decide, fun t3 n3 => r_nil ?_⟩))))⟩))))))))
  · rw [upd_ne (ne_of_none ht n2)]
    exact ht
  have e2 := same_new (o := .tup [.ref (He.ga K "BRIDGE"), .ref (He.ga K "PORT")]) n2
  have e3 := same_new (o := .tup [.int b]) n3
  exact q t t2 t3 _ _ (e2.trans e3) (SqT.of (e3 _ _ (e2 _ _ ht))) (SqT.of (e3 _ _ upd_same)) (.cons ⟨_, rfl, fun H => T.t_BRIDGE H⟩ (.cons ⟨_, rfl, fun H => T.t_PORT H⟩ .nil)) (SqT.of upd_same)
theorem beg_fold : ∀ (l : List (Nat × Nat)) (s : Vbcnac.State), (l.foldl (fun s x => Vbcnac.touch s x.1 x.2) s).begun = s.begun
  | [], _ => rfl
  | x :: r, s => (beg_fold r _).trans (par_age (par_touch s x.1 x.2)).1
theorem beg_parted (s : Vbcnac.State) (b p c q : Nat) : (Vbcnac.parted s b p c q).begun = s.begun :=
  (par_age (par_touch _ c q)).1.trans ((par_age (par_touch _ b p)).1)
theorem beg_joined (s : Vbcnac.State) (b p c q : Nat) : (Vbcnac.joined s b p c q).begun = s.begun :=
  (par_age (par_touch _ c q)).1.trans ((par_age (par_touch _ b p)).1)
theorem w16_inv {s : Vbcnac.State} (I : Inv s) : W16 s := I.np
/-! ### cut_call -/
def sp_cut_call (K : PySem.W.Frag) : Sp := fun vs H Q _ => ∃ v t b p ow as s, vs = [v, .ref t] ∧ H t = some (.tup [.int b, .int p]) ∧ SesAt K ow as H v s ∧ Ans K v ow H (Vbcnac.step s (.cut b p)) Q
theorem sc_cut_call : FnScope ["net", "port", "refusal"] ["net", "port"] D_cut_call.scope := ⟨rfl, rfl, rfl, by decide +kernel, rfl, by decide +kernel, by decide +kernel⟩
-- level 4; slots 0:net 1:port 2:refusal; captured []
theorem ok_cut_call (T : Txt K mg) (G_refusal_of : Does P w K mg base 1 "refusal_of" ["net", "numbers", "ranges", "bridges"] (sp_refusal_of K)) (G_cable_at : Does P w K mg base 1 "cable_at" ["net", "port"] (sp_cable_at K)) (G_cut_cable : Does P w K mg base 3 "cut_cable" ["net", "port"] (sp_cut_cable K)) : Does P w K mg base 4 "cut_call" ["net", "port"] (sp_cut_call K) := by
  refine does_of T 33 (d := D_cut_call) rfl rfl rfl rfl T.g_cut_call sc_cut_call (fun _ _ _ _ _ _ us hl => match us, hl with | [_, _], _ => rfl) (fun vs H Q E h => by obtain ⟨_, _, _, _, _, _, _, rfl, _⟩ := h; rfl) (fun cdv A outer s H vs Q E hr h => ⟨_, (pss_cons (ps_set (i := 2) sc_cut_call.nd rfl (.inl rfl) (pe_f G_refusal_of (hr.mono (by decide)) (by rfl) (pa_cons (pv 0) (pa_cons (pv 1) (pa_cons (pe_tup (pa_cons (pe_gr T.g_BRIDGE rfl) (pa_cons (pe_gr T.g_PORT rfl) pa_nil))) (pa_cons (pe_tup (pa_cons (pe_ix ix_tup (pv 1) pe_int (fun _ _ => rfl)) pa_nil)) pa_nil))))))
      (pss_cons (ps_if (pt_cmpR op_ne (pv 2) pe_int (nomark _)) (pss_one (ps_ret (pe_lst (pa_cons (pv 2) pa_nil)))) pss_nil)
      (pss_cons (ps_if (pt_cmpR op_isN (pe_f G_cable_at (hr.mono (by decide)) (by rfl) (pa_cons (pv 0) (pa_cons (pv 1) pa_nil))) pe_non (nomark _)) (pss_one (ps_ret (pe_lst (pa_cons (pe_gi T.i_NO_CABLE rfl) pa_nil)))) pss_nil)
      (pss_cons (ps_expr (pe_f G_cut_cable (hr.mono (by decide)) (by rfl) (pa_cons (pv 0) (pa_cons (pv 1) pa_nil))))
      (pss_cons (ps_fld (pv 0) pe_int rfl)
      (pss_one (ps_ret (pe_lst (pa_cons pe_int pa_nil))))))))), ?_⟩)
  obtain ⟨v, t, b, p, ow, as, s, rfl, ht, S, A⟩ := h
  refine r_refusal (c := .cut b p) (ns := [b, p]) (rs := [(0, 31), (0, 15)]) (bs := [b]) 2 S A rfl ?_ rfl rfl rfl (by show 2 < 3; decide) (args_p T rfl ht) fun n H1 hv N e hbeg I z A1 => ?_
  · show (Vbcnac.isB b && Vbcnac.isP p) = (inSpan b (0, 31) && (inSpan p (0, 15) && true))
    rw [Bool.and_true]
    rfl
  · subst hv
    obtain ⟨hr, hb⟩ := ref3_zero z
    have hb1 : 0 ≤ b ∧ b ≤ 31 := hr (b, (0, 31)) (by simp)
    have hp1 : 0 ≤ p ∧ p ≤ 15 := hr (p, (0, 15)) (by simp)
    have hb2 := hb b (by simp)
    obtain ⟨b, rfl⟩ := nat_of hb1.1
    obtain ⟨p, rfl⟩ := nat_of hp1.1
    have hb3 : b < s.bridges.length := by omega
    have hp3 : p < (Vbcnac.bridgeAt s b).ports.length := by
      rw [I.np b hb3]
      omega
    have ht1 := e _ _ ht
    refine r_seq (r_if (r_test (r_op (c2 vv vv ⟨ow, as, n, s, t, b, p, rfl, N, ht1, hb3, hp3, fun v hv => r_c ⟨rfl, _, rfl, ?_⟩⟩))))
    have ed : Vbcnac.does s (.cut (b : Int) (p : Int)) = match (Vbcnac.portAt s b p).peer with
      | none => (s, [-8])
      | some x => Vbcnac.done (Vbcnac.parted s b p x.1 x.2) [0] := rfl
    cases hx : (Vbcnac.portAt s b p).peer with
    | none =>
      rw [hx] at hv ed
      cases (show v = .non from hv)
      refine if_y (r_ret (r_lst (r_cons (r_c (r_nil ⟨by show 1 ≤ sizeLine; decide, ?_⟩)))))
      exact (A1.eq ed).ret (.inr ⟨n, rfl, N, hbeg, I⟩) (Frm.refl _ _) (Grow.refl _ _) rfl
    | some x =>
      rw [hx] at hv ed
      obtain ⟨u, rfl, hu⟩ := hv
      obtain ⟨_, _, hc, hq⟩ := I.peer (c := x.1) (q := x.2) hx
      refine if_n (r_next (nx (r_seq (r_drop (c2 vv vv ⟨ow, as, n, s, t, b, p, x.1, x.2, rfl, N, ht1, hx, hb3, by omega, hc, hq, w16_inv I, fun H2 ow2 N2 f2 g2 => nx ?_⟩)))))
      refine r_seq (r_quiet T N2 fun H3 N3 f3 => nx (r_ret (r_lst (r_cons (r_c (r_nil ⟨by show 1 ≤ sizeLine; decide, ?_⟩))))))
      exact (A1.eq ed).ret (ow' := ow2) (as' := as) (.inr ⟨n, rfl, N3, (beg_parted s b p x.1 x.2).trans hbeg, inv_quiet (inv_parted I hx) 0⟩) (f2.trans g2 f3) g2 rfl
/-! ### cable_call -/
theorem eqv_pt (a b c d : Int) : PyData.eqv (.tuple [.int a, .int b]) (.tuple [.int c, .int d]) = (a == c && b == d) := by
  rw [PyData.eqv, PyData.eqvAll, PyData.eqvAll, PyData.eqvAll, PyData.eqv, PyData.eqv, Bool.and_true]
theorem dp_pt {K : PySem.W.Frag} {H : Hp} {t : Addr} {a b : Int} (h : H t = some (.tup [.int a, .int b])) : Dp K H (.ref t) (.tuple [.int a, .int b]) := .tup (SqT.of h) (.cons (.int a) (.cons (.int b) .nil))
def sp_cable_call (K : PySem.W.Frag) : Sp := fun vs H Q _ => ∃ v t u b p c q ow as s, vs = [v, .ref t, .ref u] ∧ H t = some (.tup [.int b, .int p]) ∧ H u = some (.tup [.int c, .int q]) ∧ SesAt K ow as H v s ∧ Ans K v ow H (Vbcnac.step s (.cable b p c q)) Q
theorem sc_cable_call : FnScope ["net", "port", "other", "refusal"] ["net", "port", "other"] D_cable_call.scope := ⟨rfl, rfl, rfl, by decide +kernel, rfl, by decide +kernel, by decide +kernel⟩
-- level 4; slots 0:net 1:port 2:other 3:refusal; captured []
theorem ok_cable_call (T : Txt K mg) (G_refusal_of : Does P w K mg base 1 "refusal_of" ["net", "numbers", "ranges", "bridges"] (sp_refusal_of K)) (G_cable_at : Does P w K mg base 1 "cable_at" ["net", "port"] (sp_cable_at K)) (G_lay_cable : Does P w K mg base 3 "lay_cable" ["net", "port", "other"] (sp_lay_cable K)) : Does P w K mg base 4 "cable_call" ["net", "port", "other"] (sp_cable_call K) := by
  refine does_of T 32 (d := D_cable_call) rfl rfl rfl rfl T.g_cable_call sc_cable_call (fun _ _ _ _ _ _ us hl => match us, hl with | [_, _, _], _ => rfl) (fun vs H Q E h => by obtain ⟨_, _, _, _, _, _, _, _, _, _, rfl, _⟩ := h; rfl) (fun cdv A outer s H vs Q E hr h => ⟨_, (pss_cons (ps_set (i := 3) sc_cable_call.nd rfl (.inl rfl) (pe_f G_refusal_of (hr.mono (by decide)) (by rfl) (pa_cons (pv 0) (pa_cons (pe_op op_catT (pv 1) (pv 2)) (pa_cons (pe_tup (pa_cons (pe_gr T.g_BRIDGE rfl) (pa_cons (pe_gr T.g_PORT rfl) (pa_cons (pe_gr T.g_BRIDGE rfl) (pa_cons (pe_gr T.g_PORT rfl) pa_nil))))) (pa_cons (pe_tup (pa_cons (pe_ix ix_tup (pv 1) pe_int (fun _ _ => rfl)) (pa_cons (pe_ix ix_tup (pv 2) pe_int (fun _ _ => rfl)) pa_nil))) pa_nil))))))
      (pss_cons (ps_if (pt_cmpR op_ne (pv 3) pe_int (nomark _)) (pss_one (ps_ret (pe_lst (pa_cons (pv 3) pa_nil)))) pss_nil)
      (pss_cons (ps_if (pt_cmpR (op_eqD (hu64 hr)) (pv 1) (pv 2) (nomark _)) (pss_one (ps_ret (pe_lst (pa_cons (pe_gi T.i_ONE_PORT rfl) pa_nil)))) pss_nil)
      (pss_cons (ps_if (PW.pt (pw_or (pt_cmpR op_notN (pe_f G_cable_at (hr.mono (by decide)) (by rfl) (pa_cons (pv 0) (pa_cons (pv 1) pa_nil))) pe_non (nomark _)) (pw_or1 (pt_cmpR op_notN (pe_f G_cable_at (hr.mono (by decide)) (by rfl) (pa_cons (pv 0) (pa_cons (pv 2) pa_nil))) pe_non (nomark _))))) (pss_one (ps_ret (pe_lst (pa_cons (pe_gi T.i_HAS_CABLE rfl) pa_nil)))) pss_nil)
      (pss_cons (ps_expr (pe_f G_lay_cable (hr.mono (by decide)) (by rfl) (pa_cons (pv 0) (pa_cons (pv 1) (pa_cons (pv 2) pa_nil)))))
      (pss_cons (ps_fld (pv 0) pe_int rfl)
      (pss_one (ps_ret (pe_lst (pa_cons pe_int pa_nil)))))))))), ?_⟩)
  obtain ⟨v, t, u, b, p, c, q, ow, as, s, rfl, ht, hu, S, A⟩ := h
  refine r_refusal (c := .cable b p c q) (ns := [b, p, c, q]) (rs := [(0, 31), (0, 15), (0, 31), (0, 15)]) (bs := [b, c]) 3 S A rfl ?_ rfl rfl rfl (by show 3 < 4; decide) (fun QA k => ?_) fun n H1 hv N e hbeg I z A1 => ?_
  · show (Vbcnac.isB b && Vbcnac.isP p && Vbcnac.isB c && Vbcnac.isP q) = (inSpan b (0, 31) && (inSpan p (0, 15) && (inSpan c (0, 31) && (inSpan q (0, 15) && true))))
    rw [Bool.and_true, Bool.and_assoc, Bool.and_assoc]
    rfl
  · refine r_cons (r_op (go vv (go vv ⟨t, u, _, _, rfl, rfl, SqT.of ht, SqT.of hu, by simp, by show 4 ≤ sizeLine; decide, fun y => (by cases y), fun _ t1 n1 => ?_⟩)))
    have e1 := same_new (o := .tup [.int b, .int p, .int c, .int q]) n1
    refine r_cons (r_tup (r_cons (r_c (r_cons (r_c (r_cons (r_c (r_cons (r_c (r_nil ⟨by show 4 ≤ sizeLine; decide, fun t2 n2 => ?_⟩))))))))))
    have e2 := same_new (o := .tup [.ref (He.ga K "BRIDGE"), .ref (He.ga K "PORT"), .ref (He.ga K "BRIDGE"), .ref (He.ga K "PORT")]) n2
    refine r_cons (r_tup (r_cons (go (v_ixT (j := 0) (xs := [.int b, .int p]) vv (SqT.of (e2 _ _ (e1 _ _ ht))) rfl) (r_cons (go (v_ixT (j := 0) (xs := [.int c, .int q]) vv (SqT.of (e2 _ _ (e1 _ _ hu))) rfl) (r_nil ⟨by show 2 ≤ sizeLine; decide, fun t3 n3 => r_nil ?_⟩))))))
    have e3 := same_new (o := .tup [.int b, .int c]) n3
    exact k t1 t2 t3 _ _ (e1.trans (e2.trans e3)) (SqT.of (e3 _ _ (e2 _ _ upd_same))) (SqT.of (e3 _ _ upd_same)) (.cons ⟨_, rfl, fun H => T.t_BRIDGE H⟩ (.cons ⟨_, rfl, fun H => T.t_PORT H⟩ (.cons ⟨_, rfl, fun H => T.t_BRIDGE H⟩ (.cons ⟨_, rfl, fun H => T.t_PORT H⟩ .nil)))) (SqT.of upd_same)
  · subst hv
    obtain ⟨hr, hb⟩ := ref3_zero z
    have hb1 : 0 ≤ b ∧ b ≤ 31 := hr (b, (0, 31)) (by simp)
    have hp1 : 0 ≤ p ∧ p ≤ 15 := hr (p, (0, 15)) (by simp)
    have hc1 : 0 ≤ c ∧ c ≤ 31 := hr (c, (0, 31)) (by simp)
    have hq1 : 0 ≤ q ∧ q ≤ 15 := hr (q, (0, 15)) (by simp)
    have hb2 := hb b (by simp)
    have hc2 := hb c (by simp)
    obtain ⟨b, rfl⟩ := nat_of hb1.1
    obtain ⟨p, rfl⟩ := nat_of hp1.1
    obtain ⟨c, rfl⟩ := nat_of hc1.1
    obtain ⟨q, rfl⟩ := nat_of hq1.1
    have hb3 : b < s.bridges.length := by omega
    have hc3 : c < s.bridges.length := by omega
    have hp3 : p < (Vbcnac.bridgeAt s b).ports.length := by
      rw [I.np b hb3]
      omega
    have hq3 : q < (Vbcnac.bridgeAt s c).ports.length := by
      rw [I.np c hc3]
      omega
    have ht1 := e _ _ ht
    have hu1 := e _ _ hu
    refine r_seq (r_if (r_test (r_op (go vv (go vv ⟨_, _, dp_pt ht1, dp_pt hu1, rfl, rfl, _, rfl, ?_⟩)))))
    rw [eqv_pt]
    have ed : Vbcnac.does s (.cable (b : Int) (p : Int) (c : Int) (q : Int)) = if (b : Int) = c ∧ (p : Int) = q then (s, [-6]) else if (Vbcnac.portAt s b p).peer.isSome = true ∨ (Vbcnac.portAt s c q).peer.isSome = true then (s, [-7]) else Vbcnac.done (Vbcnac.joined s b p c q) [0] := rfl
    have bk : SesAt K ow as H1 (.ref n) s := .inr ⟨n, rfl, N, hbeg, I⟩
    by_cases h6 : (b : Int) = c ∧ (p : Int) = q
    · rw [if_pos h6] at ed
      have e6 : ((b : Int) == c && (p : Int) == q) = true := by
        rw [h6.1, h6.2]
        simp
      rw [e6]
      refine if_y (r_ret (r_lst (r_cons (r_c (r_nil ⟨by show 1 ≤ sizeLine; decide, ?_⟩)))))
      exact (A1.eq ed).ret bk (Frm.refl _ _) (Grow.refl _ _) rfl
    · rw [if_neg h6] at ed
      have e6 : ((b : Int) == c && (p : Int) == q) = false := by
        rw [Bool.and_eq_false_iff]
        by_cases y : (b : Int) = c
        · exact .inr (beq_eq_false_iff_ne.mpr fun y2 => h6 ⟨y, y2⟩)
        · exact .inl (beq_eq_false_iff_ne.mpr y)
      rw [e6]
      have hne : ¬ (b = c ∧ p = q) := fun y => h6 ⟨by rw [y.1], by rw [y.2]⟩
      refine if_n (r_next (nx (r_seq (r_if (r_or (r_test (r_op (c2 vv vv ⟨ow, as, n, s, t, b, p, rfl, N, ht1, hb3, hp3, fun v hv => r_c ⟨rfl, _, rfl, ?_⟩⟩))))))))
      have seven : (Vbcnac.portAt s b p).peer.isSome = true ∨ (Vbcnac.portAt s c q).peer.isSome = true → ∀ σ D, D.rt = Q → tRet (tLst (tCons (tC (.int (-7))) tNil)) D σ H1 := fun h7 σ D hD => by
        rw [if_pos h7] at ed
        refine r_ret (r_lst (r_cons (r_c (r_nil ⟨by show 1 ≤ sizeLine; decide, ?_⟩))))
        rw [hD]
        exact (A1.eq ed).ret bk (Frm.refl _ _) (Grow.refl _ _) rfl
      cases hx : (Vbcnac.portAt s b p).peer with
      | some x =>
        rw [hx] at hv
        obtain ⟨_, rfl, _⟩ := hv
        exact if_y (if_y (seven (.inl (by rw [hx]; rfl)) _ _ rfl))
      | none =>
        rw [hx] at hv
        cases (show v = .non from hv)
        refine if_n (r_test (r_op (c2 vv vv ⟨ow, as, n, s, u, c, q, rfl, N, hu1, hc3, hq3, fun v2 hv2 => r_c ⟨rfl, _, rfl, ?_⟩⟩)))
        cases hy : (Vbcnac.portAt s c q).peer with
        | some y =>
          rw [hy] at hv2
          obtain ⟨_, rfl, _⟩ := hv2
          exact if_y (seven (.inr (by rw [hy]; rfl)) _ _ rfl)
        | none =>
          rw [hy] at hv2
          cases (show v2 = .non from hv2)
          rw [if_neg (by rw [hx, hy]; simp)] at ed
          refine if_n (r_next (nx (r_seq (r_drop (c3 vv vv vv ⟨ow, as, n, s, t, u, b, p, c, q, rfl, N, ht1, hu1, hb3, by omega, hc3, by omega, w16_inv I, fun H2 ow2 N2 f2 g2 => nx ?_⟩)))))
          refine r_seq (r_quiet T N2 fun H3 N3 f3 => nx (r_ret (r_lst (r_cons (r_c (r_nil ⟨by show 1 ≤ sizeLine; decide, ?_⟩))))))
          exact (A1.eq ed).ret (ow' := ow2) (as' := as) (.inr ⟨n, rfl, N3, (beg_joined s b p c q).trans hbeg, inv_quiet (inv_joined I hb3 (by omega) hc3 (by omega) hne hx hy) 0⟩) (f2.trans g2 f3) g2 rfl
/-! ### off_call, on_call -/
def sp_off_call (K : PySem.W.Frag) : Sp := fun vs H Q _ => ∃ v b ow as s, vs = [v, .int b] ∧ SesAt K ow as H v s ∧ Ans K v ow H (Vbcnac.step s (.off b)) Q
theorem sc_off_call : FnScope ["net", "number", "refusal"] ["net", "number"] D_off_call.scope := ⟨rfl, rfl, rfl, by decide +kernel, rfl, by decide +kernel, by decide +kernel⟩
-- level 5; slots 0:net 1:number 2:refusal; captured []
theorem ok_off_call (T : Txt K mg) (G_refusal_of : Does P w K mg base 1 "refusal_of" ["net", "numbers", "ranges", "bridges"] (sp_refusal_of K)) (G_turn_off : Does P w K mg base 4 "turn_off" ["net", "number"] (sp_turn_off K)) : Does P w K mg base 5 "off_call" ["net", "number"] (sp_off_call K) := by
  refine does_of T 34 (d := D_off_call) rfl rfl rfl rfl T.g_off_call sc_off_call (fun _ _ _ _ _ _ us hl => match us, hl with | [_, _], _ => rfl) (fun vs H Q E h => by obtain ⟨_, _, _, _, _, rfl, _⟩ := h; rfl) (fun cdv A outer s H vs Q E hr h => ⟨_, (pss_cons (ps_set (i := 2) sc_off_call.nd rfl (.inl rfl) (pe_f G_refusal_of (hr.mono (by decide)) (by rfl) (pa_cons (pv 0) (pa_cons (pe_tup (pa_cons (pv 1) pa_nil)) (pa_cons (pe_tup (pa_cons (pe_gr T.g_BRIDGE rfl) pa_nil)) (pa_cons (pe_tup (pa_cons (pv 1) pa_nil)) pa_nil))))))
      (pss_cons (ps_if (pt_cmpR op_ne (pv 2) pe_int (nomark _)) (pss_one (ps_ret (pe_lst (pa_cons (pv 2) pa_nil)))) pss_nil)
      (pss_cons (ps_if (pt_not (pt_val (pe_fld (pe_ix ix_list (pe_fld (pv 0) rfl) (pv 1) (fun _ _ => rfl)) rfl))) (pss_one (ps_ret (pe_lst (pa_cons (pe_gi T.i_IS_OFF rfl) pa_nil)))) pss_nil)
      (pss_cons (ps_expr (pe_f G_turn_off (hr.mono (by decide)) (by rfl) (pa_cons (pv 0) (pa_cons (pv 1) pa_nil))))
      (pss_cons (ps_fld (pv 0) pe_int rfl)
      (pss_one (ps_ret (pe_lst (pa_cons pe_int pa_nil))))))))), ?_⟩)
  obtain ⟨v, b, ow, as, s, rfl, S, A⟩ := h
  refine r_refusal (c := .off b) (ns := [b]) (rs := [(0, 31)]) (bs := [b]) 2 S A rfl ?_ rfl rfl rfl (by show 2 < 3; decide) (args_b T rfl) fun n H1 hv N e hbeg I z A1 => ?_
  · show Vbcnac.isB b = (inSpan b (0, 31) && true)
    rw [Bool.and_true]
    rfl
  · subst hv
    obtain ⟨hr, hb⟩ := ref3_zero z
    have hb1 : 0 ≤ b ∧ b ≤ 31 := hr (b, (0, 31)) (by simp)
    have hb2 := hb b (by simp)
    obtain ⟨b, rfl⟩ := nat_of hb1.1
    have hb3 : b < s.bridges.length := by omega
    obtain ⟨a, ea⟩ := N.addr hb3
    obtain ⟨dx, l, st, ws, kvs, B⟩ := N.br b a ea
    refine r_seq (r_if (r_not (r_tb (go (B.fon T (N.bridge T ea vv vv)) ⟨_, rfl, ?_⟩))))
    have ed : Vbcnac.does s (.off (b : Int)) = if Vbcnac.isOn s b = true then Vbcnac.done (Vbcnac.turnedOff s b) [0] else (s, [-9]) := rfl
    rw [isOn_at hb3] at ed
    cases q : (Vbcnac.bridgeAt s b).on with
    | false =>
      rw [q] at ed
      refine if_y (r_ret (r_lst (r_cons (r_c (r_nil ⟨by show 1 ≤ sizeLine; decide, ?_⟩)))))
      exact (A1.eq ed).ret (.inr ⟨n, rfl, N, hbeg, I⟩) (Frm.refl _ _) (Grow.refl _ _) rfl
    | true =>
      rw [q] at ed
      refine if_n (r_next (nx (r_seq (r_drop (c2 vv vv ⟨ow, as, n, s, b, rfl, N, hb3, w16_inv I, fun p x hx => ?_, fun H2 ow2 N2 f2 g2 => nx ?_⟩)))))
      · obtain ⟨_, _, h3, h4⟩ := I.peer (c := x.1) (q := x.2) hx
        exact ⟨h3, h4⟩
      refine r_seq (r_quiet T N2 fun H3 N3 f3 => nx (r_ret (r_lst (r_cons (r_c (r_nil ⟨by show 1 ≤ sizeLine; decide, ?_⟩))))))
      have hbg : (Vbcnac.turnedOff s b).begun = true := by
        unfold Vbcnac.turnedOff Vbcnac.touchAll
        exact (beg_fold _ _).trans hbeg
      exact (A1.eq ed).ret (ow' := ow2) (as' := as) (.inr ⟨n, rfl, N3, hbg, inv_quiet (inv_turnedOff I hb3) 0⟩) (f2.trans g2 f3) g2 rfl
def sp_on_call (K : PySem.W.Frag) : Sp := fun vs H Q _ => ∃ v b ow as s, vs = [v, .int b] ∧ SesAt K ow as H v s ∧ Ans K v ow H (Vbcnac.step s (.on_ b)) Q
theorem sc_on_call : FnScope ["net", "number", "refusal"] ["net", "number"] D_on_call.scope := ⟨rfl, rfl, rfl, by decide +kernel, rfl, by decide +kernel, by decide +kernel⟩
-- level 5; slots 0:net 1:number 2:refusal; captured []
theorem ok_on_call (T : Txt K mg) (G_refusal_of : Does P w K mg base 1 "refusal_of" ["net", "numbers", "ranges", "bridges"] (sp_refusal_of K)) (G_turn_on : Does P w K mg base 4 "turn_on" ["net", "number"] (sp_turn_on K)) : Does P w K mg base 5 "on_call" ["net", "number"] (sp_on_call K) := by
  refine does_of T 35 (d := D_on_call) rfl rfl rfl rfl T.g_on_call sc_on_call (fun _ _ _ _ _ _ us hl => match us, hl with | [_, _], _ => rfl) (fun vs H Q E h => by obtain ⟨_, _, _, _, _, rfl, _⟩ := h; rfl) (fun cdv A outer s H vs Q E hr h => ⟨_, (pss_cons (ps_set (i := 2) sc_on_call.nd rfl (.inl rfl) (pe_f G_refusal_of (hr.mono (by decide)) (by rfl) (pa_cons (pv 0) (pa_cons (pe_tup (pa_cons (pv 1) pa_nil)) (pa_cons (pe_tup (pa_cons (pe_gr T.g_BRIDGE rfl) pa_nil)) (pa_cons (pe_tup (pa_cons (pv 1) pa_nil)) pa_nil))))))
      (pss_cons (ps_if (pt_cmpR op_ne (pv 2) pe_int (nomark _)) (pss_one (ps_ret (pe_lst (pa_cons (pv 2) pa_nil)))) pss_nil)
      (pss_cons (ps_if (pt_val (pe_fld (pe_ix ix_list (pe_fld (pv 0) rfl) (pv 1) (fun _ _ => rfl)) rfl)) (pss_one (ps_ret (pe_lst (pa_cons (pe_gi T.i_IS_ON rfl) pa_nil)))) pss_nil)
      (pss_cons (ps_expr (pe_f G_turn_on (hr.mono (by decide)) (by rfl) (pa_cons (pv 0) (pa_cons (pv 1) pa_nil))))
      (pss_cons (ps_fld (pv 0) pe_int rfl)
      (pss_one (ps_ret (pe_lst (pa_cons pe_int pa_nil))))))))), ?_⟩)
  obtain ⟨v, b, ow, as, s, rfl, S, A⟩ := h
  refine r_refusal (c := .on_ b) (ns := [b]) (rs := [(0, 31)]) (bs := [b]) 2 S A rfl ?_ rfl rfl rfl (by show 2 < 3; decide) (args_b T rfl) fun n H1 hv N e hbeg I z A1 => ?_
  · show Vbcnac.isB b = (inSpan b (0, 31) && true)
    rw [Bool.and_true]
    rfl
  · subst hv
    obtain ⟨hr, hb⟩ := ref3_zero z
    have hb1 : 0 ≤ b ∧ b ≤ 31 := hr (b, (0, 31)) (by simp)
    have hb2 := hb b (by simp)
    obtain ⟨b, rfl⟩ := nat_of hb1.1
    have hb3 : b < s.bridges.length := by omega
    obtain ⟨a, ea⟩ := N.addr hb3
    obtain ⟨dx, l, st, ws, kvs, B⟩ := N.br b a ea
    refine r_seq (r_if (r_tb (go (B.fon T (N.bridge T ea vv vv)) ⟨_, rfl, ?_⟩)))
    have ed : Vbcnac.does s (.on_ (b : Int)) = if Vbcnac.isOn s b = true then (s, [-10]) else Vbcnac.done (Vbcnac.turnedOn s b) [0] := rfl
    cases q : (Vbcnac.bridgeAt s b).on with
    | true =>
      rw [isOn_at hb3, q] at ed
      refine if_y (r_ret (r_lst (r_cons (r_c (r_nil ⟨by show 1 ≤ sizeLine; decide, ?_⟩)))))
      exact (A1.eq ed).ret (.inr ⟨n, rfl, N, hbeg, I⟩) (Frm.refl _ _) (Grow.refl _ _) rfl
    | false =>
      have ho : Vbcnac.isOn s b = false := by rw [isOn_at hb3, q]
      rw [ho] at ed
      refine if_n (r_next (nx (r_seq (r_drop (c2 vv vv ⟨ow, as, n, s, b, rfl, N, hb3, w16_inv I, fun p x hx => ?_, fun H2 ow2 N2 f2 g2 => nx ?_⟩)))))
      · obtain ⟨_, _, h3, h4⟩ := I.peer (c := x.1) (q := x.2) hx
        exact ⟨h3, h4⟩
      refine r_seq (r_quiet T N2 fun H3 N3 f3 => nx (r_ret (r_lst (r_cons (r_c (r_nil ⟨by show 1 ≤ sizeLine; decide, ?_⟩))))))
      have hbg : (Vbcnac.turnedOn s b).begun = true := by
        unfold Vbcnac.turnedOn Vbcnac.touchAll
        exact (beg_fold _ _).trans hbeg
      exact (A1.eq ed).ret (ow' := ow2) (as' := as) (.inr ⟨n, rfl, N3, hbg, inv_quiet (inv_turnedOn I hb3 ho) 0⟩) (f2.trans g2 f3) g2 rfl
end
end Sw
namespace Sw
open PySem PySem.Spec PyProof.Rows L2
section
variable {P : Program} {w : World} {K : PySem.W.Frag} {mg : Str → Option Value} {base : Heap}
/-- not lo <= x <= hi -/
theorem r_span {σ : L2.St} {H : Hp} {ta tb tc : TE} {lo x hi : Int} {QB : Bool → Hp → Prop} (ha : Val ta σ H (.int lo)) (hb : Val tb σ H (.int x)) (hc : Val tc σ H (.int hi)) (q : QB (!(decide (lo ≤ x) && decide (x ≤ hi))) H) : tNot (tTest (tChain (rI0 fun i j => .bl (decide (i ≤ j))) (rI0 fun i j => .bl (decide (i ≤ j))) ta tb tc)) σ H QB := by
  refine r_not (r_test (r_chain (go ha (go hb ⟨_, _, rfl, rfl, _, rfl, ?_⟩))))
  cases h : decide (lo ≤ x) with
  | false =>
    rw [h] at q
    exact if_n ⟨_, rfl, q⟩
  | true =>
    rw [h] at q
    exact if_y (go hc ⟨_, _, rfl, rfl, _, rfl, q⟩)
theorem v_add {σ : L2.St} {H : Hp} {ta tb : TE} {x y : Int} (ha : Val ta σ H (.int x)) (hb : Val tb σ H (.int y)) : Val (tOp (rI0 fun i j => .int (i + j)) ta tb) σ H (.int (x + y)) := fun Q q => ha _ (hb _ ⟨x, y, rfl, rfl, q⟩)
/-- the session's object -/
def SesO (K : PySem.W.Frag) (H : Hp) (se dx : Addr) (v : V) : Prop := H se = some (.ins (He.ga K "Session") dx [("net", v)])
def AnsS (K : PySem.W.Frag) (se dx : Addr) (ow : Addr → Nat) (H : Hp) (x : Vbcnac.State × List Int) (Q : VK) : Prop := ∀ H' ow' as' v' p, SesO K H' se dx v' → ow' se = 0 → SesAt K ow' as' H' v' x.1 → (∀ b o, H b = some o → ow b = 0 → b ≠ se → H' b = some o) → Grow H ow ow' → p ≠ se → (∀ o, H p = some o → ow p ≠ 0) → ow' p = 0 → H' p = some (.lst (x.2.map V.int)) → Q (.ref p) H'
theorem step_begin {s : Vbcnac.State} {a w k r : Int} : Vbcnac.step s (.begin_ a w k r) = if (Vbcnac.within a 32 100 && Vbcnac.within w (a + 1) 200 && Vbcnac.within k 1 1000000000 && Vbcnac.within r 0 1024) = true then ({ begun := true, age := a.toNat, wait := w.toNat, keep := k.toNat, room := r.toNat }, [0]) else (s, [-2]) := by
  unfold Vbcnac.step
  rw [if_neg (by simp [Vbcnac.isBegin])]
  cases h : Vbcnac.inRange (.begin_ a w k r) with
  | false =>
    have h2 : (Vbcnac.within a 32 100 && Vbcnac.within w (a + 1) 200 && Vbcnac.within k 1 1000000000 && Vbcnac.within r 0 1024) = false := h
    rw [if_pos rfl, h2]
    rfl
  | true =>
    have h2 : (Vbcnac.within a 32 100 && Vbcnac.within w (a + 1) 200 && Vbcnac.within k 1 1000000000 && Vbcnac.within r 0 1024) = true := h
    rw [if_neg (by decide), h2]
    rfl
def ow0 (n bl : Addr) : Addr → Nat := fun b => if b = n then 1 else if b = bl then 2 else 0
theorem NetAt.begin {H : Hp} {n dx bl : Addr} {s : Vbcnac.State} (h1 : H n = some (.ins (He.ga K "Net") dx (nF s bl))) (h2 : H bl = some (.lst [])) (hs : s.bridges = []) : NetAt K (ow0 n bl) [] H n s := by
  have nb : bl ≠ n := ne_of h2 h1 (by intro z; cases z)
  refine ⟨⟨dx, bl, h1, h2, if_pos rfl, by unfold ow0; rw [if_neg nb, if_pos rfl]⟩, by rw [hs]; rfl, fun i a e => ?_, fun b hb => ?_⟩
  · rw [List.getElem?_nil] at e
    cases e
  · unfold ow0 at hb
    by_cases y : b = n
    · rw [y, h1]
      exact ⟨_, rfl, rfl⟩
    · by_cases y2 : b = bl
      · rw [y2, h2]
        exact ⟨_, rfl, rfl⟩
      · rw [if_neg y, if_neg y2] at hb
        exact absurd rfl hb
theorem ow0_ne {n bl b : Addr} (h1 : b ≠ n) (h2 : b ≠ bl) : ow0 n bl b = 0 := by
  unfold ow0
  rw [if_neg h1, if_neg h2]
theorem ow0_pos {n bl b : Addr} (h : ow0 n bl b ≠ 0) : b = n ∨ b = bl := by
  by_cases h1 : b = n
  · exact .inl h1
  · by_cases h2 : b = bl
    · exact .inr h2
    · exact absurd (ow0_ne h1 h2) h
def sp_begin (K : PySem.W.Frag) : Sp := fun vs H Q _ => ∃ se dx v a w k r ow as s, vs = [.ref se, .int a, .int w, .int k, .int r] ∧ SesO K H se dx v ∧ ow se = 0 ∧ SesAt K ow as H v s ∧ AnsS K se dx ow H (Vbcnac.step s (.begin_ a w k r)) Q
theorem sc_begin : FnScope ["session", "age", "wait", "keep", "room"] ["session", "age", "wait", "keep", "room"] D_begin.scope := ⟨rfl, rfl, rfl, by decide +kernel, rfl, by decide +kernel, by decide +kernel⟩
-- level 3; slots 0:session 1:age 2:wait 3:keep 4:room; captured []
theorem ok_begin (T : Txt K mg) (G_Net : DoesC P w K mg base 1 "Net" ["self", "age", "wait", "keep", "room"] (sp_Net K)) : Does P w K mg base 3 "begin" ["session", "age", "wait", "keep", "room"] (sp_begin K) := by
  refine does_of T 30 (d := D_begin) rfl rfl rfl rfl T.g_begin sc_begin (fun _ _ _ _ _ _ us hl => match us, hl with | [_, _, _, _, _], _ => rfl) (fun vs H Q E h => by obtain ⟨_, _, _, _, _, _, _, _, _, _, rfl, _⟩ := h; rfl) (fun cdv A outer s H vs Q E hr h => ⟨_, (pss_cons (ps_if (PW.pt (pw_or (pt_not (pt_chain op_le op_le pe_int (pv 1) pe_int)) (pw_or1 (pt_not (pt_chain op_le op_le (pe_op op_add (pv 1) pe_int) (pv 2) pe_int))))) (pss_one (ps_ret (pe_lst (pa_cons (pe_gi T.i_OUT_OF_RANGE rfl) pa_nil)))) pss_nil)
      (pss_cons (ps_if (PW.pt (pw_or (pt_not (pt_chain op_le op_le pe_int (pv 3) pe_int)) (pw_or1 (pt_not (pt_chain op_le op_le pe_int (pv 4) pe_int))))) (pss_one (ps_ret (pe_lst (pa_cons (pe_gi T.i_OUT_OF_RANGE rfl) pa_nil)))) pss_nil)
      (pss_cons (ps_fld (pv 0) (pe_c T.m_Net T.g_Net G_Net.ex (hr.mono (by decide)) (by rfl) (pa_cons (pv 1) (pa_cons (pv 2) (pa_cons (pv 3) (pa_cons (pv 4) pa_nil))))) rfl)
      (pss_one (ps_ret (pe_lst (pa_cons pe_int pa_nil))))))), ?_⟩)
  obtain ⟨se, dx, v, a, w, k, r, ow, as, s, rfl, hse, ose, S, A⟩ := h
  rw [step_begin] at A
  have refuse : (Vbcnac.within a 32 100 && Vbcnac.within w (a + 1) 200 && Vbcnac.within k 1 1000000000 && Vbcnac.within r 0 1024) = false → ∀ D : Ends, D.rt = Q → ∀ σ, tRet (tLst (tCons (tC (.int (-2))) tNil)) D σ H := fun h D hD σ => by
    rw [h] at A
    refine r_ret (r_lst (r_cons (r_c (r_nil ⟨by show 1 ≤ sizeLine; decide, fun p hp => ?_⟩))))
    rw [hD]
    refine A _ ow as v p ?_ ose (S.same (same_new hp)) (fun b o h _ _ => same_new hp b o h) (Grow.refl _ _) ?_ ?_ (S.new hp) upd_same
    · show (upd H p _) se = _
      rw [upd_ne (ne_of_none hse hp)]
      exact hse
    · exact (ne_of_none hse hp).symm
    · intro o ho
      rw [hp] at ho
      cases ho
  refine r_seq (r_if (r_or (r_span val_c vv val_c ?_)))
  cases q1 : decide (32 ≤ a) && decide (a ≤ 100) with
  | false => exact if_y (if_y (refuse (by unfold Vbcnac.within; rw [q1]; rfl) _ rfl _))
  | true =>
  refine if_n (r_span (v_add vv val_c) vv val_c ?_)
  cases q2 : decide (a + 1 ≤ w) && decide (w ≤ 200) with
  | false => exact if_y (refuse (by unfold Vbcnac.within; rw [q1, q2]; rfl) _ rfl _)
  | true =>
  refine if_n (r_next (nx (r_seq (r_if (r_or (r_span val_c vv val_c ?_))))))
  cases q3 : decide (1 ≤ k) && decide (k ≤ 1000000000) with
  | false => exact if_y (if_y (refuse (by unfold Vbcnac.within; rw [q1, q2, q3]; rfl) _ rfl _))
  | true =>
  refine if_n (r_span val_c vv val_c ?_)
  cases q4 : decide (0 ≤ r) && decide (r ≤ 1024) with
  | false => exact if_y (refuse (by unfold Vbcnac.within; rw [q1, q2, q3, q4]; rfl) _ rfl _)
  | true =>
  rw [show (Vbcnac.within a 32 100 && Vbcnac.within w (a + 1) 200 && Vbcnac.within k 1 1000000000 && Vbcnac.within r 0 1024) = true by unfold Vbcnac.within; rw [q1, q2, q3, q4]; rfl, if_pos rfl] at A
  simp only [Bool.and_eq_true, decide_eq_true_eq] at q1 q2 q3 q4
  obtain ⟨a, rfl⟩ := nat_of (show (0 : Int) ≤ a by omega)
  obtain ⟨w, rfl⟩ := nat_of (show (0 : Int) ≤ w by omega)
  obtain ⟨k, rfl⟩ := nat_of (show (0 : Int) ≤ k by omega)
  obtain ⟨r, rfl⟩ := nat_of q4.1
  refine if_n (r_next (nx (r_seq ?_)))
  refine r_make (r_cons (go vv (r_cons (go vv (r_cons (go vv (r_cons (go vv (r_nil fun n dn hn hdn hne => ?_)))))))))
  have e0 : Same H (upd (upd H dn (.own n)) n (.ins (He.ga K "Net") dn [])) := fun b o h => by
    rw [upd_ne (ne_of_none h hn), upd_ne (ne_of_none h hdn)]
    exact h
  refine ⟨n, dn, a, w, k, r, rfl, upd_same, fun H1 bl g1 g2 g3 g4 => ⟨rfl, ?_⟩⟩
  have e1 : Same H H1 := fun b o h => g4 b o (e0 _ _ h) (ne_of_none h hn)
  have nse : se ≠ n := ne_of_none hse hn
  have bse : se ≠ bl := ne_of_none (e0 _ _ hse) g2
  have hbn : H bl = none := e0.free g2
  have hse1 : SesO K H1 se dx v := e1 _ _ hse
  refine ⟨_, rfl, se, _, dx, _, rfl, hse1, T.c_Session, T.n_Session_net, by show 1 < 1000; decide, nx ?_⟩
  have N : NetAt K (ow0 n bl) [] H1 n (newNet a w k r) := NetAt.begin g1 g3 rfl
  have N2 : NetAt K (ow0 n bl) [] (upd H1 se (.ins (He.ga K "Session") dx [("net", .ref n)])) n (newNet a w k r) := N.keep fun b o q z => by
    rw [upd_ne]
    · exact q
    · intro y
      rw [y, show H1 se = _ from hse1] at q
      cases q
      rcases z with z | z
      · rw [y] at z
        exact z (ow0_ne nse bse)
      · cases z
  refine r_ret (r_lst (r_cons (r_c (r_nil ⟨by show 1 ≤ sizeLine; decide, fun p hp => ?_⟩))))
  have hp1 : p ≠ se := fun y => by
    rw [y, upd_same] at hp
    cases hp
  have hp2 : H1 p = none := by
    rw [upd_ne hp1] at hp
    exact hp
  have hp3 : H p = none := e1.free hp2
  refine A _ (ow0 n bl) [] (.ref n) p ?_ (ow0_ne nse bse) (.inr ⟨n, rfl, N2.same (same_new hp), rfl, inv_begin (by omega) (by omega) (by omega) (by omega) (by omega) (by omega) (by omega)⟩) (fun b o h _ hb => ?_) (fun b hb => ?_) hp1 (fun o ho => ?_) ?_ upd_same
  · show (upd _ p _) se = _
    rw [upd_ne hp1.symm]
    exact upd_same
  · refine same_new hp _ _ ?_
    rw [upd_ne hb]
    exact e1 _ _ h
  · rcases ow0_pos hb with y | y
    · rw [y]
      exact .inr hn
    · rw [y]
      exact .inr hbn
  · rw [hp3] at ho
    cases ho
  · exact (N2.new hp)
end
end Sw
namespace Sw
open PySem PySem.Spec PyProof.Rows L2
/-! ### comprehensions without changes -/
section
variable {J : It} {n : Nat} {G : Hp → Prop} {Y : Nat → Hp → V → Hp → Prop}
theorem lc_pure (w : Walk J n G Y) {g : TG} {tt : TT} {te : TE} {vs : List Nat} {σ : L2.St} {H : Hp} {D : Addr} {Qd : Hp → Prop} (f : Nat → Option V) (hD : H D = none) (hn : n ≤ sizeLine) (hG : ∀ H', Same H H' → G H')
    (hs : ∀ i x H1 H2, i < n → Same H H1 → Y i H1 x H2 → Same H1 H2 ∧ ∀ (N : V → Hp → Prop) (M : Hp → Prop), (∀ y H5, Same H2 H5 → f i = some y → N y H5) → (∀ H4, Same H2 H4 → f i = none → M H4) →
      g x (wipe σ vs) H2 fun σ2 H3 => wipe σ2 vs = wipe σ vs ∧ tt σ2 H3 fun b H4 => if b = true then te σ2 H4 N else M H4)
    (hd : ∀ H', Same H H' → H' D = some (.lst ((List.range n).filterMap f)) → Qd H') :
    ∃ W : Nat → Nat → Hp → Prop, (∃ m, W 0 m (upd H D (.lst []))) ∧ ∀ i m H, W i m H →
      (J.stop i H ∧ Qd H) ∨ (J.go i H ∧ ∃ Nx : Hp → Prop, (∀ H', Nx H' → ∃ m', m' < m ∧ W (i + 1) m' H') ∧ ∀ x H', J.yld i H x H' → g x (wipe σ vs) H' fun σ2 H2 => wipe σ2 vs = wipe σ vs ∧ tt σ2 H2 fun b H3 =>
        if b = true then te σ2 H3 fun y H4 => ∃ acc, H4 D = some (.lst acc) ∧ acc.length < sizeLine ∧ Nx (upd H4 D (.lst (acc ++ [y]))) else Nx H3) := by
  refine lc_it w (fun i H' => Same H H' ∧ H' D = some (.lst ((List.range i).filterMap f))) ⟨same_new hD, upd_same⟩ (fun i H' _ h => hG H' h.1) (fun i x H1 H2 hi h y => ?_) fun H' h => hd H' h.1 h.2
  obtain ⟨e1, k⟩ := hs i x H1 H2 hi h.1 y
  refine k _ _ (fun v H5 e2 hf => ⟨_, e2 _ _ (e1 _ _ h.2), ?_, fun b o q => ?_, ?_⟩) fun H4 e2 hf => ⟨h.1.trans (e1.trans e2), ?_⟩
  · have := List.length_filterMap_le f (List.range i)
    rw [List.length_range] at this
    omega
  · rw [upd_ne (ne_of_none q hD)]
    exact e2 _ _ (e1 _ _ (h.1 _ _ q))
  · rw [upd_same, List.range_succ, List.filterMap_append, List.filterMap_cons, hf]
    rfl
  · rw [e2 _ _ (e1 _ _ h.2), List.range_succ, List.filterMap_append, List.filterMap_cons, hf, List.filterMap_nil, List.append_nil]
end
section
variable {K : PySem.W.Frag} {σ : L2.St} {H : Hp} {Q : VK} {j : Nat} {te : TE} {tt : TT}
/-- [e for x in xs if t] over a list; j the name -/
theorem r_lcL {ti : TE} {a : Addr} {xs : List V} (f : Nat → Option V) (hi : Val ti σ H (.ref a)) (hl : H a = some (.lst xs)) (hn : xs.length ≤ sizeLine)
    (hs : ∀ i x H1, xs[i]? = some x → Same H H1 → ∀ (N : V → Hp → Prop) (M : Hp → Prop), (∀ y H5, Same H1 H5 → f i = some y → N y H5) → (∀ H4, Same H1 H4 → f i = none → M H4) →
      wipe ((wipe σ [j]).set j (some x)) [j] = wipe σ [j] ∧ tt ((wipe σ [j]).set j (some x)) H1 fun b H4 => if b = true then te ((wipe σ [j]).set j (some x)) H4 N else M H4)
    (hd : ∀ D H', H D = none → Same H H' → H' D = some (.lst ((List.range xs.length).filterMap f)) → Q (.ref D) H') : tLc (iList K ti) (gName j) tt te [j] σ H Q := by
  refine hi _ ⟨a, rfl, ⟨xs, SqL.of hl⟩, fun D hD => lc_pure walk_list f hD hn (fun H' e => SqL.of (e _ _ hl)) (fun i x H1 H2 hi e y => ?_) fun H' e h => hd D H' hD e h⟩
  obtain ⟨rfl, y⟩ := y
  exact ⟨Same.refl _, fun N M h1 h2 => hs i x H2 y e N M h1 h2⟩
/-- [e for x in range(16) if t] -/
theorem r_lcR (f : Nat → Option V)
    (hs : ∀ i H1, i < 16 → Same H H1 → ∀ (N : V → Hp → Prop) (M : Hp → Prop), (∀ y H5, Same H1 H5 → f i = some y → N y H5) → (∀ H4, Same H1 H4 → f i = none → M H4) →
      wipe ((wipe σ [j]).set j (some (.int (i : Nat)))) [j] = wipe σ [j] ∧ tt ((wipe σ [j]).set j (some (.int (i : Nat)))) H1 fun b H4 => if b = true then te ((wipe σ [j]).set j (some (.int (i : Nat)))) H4 N else M H4)
    (hd : ∀ D H', H D = none → Same H H' → H' D = some (.lst ((List.range 16).filterMap f)) → Q (.ref D) H') : tLc (iRng1 (tCons (tC (.int 16)) tNil)) (gName j) tt te [j] σ H Q := by
  refine ⟨16, rfl, by decide, by decide, fun D hD => lc_pure (walk_range (lo := 0) (n := 16)) f hD (by decide) (fun _ _ => trivial) (fun i x H1 H2 hi e y => ?_) fun H' e h => hd D H' hD e h⟩
  obtain ⟨rfl, rfl⟩ := y
  have e0 : (fun i : Nat => V.int (0 + (i : Int))) i = .int (i : Nat) := by
    show V.int (0 + (i : Int)) = _
    rw [Int.zero_add]
  rw [e0]
  exact ⟨Same.refl _, fun N M h1 h2 => hs i _ hi e N M h1 h2⟩
end
/-! ### one bridge more -/
def owB (ow : Addr → Nat) (i : Nat) (a st : Addr) (l : Nat → Addr) : Addr → Nat := fun b => if b = a then 16 * i + 16 else if b = st then 16 * i + 24 else if b = l 0 then 16 * i + 17 else if b = l 1 then 16 * i + 18 else if b = l 2 then 16 * i + 19 else if b = l 3 then 16 * i + 20 else if b = l 4 then 16 * i + 21 else if b = l 5 then 16 * i + 22 else if b = l 6 then 16 * i + 23 else ow b
section
variable {K : PySem.W.Frag} {ow : Addr → Nat} {as : List Addr} {H H1 : Hp} {n a st : Addr} {l : Nat → Addr} {s : Vbcnac.State} {i r m : Nat} {dx : Addr}
theorem owB_old {b : Addr} (h1 : b ≠ a) (h2 : b ≠ st) (h3 : ∀ k, k < 7 → b ≠ l k) : owB ow i a st l b = ow b := by
  unfold owB
  rw [if_neg h1, if_neg h2, if_neg (h3 0 (by decide)), if_neg (h3 1 (by decide)), if_neg (h3 2 (by decide)), if_neg (h3 3 (by decide)), if_neg (h3 4 (by decide)), if_neg (h3 5 (by decide)), if_neg (h3 6 (by decide))]
theorem owB_lst (ha : ∀ k, k < 7 → l k ≠ a) (hs : ∀ k, k < 7 → l k ≠ st) (hl : ∀ j k, j < 7 → k < 7 → j ≠ k → l j ≠ l k) : ∀ k, k < 7 → owB ow i a st l (l k) = 16 * i + 17 + k := fun k hk => by
  unfold owB
  rw [if_neg (ha k hk), if_neg (hs k hk)]
  match k, hk with
  | 0, _ => rw [if_pos rfl]
  | 1, h => rw [if_neg (hl 1 0 h (by decide) (by decide)), if_pos rfl]
  | 2, h => rw [if_neg (hl 2 0 h (by decide) (by decide)), if_neg (hl 2 1 h (by decide) (by decide)), if_pos rfl]
  | 3, h => rw [if_neg (hl 3 0 h (by decide) (by decide)), if_neg (hl 3 1 h (by decide) (by decide)), if_neg (hl 3 2 h (by decide) (by decide)), if_pos rfl]
  | 4, h => rw [if_neg (hl 4 0 h (by decide) (by decide)), if_neg (hl 4 1 h (by decide) (by decide)), if_neg (hl 4 2 h (by decide) (by decide)), if_neg (hl 4 3 h (by decide) (by decide)), if_pos rfl]
  | 5, h => rw [if_neg (hl 5 0 h (by decide) (by decide)), if_neg (hl 5 1 h (by decide) (by decide)), if_neg (hl 5 2 h (by decide) (by decide)), if_neg (hl 5 3 h (by decide) (by decide)), if_neg (hl 5 4 h (by decide) (by decide)), if_pos rfl]
  | 6, h => rw [if_neg (hl 6 0 h (by decide) (by decide)), if_neg (hl 6 1 h (by decide) (by decide)), if_neg (hl 6 2 h (by decide) (by decide)), if_neg (hl 6 3 h (by decide) (by decide)), if_neg (hl 6 4 h (by decide) (by decide)), if_neg (hl 6 5 h (by decide) (by decide)), if_pos rfl]
theorem new_pv {H : Hp} {k p : Nat} {v : V} (hk : k < 7) (h : (List.replicate 16 (newV k))[p]? = some v) : PV H k v (({ rank := r, number := m } : Vbcnac.Bridge).ports.getD p {}) := by
  have e : ({ rank := r, number := m } : Vbcnac.Bridge).ports.getD p {} = ({} : Vbcnac.Port) := by
    show (List.replicate 16 ({} : Vbcnac.Port)).getD p {} = {}
    rw [List.getD_eq_getElem?_getD, List.getElem?_replicate]
    split <;> rfl
  rw [e]
  have e2 : v = newV k := by
    rw [List.getElem?_replicate] at h
    split at h
    · exact (Option.some.inj h).symm
    · cases h
  rw [e2]
  match k, hk with
  | 0, _ => rfl
  | 1, _ => rfl
  | 2, _ => rfl
  | 3, _ => rfl
  | 4, _ => exact ⟨0, rfl, fun h e => by cases e⟩
  | 5, _ => rfl
  | 6, _ => rfl
theorem NetAt.add (N : NetAt K ow as H n s) (e : Same H H1) (ha : H a = none) (hst : H st = none) (hl0 : ∀ k, k < 7 → H (l k) = none) (h1 : H1 a = some (.ins (He.ga K "Bridge") dx (bF { rank := r, number := m } l st))) (h2 : H1 st = some (.dK []))
    (h3 : ∀ k, k < 7 → H1 (l k) = some (.lst (List.replicate 16 (newV k)))) (hl : ∀ j k, j < 7 → k < 7 → j ≠ k → l j ≠ l k) {bl : Addr} {dn : Addr} (hn : H n = some (.ins (He.ga K "Net") dn (nF s bl))) :
    NetAt K (owB ow as.length a st l) (as ++ [a]) (upd H1 bl (.lst ((as ++ [a]).map V.ref))) n (withBridge s r m) ∧ Frm ow H (upd H1 bl (.lst ((as ++ [a]).map V.ref))) ∧ Grow H ow (owB ow as.length a st l) := by
  obtain ⟨dx', bl', k1, k2, k3, k4⟩ := N.ex
  have eb : bl' = bl := by
    rw [hn] at k1
    injection k1 with k1
    injection k1 with _ _ e2
    have e3 := congrArg (fun l => l.getD 4 (("" : Str), V.non)) e2
    have e4 : (("bridges" : Str), V.ref bl) = (("bridges" : Str), V.ref bl') := e3
    exact (V.ref.inj (Prod.mk.inj e4).2).symm
  subst eb
  have la : ∀ k, k < 7 → l k ≠ a := fun k hk => ne_of (h3 k hk) h1 (by intro z; cases z)
  have ls : ∀ k, k < 7 → l k ≠ st := fun k hk => ne_of (h3 k hk) h2 (by intro z; cases z)
  have sa : st ≠ a := ne_of h2 h1 (by intro z; cases z)
  have old : ∀ b o, H b = some o → owB ow as.length a st l b = ow b := fun b o q => owB_old (ne_of_none q ha) (ne_of_none q hst) fun k hk => ne_of_none q (hl0 k hk)
  have oldw : ∀ b, ow b ≠ 0 → owB ow as.length a st l b = ow b := fun b q => by
    obtain ⟨o, q1, _⟩ := N.fp b q
    exact old b o q1
  have nbl : ∀ b, b ≠ bl' → ∀ o, H1 b = some o → (upd H1 bl' (.lst ((as ++ [a]).map V.ref))) b = some o := fun b q o h => by
    rw [upd_ne q]
    exact h
  have abl : a ≠ bl' := (ne_of_none k2 ha).symm
  have sbl : st ≠ bl' := (ne_of_none k2 hst).symm
  have lbl : ∀ k, k < 7 → l k ≠ bl' := fun k hk => (ne_of_none k2 (hl0 k hk)).symm
  refine ⟨⟨⟨dx', bl', nbl _ (ne_of k1 k2 (by intro z; cases z)) _ (e _ _ k1), upd_same, by rw [old _ _ k1]; exact k3, by rw [old _ _ k2]; exact k4⟩, ?_, fun j c hj => ?_, fun b hb => ?_⟩, fun b o q z => ?_, fun b hb => ?_⟩
  · show (as ++ [a]).length = (s.bridges ++ [_]).length
    rw [List.length_append, List.length_append, N.len]
    rfl
  · rw [bridgeAt_with]
    by_cases hlt : j < as.length
    · rw [List.getElem?_append_left hlt] at hj
      rw [if_neg (by rw [← N.len]; omega)]
      obtain ⟨dx2, l2, st2, vs, kvs, B⟩ := N.br j c hj
      refine ⟨dx2, l2, st2, vs, kvs, B.keep (fun b o q z => ?_) fun b z => oldw b (by omega)⟩
      refine nbl b ?_ o (e _ _ q)
      intro y
      rw [y] at q z
      rcases z with z | z
      · rw [k4] at z
        omega
      · rw [k2] at q
        cases q
        cases z
    · rw [List.getElem?_append_right (by omega)] at hj
      have hj0 : j - as.length = 0 := by
        apply Decidable.byContradiction
        intro y
        rw [List.getElem?_eq_none (by simp; omega)] at hj
        cases hj
      rw [hj0] at hj
      cases hj
      have hje : j = as.length := by omega
      rw [if_pos (by rw [← N.len]; exact hje), hje]
      refine ⟨dx, l, st, fun k => List.replicate 16 (newV k), [], nbl _ abl _ h1, if_pos rfl, fun k hk => nbl _ (lbl k hk) _ (h3 k hk), owB_lst la ls hl, fun k hk => by rw [List.length_replicate]; rfl, fun k hk p v h => new_pv hk h, nbl _ sbl _ h2, ?_, ⟨[], List.Perm.nil, .nil⟩⟩
      unfold owB
      rw [if_neg sa, if_pos rfl]
  · by_cases q : ow b = 0
    · by_cases y1 : b = a
      · rw [y1]
        exact ⟨_, nbl _ abl _ h1, rfl⟩
      by_cases y2 : b = st
      · rw [y2]
        exact ⟨_, nbl _ sbl _ h2, rfl⟩
      by_cases y3 : ∃ k, k < 7 ∧ b = l k
      · obtain ⟨k, hk, y3⟩ := y3
        rw [y3]
        exact ⟨_, nbl _ (lbl k hk) _ (h3 k hk), rfl⟩
      · rw [owB_old y1 y2 fun k hk z => y3 ⟨k, hk, z⟩] at hb
        exact absurd q hb
    · obtain ⟨o, q1, q2⟩ := N.fp b q
      by_cases y : b = bl'
      · rw [y]
        exact ⟨_, upd_same, rfl⟩
      · exact ⟨o, nbl b y o (e _ _ q1), q2⟩
  · refine nbl b ?_ o (e _ _ q)
    intro y
    rw [y, k4] at z
    cases z
  · by_cases y1 : b = a
    · exact .inr (y1 ▸ ha)
    by_cases y2 : b = st
    · exact .inr (y2 ▸ hst)
    by_cases y3 : ∃ k, k < 7 ∧ b = l k
    · obtain ⟨k, hk, y3⟩ := y3
      exact .inr (y3 ▸ hl0 k hk)
    · rw [owB_old y1 y2 fun k hk z => y3 ⟨k, hk, z⟩] at hb
      exact .inl hb
end
section
variable {P : Program} {w : World} {K : PySem.W.Frag} {mg : Str → Option Value} {base : Heap}
def sp_add_bridge (K : PySem.W.Frag) : Sp := fun vs H Q _ => ∃ v r m ow as s, vs = [v, .int r, .int m] ∧ SesAt K ow as H v s ∧ Ans K v ow H (Vbcnac.step s (.bridge r m)) Q
theorem sc_add_bridge : FnScope ["net", "rank", "number", "refusal", "bridge"] ["net", "rank", "number"] D_add_bridge.scope := ⟨rfl, rfl, rfl, by decide +kernel, rfl, by decide +kernel, by decide +kernel⟩
-- level 3; slots 0:net 1:rank 2:number 3:refusal 4:bridge; captured ['number']
theorem ok_add_bridge (T : Txt K mg) (G_refusal_of : Does P w K mg base 1 "refusal_of" ["net", "numbers", "ranges", "bridges"] (sp_refusal_of K)) (G_Bridge : DoesC P w K mg base 1 "Bridge" ["self", "rank", "number"] (sp_Bridge K)) : Does P w K mg base 3 "add_bridge" ["net", "rank", "number"] (sp_add_bridge K) := by
  refine does_of T 31 (d := D_add_bridge) rfl rfl rfl rfl T.g_add_bridge sc_add_bridge (fun _ _ _ _ _ _ us hl => match us, hl with | [_, _, _], _ => rfl) (fun vs H Q E h => by obtain ⟨_, _, _, _, _, _, rfl, _⟩ := h; rfl) (fun cdv A outer s H vs Q E hr h => ⟨_, (pss_cons (ps_set (i := 3) sc_add_bridge.nd rfl (.inl rfl) (pe_f G_refusal_of (hr.mono (by decide)) (by rfl) (pa_cons (pv 0) (pa_cons (pe_tup (pa_cons (pv 1) (pa_cons (pv 2) pa_nil))) (pa_cons (pe_tup (pa_cons (pe_gr T.g_RANK rfl) (pa_cons (pe_gr T.g_BRIDGE_NUMBER rfl) pa_nil))) (pa_cons (pe_tup pa_nil) pa_nil))))))
      (pss_cons (ps_if (pt_cmpR op_ne (pv 3) pe_int (nomark _)) (pss_one (ps_ret (pe_lst (pa_cons (pv 3) pa_nil)))) pss_nil)
      (pss_cons (ps_if (pt_cmpR op_ge (pe_callB call_len_seq (by rfl) T.f_len PySem.boot_len (pa_cons (pe_fld (pv 0) rfl) pa_nil)) (pe_gi T.i_MOST_BRIDGES rfl) (nomark _)) (pss_one (ps_ret (pe_lst (pa_cons (pe_gi T.i_TOO_MANY rfl) pa_nil)))) pss_nil)
      (pss_cons (ps_if (pt_val (pe_callB (cr_any rfl) (by rfl) T.f_any (by decide +kernel) (pa_cons (pe_lc (own := [("bridge", 4)]) (tt := tYes) (g := gName 4) rfl sc_add_bridge.nd (pi_list (pe_fld (pv 0) rfl)) (blkOk_by (own := [("bridge", 4)]) (N := ["net", "rank", "number", "refusal", "bridge"]) (sc := D_add_bridge.scope) (by decide +kernel)) (fun _ _ _ _ _ => (pg_name (i := 4) sc_add_bridge.nd rfl (.inl rfl))) (fun _ _ _ _ _ => pts_nil) (fun _ _ _ _ _ => (pe_cmpR op_eq (pe_fldK (K := K) rfl (pv 4) rfl) (pv 2) (nomark _)))) pa_nil))) (pss_one (ps_ret (pe_lst (pa_cons (pe_gi T.i_NUMBER_BORNE rfl) pa_nil)))) pss_nil)
      (pss_cons (ps_expr (pe_bm PySem.F.plainAttrs_list PySem.F.slot_list_append PySem.F.type_list_append mt_append (pe_fld (pv 0) rfl) (pa_cons (pe_c T.m_Bridge T.g_Bridge G_Bridge.ex (hr.mono (by decide)) (by rfl) (pa_cons (pv 1) (pa_cons (pv 2) pa_nil))) pa_nil)))
      (pss_cons (ps_fld (pv 0) pe_int rfl)
      (pss_one (ps_ret (pe_lst (pa_cons (pe_op op_sub (pe_callB call_len_seq (by rfl) T.f_len PySem.boot_len (pa_cons (pe_fld (pv 0) rfl) pa_nil)) pe_int) pa_nil)))))))))), ?_⟩)
  obtain ⟨v, r, m, ow, as, s, rfl, S, A⟩ := h
  refine r_refusal (c := .bridge r m) (ns := [r, m]) (rs := [(0, 65535), (0, 281474976710655)]) (bs := []) 3 S A rfl ?_ rfl rfl rfl (by show 3 < 5; decide) (fun QA k => ?_) fun n H1 hv N e hbeg I z A1 => ?_
  · show (Vbcnac.within r 0 65535 && Vbcnac.within m 0 (2 ^ 48 - 1)) = (inSpan r (0, 65535) && (inSpan m (0, 281474976710655) && true))
    rw [Bool.and_true]
    rfl
  · refine r_cons (r_tup (r_cons (go vv (r_cons (go vv (r_nil ⟨by show 2 ≤ sizeLine; decide, fun t1 n1 => ?_⟩))))))
    have e1 := same_new (o := .tup [.int r, .int m]) n1
    refine r_cons (r_tup (r_cons (r_c (r_cons (r_c (r_nil ⟨by show 2 ≤ sizeLine; decide, fun t2 n2 => ?_⟩))))))
    have e2 := same_new (o := .tup [.ref (He.ga K "RANK"), .ref (He.ga K "BRIDGE_NUMBER")]) n2
    refine r_cons (r_tup (r_nil ⟨by show 0 ≤ sizeLine; decide, fun t3 n3 => r_nil ?_⟩))
    have e3 := same_new (o := .tup []) n3
    exact k t1 t2 t3 _ _ (e1.trans (e2.trans e3)) (SqT.of (e3 _ _ (e2 _ _ upd_same))) (SqT.of (e3 _ _ upd_same)) (.cons ⟨_, rfl, fun H => T.t_RANK H⟩ (.cons ⟨_, rfl, fun H => T.t_BRIDGE_NUMBER H⟩ .nil)) (SqT.of upd_same)
  · subst hv
    obtain ⟨hr, _⟩ := ref3_zero z
    have hr1 : 0 ≤ r ∧ r ≤ 65535 := hr (r, (0, 65535)) (by simp)
    have hm1 : 0 ≤ m ∧ m ≤ 281474976710655 := hr (m, (0, 281474976710655)) (by simp)
    obtain ⟨r, rfl⟩ := nat_of hr1.1
    obtain ⟨m, rfl⟩ := nat_of hm1.1
    obtain ⟨dn, bl, k1, k2, k3, k4⟩ := N.ex
    have ed : Vbcnac.does s (.bridge (r : Int) (m : Int)) = if 32 ≤ s.bridges.length then (s, [-4]) else if (s.bridges.any fun x => x.number == m) = true then (s, [-5]) else Vbcnac.done (withBridge s r m) [(s.bridges.length : Int)] := rfl
    have hlen : (as.map V.ref).length = s.bridges.length := (List.length_map _).trans N.len
    have bk : SesAt K ow as H1 (.ref n) s := .inr ⟨n, rfl, N, hbeg, I⟩
    refine r_seq (r_if (r_test (r_op (r_cb (r_cons (go (val_fld vv k1 T.c_Net T.n_Net_bridges (nF_bridges s bl)) (r_nil ⟨bl, _, rfl, .inl (SqL.of k2), r_c ⟨_, _, rfl, rfl, _, rfl, ?_⟩⟩)))))))
    rw [hlen]
    by_cases h1 : 32 ≤ s.bridges.length
    · rw [if_pos h1] at ed
      rw [decide_eq_true (by omega)]
      refine if_y (r_ret (r_lst (r_cons (r_c (r_nil ⟨by show 1 ≤ sizeLine; decide, ?_⟩)))))
      exact (A1.eq ed).ret bk (Frm.refl _ _) (Grow.refl _ _) rfl
    rw [if_neg h1] at ed
    rw [decide_eq_false (by omega)]
    refine if_n (r_next (nx ?_))
    have hf : ∀ l : List Nat, l.filterMap (fun i => some (V.bl ((Vbcnac.bridgeAt s i).number == m))) = (l.map fun i => (Vbcnac.bridgeAt s i).number == m).map V.bl := fun l => by
      rw [List.filterMap_eq_map', List.map_map]
      rfl
    refine r_seq (r_if (r_tb (r_cb (r_cons (r_lcL (fun i => some (V.bl ((Vbcnac.bridgeAt s i).number == m))) (val_fld vv k1 T.c_Net T.n_Net_bridges (nF_bridges s bl)) k2 (by rw [hlen]; exact Nat.le_trans I.nb (by decide)) (fun i x H2 hx e2 N' M' h1 _ => ⟨rfl, ?_⟩) fun D H2 hD e2 hl => r_nil ⟨D, (List.range (as.map V.ref).length).map fun i => (Vbcnac.bridgeAt s i).number == m, rfl, SqL.of (hl.trans (by rw [hf])), _, rfl, ?_⟩)))))
    · have hi : i < s.bridges.length := by
        have := (List.getElem?_eq_some_iff.mp hx).1
        omega
      obtain ⟨a, ea⟩ := N.addr hi
      rw [List.getElem?_map, ea] at hx
      cases hx
      obtain ⟨dx, l, st, ws, kvs, B⟩ := N.br i a ea
      refine r_yes (iteT ?_)
      refine r_op (go (val_fld vv (e2 _ _ B.self) T.c_Bridge T.n_Bridge_number (bF_number _ l st)) (go vv ⟨rfl, ?_⟩))
      rw [dec_int]
      exact h1 _ _ (Same.refl _) rfl
    have hany : ((List.range (as.map V.ref).length).map fun i => (Vbcnac.bridgeAt s i).number == m).any id = s.bridges.any fun x => x.number == m := by
      rw [hlen, List.any_map]
      cases q : s.bridges.any fun x => x.number == m with
      | true =>
        obtain ⟨x, hx, hm⟩ := List.any_eq_true.mp q
        obtain ⟨i, hi, rfl⟩ := List.getElem_of_mem hx
        refine List.any_eq_true.mpr ⟨i, List.mem_range.mpr hi, ?_⟩
        show ((Vbcnac.bridgeAt s i).number == m) = true
        unfold Vbcnac.bridgeAt
        rw [List.getD_eq_getElem?_getD, List.getElem?_eq_getElem hi]
        exact hm
      | false =>
        refine List.any_eq_false.mpr fun i hi => ?_
        have hi2 := List.mem_range.mp hi
        have := List.any_eq_false.mp q s.bridges[i] (List.getElem_mem hi2)
        show ¬ ((Vbcnac.bridgeAt s i).number == m) = true
        unfold Vbcnac.bridgeAt
        rw [List.getD_eq_getElem?_getD, List.getElem?_eq_getElem hi2]
        exact this
    rw [hany]
    have N2 := N.same e2
    have A2 := A1.later e2
    by_cases h2 : (s.bridges.any fun x => x.number == m) = true
    · rw [if_pos h2] at ed
      rw [h2]
      refine if_y (r_ret (r_lst (r_cons (r_c (r_nil ⟨by show 1 ≤ sizeLine; decide, ?_⟩)))))
      exact (A2.eq ed).ret (bk.same e2) (Frm.refl _ _) (Grow.refl _ _) rfl
    rw [if_neg h2] at ed
    rw [Bool.eq_false_iff.mpr h2]
    refine if_n (r_next (nx (r_seq ?_)))
    refine r_drop (r_bm (go (val_fld vv (e2 _ _ k1) T.c_Net T.n_Net_bridges (nF_bridges s bl)) ⟨ty_list (e2 _ _ k2), ?_⟩))
    refine r_cons (r_make (r_cons (go vv (r_cons (go vv (r_nil fun a da ha hda hne => ?_))))))
    have e3 : Same H2 (upd (upd H2 da (.own a)) a (.ins (He.ga K "Bridge") da [])) := fun b o h => by
      rw [upd_ne (ne_of_none h ha), upd_ne (ne_of_none h hda)]
      exact h
    refine ⟨a, da, r, m, rfl, upd_same, fun H3 l st g1 g2 g3 g4 g5 g6 => ⟨rfl, r_nil ?_⟩⟩
    have e4 : Same H2 H3 := fun b o h => g6 b o (e3 _ _ h) (ne_of_none h ha)
    have kn := e2 _ _ k1
    have kb := e2 _ _ k2
    obtain ⟨M, F, G⟩ := N2.add e4 ha (e3.free g4) (fun k hk => e3.free (g2 k hk).1) g1 g5 (fun k hk => (g2 k hk).2) g3 kn
    refine ⟨bl, as.map V.ref, .ref a, rfl, rfl, e4 _ _ kb, by rw [hlen]; exact Nat.lt_of_lt_of_le (by omega : s.bridges.length < 32) (by decide), nx ?_⟩
    have hmap : as.map V.ref ++ [V.ref a] = (as ++ [a]).map V.ref := by
      rw [List.map_append]
      rfl
    rw [hmap]
    refine r_seq (r_quiet T M fun H5 N5 f5 => nx ?_)
    obtain ⟨dn5, bl5, k51, k52, _⟩ := N5.ex
    have hlen5 : ((as ++ [a]).map V.ref).length = s.bridges.length + 1 := by
      rw [List.length_map, List.length_append, N.len]
      rfl
    refine r_ret (r_lst (r_cons (r_op (r_cb (r_cons (go (val_fld vv k51 T.c_Net T.n_Net_bridges (nF_bridges _ bl5)) (r_nil ⟨bl5, _, rfl, .inl (SqL.of k52), r_c ⟨_, _, rfl, rfl, r_nil ⟨by show 1 ≤ sizeLine; decide, ?_⟩⟩⟩)))))))
    refine (A2.eq ed).ret (.inr ⟨n, rfl, N5, hbeg, inv_quiet (inv_with I (by omega) fun b hb hx => h2 ?_) 0⟩) (F.trans G f5) G ?_
    · refine List.any_eq_true.mpr ⟨s.bridges[b], List.getElem_mem hb, ?_⟩
      unfold Vbcnac.bridgeAt at hx
      rw [List.getD_eq_getElem?_getD, List.getElem?_eq_getElem hb] at hx
      exact beq_iff_eq.mpr hx
    · rw [hlen5]
      show [V.int (((s.bridges.length + 1 : Nat) : Int) - 1)] = [V.int (s.bridges.length : Int)]
      congr 2
      omega
end
end Sw
namespace Sw
open PySem PySem.Spec PyProof.Rows L2
/-! ### rows of numbers, made by steps that change nothing -/
def rowV (l : List Nat) : List V := l.map fun n : Nat => V.int n
theorem told_row (t : Vbcnac.Told) : told t = rowV t.key := rfl
section
variable {K : PySem.W.Frag} {σ : L2.St} {H H' : Hp} {Q : VK} {ta tb te : TE} {v : V} {xs ys : List V} {a : Addr} {l m : List Nat}
/-- a value that stays, whatever is new -/
def ValS (te : TE) (σ : L2.St) (H : Hp) (v : V) : Prop := ∀ H', Same H H' → Val te σ H' v
/-- a new tuple -/
def EvT (te : TE) (σ : L2.St) (H : Hp) (xs : List V) : Prop := ∀ H', Same H H' → ∀ Q : VK, (∀ t H2, Same H' H2 → H2 t = some (.tup xs) → Q (.ref t) H2) → te σ H' Q
theorem ValS.later (h : ValS te σ H v) (e : Same H H') : ValS te σ H' v := fun H2 e2 => h H2 (e.trans e2)
theorem EvT.later (h : EvT te σ H xs) (e : Same H H') : EvT te σ H' xs := fun H2 e2 => h H2 (e.trans e2)
theorem ValS.to (h : ValS te σ H v) : Val te σ H v := h H (Same.refl _)
theorem ValS.go (h : ValS te σ H v) (q : Q v H) : te σ H Q := h H (Same.refl _) Q q
theorem vs_var {i : Nat} (h : σ[i]? = some (some v) := by rfl) : ValS (tVar i) σ H v := fun _ _ => val_var h
theorem vs_c : ValS (tC v) σ H v := fun _ _ => val_c
theorem vs_ixT {j : Nat} (h : ValS te σ H (.ref a)) (ht : H a = some (.tup xs)) (hj : xs[j]? = some v) : ValS (tOp (rIxT K) te (tC (.int (j : Int)))) σ H v := fun H1 e => v_ixT (h H1 e) (SqT.of (e _ _ ht)) hj
theorem vs_ixL {j : Nat} (h : ValS te σ H (.ref a)) (hb : ValS tb σ H (.int (j : Int))) (ht : H a = some (.lst xs)) (hj : xs[j]? = some v) : ValS (tOp (rIxL K) te tb) σ H v := fun H1 e => v_ixL (h H1 e) (hb H1 e) (e _ _ ht) hj
theorem vs_add {x y : Int} (ha : ValS ta σ H (.int x)) (hb : ValS tb σ H (.int y)) : ValS (tOp (rI0 fun i j => .int (i + j)) ta tb) σ H (.int (x + y)) := fun H1 e => v_add (ha H1 e) (hb H1 e)
theorem vs_fld {C dx : Addr} {fs : List (Str × V)} {f : Str} (h : ValS te σ H (.ref a)) (hs : H a = some (.ins C dx fs)) (hC : Cls K C) (hn : NoAttr K C f) (hl : fs.lookup f = some v) : ValS (tFld K te f) σ H v := fun H1 e => val_fld (h H1 e) (e _ _ hs) hC hn hl
theorem evt_1 (h : ValS te σ H v) : EvT (tTup (tCons te tNil)) σ H [v] := fun H1 e Q q =>
  r_tup (r_cons (h H1 e _ (r_nil ⟨by show 1 ≤ sizeLine; decide, fun p hp => q p _ (same_new hp) upd_same⟩)))
theorem evt_2 {u : V} (h : ValS ta σ H v) (k : ValS tb σ H u) : EvT (tTup (tCons ta (tCons tb tNil))) σ H [v, u] := fun H1 e Q q =>
  r_tup (r_cons (h H1 e _ (r_cons (k H1 e _ (r_nil ⟨by show 2 ≤ sizeLine; decide, fun p hp => q p _ (same_new hp) upd_same⟩)))))
theorem evt_val (h : ValS te σ H (.ref a)) (ht : H a = some (.tup xs)) : EvT te σ H xs := fun H1 e Q q => h H1 e _ (q a H1 (Same.refl _) (e _ _ ht))
theorem evt_cat (h : EvT ta σ H xs) (k : EvT tb σ H ys) (h1 : xs ≠ []) (h2 : ys ≠ []) (hl : xs.length + ys.length ≤ 1000) : EvT (tOp (rCatT K) ta tb) σ H (xs ++ ys) := fun H1 e Q q =>
  r_op (h H1 e _ fun t H2 e2 ht => k H2 (e.trans e2) _ fun u H3 e3 hu => ⟨t, u, xs, ys, rfl, rfl, SqT.of (e3 _ _ ht), SqT.of hu, h1, Nat.le_trans hl (by decide), fun z => absurd z h2, fun _ p hp => q p _ (e2.trans (e3.trans (same_new hp))) upd_same⟩)
theorem evt_lo {i : Nat} (h : ValS te σ H (.ref a)) (ht : H a = some (.tup xs)) (hi : 0 < i) (hl : i < xs.length) : EvT (tSl (rSlT K) te (tPart (tC (.int (i : Int)))) tNoPart) σ H (xs.drop i) := fun H1 e Q q => by
  have h1 : HT.sIx xs.length 0 (some (i : Int)) = i := by
    rw [HT.sIx_nat]
    omega
  have h2 : cutV xs (some (i : Int)) none = xs.drop i := by
    unfold cutV
    rw [h1]
    show (xs.drop i).take (xs.length - i) = _
    rw [List.take_of_length_le (by rw [List.length_drop]; exact Nat.le_refl _)]
  refine r_slice (h H1 e _ (r_part (r_c ⟨_, rfl, r_nopart ⟨a, xs, rfl, SqT.of (e _ _ ht), by rw [h1]; omega, fun p hp => ?_⟩⟩)))
  rw [h2]
  exact q p _ (same_new hp) upd_same
theorem evt_hi {i : Nat} (h : ValS te σ H (.ref a)) (ht : H a = some (.tup xs)) (hl : i < xs.length) : EvT (tSl (rSlT K) te tNoPart (tPart (tC (.int (i : Int))))) σ H (xs.take i) := fun H1 e Q q => by
  have h1 : HT.sIx xs.length xs.length (some (i : Int)) = i := by
    rw [HT.sIx_nat]
    omega
  have h2 : cutV xs none (some (i : Int)) = xs.take i := by
    unfold cutV
    rw [h1]
    rfl
  refine r_slice (h H1 e _ (r_nopart (r_part (r_c ⟨_, rfl, a, xs, rfl, SqT.of (e _ _ ht), by rw [h1]; omega, fun p hp => ?_⟩))))
  rw [h2]
  exact q p _ (same_new hp) upd_same
end
section
variable {K : PySem.W.Frag} {ow : Addr → Nat} {H H' : Hp} {i : Nat} {a : Addr} {x : Vbcnac.Bridge} {dx : Addr} {l : Nat → Addr} {st : Addr} {vs : Nat → List V} {kvs : List (Key × V)}
theorem BrAt.same (B : BrAt K ow H i a x dx l st vs kvs) (e : Same H H') : BrAt K ow H' i a x dx l st vs kvs := B.keep (fun b o h _ => e b o h) fun _ _ => rfl
end
section
variable {P : Program} {w : World} {K : PySem.W.Frag} {mg : Str → Option Value} {base : Heap}
/-! ### row_of_way, hello_at -/
def wrow (h : Vbcnac.Told) (p : Vbcnac.Port) (i : Nat) : List Nat := [h.root.1, h.root.2, h.cost + p.cost, h.teller.1, h.teller.2, h.port.1, h.port.2, p.rank, i]
def sp_row_of_way (K : PySem.W.Frag) : Sp := fun vs H Q _ => ∃ ow i a x dx l st ws kvs p t h, vs = [.ref a, .int (p : Nat), .ref t] ∧ BrAt K ow H i a x dx l st ws kvs ∧ p < x.ports.length ∧ H t = some (.tup (told h)) ∧
  ∀ u H', Same H H' → H' u = some (.tup (rowV (wrow h (x.ports.getD p {}) p))) → Q (.ref u) H'
theorem sc_row_of_way : FnScope ["bridge", "place", "hello", "cost"] ["bridge", "place", "hello"] D_row_of_way.scope := ⟨rfl, rfl, rfl, by decide +kernel, rfl, by decide +kernel, by decide +kernel⟩
-- level 1; slots 0:bridge 1:place 2:hello 3:cost; captured []
theorem ok_row_of_way (T : Txt K mg) : Does P w K mg base 1 "row_of_way" ["bridge", "place", "hello"] (sp_row_of_way K) := by
  refine does_of T 16 (d := D_row_of_way) rfl rfl rfl rfl T.g_row_of_way sc_row_of_way (fun _ _ _ _ _ _ us hl => match us, hl with | [_, _, _], _ => rfl) (fun vs H Q E h => by obtain ⟨_, _, _, _, _, _, _, _, _, _, _, _, rfl, _⟩ := h; rfl) (fun cdv A outer s H vs Q E hr h => ⟨_, (pss_cons (ps_set (i := 3) sc_row_of_way.nd rfl (.inl rfl) (pe_op op_add (pe_ix ix_tup (pv 2) pe_int (fun _ _ => rfl)) (pe_ix ix_list (pe_fld (pv 0) rfl) (pv 1) (fun _ _ => rfl))))
      (pss_one (ps_ret (pe_op op_catT (pe_op op_catT (pe_op op_catT (pe_slice sl_tup (pv 2) po_none (po_some pe_int)) (pe_tup (pa_cons (pv 3) pa_nil))) (pe_slice sl_tup (pv 2) (po_some pe_int) po_none)) (pe_tup (pa_cons (pe_ix ix_list (pe_fld (pv 0) rfl) (pv 1) (fun _ _ => rfl)) (pa_cons (pv 1) pa_nil))))))), ?_⟩)
  obtain ⟨ow, i, a, x, dx, l, st, ws, kvs, p, t, h, rfl, B, hp, ht, hQ⟩ := h
  obtain ⟨v0, hv0, pv0⟩ := B.get (k := 0) (by decide) hp
  obtain ⟨v1, hv1, pv1⟩ := B.get (k := 1) (by decide) hp
  cases (show v0 = .int (x.ports.getD p {}).cost from pv0)
  cases (show v1 = .int (x.ports.getD p {}).rank from pv1)
  have fc : ∀ σ : L2.St, σ[0]? = some (some (.ref a)) → ValS (tFld K (tVar 0) "costs") σ H (.ref (l 0)) := fun σ h0 => vs_fld (vs_var h0) B.self T.c_Bridge T.n_Bridge_costs (bF_costs x l st)
  have fr : ∀ σ : L2.St, σ[0]? = some (some (.ref a)) → ValS (tFld K (tVar 0) "ranks") σ H (.ref (l 1)) := fun σ h0 => vs_fld (vs_var h0) B.self T.c_Bridge T.n_Bridge_ranks (bF_ranks x l st)
  refine r_seq (r_set ((vs_add (vs_ixT (j := 2) (xs := told h) (v := .int h.cost) vs_var ht rfl) (vs_ixL (fc _ rfl) vs_var (B.lst 0 (by decide)) hv0)).go (nx (r_ret ?_))))
  refine evt_cat (evt_cat (evt_cat (evt_hi (i := 2) (xs := told h) vs_var ht (by show 2 < 7; decide)) (evt_1 vs_var) ?_ ?_ ?_) (evt_lo (i := 3) (xs := told h) vs_var ht (by decide) (by show 3 < 7; decide)) ?_ ?_ ?_) (evt_2 (vs_ixL (fr _ rfl) vs_var (B.lst 1 (by decide)) hv1) vs_var) ?_ ?_ ?_ H (Same.refl _) _ fun u H' e hu => hQ u H' e ?_
  · exact fun z => by cases z
  · exact fun z => by cases z
  · exact (by decide : 3 ≤ 1000)
  · exact fun z => by cases z
  · exact fun z => by cases z
  · exact (by decide : 7 ≤ 1000)
  · exact fun z => by cases z
  · exact fun z => by cases z
  · exact (by decide : 9 ≤ 1000)
  · exact hu
/-- what a bridge holds -/
def placeV (o : Option Nat) : V := match o with
  | none => .int (-1)
  | some i => .int (i : Nat)
def HeldAt (K : PySem.W.Frag) (H : Hp) (hd : Addr) (v : Vbcnac.View) : Prop := ∃ dh rt, H hd = some (.ins (He.ga K "Held") dh (heldF (.ref rt) (.int (v.cost : Nat)) (placeV v.port) (.int (v.age : Nat)))) ∧ H rt = some (.tup (rowV [v.root.1, v.root.2]))
theorem HeldAt.same {H H' : Hp} {hd : Addr} {v : Vbcnac.View} (h : HeldAt K H hd v) (e : Same H H') : HeldAt K H' hd v := by
  obtain ⟨dh, rt, h1, h2⟩ := h
  exact ⟨dh, rt, e _ _ h1, e _ _ h2⟩
def sp_hello_at (K : PySem.W.Frag) : Sp := fun vs H Q _ => ∃ ow i a x dx l st ws kvs p hd v, vs = [.ref a, .ref hd, .int (p : Nat)] ∧ BrAt K ow H i a x dx l st ws kvs ∧ p < x.ports.length ∧ HeldAt K H hd v ∧
  ∀ u H', Same H H' → H' u = some (.tup (told (Vbcnac.offer x v p (x.ports.getD p {})))) → Q (.ref u) H'
theorem sc_hello_at : FnScope ["bridge", "held", "place"] ["bridge", "held", "place"] D_hello_at.scope := ⟨rfl, rfl, rfl, by decide +kernel, rfl, by decide +kernel, by decide +kernel⟩
-- level 2; slots 0:bridge 1:held 2:place; captured []
theorem ok_hello_at (T : Txt K mg) (G_name_of : Does P w K mg base 1 "name_of" ["bridge"] (sp_name_of K)) : Does P w K mg base 2 "hello_at" ["bridge", "held", "place"] (sp_hello_at K) := by
  refine does_of T 17 (d := D_hello_at) rfl rfl rfl rfl T.g_hello_at sc_hello_at (fun _ _ _ _ _ _ us hl => match us, hl with | [_, _, _], _ => rfl) (fun vs H Q E h => by obtain ⟨_, _, _, _, _, _, _, _, _, _, _, _, rfl, _⟩ := h; rfl) (fun cdv A outer s H vs Q E hr h => ⟨_, (pss_one (ps_ret (pe_op op_catT (pe_op op_catT (pe_op op_catT (pe_fld (pv 1) rfl) (pe_tup (pa_cons (pe_fld (pv 1) rfl) pa_nil))) (pe_f G_name_of (hr.mono (by decide)) (by rfl) (pa_cons (pv 0) pa_nil))) (pe_tup (pa_cons (pe_ix ix_list (pe_fld (pv 0) rfl) (pv 2) (fun _ _ => rfl)) (pa_cons (pv 2) pa_nil)))))), ?_⟩)
  obtain ⟨ow, i, a, x, dx, l, st, ws, kvs, p, hd, v, rfl, B, hp, ⟨dh, rt, h1, h2⟩, hQ⟩ := h
  obtain ⟨v1, hv1, pv1⟩ := B.get (k := 1) (by decide) hp
  cases (show v1 = .int (x.ports.getD p {}).rank from pv1)
  have fr : ∀ σ : L2.St, σ[0]? = some (some (.ref a)) → ValS (tFld K (tVar 0) "ranks") σ H (.ref (l 1)) := fun σ h0 => vs_fld (vs_var h0) B.self T.c_Bridge T.n_Bridge_ranks (bF_ranks x l st)
  have fn : ∀ σ : L2.St, σ[0]? = some (some (.ref a)) → EvT (tCall (sp_name_of K) [] E0 (tCons (tVar 0) tNil)) σ H [.int x.rank, .int x.number] := fun σ h0 H1 e Q q =>
    r_call (r_cons (go (vv h0) (r_nil ⟨ow, i, a, x, dx, l, st, ws, kvs, rfl, B.same e, fun p hp => q p _ (same_new hp) upd_same⟩)))
  refine r_ret ?_
  refine evt_cat (evt_cat (evt_cat (evt_val (xs := rowV [v.root.1, v.root.2]) (vs_fld (fs := heldF (.ref rt) (.int (v.cost : Nat)) (placeV v.port) (.int (v.age : Nat))) vs_var h1 T.c_Held T.n_Held_root rfl) h2) (evt_1 (vs_fld (fs := heldF (.ref rt) (.int (v.cost : Nat)) (placeV v.port) (.int (v.age : Nat))) (v := .int (v.cost : Nat)) vs_var h1 T.c_Held T.n_Held_cost rfl)) ?_ ?_ ?_) (fn _ rfl) ?_ ?_ ?_) (evt_2 (vs_ixL (fr _ rfl) vs_var (B.lst 1 (by decide)) hv1) vs_var) ?_ ?_ ?_ H (Same.refl _) _ fun u H' e hu => hQ u H' e ?_
  · exact fun z => by cases z
  · exact fun z => by cases z
  · exact (by decide : 3 ≤ 1000)
  · exact fun z => by cases z
  · exact fun z => by cases z
  · exact (by decide : 5 ≤ 1000)
  · exact fun z => by cases z
  · exact fun z => by cases z
  · exact (by decide : 7 ≤ 1000)
  · exact hu
end
end Sw
namespace Sw
open PySem PySem.Spec PyProof.Rows L2
section
variable {K : PySem.W.Frag} {H : Hp} {Q : VK} {a b : Addr} {l m : List Nat}
theorem v_ltR (h1 : H a = some (.tup (rowV l))) (h2 : H b = some (.tup (rowV m))) (q : Q (.bl (Vbcnac.less l m)) H) : rLtT K (.ref a) (.ref b) H Q := v_ltT (by rw [zs_V]; exact h1) (by rw [zs_V]; exact h2) q
theorem v_geR (h1 : H a = some (.tup (rowV l))) (h2 : H b = some (.tup (rowV m))) (hl : l.length = m.length) (q : Q (.bl (!Vbcnac.less l m)) H) : rGeT K (.ref a) (.ref b) H Q := v_geT (by rw [zs_V]; exact h1) (by rw [zs_V]; exact h2) hl q
end
/-! ### held_by -/
def candsTo (x : Vbcnac.Bridge) (k : Nat) : List (List Nat × Vbcnac.View) := ((Vbcnac.indexed x.ports).take k).filterMap fun y => Vbcnac.candidate y.1 y.2
theorem candsTo_succ (x : Vbcnac.Bridge) {k : Nat} (hk : k < x.ports.length) : candsTo x (k + 1) = match (x.ports.getD k {}).heard with
    | none => candsTo x k
    | some h => candsTo x k ++ [(wrow h.told (x.ports.getD k {}) k, { root := h.told.root, cost := h.told.cost + (x.ports.getD k {}).cost, port := some k, age := h.age })] := by
  have e : (Vbcnac.indexed x.ports)[k]? = some (k, x.ports.getD k {}) := by
    rw [indexed_get, List.getD_eq_getElem?_getD, List.getElem?_eq_getElem hk]
    rfl
  unfold candsTo
  rw [take_succ' e, List.filterMap_append]
  cases q : (x.ports.getD k {}).heard with
  | none =>
    have : Vbcnac.candidate k (x.ports.getD k {}) = none := by
      unfold Vbcnac.candidate
      rw [q]
      rfl
    rw [List.filterMap_cons, this, List.filterMap_nil, List.append_nil]
  | some h =>
    have : Vbcnac.candidate k (x.ports.getD k {}) = some (wrow h.told (x.ports.getD k {}) k, { root := h.told.root, cost := h.told.cost + (x.ports.getD k {}).cost, port := some k, age := h.age }) := by
      unfold Vbcnac.candidate
      rw [q]
      rfl
    rw [List.filterMap_cons, this, List.filterMap_nil]
theorem candsTo_all (x : Vbcnac.Bridge) : candsTo x x.ports.length = (Vbcnac.indexed x.ports).filterMap fun y => Vbcnac.candidate y.1 y.2 := by
  unfold candsTo
  rw [← indexed_len, List.take_length]
theorem cand_mem {x : Vbcnac.Bridge} {c : List Nat × Vbcnac.View} (h : Vbcnac.least (candsTo x x.ports.length) = some c) : ∃ i hd, i < x.ports.length ∧ (x.ports.getD i {}).heard = some hd ∧ c = (wrow hd.told (x.ports.getD i {}) i, { root := hd.told.root, cost := hd.told.cost + (x.ports.getD i {}).cost, port := some i, age := hd.age }) := by
  have h1 := least_mem h
  rw [candsTo_all] at h1
  obtain ⟨y, hy, hc⟩ := List.mem_filterMap.mp h1
  have h2 := indexed_mem hy
  have h3 : x.ports.getD y.1 {} = y.2 := by
    rw [List.getD_eq_getElem?_getD, h2]
    rfl
  unfold Vbcnac.candidate at hc
  cases q : y.2.heard with
  | none =>
    rw [q] at hc
    cases hc
  | some hd =>
    rw [q] at hc
    refine ⟨y.1, hd, (List.getElem?_eq_some_iff.mp h2).1, by rw [h3]; exact q, ?_⟩
    rw [h3]
    exact (Option.some.inj hc).symm
def Best (H : Hp) (vb : V) (o : Option (List Nat × Vbcnac.View)) : Prop := match o with
  | none => vb = .non
  | some c => ∃ t, vb = .ref t ∧ H t = some (.tup (rowV c.1))
theorem Best.same {H H' : Hp} (e : Same H H') {vb : V} : ∀ {o : Option (List Nat × Vbcnac.View)}, Best H vb o → Best H' vb o
  | none, h => h
  | some _, ⟨t, h1, h2⟩ => ⟨t, h1, e _ _ h2⟩
section
variable {P : Program} {w : World} {K : PySem.W.Frag} {mg : Str → Option Value} {base : Heap}
def sp_held_by (K : PySem.W.Frag) : Sp := fun vs H Q _ => ∃ ow i a x dx l st ws kvs, vs = [.ref a] ∧ BrAt K ow H i a x dx l st ws kvs ∧ ∀ hd H', Same H H' → HeldAt K H' hd (Vbcnac.view x) → Q (.ref hd) H'
theorem sc_held_by : FnScope ["bridge", "best", "place", "hello", "row"] ["bridge"] D_held_by.scope := ⟨rfl, rfl, rfl, by decide +kernel, rfl, by decide +kernel, by decide +kernel⟩
-- level 3; slots 0:bridge 1:best 2:place 3:hello 4:row; captured []
theorem ok_held_by (T : Txt K mg) (G_row_of_way : Does P w K mg base 1 "row_of_way" ["bridge", "place", "hello"] (sp_row_of_way K)) (G_name_of : Does P w K mg base 1 "name_of" ["bridge"] (sp_name_of K)) (G_Held : DoesC P w K mg base 1 "Held" ["self", "root", "cost", "place", "age"] (sp_Held K)) : Does P w K mg base 3 "held_by" ["bridge"] (sp_held_by K) := by
  refine does_of T 15 (d := D_held_by) rfl rfl rfl rfl T.g_held_by sc_held_by (fun _ _ _ _ _ _ us hl => match us, hl with | [_], _ => rfl) (fun vs H Q E h => by obtain ⟨_, _, _, _, _, _, _, _, _, rfl, _⟩ := h; rfl) (fun cdv A outer s H vs Q E hr h => ⟨_, (pss_cons (ps_set (i := 1) sc_held_by.nd rfl (.inl rfl) pe_non)
      (pss_cons (ps_for PassesOwn.never rfl (pi_enum (by rfl) T.f_enumerate (pa_cons (pe_fld (pv 0) rfl) pa_nil)) (pg_tup (n := 2) rfl (pgs_cons (pg_name (i := 2) sc_held_by.nd rfl (.inl rfl)) (pgs_cons (pg_name (i := 3) sc_held_by.nd rfl (.inl rfl)) pgs_nil))) (pss_one (ps_if (pt_cmpR op_notN (pv 3) pe_non (nomark _)) (pss_cons (ps_set (i := 4) sc_held_by.nd rfl (.inl rfl) (pe_f G_row_of_way (hr.mono (by decide)) (by rfl) (pa_cons (pv 0) (pa_cons (pv 2) (pa_cons (pv 3) pa_nil)))))
      (pss_one (ps_if (PW.pt (pw_or (pt_cmpR op_isN (pv 1) pe_non (nomark _)) (pw_or1 (pt_cmpR (op_ltT hr.units0) (pv 4) (pv 1) (nomark _))))) (pss_one (ps_set (i := 1) sc_held_by.nd rfl (.inl rfl) (pv 4))) pss_nil))) pss_nil)))
      (pss_cons (ps_if (PW.pt (pw_or (pt_cmpR op_isN (pv 1) pe_non (nomark _)) (pw_or1 (pt_cmpR (op_geT hr.units0) (pe_slice sl_tup (pv 1) po_none (po_some pe_int)) (pe_f G_name_of (hr.mono (by decide)) (by rfl) (pa_cons (pv 0) pa_nil)) (nomark _))))) (pss_one (ps_ret (pe_c T.m_Held T.g_Held G_Held.ex (hr.mono (by decide)) (by rfl) (pa_cons (pe_f G_name_of (hr.mono (by decide)) (by rfl) (pa_cons (pv 0) pa_nil)) (pa_cons pe_int (pa_cons (pe_gi T.i_NO_PORT rfl) (pa_cons pe_int pa_nil))))))) pss_nil)
      (pss_cons (ps_set (i := 2) sc_held_by.nd rfl (.inl rfl) (pe_ix ix_tup (pv 1) pe_int (fun _ _ => rfl)))
      (pss_one (ps_ret (pe_c T.m_Held T.g_Held G_Held.ex (hr.mono (by decide)) (by rfl) (pa_cons (pe_slice sl_tup (pv 1) po_none (po_some pe_int)) (pa_cons (pe_ix ix_tup (pv 1) pe_int (fun _ _ => rfl)) (pa_cons (pv 2) (pa_cons (pe_ix ix_list (pe_fld (pv 0) rfl) (pv 2) (fun _ _ => rfl)) pa_nil))))))))))), ?_⟩)
  obtain ⟨ow, i, a, x, dx, l, st, ws, kvs, rfl, B, hQ⟩ := h
  refine r_seq (r_set (r_c (nx ?_)))
  refine r_seq (r_for (r_enum (r_cons (go (B.fhellos T vv) (r_nil ⟨l 3, ws 3, rfl, SqL.of (B.lst 3 (by decide)), for_it walk_enum
    (fun k σ H' => ∃ vb v2 v3 v4, σ = [some (.ref a), some vb, v2, v3, v4] ∧ Same H H' ∧ Best H' vb (Vbcnac.least (candsTo x k))) ⟨.non, none, none, none, rfl, Same.refl _, rfl⟩ (fun b σ H' _ ⟨_, _, _, _, _, e1, _⟩ => SqL.of (e1 _ _ (B.lst 3 (by decide)))) ?hs ?hd⟩)))))
  case hs =>
    rintro k y σ H1 H2 hk ⟨vb, v2, v3, v4, rfl, e1, hb⟩ ⟨t, z1, v, rfl, ht, rfl, y1, y2⟩
    cases y1
    have hk2 : k < x.ports.length := by
      rw [B.len 3 (by decide)] at hk
      exact hk
    have hh : Hel H v (x.ports.getD k {}).heard := B.val 3 (by decide) k v y2
    have e2 : Same H (upd H1 t (.tup [.int (k : Nat), v])) := e1.trans (same_new ht)
    have hs := candsTo_succ x hk2
    refine g2 upd_same (r_if (r_test (r_op (go vv (r_c ⟨rfl, _, rfl, ?_⟩)))))
    cases hx : (x.ports.getD k {}).heard with
    | none =>
      rw [hx] at hh hs
      cases (show v = .non from hh)
      refine if_n (r_next ⟨vb, _, _, v4, rfl, e2, ?_⟩)
      rw [hs]
      exact hb.same (same_new ht)
    | some h =>
      rw [hx] at hh hs
      obtain ⟨u, rfl, hu⟩ := hh
      refine if_y (r_seq (r_set (r_call (r_cons (go vv (r_cons (go vv (r_cons (go vv (r_nil ?_)))))))))) 
      refine ⟨ow, i, a, x, dx, l, st, ws, kvs, k, u, h.told, rfl, B.same e2, hk2, e2 _ _ hu, fun r H3 e3 hr => nx ?_⟩
      have hb3 := hb.same ((same_new (o := .tup [.int (k : Nat), .ref u]) ht).trans e3)
      have take : ∀ D : Ends, (∀ σ H', (∃ vb v2 v3 v4, σ = [some (.ref a), some vb, v2, v3, v4] ∧ Same H H' ∧ Best H' vb (Vbcnac.least (candsTo x (k + 1)))) → D.nx σ H') → Vbcnac.least (candsTo x (k + 1)) = some (wrow h.told (x.ports.getD k {}) k, { root := h.told.root, cost := h.told.cost + (x.ports.getD k {}).cost, port := some k, age := h.age }) → ∀ vb, tAsg (tVar 4) (gName 1) D [some (.ref a), some vb, some (.int (k : Nat)), some (.ref u), some (.ref r)] H3 := fun D hD hl vb => by
        refine r_set (go vv (hD _ _ ⟨.ref r, _, _, _, rfl, e2.trans e3, ?_⟩))
        rw [hl]
        exact ⟨r, rfl, hr⟩
      cases hm : Vbcnac.least (candsTo x k) with
      | none =>
        rw [hm] at hb3
        cases (show vb = .non from hb3)
        refine r_if (r_or (r_test (r_op (go vv (r_c ⟨rfl, _, rfl, if_y (if_y (take _ (fun _ _ h => h) ?_ _))⟩)))))
        rw [hs, least_snoc, hm]
      | some c =>
        rw [hm] at hb3
        obtain ⟨tb, rfl, htb⟩ := hb3
        refine r_if (r_or (r_test (r_op (go vv (r_c ⟨rfl, _, rfl, if_n (r_test (r_op (go vv (go vv (v_ltR hr htb ⟨_, rfl, ?_⟩)))))⟩)))))
        cases hlt : Vbcnac.less (wrow h.told (x.ports.getD k {}) k) c.1 with
        | true =>
          refine if_y (take _ (fun _ _ h => h) ?_ _)
          rw [hs, least_snoc, hm]
          exact if_pos hlt
        | false =>
          refine if_n (r_next ⟨.ref tb, _, _, _, rfl, e2.trans e3, ?_⟩)
          rw [hs, least_snoc, hm]
          show Best H3 (.ref tb) (if Vbcnac.less (wrow h.told (x.ports.getD k {}) k) c.1 = true then _ else some c)
          rw [if_neg (by rw [hlt]; decide)]
          exact ⟨tb, rfl, htb⟩
  case hd =>
    rintro σ H1 ⟨vb, v2, v3, v4, rfl, e1, hb⟩
    rw [B.len 3 (by decide)] at hb
    have B1 := B.same e1
    have fn : ∀ (σ : L2.St) H2, Same H1 H2 → σ[0]? = some (some (.ref a)) → EvT (tCall (sp_name_of K) [] E0 (tCons (tVar 0) tNil)) σ H2 [.int x.rank, .int x.number] := fun σ H2 e0 h0 H3 e Q q =>
      r_call (r_cons (go (vv h0) (r_nil ⟨ow, i, a, x, dx, l, st, ws, kvs, rfl, B1.same (e0.trans e), fun p hp => q p _ (same_new hp) upd_same⟩)))
    have own : ∀ H2 σ, Same H1 H2 → σ[0]? = some (some (.ref a)) → Vbcnac.view x = Vbcnac.ownView x → ∀ D : Ends, D.rt = Q → tRet (tMake (He.ga K "Held") (sp_Held K) [] E0 (tCons (tCall (sp_name_of K) [] E0 (tCons (tVar 0) tNil)) (tCons (tC (.int 0)) (tCons (tC (.int (-1))) (tCons (tC (.int 0)) tNil))))) D σ H2 := fun H2 σ e2 h0 hv D hD => by
      refine r_ret (r_make (r_cons (fn σ H2 e2 h0 H2 (Same.refl _) _ fun t H3 e3 ht => r_cons (r_c (r_cons (r_c (r_cons (r_c (r_nil fun p dx hp hdx hne => ?_)))))))))
      have e4 : Same H3 (upd (upd H3 dx (.own p)) p (.ins (He.ga K "Held") dx [])) := fun b o h => by
        rw [upd_ne (ne_of_none h hp), upd_ne (ne_of_none h hdx)]
        exact h
      refine ⟨p, dx, _, _, _, _, rfl, upd_same, fun H' h1 h2 => ⟨rfl, ?_⟩⟩
      have e5 : Same H3 H' := fun b o h => h2 b o (e4 _ _ h) (ne_of_none h hp)
      rw [hD]
      refine hQ p H' (e1.trans (e2.trans (e3.trans e5))) ?_
      rw [hv]
      exact ⟨dx, t, h1, e5 _ _ ht⟩
    have hview : Vbcnac.view x = match Vbcnac.least (candsTo x x.ports.length) with
        | none => Vbcnac.ownView x
        | some c => if Vbcnac.less [c.2.root.1, c.2.root.2] [x.rank, x.number] = true then c.2 else Vbcnac.ownView x := by
      rw [candsTo_all]
      rfl
    cases hm : Vbcnac.least (candsTo x x.ports.length) with
    | none =>
      rw [hm] at hb hview
      cases (show vb = .non from hb)
      exact nx (r_seq (r_if (r_or (r_test (r_op (go vv (r_c ⟨rfl, _, rfl, if_y (if_y (own _ _ (Same.refl _) rfl hview _ rfl))⟩)))))))
    | some c =>
      rw [hm] at hb hview
      obtain ⟨tb, rfl, htb⟩ := hb
      obtain ⟨i0, hh, hi0, hheard, rfl⟩ := cand_mem hm
      refine nx (r_seq (r_if (r_or (r_test (r_op (go vv (r_c ⟨rfl, _, rfl, if_n ?_⟩)))))))
      refine r_test (r_op (evt_hi (i := 2) (xs := rowV (wrow hh.told (x.ports.getD i0 {}) i0)) vs_var htb (by show 2 < 9; decide) H1 (Same.refl _) _ fun u H2 e2 hu => ?_))
      refine fn _ H2 e2 rfl H2 (Same.refl _) _ fun n H3 e3 hn => ?_
      refine v_geR (l := [hh.told.root.1, hh.told.root.2]) (m := [x.rank, x.number]) (e3 _ _ hu) hn rfl ⟨_, rfl, ?_⟩
      have hv2 : Vbcnac.view x = if Vbcnac.less [hh.told.root.1, hh.told.root.2] [x.rank, x.number] = true then { root := hh.told.root, cost := hh.told.cost + (x.ports.getD i0 {}).cost, port := some i0, age := hh.age } else Vbcnac.ownView x := hview
      have e4 := e2.trans e3
      cases q : Vbcnac.less [hh.told.root.1, hh.told.root.2] [x.rank, x.number] with
      | false =>
        rw [if_neg (by rw [q]; decide)] at hv2
        exact if_y (own _ _ e4 rfl hv2 _ rfl)
      | true =>
        rw [if_pos q] at hv2
        refine if_n (r_next (nx (r_seq (r_set (go (v_ixT (j := 8) (xs := rowV (wrow hh.told (x.ports.getD i0 {}) i0)) (v := .int (i0 : Nat)) vv (SqT.of (e4 _ _ htb)) rfl) (nx ?_))))))
        obtain ⟨z, hz, z2, rfl, z3⟩ := B.get (k := 4) (by decide) hi0
        have hza : z2 = (hh.age : Nat) := z3 hh hheard
        subst hza
        refine r_ret (r_make (r_cons (evt_hi (i := 2) (xs := rowV (wrow hh.told (x.ports.getD i0 {}) i0)) vs_var (e4 _ _ htb) (by show 2 < 9; decide) H3 (Same.refl _) _ fun rt H4 e5 hrt => ?_)))
        have e6 := e4.trans e5
        have B4 := B1.same e6
        refine r_cons (go (v_ixT (j := 2) (xs := rowV (wrow hh.told (x.ports.getD i0 {}) i0)) (v := .int ((hh.told.cost + (x.ports.getD i0 {}).cost : Nat))) vv (SqT.of (e6 _ _ htb)) rfl) (r_cons (go vv (r_cons (go (v_ixL (B4.fages T vv) vv (B4.lst 4 (by decide)) hz) (r_nil fun p dx hp hdx hne => ?_))))))
        have e7 : Same H4 (upd (upd H4 dx (.own p)) p (.ins (He.ga K "Held") dx [])) := fun b o h => by
          rw [upd_ne (ne_of_none h hp), upd_ne (ne_of_none h hdx)]
          exact h
        refine ⟨p, dx, _, _, _, _, rfl, upd_same, fun H' h1 h2 => ⟨rfl, ?_⟩⟩
        have e8 : Same H4 H' := fun b o h => h2 b o (e7 _ _ h) (ne_of_none h hp)
        refine hQ p H' (e1.trans (e6.trans e8)) ?_
        rw [hv2]
        exact ⟨dx, rt, h1, e8 _ _ hrt⟩
end
end Sw
namespace Sw
open PySem PySem.Spec PyProof.Rows L2
theorem range_set {α : Type} (f : Nat → α) (n k : Nat) (v : α) : ((List.range n).map f).set k v = (List.range n).map fun i => if i = k then v else f i := by
  refine List.ext_getElem? fun i => ?_
  rw [List.getElem?_set, List.getElem?_map, List.getElem?_map, List.length_map, List.length_range]
  by_cases h : k = i
  · subst h
    rw [if_pos rfl]
    by_cases hk : k < n
    · rw [if_pos hk, List.getElem?_range hk]
      simp
    · rw [if_neg hk, List.getElem?_eq_none (by simp; omega)]
      rfl
  · rw [if_neg h]
    by_cases hk : i < n
    · rw [List.getElem?_range hk]
      show some (f i) = some (if i = k then v else f i)
      rw [if_neg fun z => h z.symm]
    · rw [List.getElem?_eq_none (by simp; omega)]
      rfl
theorem same_upd {H H1 : Hp} {r : Addr} {o : HO} (e : Same H H1) (hr : H r = none) : Same H (upd H1 r o) := fun b u h => by
  rw [upd_ne (ne_of_none h hr)]
  exact e _ _ h
theorem rep_range {α : Type} (n : Nat) (v : α) : List.replicate n v = (List.range n).map fun _ => v := by
  refine List.ext_getElem? fun i => ?_
  rw [List.getElem?_replicate, List.getElem?_map]
  by_cases h : i < n
  · rw [if_pos h, List.getElem?_range h]
    rfl
  · rw [if_neg h, List.getElem?_eq_none (by simp; omega)]
    rfl
section
variable {P : Program} {w : World} {K : PySem.W.Frag} {mg : Str → Option Value} {base : Heap}
/-! ### roles_of -/
def roleV (x : Vbcnac.Bridge) (v : Vbcnac.View) (i : Nat) : V := .int (Vbcnac.roleNumber (Vbcnac.roleOf x v i (x.ports.getD i {})) : Nat)
def rolesV (x : Vbcnac.Bridge) (v : Vbcnac.View) : List V := (List.range 16).map (roleV x v)
/-- a stored hello is no worse than what would be said -/
def worse (x : Vbcnac.Bridge) (v : Vbcnac.View) (i : Nat) : Bool := match (x.ports.getD i {}).heard with
  | none => false
  | some h => !Vbcnac.less (Vbcnac.offer x v i (x.ports.getD i {})).key h.told.key
def halfV (x : Vbcnac.Bridge) (v : Vbcnac.View) (k i : Nat) : V := if i < k ∧ worse x v i = true then .int 3 else .int 2
theorem roleV_eq {x : Vbcnac.Bridge} {v : Vbcnac.View} {i : Nat} (h : x.on = true) : roleV x v i = if v.port = some i then .int 1 else if worse x v i = true then .int 3 else .int 2 := by
  unfold roleV worse Vbcnac.roleOf
  rw [if_neg (by rw [h]; decide)]
  by_cases h1 : v.port = some i
  · rw [if_pos h1, if_pos h1]
    rfl
  · rw [if_neg h1, if_neg h1]
    cases (x.ports.getD i {}).heard with
    | none => rfl
    | some h =>
      show V.int (Vbcnac.roleNumber (if Vbcnac.less (Vbcnac.offer x v i (x.ports.getD i {})).key h.told.key = true then _ else _) : Nat) = if (!Vbcnac.less (Vbcnac.offer x v i (x.ports.getD i {})).key h.told.key) = true then .int 3 else .int 2
      cases Vbcnac.less (Vbcnac.offer x v i (x.ports.getD i {})).key h.told.key <;> rfl
def sp_roles_of (K : PySem.W.Frag) : Sp := fun vs H Q _ => ∃ ow i a x dx l st ws kvs hd v, vs = [.ref a, .ref hd] ∧ BrAt K ow H i a x dx l st ws kvs ∧ x.ports.length = 16 ∧ x.on = true ∧ HeldAt K H hd v ∧ (∀ i, v.port = some i → i < 16) ∧
  ∀ r H', Same H H' → H r = none → H' r = some (.lst (rolesV x v)) → Q (.ref r) H'
theorem sc_roles_of : FnScope ["bridge", "held", "roles", "place", "hello"] ["bridge", "held"] D_roles_of.scope := ⟨rfl, rfl, rfl, by decide +kernel, rfl, by decide +kernel, by decide +kernel⟩
-- level 3; slots 0:bridge 1:held 2:roles 3:place 4:hello; captured []
theorem ok_roles_of (T : Txt K mg) (G_hello_at : Does P w K mg base 2 "hello_at" ["bridge", "held", "place"] (sp_hello_at K)) : Does P w K mg base 3 "roles_of" ["bridge", "held"] (sp_roles_of K) := by
  refine does_of T 18 (d := D_roles_of) rfl rfl rfl rfl T.g_roles_of sc_roles_of (fun _ _ _ _ _ _ us hl => match us, hl with | [_, _], _ => rfl) (fun vs H Q E h => by obtain ⟨_, _, _, _, _, _, _, _, _, _, _, rfl, _⟩ := h; rfl) (fun cdv A outer s H vs Q E hr h => ⟨_, (pss_cons (ps_setLc (i := 2) (own := [("place", 3)]) (tt := tYes) (g := gName 3) rfl sc_roles_of.nd rfl rfl (sw_true rfl rfl rfl (by decide +kernel)) (pi_range1 (by rfl) T.f_range (pa_cons (pe_gi T.i_PORTS rfl) pa_nil)) (blkOk_by (own := [("place", 3)]) (N := ["bridge", "held", "roles", "place", "hello"]) (sc := D_roles_of.scope) (by decide +kernel)) (fun _ _ _ _ _ => (pg_name (i := 3) sc_roles_of.nd rfl (.inl rfl))) (fun _ _ _ _ _ => pts_nil) (fun _ _ _ _ _ => (pe_gi T.i_DESIGNATED rfl)))
      (pss_cons (ps_for PassesOwn.never rfl (pi_enum (by rfl) T.f_enumerate (pa_cons (pe_fld (pv 0) rfl) pa_nil)) (pg_tup (n := 2) rfl (pgs_cons (pg_name (i := 3) sc_roles_of.nd rfl (.inl rfl)) (pgs_cons (pg_name (i := 4) sc_roles_of.nd rfl (.inl rfl)) pgs_nil))) (pss_one (ps_if (PW.pt (pw_and (pt_cmpR op_notN (pv 4) pe_non (nomark _)) (pw_and1 (pt_cmpR (op_geT hr.units0) (pe_f G_hello_at (hr.mono (by decide)) (by rfl) (pa_cons (pv 0) (pa_cons (pv 1) (pa_cons (pv 3) pa_nil)))) (pv 4) (nomark _))))) (pss_one (ps_asg (pe_gi T.i_BLOCKED rfl) (pg_sub (pv 2) (pv 3) set_list))) pss_nil)))
      (pss_cons (ps_if (pt_cmpR op_ne (pe_fld (pv 1) rfl) (pe_gi T.i_NO_PORT rfl) (nomark _)) (pss_one (ps_asg (pe_gi T.i_ROOT rfl) (pg_sub (pv 2) (pe_fld (pv 1) rfl) set_list))) pss_nil)
      (pss_one (ps_ret (pv 2)))))), ?_⟩)
  obtain ⟨ow, i, a, x, dx, l, st, ws, kvs, hd, v, rfl, B, hn, hon, hh, hvp, hQ⟩ := h
  obtain ⟨dh, rt, h1, h2⟩ := hh
  refine r_seq (r_asg (lc_const fun r hr => nx ?_))
  have e0 : Same H (upd H r (.lst (List.replicate 16 (.int 2)))) := same_new hr
  have z0 : List.replicate 16 (V.int 2) = (List.range 16).map (halfV x v 0) := by
    rw [rep_range]
    refine congrArg (fun f => (List.range 16).map f) (funext fun i => ?_)
    unfold halfV
    rw [if_neg fun z => Nat.not_lt_zero _ z.1]
  refine r_seq (r_for (r_enum (r_cons (go ((B.same e0).fhellos T vv) (r_nil ⟨l 3, ws 3, rfl, SqL.of (e0 _ _ (B.lst 3 (by decide))), for_it walk_enum
    (fun k σ H' => ∃ v3 v4, σ = [some (.ref a), some (.ref hd), some (.ref r), v3, v4] ∧ Same H H' ∧ H' r = some (.lst ((List.range 16).map (halfV x v k)))) ⟨none, none, rfl, e0, by rw [← z0]; exact upd_same⟩ (fun b σ H' _ ⟨_, _, _, e1, _⟩ => SqL.of (e1 _ _ (B.lst 3 (by decide)))) ?hs ?hd⟩)))))
  case hs =>
    rintro k y σ H1 H2 hk ⟨v3, v4, rfl, e1, hl⟩ ⟨t, z1, u, rfl, ht, rfl, y1, y2⟩
    cases y1
    have hk2 : k < x.ports.length := by
      rw [B.len 3 (by decide)] at hk
      exact hk
    have hx : Hel H u (x.ports.getD k {}).heard := B.val 3 (by decide) k u y2
    have e2 : Same H (upd H1 t (.tup [.int (k : Nat), u])) := e1.trans (same_new ht)
    have hl2 : (upd H1 t (.tup [.int (k : Nat), u])) r = some (.lst ((List.range 16).map (halfV x v k))) := same_new ht _ _ hl
    have no : worse x v k = false → (List.range 16).map (halfV x v (k + 1)) = (List.range 16).map (halfV x v k) := fun q => by
      refine congrArg (fun f => (List.range 16).map f) (funext fun i => ?_)
      unfold halfV
      by_cases hi : i = k
      · rw [hi, q, if_neg fun z => Bool.false_ne_true z.2, if_neg fun z => Bool.false_ne_true z.2]
      · have : i < k + 1 ↔ i < k := by omega
        simp only [this]
    have yes : worse x v k = true → (List.range 16).map (halfV x v (k + 1)) = ((List.range 16).map (halfV x v k)).set k (.int 3) := fun q => by
      rw [range_set]
      refine congrArg (fun f => (List.range 16).map f) (funext fun i => ?_)
      unfold halfV
      by_cases hi : i = k
      · rw [if_pos hi, hi, if_pos ⟨Nat.lt_succ_self k, q⟩]
      · have : i < k + 1 ↔ i < k := by omega
        rw [if_neg hi]
        simp only [this]
    refine g2 upd_same (r_if (r_and (r_test (r_op (go vv (r_c ⟨rfl, _, rfl, ?_⟩))))))
    cases hq : (x.ports.getD k {}).heard with
    | none =>
      rw [hq] at hx
      cases (show u = .non from hx)
      refine if_n (if_n (r_next ⟨_, _, rfl, e2, ?_⟩))
      rw [no (by unfold worse; rw [hq])]
      exact hl2
    | some h =>
      rw [hq] at hx
      obtain ⟨ua, rfl, hu⟩ := hx
      refine if_y (r_test (r_op (r_call (r_cons (go vv (r_cons (go vv (r_cons (go vv (r_nil ?_))))))))))
      refine ⟨ow, i, a, x, dx, l, st, ws, kvs, k, hd, v, rfl, B.same e2, hk2, ⟨dh, rt, e2 _ _ h1, e2 _ _ h2⟩, fun p H3 e3 hp => ?_⟩
      refine go vv (v_geR hp (e3 _ _ (e2 _ _ hu)) rfl ⟨_, rfl, ?_⟩)
      have hw : worse x v k = !Vbcnac.less (Vbcnac.offer x v k (x.ports.getD k {})).key h.told.key := by
        unfold worse
        rw [hq]
      rw [← hw]
      cases q : worse x v k with
      | false =>
        refine if_n (r_next ⟨_, _, rfl, e2.trans e3, ?_⟩)
        rw [no q]
        exact e3 _ _ hl2
      | true =>
        refine if_y (r_setL val_c vv vv (e3 _ _ hl2) (by rw [List.length_map, List.length_range, ← hn]; exact hk2) ⟨_, _, rfl, same_upd (e2.trans e3) hr, ?_⟩)
        rw [yes q]
        exact upd_same
  case hd =>
    rintro σ H1 ⟨v3, v4, rfl, e1, hl⟩
    rw [B.len 3 (by decide), hn] at hl
    have hf : ValS (tFld K (tVar 1) "place") [some (.ref a), some (.ref hd), some (.ref r), v3, v4] H1 (placeV v.port) := vs_fld (fs := heldF (.ref rt) (.int (v.cost : Nat)) (placeV v.port) (.int (v.age : Nat))) vs_var (e1 _ _ h1) T.c_Held T.n_Held_place rfl
    cases hp : v.port with
    | none =>
      rw [hp] at hf
      refine nx (r_seq (r_if (r_test (r_op (hf.go (r_c ⟨rfl, _, rfl, if_n (r_next (nx (r_ret (go vv (hQ r H1 e1 hr ?_)))))⟩))))))
      rw [hl]
      refine congrArg (fun z => some (HO.lst z)) (List.map_congr_left fun i hi => ?_)
      rw [roleV_eq hon, hp, if_neg (by intro z; cases z)]
      unfold halfV
      have := List.mem_range.mp hi
      simp only [this, true_and]
    | some j =>
      rw [hp] at hf
      have hj := hvp j hp
      have hne : (!decide (V.int (j : Nat) = V.int (-1))) = true := by
        rw [decide_eq_false fun z => by have := V.int.inj z; omega]
        rfl
      refine nx (r_seq (r_if (r_test (r_op (hf.go (r_c ⟨rfl, _, rfl, ?_⟩))))))
      show if (!decide (V.int (j : Nat) = V.int (-1))) = true then _ else _
      rw [hne]
      refine if_y (r_setL val_c vv hf.to hl (by rw [List.length_map, List.length_range]; exact hj) (nx (r_ret (go vv (hQ r _ (same_upd e1 hr) hr ?_)))))
      rw [upd_same, range_set]
      refine congrArg (fun z => some (HO.lst z)) (List.map_congr_left fun i hi => ?_)
      rw [roleV_eq hon, hp]
      by_cases hij : i = j
      · rw [if_pos hij, if_pos (by rw [hij])]
      · rw [if_neg hij, if_neg fun z => hij (Option.some.inj z).symm]
        unfold halfV
        have := List.mem_range.mp hi
        simp only [this, true_and]
end
end Sw
namespace Sw
open PySem PySem.Spec PyProof.Rows L2
/-! ### the beginning of a round -/
def ck (c q : Nat) : List Key := [.inl (c : Int), .inl (q : Int)]
theorem ck_inj {c q c' q' : Nat} (h : ck c q = ck c' q') : c = c' ∧ q = q' := by
  unfold ck at h
  simp only [List.cons.injEq, Sum.inl.injEq, and_true] at h
  omega
def HV (H : Hp) (v : Option V) (o : Option (Vbcnac.Told × Nat)) : Prop := match o with
  | none => v = none
  | some x => ∃ t u, v = some (.ref t) ∧ H t = some (.tup [.ref u, .int (x.2 : Nat)]) ∧ H u = some (.tup (told x.1))
theorem HV.mono {H H' : Hp} (e : Tup H H') {v : Option V} : ∀ {o : Option (Vbcnac.Told × Nat)}, HV H v o → HV H' v o
  | none, h => h
  | some _, ⟨t, u, h1, h2, h3⟩ => ⟨t, u, h1, e _ _ h2, e _ _ h3⟩
def rolesAt (s : Vbcnac.State) (b : Nat) : List V := if Vbcnac.isOn s b = true then rolesV (Vbcnac.bridgeAt s b) (Vbcnac.view (Vbcnac.bridgeAt s b)) else []
structure BegL (K : PySem.W.Frag) (H0 H : Hp) (s : Vbcnac.State) (b1 k1 b2 k2 m : Nat) (bg dx r h g : Addr) (rs : List Addr) (kh kg : List (List Key × V)) : Prop where
  e : Same H0 H
  self : H bg = some (.ins (He.ga K "Beginning") dx (begF r h g))
  fr : H0 r = none
  fh : H0 h = none
  fg : H0 g = none
  fb : H0 bg = none
  rl : H r = some (.lst (rs.map V.ref))
  rn : rs.length = m
  rr : ∀ i a, rs[i]? = some a → a ≠ r ∧ H0 a = none ∧ H a = some (.lst (rolesAt s i))
  hh : H h = some (.dT kh)
  gg : H g = some (.dT kg)
  hg : h ≠ g
  lh : kh.length ≤ 16 * b1 + k1
  lg : kg.length ≤ 16 * b2 + k2
  vh : ∀ c q, HV H (valV kh (ck c q)) (hs s b1 k1 c q)
  vg : ∀ c q, valV kg (ck c q) = if gs s b2 k2 c q = true then some (.bl true) else none
section
variable {K : PySem.W.Frag} {H0 H H' : Hp} {s : Vbcnac.State} {b1 k1 b2 k2 m : Nat} {bg dx r h g : Addr} {rs : List Addr} {kh kg : List (List Key × V)}
theorem BegL.same (B : BegL K H0 H s b1 k1 b2 k2 m bg dx r h g rs kh kg) (e : Same H H') : BegL K H0 H' s b1 k1 b2 k2 m bg dx r h g rs kh kg :=
  ⟨B.e.trans e, e _ _ B.self, B.fr, B.fh, B.fg, B.fb, e _ _ B.rl, B.rn, fun i a ha => ⟨(B.rr i a ha).1, (B.rr i a ha).2.1, e _ _ (B.rr i a ha).2.2⟩, e _ _ B.hh, e _ _ B.gg, B.hg, B.lh, B.lg, fun c q => (B.vh c q).mono (Tup.of_same e), B.vg⟩
theorem BegL.app (B : BegL K H0 H s b1 k1 b2 k2 m bg dx r h g rs kh kg) {a : Addr} (ha : H a = some (.lst (rolesAt s m))) (hf : H0 a = none) (hr : a ≠ r) : BegL K H0 (upd H r (.lst (rs.map V.ref ++ [.ref a]))) s b1 k1 b2 k2 (m + 1) bg dx r h g (rs ++ [a]) kh kg := by
  have t : Tup H (upd H r (.lst (rs.map V.ref ++ [.ref a]))) := tup_upd B.rl rfl
  refine ⟨same_upd B.e B.fr, by rw [upd_ne (ne_of B.self B.rl (by intro z; cases z))]; exact B.self, B.fr, B.fh, B.fg, B.fb, ?_, by rw [List.length_append, B.rn]; rfl, fun i c hi => ?_, by rw [upd_ne (ne_of B.hh B.rl (by intro z; cases z))]; exact B.hh, by rw [upd_ne (ne_of B.gg B.rl (by intro z; cases z))]; exact B.gg, B.hg, B.lh, B.lg, fun c q => (B.vh c q).mono t, B.vg⟩
  · rw [upd_same, List.map_append]
    rfl
  · by_cases hlt : i < rs.length
    · rw [List.getElem?_append_left hlt] at hi
      obtain ⟨h1, h2, h3⟩ := B.rr i c hi
      exact ⟨h1, h2, by rw [upd_ne h1]; exact h3⟩
    · rw [List.getElem?_append_right (by omega)] at hi
      have hi0 : i - rs.length = 0 := by
        apply Decidable.byContradiction
        intro y
        rw [List.getElem?_eq_none (by simp; omega)] at hi
        cases hi
      rw [hi0] at hi
      cases hi
      have hie : i = m := by rw [← B.rn]; omega
      rw [hie]
      exact ⟨hr, hf, by rw [upd_ne hr]; exact ha⟩
theorem BegL.puth (B : BegL K H0 H s b1 k1 b2 k2 m bg dx r h g rs kh kg) (S : Sym s) {c q : Nat} (hp : (Vbcnac.portAt s b1 k1).peer = some (c, q)) {v : V} (hv : HV H (some v) (if Vbcnac.isOn s c = true then saysAt s b1 k1 else none)) : BegL K H0 (upd H h (.dT (putK kh (ck c q) v))) s b1 (k1 + 1) b2 k2 m bg dx r h g rs (putK kh (ck c q) v) kg := by
  have t : Tup H (upd H h (.dT (putK kh (ck c q) v))) := tup_upd B.hh rfl
  refine ⟨same_upd B.e B.fh, by rw [upd_ne (ne_of B.self B.hh (by intro z; cases z))]; exact B.self, B.fr, B.fh, B.fg, B.fb, by rw [upd_ne (ne_of B.rl B.hh (by intro z; cases z))]; exact B.rl, B.rn, fun i a ha => ?_, upd_same, by rw [upd_ne B.hg.symm]; exact B.gg, B.hg, ?_, B.lg, fun c' q' => ?_, B.vg⟩
  · obtain ⟨h1, h2, h3⟩ := B.rr i a ha
    exact ⟨h1, h2, by rw [upd_ne (ne_of h3 B.hh (by intro z; cases z))]; exact h3⟩
  · have := length_putK kh (ck c q) v
    have := B.lh
    omega
  · rw [valV_put]
    by_cases e : ck c' q' = ck c q
    · obtain ⟨rfl, rfl⟩ := ck_inj e
      rw [if_pos e, (hs_eq S hp).1]
      exact hv.mono t
    · rw [if_neg e, hs_ne (ne_of_peer S hp fun z => e (by rw [z.1, z.2]))]
      exact (B.vh c' q').mono t
theorem BegL.noth (B : BegL K H0 H s b1 k1 b2 k2 m bg dx r h g rs kh kg) (S : Sym s) (hp : ∀ c q, (Vbcnac.portAt s b1 k1).peer = some (c, q) → (if Vbcnac.isOn s c = true then saysAt s b1 k1 else none) = none) : BegL K H0 H s b1 (k1 + 1) b2 k2 m bg dx r h g rs kh kg := by
  refine { B with lh := Nat.le_succ_of_le B.lh, vh := fun c' q' => ?_ }
  cases e : (Vbcnac.portAt s b1 k1).peer with
  | none =>
    rw [hs_ne (ne_of_none_peer S e)]
    exact B.vh c' q'
  | some x =>
    by_cases z : c' = x.1 ∧ q' = x.2
    · have e2 : (Vbcnac.portAt s b1 k1).peer = some (c', q') := by rw [e, z.1, z.2]
      obtain ⟨h1, h2⟩ := hs_eq S e2
      have h3 := B.vh c' q'
      rw [h2] at h3
      rw [h1, hp c' q' e2]
      exact h3
    · rw [hs_ne (ne_of_peer S (c0 := x.1) (q0 := x.2) e z)]
      exact B.vh c' q'
theorem BegL.putg (B : BegL K H0 H s b1 k1 b2 k2 m bg dx r h g rs kh kg) (S : Sym s) {c q : Nat} (hp : (Vbcnac.portAt s b2 k2).peer = some (c, q)) (hv : ((Vbcnac.portAt s b2 k2).notice && Vbcnac.forwards s b2 k2 && Vbcnac.forwards s c q) = true) : BegL K H0 (upd H g (.dT (putK kg (ck c q) (.bl true)))) s b1 k1 b2 (k2 + 1) m bg dx r h g rs kh (putK kg (ck c q) (.bl true)) := by
  have t : Tup H (upd H g (.dT (putK kg (ck c q) (.bl true)))) := tup_upd B.gg rfl
  refine ⟨same_upd B.e B.fg, by rw [upd_ne (ne_of B.self B.gg (by intro z; cases z))]; exact B.self, B.fr, B.fh, B.fg, B.fb, by rw [upd_ne (ne_of B.rl B.gg (by intro z; cases z))]; exact B.rl, B.rn, fun i a ha => ?_, by rw [upd_ne B.hg]; exact B.hh, upd_same, B.hg, B.lh, ?_, fun c' q' => (B.vh c' q').mono t, fun c' q' => ?_⟩
  · obtain ⟨h1, h2, h3⟩ := B.rr i a ha
    exact ⟨h1, h2, by rw [upd_ne (ne_of h3 B.gg (by intro z; cases z))]; exact h3⟩
  · have := length_putK kg (ck c q) (.bl true)
    have := B.lg
    omega
  · rw [valV_put]
    by_cases e : ck c' q' = ck c q
    · obtain ⟨rfl, rfl⟩ := ck_inj e
      rw [if_pos e, (gs_eq S hp).1, hv, if_pos rfl]
    · rw [if_neg e, gs_ne (ne_of_peer S hp fun z => e (by rw [z.1, z.2]))]
      exact B.vg c' q'
theorem BegL.notg (B : BegL K H0 H s b1 k1 b2 k2 m bg dx r h g rs kh kg) (S : Sym s) (hp : ∀ c q, (Vbcnac.portAt s b2 k2).peer = some (c, q) → ((Vbcnac.portAt s b2 k2).notice && Vbcnac.forwards s b2 k2 && Vbcnac.forwards s c q) = false) : BegL K H0 H s b1 k1 b2 (k2 + 1) m bg dx r h g rs kh kg := by
  refine { B with lg := Nat.le_succ_of_le B.lg, vg := fun c' q' => ?_ }
  cases e : (Vbcnac.portAt s b2 k2).peer with
  | none =>
    rw [gs_ne (ne_of_none_peer S e)]
    exact B.vg c' q'
  | some x =>
    by_cases z : c' = x.1 ∧ q' = x.2
    · have e2 : (Vbcnac.portAt s b2 k2).peer = some (c', q') := by rw [e, z.1, z.2]
      obtain ⟨h1, h2⟩ := gs_eq S e2
      have h3 := B.vg c' q'
      rw [h2] at h3
      rw [h1, hp c' q' e2]
      exact h3
    · rw [gs_ne (ne_of_peer S (c0 := x.1) (q0 := x.2) e z)]
      exact B.vg c' q'
theorem BegL.row (I : Inv s) (B : BegL K H0 H s b1 16 b1 16 m bg dx r h g rs kh kg) : BegL K H0 H s (b1 + 1) 0 (b1 + 1) 0 m bg dx r h g rs kh kg := by
  refine { B with lh := by have := B.lh; omega, lg := by have := B.lg; omega, vh := fun c q => ?_, vg := fun c q => ?_ }
  · rw [← hs_end I]
    exact B.vh c q
  · rw [← gs_end I]
    exact B.vg c q
theorem BegL.off (ho : Vbcnac.isOn s b1 = false) (B : BegL K H0 H s b1 0 b1 0 m bg dx r h g rs kh kg) : BegL K H0 H s (b1 + 1) 0 (b1 + 1) 0 m bg dx r h g rs kh kg := by
  refine { B with lh := by have := B.lh; omega, lg := by have := B.lg; omega, vh := fun c q => ?_, vg := fun c q => ?_ }
  · rw [← hs_off ho]
    exact B.vh c q
  · rw [← gs_off ho]
    exact B.vg c q
end
end Sw
namespace Sw
open PySem PySem.Spec PyProof.Rows L2
theorem r_seq2 {t u : TS} {D : Ends} {σ : L2.St} {H : Hp} (M : Hp → Prop) (h2 : ∀ H', M H' → u D σ H') (h1 : (∀ H', M H' → u D σ H') → t { D with nx := u D } σ H) : tSeq t u D σ H := h1 h2
section
variable {K : PySem.W.Frag} {ow ow' : Addr → Nat} {as : List Addr} {H H' : Hp} {n : Addr} {s : Vbcnac.State}
/-- what is worked out at the beginning of a round -/
structure BegAt (K : PySem.W.Frag) (ow : Addr → Nat) (H : Hp) (s : Vbcnac.State) (bg dx r h g : Addr) (rs : List Addr) (kh kg : List (List Key × V)) : Prop where
  self : H bg = some (.ins (He.ga K "Beginning") dx (begF r h g))
  rl : H r = some (.lst (rs.map V.ref))
  rn : rs.length = s.bridges.length
  rr : ∀ i a, rs[i]? = some a → ow a = 0 ∧ H a = some (.lst (rolesAt s i))
  hh : H h = some (.dT kh)
  gg : H g = some (.dT kg)
  ob : ow bg = 0
  or_ : ow r = 0
  oh : ow h = 0
  og : ow g = 0
  vh : ∀ c q, Vbcnac.isOn s c = true → HV H (valV kh (ck c q)) (hearsAt s c q)
  vg : ∀ c q, Vbcnac.isOn s c = true → valV kg (ck c q) = if Vbcnac.noticed s (Vbcnac.portAt s c q) = true then some (.bl true) else none
theorem BegAt.later {bg dx r h g : Addr} {rs : List Addr} {kh kg : List (List Key × V)} (B : BegAt K ow H s bg dx r h g rs kh kg) (F : Frm ow H H') (G : Grow H ow ow') (t : Tup H H') : BegAt K ow' H' s bg dx r h g rs kh kg := by
  have z : ∀ b o, H b = some o → ow b = 0 → ow' b = 0 := fun b o h1 h2 => by
    apply Decidable.byContradiction
    intro q
    rcases G b q with y | y
    · exact y h2
    · rw [y] at h1
      cases h1
  exact ⟨F _ _ B.self B.ob, F _ _ B.rl B.or_, B.rn, fun i a ha => ⟨z _ _ (B.rr i a ha).2 (B.rr i a ha).1, F _ _ (B.rr i a ha).2 (B.rr i a ha).1⟩, F _ _ B.hh B.oh, F _ _ B.gg B.og, z _ _ B.self B.ob, z _ _ B.rl B.or_, z _ _ B.hh B.oh, z _ _ B.gg B.og, fun c q h => (B.vh c q h).mono t, B.vg⟩
end
section
variable {P : Program} {w : World} {K : PySem.W.Frag} {mg : Str → Option Value} {base : Heap}
theorem says_of {s : Vbcnac.State} {b k : Nat} (hk : k < (Vbcnac.bridgeAt s b).ports.length) : saysAt s b k = if roleAt s b k = .designated then some (Vbcnac.offer (Vbcnac.bridgeAt s b) (Vbcnac.view (Vbcnac.bridgeAt s b)) k (Vbcnac.portAt s b k), (Vbcnac.view (Vbcnac.bridgeAt s b)).age) else none := by
  unfold saysAt
  by_cases h : roleAt s b k = .designated
  · rw [if_pos ⟨hk, h⟩, if_pos h]
  · rw [if_neg fun z => h z.2, if_neg h]
theorem role_two {s : Vbcnac.State} {b k : Nat} : decide (V.int (Vbcnac.roleNumber (roleAt s b k) : Nat) = V.int 2) = decide (roleAt s b k = .designated) := by
  cases roleAt s b k <;> rfl
def sp_beginning_of (K : PySem.W.Frag) : Sp := fun vs H Q _ => ∃ ow as n s, vs = [.ref n] ∧ NetAt K ow as H n s ∧ Inv s ∧ ∀ bg H', Same H H' → (∃ dx r h g rs kh kg, BegAt K ow H' s bg dx r h g rs kh kg) → Q (.ref bg) H'
theorem sc_beginning_of : FnScope ["net", "beginning", "number", "bridge", "held", "roles", "place", "other"] ["net"] D_beginning_of.scope := ⟨rfl, rfl, rfl, by decide +kernel, rfl, by decide +kernel, by decide +kernel⟩
-- level 4; slots 0:net 1:beginning 2:number 3:bridge 4:held 5:roles 6:place 7:other; captured []
theorem ok_beginning_of (T : Txt K mg) (G_Beginning : DoesC P w K mg base 1 "Beginning" ["self"] (sp_Beginning K)) (G_held_by : Does P w K mg base 3 "held_by" ["bridge"] (sp_held_by K)) (G_roles_of : Does P w K mg base 3 "roles_of" ["bridge", "held"] (sp_roles_of K)) (G_hello_at : Does P w K mg base 2 "hello_at" ["bridge", "held", "place"] (sp_hello_at K)) (G_forwards : Does P w K mg base 1 "forwards" ["net", "port"] (sp_forwards K)) : Does P w K mg base 4 "beginning_of" ["net"] (sp_beginning_of K) := by
  refine does_of T 22 (d := D_beginning_of) rfl rfl rfl rfl T.g_beginning_of sc_beginning_of (fun _ _ _ _ _ _ us hl => match us, hl with | [_], _ => rfl) (fun vs H Q E h => by obtain ⟨_, _, _, _, rfl, _⟩ := h; rfl) (fun cdv A outer s H vs Q E hr h => ⟨_, (pss_cons (ps_set (i := 1) sc_beginning_of.nd rfl (.inl rfl) (pe_c0 T.m_Beginning T.g_Beginning G_Beginning.ex (hr.mono (by decide)) (by rfl)))
      (pss_cons (ps_for PassesOwn.never rfl (pi_enum (by rfl) T.f_enumerate (pa_cons (pe_fld (pv 0) rfl) pa_nil)) (pg_tup (n := 2) rfl (pgs_cons (pg_name (i := 2) sc_beginning_of.nd rfl (.inl rfl)) (pgs_cons (pg_name (i := 3) sc_beginning_of.nd rfl (.inl rfl)) pgs_nil))) (pss_one (ps_if (pt_val (pe_fld (pv 3) rfl)) (pss_cons (ps_set (i := 4) sc_beginning_of.nd rfl (.inl rfl) (pe_f G_held_by (hr.mono (by decide)) (by rfl) (pa_cons (pv 3) pa_nil)))
      (pss_cons (ps_set (i := 5) sc_beginning_of.nd rfl (.inl rfl) (pe_f G_roles_of (hr.mono (by decide)) (by rfl) (pa_cons (pv 3) (pa_cons (pv 4) pa_nil))))
      (pss_cons (ps_expr (pe_bm PySem.F.plainAttrs_list PySem.F.slot_list_append PySem.F.type_list_append mt_append (pe_fld (pv 1) rfl) (pa_cons (pv 5) pa_nil)))
      (pss_one (ps_for PassesOwn.never rfl (pi_enum (by rfl) T.f_enumerate (pa_cons (pe_fld (pv 3) rfl) pa_nil)) (pg_tup (n := 2) rfl (pgs_cons (pg_name (i := 6) sc_beginning_of.nd rfl (.inl rfl)) (pgs_cons (pg_name (i := 7) sc_beginning_of.nd rfl (.inl rfl)) pgs_nil))) (pss_one (ps_if (pt_cmpR op_notN (pv 7) pe_non (nomark _)) (pss_cons (ps_if (PW.pt (pw_and (pt_cmpR op_eq (pe_ix ix_list (pv 5) (pv 6) (fun _ _ => rfl)) (pe_gi T.i_DESIGNATED rfl) (nomark _)) (pw_and1 (pt_val (pe_fld (pe_ix ix_list (pe_fld (pv 0) rfl) (pe_ix ix_tup (pv 7) pe_int (fun _ _ => rfl)) (fun _ _ => rfl)) rfl))))) (pss_one (ps_dput (hu_of hr) (pe_fld (pv 1) rfl) (pv 7) (pe_tup (pa_cons (pe_f G_hello_at (hr.mono (by decide)) (by rfl) (pa_cons (pv 3) (pa_cons (pv 4) (pa_cons (pv 6) pa_nil)))) (pa_cons (pe_fld (pv 4) rfl) pa_nil))) rfl)) pss_nil)
      (pss_one (ps_if (PW.pt (pw_and (pt_val (pe_ix ix_list (pe_fld (pv 3) rfl) (pv 6) (fun _ _ => rfl))) (pw_and (pt_val (pe_f G_forwards (hr.mono (by decide)) (by rfl) (pa_cons (pv 0) (pa_cons (pe_tup (pa_cons (pv 2) (pa_cons (pv 6) pa_nil))) pa_nil)))) (pw_and1 (pt_val (pe_f G_forwards (hr.mono (by decide)) (by rfl) (pa_cons (pv 0) (pa_cons (pv 7) pa_nil)))))))) (pss_one (ps_dput (hu_of hr) (pe_fld (pv 1) rfl) (pv 7) pe_bl rfl)) pss_nil))) pss_nil))))))) (pss_one (ps_expr (pe_bm PySem.F.plainAttrs_list PySem.F.slot_list_append PySem.F.type_list_append mt_append (pe_fld (pv 1) rfl) (pa_cons (pe_lst pa_nil) pa_nil)))))))
      (pss_one (ps_ret (pv 1))))), ?_⟩)
  obtain ⟨ow, as, n, s, rfl, N, I, hQ⟩ := h
  obtain ⟨dn, bl, k1, k2, k3, k4⟩ := N.ex
  refine r_seq (r_set (r_make (r_nil fun bg dx hbg hdx hne => ?_)))
  have e0 : Same H (upd (upd H dx (.own bg)) bg (.ins (He.ga K "Beginning") dx [])) := fun b o h => by
    rw [upd_ne (ne_of_none h hbg), upd_ne (ne_of_none h hdx)]
    exact h
  refine ⟨bg, dx, rfl, upd_same, fun H1 r h g i1 i2 i3 i4 i5 i6 i7 i8 i9 => ⟨rfl, nx ?_⟩⟩
  have e1 : Same H H1 := fun b o h => i9 b o (e0 _ _ h) (ne_of_none h hbg)
  have L0 : BegL K H H1 s 0 0 0 0 0 bg dx r h g [] [] [] := ⟨e1, i1, e0.free i2, e0.free i3, e0.free i4, hbg, i6, rfl, fun i a ha => (by rw [List.getElem?_nil] at ha; cases ha), i7, i8, i5, Nat.zero_le _, Nat.zero_le _, fun c q => (by rw [hs_zero]; rfl), fun c q => (by rw [gs_zero]; rfl)⟩
  have hlen : (as.map V.ref).length = s.bridges.length := (List.length_map _).trans N.len
  refine r_seq (r_for (r_enum (r_cons (go (val_fld vv (e1 _ _ k1) T.c_Net T.n_Net_bridges (nF_bridges s bl)) (r_nil ⟨bl, as.map V.ref, rfl, SqL.of (e1 _ _ k2), for_it walk_enum
    (fun b σ H' => ∃ v2 v3 v4 v5 v6 v7 rs kh kg, σ = [some (.ref n), some (.ref bg), v2, v3, v4, v5, v6, v7] ∧ BegL K H H' s b 0 b 0 b bg dx r h g rs kh kg) ⟨none, none, none, none, none, none, [], [], [], rfl, L0⟩ (fun b σ H' _ ⟨_, _, _, _, _, _, _, _, _, _, L⟩ => SqL.of (L.e _ _ k2)) ?hs ?hd⟩)))))
  case hd =>
    rintro σ H2 ⟨v2, v3, v4, v5, v6, v7, rs, kh, kg, rfl, L⟩
    rw [hlen] at L
    refine nx (r_ret (go vv (hQ bg H2 L.e ⟨dx, r, h, g, rs, kh, kg, L.self, L.rl, L.rn, fun i a ha => ⟨N.new (L.rr i a ha).2.1, (L.rr i a ha).2.2⟩, L.hh, L.gg, N.new L.fb, N.new L.fr, N.new L.fh, N.new L.fg, fun c q hc => ?_, fun c q hc => ?_⟩)))
    · have := L.vh c q
      rw [hs_all I hc] at this
      exact this
    · have := L.vg c q
      rw [gs_all I hc] at this
      exact this
  case hs =>
    rintro b y σ H1 H2 hb ⟨v2, v3, v4, v5, v6, v7, rs, kh, kg, rfl, L⟩ ⟨t, z1, z2, rfl, ht, rfl, y1, y2⟩
    cases y1
    have hb2 : b < s.bridges.length := by omega
    obtain ⟨a, ea⟩ := N.addr hb2
    have y3 : (as.map V.ref)[b]? = some z2 := y2
    rw [List.getElem?_map, ea] at y3
    cases y3
    obtain ⟨dxb, l, st, ws, kvs, B⟩ := N.br b a ea
    have L2 := L.same (same_new (o := .tup [.int (b : Nat), .ref a]) ht)
    refine g2 upd_same (r_if (r_tb (go ((B.same L2.e).fon T vv) ⟨_, rfl, ?_⟩)))
    cases hon : (Vbcnac.bridgeAt s b).on with
    | false =>
      have ho : Vbcnac.isOn s b = false := by rw [isOn_at hb2, hon]
      refine if_n (r_drop (r_bm (go (val_fld (fs := begF r h g) (v := .ref r) vv L2.self T.c_Beginning T.n_Beginning_roles rfl) ⟨ty_list L2.rl, r_cons (r_lst (r_nil ⟨by show 0 ≤ sizeLine; decide, fun p hp => r_nil ⟨r, rs.map V.ref, .ref p, rfl, rfl, same_new hp _ _ L2.rl, ?_, ?_⟩⟩))⟩)))
      · rw [List.length_map, L.rn]
        exact Nat.lt_of_lt_of_le hb2 (Nat.le_trans I.nb (by decide))
      · have L3 := (L2.same (same_new (o := .lst []) hp)).app (a := p) (by unfold rolesAt; rw [if_neg (by rw [ho]; decide)]; exact upd_same) (L2.e.free hp) (ne_of_none L2.rl hp).symm
        exact ⟨_, _, _, _, _, _, _, _, _, rfl, L3.off ho⟩
    | true =>
      have ho : Vbcnac.isOn s b = true := by rw [isOn_at hb2, hon]
      refine if_y (r_seq (r_set (r_call (r_cons (go vv (r_nil ?_))))))
      refine ⟨ow, b, a, _, dxb, l, st, ws, kvs, rfl, B.same L2.e, fun hd H3 e3 hh3 => nx ?_⟩
      have L3 := L2.same e3
      refine r_seq (r_set (r_call (r_cons (go vv (r_cons (go vv (r_nil ?_)))))))
      refine ⟨ow, b, a, _, dxb, l, st, ws, kvs, hd, _, rfl, B.same L3.e, I.np b hb2, hon, hh3, fun i hi => ?_, fun ra H4 e4 hra hrl => nx ?_⟩
      · obtain ⟨p, x, hp, _⟩ := view_port hi
        rw [← I.np b hb2]
        exact (List.getElem?_eq_some_iff.mp hp).1
      have L4 := L3.same e4
      have hh4 := hh3.same e4
      refine r_seq (r_drop (r_bm (go (val_fld (fs := begF r h g) (v := .ref r) vv L4.self T.c_Beginning T.n_Beginning_roles rfl) ⟨ty_list L4.rl, r_cons (go vv (r_nil ⟨r, rs.map V.ref, .ref ra, rfl, rfl, L4.rl, ?_, nx ?_⟩))⟩)))
      · rw [List.length_map, L.rn]
        exact Nat.lt_of_lt_of_le hb2 (Nat.le_trans I.nb (by decide))
      have L5 := L4.app (a := ra) (by unfold rolesAt; rw [if_pos ho]; exact hrl) (L3.e.free hra) (ne_of_none L3.rl hra).symm
      have hra5 : (rs ++ [ra])[b]? = some ra := by
        rw [List.getElem?_append_right (by rw [L.rn]; exact Nat.le_refl _), L.rn, Nat.sub_self]
        rfl
      have hh5 : HeldAt K (upd H4 r (.lst (rs.map V.ref ++ [.ref ra]))) hd (Vbcnac.view (Vbcnac.bridgeAt s b)) := by
        obtain ⟨dh, rt, q1, q2⟩ := hh4
        exact ⟨dh, rt, by rw [upd_ne (ne_of q1 L4.rl (by intro z; cases z))]; exact q1, by rw [upd_ne (ne_of q2 L4.rl (by intro z; cases z))]; exact q2⟩
      refine r_for (r_enum (r_cons (go (val_fld vv (L5.e _ _ B.self) T.c_Bridge T.n_Bridge_cables (bF_cables _ l st)) (r_nil ⟨l 2, ws 2, rfl, SqL.of (L5.e _ _ (B.lst 2 (by decide))), for_it walk_enum
        (fun k σ H' => ∃ v6 v7 kh kg, σ = [some (.ref n), some (.ref bg), some (.int (b : Nat)), some (.ref a), some (.ref hd), some (.ref ra), v6, v7] ∧ BegL K H H' s b k b k (b + 1) bg dx r h g (rs ++ [ra]) kh kg ∧ HeldAt K H' hd (Vbcnac.view (Vbcnac.bridgeAt s b))) ⟨v6, v7, kh, kg, rfl, L5, hh5⟩ (fun k σ H' _ ⟨_, _, _, _, _, L, _⟩ => SqL.of (L.e _ _ (B.lst 2 (by decide)))) ?hs2 ?hd2⟩))))
      case hd2 =>
        rintro σ H6 ⟨v6, v7, kh, kg, rfl, L6, hh6⟩
        rw [B.len 2 (by decide), I.np b hb2] at L6
        exact ⟨_, _, _, _, _, _, _, _, _, rfl, L6.row I⟩
      case hs2 =>
        rintro k y σ H6 H7 hk ⟨v6, v7, kh, kg, rfl, L6, hh6⟩ ⟨t2, z1, v, rfl, ht2, rfl, y1, y2⟩
        cases y1
        have hk2 : k < (Vbcnac.bridgeAt s b).ports.length := by
          rw [B.len 2 (by decide)] at hk
          exact hk
        have hc : Cab H v (Vbcnac.portAt s b k).peer := B.val 2 (by decide) k v y2
        have L7 := L6.same (same_new (o := .tup [.int (k : Nat), v]) ht2)
        have hh7 := hh6.same (same_new (o := .tup [.int (k : Nat), v]) ht2)
        refine g2 upd_same (r_if (r_test (r_op (go vv (r_c ⟨rfl, _, rfl, ?_⟩)))))
        cases hx : (Vbcnac.portAt s b k).peer with
        | none =>
          rw [hx] at hc
          cases (show v = .non from hc)
          exact if_n (r_next ⟨_, _, kh, kg, rfl, (L7.noth I.sym fun c q z => (by rw [hx] at z; cases z)).notg I.sym fun c q z => (by rw [hx] at z; cases z), hh7⟩)
        | some x =>
          obtain ⟨c, q⟩ := x
          rw [hx] at hc
          obtain ⟨o, rfl, ho7⟩ := hc
          obtain ⟨_, hk16, hcl, hq16⟩ := I.peer hx
          have only : ∀ c' q', (Vbcnac.portAt s b k).peer = some (c', q') → c' = c ∧ q' = q := fun c' q' z => by
            rw [hx] at z
            have := Prod.mk.inj (Option.some.inj z)
            exact ⟨this.1.symm, this.2.symm⟩
          have big : ∀ j, j ≤ 16 * b + k → j < sizeLine := fun j hj => Nat.lt_of_lt_of_le (by have := I.nb; omega : j < 1024) (by decide)
          refine if_y (r_seq2 (fun H8 => ∃ kh, BegL K H H8 s b (k + 1) b k (b + 1) bg dx r h g (rs ++ [ra]) kh kg ∧ HeldAt K H8 hd (Vbcnac.view (Vbcnac.bridgeAt s b))) (fun H8 ⟨kh8, L8, hh8⟩ => ?ph2) (fun ph2 => ?ph1))
          case ph1 =>
            have hra7 := (L7.rr b ra hra5).2.2
            have hroles : rolesAt s b = rolesV (Vbcnac.bridgeAt s b) (Vbcnac.view (Vbcnac.bridgeAt s b)) := if_pos ho
            rw [hroles] at hra7
            refine r_if (r_and (r_test (r_op (go (v_ixL (j := k) (v := .int (Vbcnac.roleNumber (roleAt s b k) : Nat)) vv vv hra7 ?_) (r_c ⟨rfl, _, rfl, ?_⟩)))))
            · unfold rolesV
              rw [List.getElem?_map, List.getElem?_range hk16]
              rfl
            rw [role_two]
            cases h1 : decide (roleAt s b k = .designated) with
            | false =>
              refine if_n (if_n (r_next (ph2 _ ⟨kh, L7.noth I.sym fun c' q' z => ?_, hh7⟩)))
              rw [says_of hk2, if_neg (of_decide_eq_false h1), ite_self]
            | true =>
              obtain ⟨ac, eac⟩ := N.addr hcl
              obtain ⟨dxc, lc, stc, wsc, kvsc, C⟩ := N.br c ac eac
              refine if_y (r_tb (go ((C.same L7.e).fon T ((N.same L7.e).bridge T eac vv (v_ixT (j := 0) (xs := [.int (c : Nat), .int (q : Nat)]) vv (SqT.of (L7.e _ _ ho7)) rfl))) ⟨_, rfl, ?_⟩))
              cases h2 : (Vbcnac.bridgeAt s c).on with
              | false =>
                refine if_n (r_next (ph2 _ ⟨kh, L7.noth I.sym fun c' q' z => ?_, hh7⟩))
                rw [(only c' q' z).1, isOn_at hcl, h2]
                rfl
              | true =>
                refine if_y (r_dput (r_tup (r_cons (r_call (r_cons (go vv (r_cons (go vv (r_cons (go vv (r_nil ?_)))))))))))
                refine ⟨ow, b, a, _, dxb, l, st, ws, kvs, k, hd, _, rfl, B.same L7.e, hk2, hh7, fun u H8 e8 hu => ?_⟩
                have hh8 := hh7.same e8
                have L8 := L7.same e8
                obtain ⟨dh, rt, q1, q2⟩ := hh8
                refine r_cons (go (val_fld (fs := heldF (.ref rt) (.int ((Vbcnac.view (Vbcnac.bridgeAt s b)).cost : Nat)) (placeV (Vbcnac.view (Vbcnac.bridgeAt s b)).port) (.int ((Vbcnac.view (Vbcnac.bridgeAt s b)).age : Nat))) (v := .int ((Vbcnac.view (Vbcnac.bridgeAt s b)).age : Nat)) vv q1 T.c_Held T.n_Held_age rfl) (r_nil ⟨by show 2 ≤ sizeLine; decide, fun t3 ht3 => ?_⟩))
                have e9 := same_new (o := .tup [.ref u, .int ((Vbcnac.view (Vbcnac.bridgeAt s b)).age : Nat)]) ht3
                have L9 := L8.same e9
                refine go (val_fld (fs := begF r h g) (v := .ref h) vv L9.self T.c_Beginning T.n_Beginning_heard rfl) (go vv ⟨h, _, rfl, DPut.t (k := ck c q) L9.hh (L9.e _ _ ho7) (big _ L9.lh), ph2 _ ⟨_, L9.puth I.sym hx ?_, ?_⟩⟩)
                · rw [isOn_at hcl, h2, if_pos rfl, says_of hk2, if_pos (of_decide_eq_true h1)]
                  exact ⟨t3, u, rfl, upd_same, e9 _ _ hu⟩
                · exact ⟨dh, rt, by rw [upd_ne (ne_of (e9 _ _ q1) L9.hh (by intro z; cases z))]; exact e9 _ _ q1, by rw [upd_ne (ne_of (e9 _ _ q2) L9.hh (by intro z; cases z))]; exact e9 _ _ q2⟩
          case ph2 =>
            obtain ⟨w6, hw6, pw6⟩ := B.get (k := 6) (by decide) hk2
            cases (show w6 = .bl (Vbcnac.portAt s b k).notice from pw6)
            have done : ((Vbcnac.portAt s b k).notice && Vbcnac.forwards s b k && Vbcnac.forwards s c q) = false → ∀ H9, Same H8 H9 → ∃ v6 v7 kh kg', ([some (.ref n), some (.ref bg), some (.int (b : Nat)), some (.ref a), some (.ref hd), some (.ref ra), some (.int (k : Nat)), some (.ref o)] : List (Option V)) = [some (.ref n), some (.ref bg), some (.int (b : Nat)), some (.ref a), some (.ref hd), some (.ref ra), v6, v7] ∧ BegL K H H9 s b (k + 1) b (k + 1) (b + 1) bg dx r h g (rs ++ [ra]) kh kg' ∧ HeldAt K H9 hd (Vbcnac.view (Vbcnac.bridgeAt s b)) := fun z H9 e9 =>
              ⟨_, _, kh8, kg, rfl, (L8.same e9).notg I.sym fun c' q' z2 => (by rw [(only c' q' z2).1, (only c' q' z2).2]; exact z), hh8.same e9⟩
            refine r_if (r_and (r_tb (go (v_ixL ((B.same L8.e).fnotices T vv) vv (L8.e _ _ (B.lst 6 (by decide))) hw6) ⟨_, rfl, ?_⟩)))
            cases g1 : (Vbcnac.portAt s b k).notice with
            | false => exact if_n (if_n (r_next (done (by rw [g1]; rfl) _ (Same.refl _))))
            | true =>
            refine if_y (r_and (r_tb (r_call (r_cons (go vv (r_cons (r_tup (r_cons (go vv (r_cons (go vv (r_nil ⟨by show 2 ≤ sizeLine; decide, fun t4 ht4 => r_nil ?_⟩)))))))))))) 
            have e9 := same_new (o := .tup [.int (b : Nat), .int (k : Nat)]) ht4
            have L9 := L8.same e9
            refine ⟨ow, as, n, s, t4, b, k, rfl, N.same L9.e, upd_same, hb2, hk2, _, rfl, ?_⟩
            cases g2 : Vbcnac.forwards s b k with
            | false => exact if_n (if_n (r_next (done (by rw [g1, g2]; rfl) _ e9)))
            | true =>
            refine if_y (r_tb (r_call (r_cons (go vv (r_cons (go vv (r_nil ?_)))))))
            refine ⟨ow, as, n, s, o, c, q, rfl, N.same L9.e, L9.e _ _ ho7, hcl, by rw [I.np c hcl]; exact hq16, _, rfl, ?_⟩
            cases g3 : Vbcnac.forwards s c q with
            | false => exact if_n (r_next (done (by rw [g1, g2, g3]; rfl) _ e9))
            | true =>
              refine if_y (r_dput (r_c (go (val_fld (fs := begF r h g) (v := .ref g) vv L9.self T.c_Beginning T.n_Beginning_given rfl) (go vv ⟨g, _, rfl, DPut.t (k := ck c q) L9.gg (L9.e _ _ ho7) (big _ L9.lg), _, _, _, _, rfl, L9.putg I.sym hx (by rw [g1, g2, g3]; rfl), ?_⟩))))
              obtain ⟨dh, rt, q1, q2⟩ := hh8
              exact ⟨dh, rt, by rw [upd_ne (ne_of (e9 _ _ q1) L9.gg (by intro z; cases z))]; exact e9 _ _ q1, by rw [upd_ne (ne_of (e9 _ _ q2) L9.gg (by intro z; cases z))]; exact e9 _ _ q2⟩
end
end Sw
namespace Sw
open PySem PySem.Spec PyProof.Rows L2
/-- only one object is another -/
def Only (a : Addr) (H H' : Hp) : Prop := ∀ c o, H c = some o → c ≠ a → H' c = some o
theorem Only.trans {a : Addr} {H H1 H2 : Hp} (h : Only a H H1) (k : Only a H1 H2) : Only a H H2 := fun c o e z => k c o (h c o e z) z
theorem Only.of_same {a : Addr} {H H1 : Hp} (e : Same H H1) : Only a H H1 := fun c o h _ => e c o h
theorem setA_inj {l : Nat → Addr} {i : Nat} {p : Addr} (h : ∀ j k, j < 7 → k < 7 → j ≠ k → l j ≠ l k) (hp : ∀ k, k < 7 → l k ≠ p) : ∀ j k, j < 7 → k < 7 → j ≠ k → setA l i p j ≠ setA l i p k := fun j k hj hk hjk => by
  by_cases y1 : j = i
  · rw [y1, setA_same, setA_ne (fun z => hjk (by rw [y1, z]))]
    exact (hp k hk).symm
  · by_cases y2 : k = i
    · rw [y2, setA_same, setA_ne y1]
      exact hp j hj
    · rw [setA_ne y1, setA_ne y2]
      exact h j k hj hk hjk
section
variable {K : PySem.W.Frag} {ow ow' : Addr → Nat} {as : List Addr} {H H1 H' : Hp} {n a : Addr} {s : Vbcnac.State} {i : Nat} {x' : Vbcnac.Bridge} {dx : Addr} {l l' : Nat → Addr} {st : Addr} {vs vs' : Nat → List V} {kvs : List (Key × V)}
theorem Only.tup {x : Vbcnac.Bridge} (B : BrAt K ow H i a x dx l st vs kvs) (h : Only a H H') : Tup H H' := fun c xs z => h c _ z fun y => by
  rw [y, B.self] at z
  cases z
/-- other lists taken by a bridge -/
theorem NetAt.relist (N : NetAt K ow as H n s) (e : as[i]? = some a) (B : BrAt K ow H i a (Vbcnac.bridgeAt s i) dx l st vs kvs) (on : Only a H H') (hl : ∀ k, k < 7 → l' k = l k ∨ H (l' k) = none) (inj : ∀ j k, j < 7 → k < 7 → j ≠ k → l' j ≠ l' k)
    (h1 : H' a = some (.ins (He.ga K "Bridge") dx (bF x' l' st))) (h2 : ∀ k, k < 7 → H' (l' k) = some (.lst (vs' k))) (h4 : ∀ k, k < 7 → (vs' k).length = x'.ports.length)
    (h5 : ∀ k, k < 7 → ∀ p v, (vs' k)[p]? = some v → PV H' k v (x'.ports.getD p {})) (hst : x'.stations = (Vbcnac.bridgeAt s i).stations) :
    ∃ ow', NetAt K ow' as H' n (Vbcnac.setBridge s i x') ∧ Loc1 i H H' ow ow' := by
  have t : Tup H H' := Only.tup B on
  obtain ⟨M, g, ag⟩ := N.swap e B (l' := l') (st' := st) (vs' := vs') (kvs' := kvs) (x' := x') (fun k hk => (hl k hk).imp id fun z => N.new z) (.inl rfl) inj h1 h2 (on _ _ B.dct B.sa) h4 h5 (by rw [hst]; exact Sta.mono t B.sta) on
  refine ⟨_, M, frm1_of B.oa1 on, ag, fun b z => ?_⟩
  rcases g b z with y | y | ⟨k, hk, y⟩
  · exact .inl y
  · rw [y, B.os]
    exact .inl (by omega)
  · rw [y]
    rcases hl k hk with q | q
    · rw [q, B.ol k hk]
      exact .inl (by omega)
    · exact .inr q
end
section
variable {K : PySem.W.Frag} {ow : Addr → Nat} {as : List Addr} {H H1 : Hp} {n a : Addr} {s : Vbcnac.State} {i : Nat} {dx : Addr} {l : Nat → Addr} {st : Addr} {vs : Nat → List V} {kvs : List (Key × V)}
/-- one list taken by a bridge -/
theorem NetAt.list1 (N : NetAt K ow as H n s) (e : as[i]? = some a) (B : BrAt K ow H i a (Vbcnac.bridgeAt s i) dx l st vs kvs) (e1 : Same H H1) {k0 : Nat} {p : Addr} {vp : List V} {P' : List Vbcnac.Port} (np : H p = none) (hp : H1 p = some (.lst vp)) (lv : vp.length = P'.length) (lp : P'.length = (Vbcnac.bridgeAt s i).ports.length)
    (hk0 : k0 < 7) (hv : ∀ q v, vp[q]? = some v → PV H1 k0 v (P'.getD q {})) (ho : ∀ k, k < 7 → k ≠ k0 → ∀ q v, q < P'.length → PV H1 k v ((Vbcnac.bridgeAt s i).ports.getD q {}) → PV H1 k v (P'.getD q {})) :
    ∃ ow', NetAt K ow' as (upd H1 a (.ins (He.ga K "Bridge") dx (bF (Vbcnac.bridgeAt s i) (setA l k0 p) st))) n (Vbcnac.setBridge s i { Vbcnac.bridgeAt s i with ports := P' }) ∧ Only a H (upd H1 a (.ins (He.ga K "Bridge") dx (bF (Vbcnac.bridgeAt s i) (setA l k0 p) st))) ∧ Loc1 i H (upd H1 a (.ins (He.ga K "Bridge") dx (bF (Vbcnac.bridgeAt s i) (setA l k0 p) st))) ow ow' := by
  have B1 := B.same e1
  have on : Only a H (upd H1 a (.ins (He.ga K "Bridge") dx (bF (Vbcnac.bridgeAt s i) (setA l k0 p) st))) := fun c o q z => by
    rw [upd_ne z]
    exact e1 _ _ q
  have pa : p ≠ a := (ne_of_none B.self np).symm
  have l5 : ∀ k, k < 7 → l k ≠ p := fun k hk => ne_of_none (B.lst k hk) np
  have t1 : Tup H1 (upd H1 a (.ins (He.ga K "Bridge") dx (bF (Vbcnac.bridgeAt s i) (setA l k0 p) st))) := tup_upd B1.self rfl
  obtain ⟨ow', M, C⟩ := N.relist e B (l' := setA l k0 p) (x' := { Vbcnac.bridgeAt s i with ports := P' }) (vs' := fun k => if k = k0 then vp else vs k) on (fun k hk => (by
      by_cases y : k = k0
      · rw [y, setA_same]
        exact .inr np
      · rw [setA_ne y]
        exact .inl rfl)) (setA_inj B.inj l5) upd_same (fun k hk => (by
      by_cases y : k = k0
      · rw [y, setA_same, if_pos rfl, upd_ne pa]
        exact hp
      · rw [setA_ne y, if_neg y, upd_ne (B.la hk)]
        exact e1 _ _ (B.lst k hk))) (fun k hk => (by
      by_cases y : k = k0
      · rw [if_pos y]
        exact lv
      · rw [if_neg y, B.len k hk]
        exact lp.symm)) (fun k hk q v hq => (by
      by_cases y : k = k0
      · rw [if_pos y] at hq
        subst y
        exact PV.mono t1 (hv q v hq)
      · rw [if_neg y] at hq
        have hql : q < P'.length := by
          rw [lp, ← B.len k hk]
          exact (List.getElem?_eq_some_iff.mp hq).1
        exact PV.mono t1 (ho k hk y q v hql (B1.val k hk q v hq)))) rfl
  exact ⟨ow', M, on, C⟩
end
/-! ### a round's ports -/
def nh (s : Vbcnac.State) (b p : Nat) : Option Vbcnac.Heard := match hearsAt s b p with
  | some x => Vbcnac.young s.age { told := x.1, age := x.2 + 1 }
  | none => (Vbcnac.portAt s b p).heard.bind fun h => Vbcnac.young s.age { h with age := h.age + 1 }
def nw (s : Vbcnac.State) (b p : Nat) : Nat := if roleAt s b p = .blocked then 0 else if roleAt s b p = .designated ∧ (hearsAt s b p).isSome = true then 0 else min ((Vbcnac.portAt s b p).wait + 1) s.wait
def ph1 (s : Vbcnac.State) (b : Nat) : List Vbcnac.Port := (List.range 16).map fun p => { Vbcnac.portAt s b p with heard := nh s b p }
def ph2 (s : Vbcnac.State) (b : Nat) : List Vbcnac.Port := (List.range 16).map fun p => { Vbcnac.portAt s b p with heard := nh s b p, wait := nw s b p }
def ph3 (s : Vbcnac.State) (b : Nat) : List Vbcnac.Port := (List.range 16).map fun p => { Vbcnac.portAt s b p with heard := nh s b p, wait := nw s b p, notice := tellAt s b p }
theorem range_getD {f : Nat → Vbcnac.Port} {p : Nat} (h : p < 16) : ((List.range 16).map f).getD p {} = f p := by
  rw [List.getD_eq_getElem?_getD, List.getElem?_map, List.getElem?_range h]
  rfl
/-- the lists of hellos and ages, k ports done -/
def HelL (H : Hp) (s : Vbcnac.State) (b k : Nat) (hl al : List V) : Prop := hl.length = 16 ∧ al.length = 16 ∧ (∀ p v, hl[p]? = some v → Hel H v (if p < k then nh s b p else (Vbcnac.portAt s b p).heard)) ∧
  ∀ p v, al[p]? = some v → ∃ z : Int, v = .int z ∧ ∀ h, (if p < k then nh s b p else (Vbcnac.portAt s b p).heard) = some h → z = h.age
theorem HelL.mono {H H' : Hp} (t : Tup H H') {s : Vbcnac.State} {b k : Nat} {hl al : List V} (h : HelL H s b k hl al) : HelL H' s b k hl al := ⟨h.1, h.2.1, fun p v e => (h.2.2.1 p v e).mono t, h.2.2.2⟩
/-- port k done, with these values -/
theorem HelL.put {H H' : Hp} (t : Tup H H') {s : Vbcnac.State} {b k : Nat} {hl al : List V} (h : HelL H s b k hl al) {v : V} {z : Int} (hv : Hel H' v (nh s b k)) (hz : ∀ h, nh s b k = some h → z = h.age) : HelL H' s b (k + 1) (hl.set k v) (al.set k (.int z)) := by
  refine ⟨by rw [List.length_set]; exact h.1, by rw [List.length_set]; exact h.2.1, fun p u e => ?_, fun p u e => ?_⟩
  · rw [List.getElem?_set] at e
    by_cases q : k = p
    · subst q
      rw [if_pos rfl] at e
      split at e
      · rw [← Option.some.inj e, if_pos (Nat.lt_succ_self k)]
        exact hv
      · cases e
    · rw [if_neg q] at e
      have := (h.2.2.1 p u e).mono t
      have e2 : (p < k + 1) = (p < k) := propext (by omega)
      simp only [e2]
      exact this
  · rw [List.getElem?_set] at e
    by_cases q : k = p
    · subst q
      rw [if_pos rfl] at e
      split at e
      · rw [if_pos (Nat.lt_succ_self k)]
        exact ⟨z, (Option.some.inj e).symm, hz⟩
      · cases e
    · rw [if_neg q] at e
      have := h.2.2.2 p u e
      have e2 : (p < k + 1) = (p < k) := propext (by omega)
      simp only [e2]
      exact this
theorem set_get {xs : List V} {k : Nat} {v : V} (h : xs[k]? = some v) : xs.set k v = xs := by
  refine List.ext_getElem? fun i => ?_
  rw [List.getElem?_set]
  by_cases q : k = i
  · subst q
    rw [if_pos rfl, h, if_pos (List.getElem?_eq_some_iff.mp h).1]
  · rw [if_neg q]
end Sw
namespace Sw
open PySem PySem.Spec PyProof.Rows L2
theorem r_seq3 {t u : TS} {D : Ends} {σ : L2.St} {H : Hp} (M : L2.St → Hp → Prop) (h2 : ∀ σ' H', M σ' H' → u D σ' H') (h1 : (∀ σ' H', M σ' H' → u D σ' H') → t { D with nx := u D } σ H) : tSeq t u D σ H := h1 h2
/-- a port's hello a round older, or another, before it's looked whether it's too old -/
def mh (s : Vbcnac.State) (b p : Nat) : Option Vbcnac.Heard := match hearsAt s b p with
  | some x => some { told := x.1, age := x.2 + 1 }
  | none => (Vbcnac.portAt s b p).heard.map fun h => { h with age := h.age + 1 }
theorem nh_mh (s : Vbcnac.State) (b p : Nat) : nh s b p = (mh s b p).bind (Vbcnac.young s.age) := by
  unfold nh mh
  cases hearsAt s b p with
  | some x => rfl
  | none => cases (Vbcnac.portAt s b p).heard <;> rfl
theorem nh_none {s : Vbcnac.State} {b p : Nat} (h : mh s b p = none) : nh s b p = none := by
  rw [nh_mh, h]
  rfl
theorem nh_old {s : Vbcnac.State} {b p : Nat} {x : Vbcnac.Heard} (h : mh s b p = some x) (ho : s.age < x.age) : nh s b p = none := by
  rw [nh_mh, h]
  show Vbcnac.young s.age x = none
  unfold Vbcnac.young
  rw [if_neg (by omega)]
theorem nh_young {s : Vbcnac.State} {b p : Nat} {x : Vbcnac.Heard} (h : mh s b p = some x) (ho : ¬ s.age < x.age) : nh s b p = some x := by
  rw [nh_mh, h]
  show Vbcnac.young s.age x = some x
  unfold Vbcnac.young
  rw [if_pos (by omega)]
section
variable {P : Program} {w : World} {K : PySem.W.Frag} {mg : Str → Option Value} {base : Heap}
/-! ### renew_hellos -/
def sp_renew_hellos (K : PySem.W.Frag) : Sp := fun vs H Q _ => ∃ n b bg ow as s s0 a dx l st ws kvs db r h g rs kh kg, vs = [.ref n, .int (b : Nat), .ref bg] ∧ NetAt K ow as H n s ∧ as[b]? = some a ∧ BrAt K ow H b a (Vbcnac.bridgeAt s b) dx l st ws kvs ∧ BegAt K ow H s0 bg db r h g rs kh kg ∧ Vbcnac.bridgeAt s b = Vbcnac.bridgeAt s0 b ∧ s.age = s0.age ∧ (Vbcnac.bridgeAt s b).ports.length = 16 ∧ Vbcnac.isOn s0 b = true ∧
  ∀ H' ow', Only a H H' → Loc1 b H H' ow ow' → NetAt K ow' as H' n (Vbcnac.setBridge s b { Vbcnac.bridgeAt s b with ports := ph1 s0 b }) → Q .non H'
theorem sc_renew_hellos : FnScope ["net", "number", "beginning", "bridge", "hellos", "ages", "place", "port", "hello", "age"] ["net", "number", "beginning"] D_renew_hellos.scope := ⟨rfl, rfl, rfl, by decide +kernel, rfl, by decide +kernel, by decide +kernel⟩
-- level 1; slots 0:net 1:number 2:beginning 3:bridge 4:hellos 5:ages 6:place 7:port 8:hello 9:age; captured []
theorem ok_renew_hellos (T : Txt K mg) : Does P w K mg base 1 "renew_hellos" ["net", "number", "beginning"] (sp_renew_hellos K) := by
  refine does_of T 23 (d := D_renew_hellos) rfl rfl rfl rfl T.g_renew_hellos sc_renew_hellos (fun _ _ _ _ _ _ us hl => match us, hl with | [_, _, _], _ => rfl) (fun vs H Q E h => by obtain ⟨_, _, _, _, _, _, _, _, _, _, _, _, _, _, _, _, _, _, _, _, rfl, _⟩ := h; rfl) (fun cdv A outer s H vs Q E hr h => ⟨_, (pss_cons (ps_set (i := 3) sc_renew_hellos.nd rfl (.inl rfl) (pe_ix ix_list (pe_fld (pv 0) rfl) (pv 1) (fun _ _ => rfl)))
      (pss_cons (ps_set (i := 4) sc_renew_hellos.nd rfl (.inl rfl) (pe_callTy call_list_of (by rfl) T.f_list (by decide +kernel) (pa_cons (pe_fld (pv 3) rfl) pa_nil)))
      (pss_cons (ps_set (i := 5) sc_renew_hellos.nd rfl (.inl rfl) (pe_callTy call_list_of (by rfl) T.f_list (by decide +kernel) (pa_cons (pe_fld (pv 3) rfl) pa_nil)))
      (pss_cons (ps_for PassesOwn.never rfl (pi_range1 (by rfl) T.f_range (pa_cons (pe_gi T.i_PORTS rfl) pa_nil)) (pg_name (i := 6) sc_renew_hellos.nd rfl (.inl rfl)) (pss_cons (ps_set (i := 7) sc_renew_hellos.nd rfl (.inl rfl) (pe_tup (pa_cons (pv 1) (pa_cons (pv 6) pa_nil))))
      (pss_cons (ps_if (pt_cmp (pc_din (hu_of hr) (pv 7) (pe_fld (pv 2) rfl)) rfl) (pss_cons (ps_asg (pe_dget (hu_of hr) (pe_fld (pv 2) rfl) (pv 7) (fun _ _ => rfl)) (pg_tup (n := 2) rfl (pgs_cons (pg_name (i := 8) sc_renew_hellos.nd rfl (.inl rfl)) (pgs_cons (pg_name (i := 9) sc_renew_hellos.nd rfl (.inl rfl)) pgs_nil))))
      (pss_cons (ps_asg (pv 8) (pg_sub (pv 4) (pv 6) set_list))
      (pss_one (ps_asg (pe_op op_add (pv 9) pe_int) (pg_sub (pv 5) (pv 6) set_list))))) (pss_one (ps_if (pt_cmpR op_notN (pe_ix ix_list (pv 4) (pv 6) (fun _ _ => rfl)) pe_non (nomark _)) (pss_one (ps_asg (pe_op op_add (pe_ix ix_list (pv 5) (pv 6) (fun _ _ => rfl)) pe_int) (pg_sub (pv 5) (pv 6) set_list))) pss_nil)))
      (pss_one (ps_if (pt_cmpR op_gt (pe_ix ix_list (pv 5) (pv 6) (fun _ _ => rfl)) (pe_fld (pv 0) rfl) (nomark _)) (pss_cons (ps_asg pe_non (pg_sub (pv 4) (pv 6) set_list))
      (pss_one (ps_asg pe_int (pg_sub (pv 5) (pv 6) set_list)))) pss_nil)))))
      (pss_cons (ps_fld (pv 3) (pv 4) rfl)
      (pss_one (ps_fld (pv 3) (pv 5) rfl))))))), ?_⟩)
  obtain ⟨n, b, bg, ow, as, s, s0, a, dx, l, st, ws, kvs, db, r, h, g, rs, kh, kg, rfl, N, e, B, G, hx, hage, l16, hon, hQ⟩ := h
  have hb := N.lt e
  obtain ⟨dn, bl, k1, k2, k3, k4⟩ := N.ex
  refine r_seq (r_set (go (N.bridge T e vv vv) (nx ?_)))
  refine r_seq (r_set (r_cb (r_cons (go (B.fhellos T vv) (r_nil ⟨l 3, ws 3, rfl, .inl (SqL.of (B.lst 3 (by decide))), fun p4 n4 => nx ?_⟩)))))
  have e4 : Same H (upd H p4 (.lst (ws 3))) := same_new n4
  refine r_seq (r_set (r_cb (r_cons (go ((B.same e4).fages T vv) (r_nil ⟨l 4, ws 4, rfl, .inl (SqL.of (e4 _ _ (B.lst 4 (by decide)))), fun p5 n5 => nx ?_⟩)))))
  have e5 : Same H (upd (upd H p4 (.lst (ws 3))) p5 (.lst (ws 4))) := e4.trans (same_new n5)
  have p54 : p5 ≠ p4 := fun y => by
    rw [y, upd_same] at n5
    cases n5
  have n5' : H p5 = none := e4.free n5
  refine r_seq (r_for (r_range (r_cons (r_c (r_nil ⟨16, rfl, by decide, by decide, for_range (lo := 0) (n := 16)
    (fun k σ H' => ∃ v6 v7 v8 v9 hl al, σ = [some (.ref n), some (.int (b : Nat)), some (.ref bg), some (.ref a), some (.ref p4), some (.ref p5), v6, v7, v8, v9] ∧ Same H H' ∧ H' p4 = some (.lst hl) ∧ H' p5 = some (.lst al) ∧ HelL H' s0 b k hl al)
    ⟨none, none, none, none, ws 3, ws 4, rfl, e5, by rw [upd_ne p54.symm]; exact upd_same, upd_same, by rw [B.len 3 (by decide), l16], by rw [B.len 4 (by decide), l16], fun p v hv => ?_, fun p v hv => ?_⟩ ?hs ?hd⟩)))))
  · rw [if_neg (Nat.not_lt_zero p)]
    unfold Vbcnac.portAt
    rw [← hx]
    exact Hel.mono (Tup.of_same e5) (B.val 3 (by decide) p v hv)
  · rw [if_neg (Nat.not_lt_zero p)]
    unfold Vbcnac.portAt
    rw [← hx]
    exact B.val 4 (by decide) p v hv
  case hs =>
    rintro k σ H1 hk ⟨v6, v7, v8, v9, hl, al, rfl, e1, h4, h5, L⟩
    rw [Int.zero_add]
    refine r_seq (r_set (r_tup (r_cons (go vv (r_cons (go vv (r_nil ⟨by show 2 ≤ sizeLine; decide, fun t ht => nx ?_⟩)))))))
    have et := same_new (o := .tup [.int (b : Nat), .int (k : Nat)]) ht
    have e2 := e1.trans et
    have h42 := et _ _ h4
    have h52 := et _ _ h5
    have L2 := L.mono (Tup.of_same et)
    have ht2 : (upd H1 t (.tup [.int (b : Nat), .int (k : Nat)])) t = some (.tup ((ck b k).map kV)) := upd_same
    have hk4 : k < hl.length := by rw [L.1]; exact hk
    have hk5 : k < al.length := by rw [L.2.1]; exact hk
    generalize (upd H1 t (.tup [.int (b : Nat), .int (k : Nat)])) = H2 at e2 h42 h52 L2 ht2
    refine r_seq3 (fun σ' H' => ∃ v8 v9 hv z, σ' = [some (.ref n), some (.int (b : Nat)), some (.ref bg), some (.ref a), some (.ref p4), some (.ref p5), some (.int (k : Nat)), some (.ref t), v8, v9] ∧ Same H H' ∧ H' p4 = some (.lst (hl.set k hv)) ∧ H' p5 = some (.lst (al.set k (.int z))) ∧ HelL H' s0 b k hl al ∧ Hel H' hv (mh s0 b k) ∧ ∀ x, mh s0 b k = some x → z = x.age) ?two fun two => ?one
    case one =>
      have hv0 : HV H2 (valV kh (ck b k)) (hearsAt s0 b k) := (G.vh b k hon).mono (Tup.of_same e2)
      have dg : DGet H2 h (.ref t) (valV kh (ck b k)) := DGet.t (e2 _ _ G.hh) ht2
      obtain ⟨v, hvk, hvH⟩ : ∃ v, hl[k]? = some v ∧ Hel H2 v (Vbcnac.portAt s0 b k).heard := by
        refine ⟨_, List.getElem?_eq_getElem hk4, ?_⟩
        have := L2.2.2.1 k _ (List.getElem?_eq_getElem hk4)
        rw [if_neg (Nat.lt_irrefl k)] at this
        exact this
      obtain ⟨z, hzk, hzA⟩ : ∃ z : Int, al[k]? = some (.int z) ∧ ∀ x, (Vbcnac.portAt s0 b k).heard = some x → z = x.age := by
        obtain ⟨z, e1, e2⟩ := L2.2.2.2 k _ (List.getElem?_eq_getElem hk5)
        rw [if_neg (Nat.lt_irrefl k)] at e2
        exact ⟨z, by rw [List.getElem?_eq_getElem hk5, e1], e2⟩
      refine r_if (r_test (r_din (go vv (go (val_fld (fs := begF r h g) (v := .ref h) vv (e2 _ _ G.self) T.c_Beginning T.n_Beginning_heard rfl) ⟨h, _, rfl, dg, _, rfl, ?_⟩))))
      cases hq : hearsAt s0 b k with
      | none =>
        rw [hq] at hv0
        rw [show valV kh (ck b k) = none from hv0]
        refine if_n (r_if (r_test (r_op (go (v_ixL (j := k) vv vv h42 hvk) (r_c ⟨rfl, _, rfl, ?_⟩)))))
        cases ho : (Vbcnac.portAt s0 b k).heard with
        | none =>
          rw [ho] at hvH
          cases (show v = .non from hvH)
          have hm : mh s0 b k = none := by
            unfold mh
            rw [hq, ho]
            rfl
          refine if_n (r_next (two _ _ ⟨v8, v9, .non, z, rfl, e2, by rw [set_get hvk]; exact h42, by rw [set_get hzk]; exact h52, L2, by rw [hm]; rfl, fun x hx => by rw [hm] at hx; cases hx⟩))
        | some x =>
          rw [ho] at hvH
          obtain ⟨u, rfl, hu⟩ := hvH
          have hm : mh s0 b k = some { x with age := x.age + 1 } := by
            unfold mh
            rw [hq, ho]
            rfl
          have t5 : Tup H2 (upd H2 p5 (.lst (al.set k (.int (z + 1))))) := tup_upd h52 rfl
          refine if_y (r_setL (v_add (v_ixL (j := k) (v := .int z) vv vv h52 hzk) val_c) vv vv h52 hk5 (two _ _ ⟨v8, v9, .ref u, z + 1, rfl, same_upd e2 n5', by rw [upd_ne p54.symm, set_get hvk]; exact h42, upd_same, L2.mono t5, ?_, fun y hy => ?_⟩))
          · rw [hm]
            exact ⟨u, rfl, t5 _ _ hu⟩
          · rw [hm] at hy
            rw [← Option.some.inj hy, hzA x ho]
            rfl
      | some x =>
        rw [hq] at hv0
        obtain ⟨t', u, hval, ht', hu⟩ := hv0
        have hm : mh s0 b k = some { told := x.1, age := x.2 + 1 } := by
          unfold mh
          rw [hq]
        rw [hval] at dg ⊢
        refine if_y (r_seq (r_asg (r_dget (go (val_fld (fs := begF r h g) (v := .ref h) vv (e2 _ _ G.self) T.c_Beginning T.n_Beginning_heard rfl) (go vv ⟨h, _, rfl, dg, g2 ht' (nx ?_)⟩)))))
        have t4 : Tup H2 (upd H2 p4 (.lst (hl.set k (.ref u)))) := tup_upd h42 rfl
        have h53 : (upd H2 p4 (.lst (hl.set k (.ref u)))) p5 = some (.lst al) := by
          rw [upd_ne p54]
          exact h52
        have t5 : Tup (upd H2 p4 (.lst (hl.set k (.ref u)))) (upd (upd H2 p4 (.lst (hl.set k (.ref u)))) p5 (.lst (al.set k (.int ((x.2 : Nat) + 1))))) := tup_upd h53 rfl
        refine r_seq (r_setL (v := .ref u) vv vv vv h42 hk4 (nx (r_setL (v := .int ((x.2 : Nat) + 1)) (v_add vv val_c) vv vv h53 hk5 (two _ _ ⟨_, _, .ref u, _, rfl, same_upd (same_upd e2 n4) n5', by rw [upd_ne p54.symm]; exact upd_same, upd_same, (L2.mono t4).mono t5, ?_, fun y hy => ?_⟩))))
        · rw [hm]
          exact ⟨u, rfl, t5 _ _ (t4 _ _ hu)⟩
        · rw [hm] at hy
          rw [← Option.some.inj hy]
          rfl
    case two =>
      rintro σ H3 ⟨v8, v9, hv, z, rfl, e3, h43, h53, L3, hh, hz⟩
      have hz3 : (al.set k (.int z))[k]? = some (.int z) := by rw [List.getElem?_set, if_pos rfl, if_pos hk5]
      refine r_if (r_test (r_op (go (v_ixL (j := k) (v := .int z) vv vv h53 hz3) (go ((N.same e3).fage T vv) ⟨_, _, rfl, rfl, _, rfl, ?_⟩))))
      rw [hage]
      by_cases d : (s0.age : Int) < z
      · rw [decide_eq_true d]
        have hn : nh s0 b k = none := by
          cases hm : mh s0 b k with
          | none => exact nh_none hm
          | some x =>
            have := hz x hm
            exact nh_old hm (by omega)
        have t4 : Tup H3 (upd H3 p4 (.lst ((hl.set k hv).set k .non))) := tup_upd h43 rfl
        have h54 : (upd H3 p4 (.lst ((hl.set k hv).set k .non))) p5 = some (.lst (al.set k (.int z))) := by
          rw [upd_ne p54]
          exact h53
        have t5 : Tup (upd H3 p4 (.lst ((hl.set k hv).set k .non))) (upd (upd H3 p4 (.lst ((hl.set k hv).set k .non))) p5 (.lst ((al.set k (.int z)).set k (.int 0)))) := tup_upd h54 rfl
        refine if_y (r_seq (r_setL val_c vv vv h43 (by rw [List.length_set]; exact hk4) (nx (r_setL val_c vv vv h54 (by rw [List.length_set]; exact hk5) ⟨_, _, _, _, hl.set k .non, al.set k (.int 0), rfl, same_upd (same_upd e3 n4) n5', by rw [upd_ne p54.symm, upd_same, List.set_set], by rw [upd_same, List.set_set], (L3.mono t4).put t5 (by rw [hn]; rfl) fun x hx => (by rw [hn] at hx; cases hx)⟩))))
      · rw [decide_eq_false d]
        refine if_n (r_next ⟨_, _, _, _, hl.set k hv, al.set k (.int z), rfl, e3, h43, h53, L3.put (fun _ _ q => q) ?_ fun x hx => ?_⟩)
        · cases hm : mh s0 b k with
          | none =>
            rw [hm] at hh
            rw [nh_none hm]
            exact hh
          | some x =>
            rw [hm] at hh
            have := hz x hm
            rw [nh_young hm (by omega)]
            exact hh
        · cases hm : mh s0 b k with
          | none =>
            rw [nh_none hm] at hx
            cases hx
          | some y =>
            have := hz y hm
            rw [nh_young hm (by omega)] at hx
            rw [← Option.some.inj hx]
            exact this
  case hd =>
    rintro σ H1 ⟨v6, v7, v8, v9, hl, al, rfl, e1, h4, h5, L⟩
    have B1 := B.same e1
    refine nx (r_seq (r_sfld (go vv (go vv ⟨a, _, dx, _, rfl, B1.self, T.c_Bridge, T.n_Bridge_hellos, by show 11 < 1000; decide, nx ?_⟩))))
    rw [pF_hellos]
    refine r_sfld (go vv (go vv ⟨a, _, dx, _, rfl, upd_same, T.c_Bridge, T.n_Bridge_ages, by show 11 < 1000; decide, ?_⟩))
    rw [pF_ages, upd_upd]
    have on : Only a H (upd H1 a (.ins (He.ga K "Bridge") dx (bF (Vbcnac.bridgeAt s b) (setA (setA l 3 p4) 4 p5) st))) := fun c o q z => by
      rw [upd_ne z]
      exact e1 _ _ q
    have a4 : p4 ≠ a := (ne_of_none B.self n4).symm
    have a5 : p5 ≠ a := (ne_of_none B.self n5').symm
    have l4 : ∀ k, k < 7 → l k ≠ p4 := fun k hk => ne_of_none (B.lst k hk) n4
    have l5 : ∀ k, k < 7 → l k ≠ p5 := fun k hk => ne_of_none (B.lst k hk) n5'
    have t1 : Tup H1 (upd H1 a (.ins (He.ga K "Bridge") dx (bF (Vbcnac.bridgeAt s b) (setA (setA l 3 p4) 4 p5) st))) := tup_upd B1.self rfl
    have hP : ∀ p, p < 16 → (ph1 s0 b).getD p {} = { Vbcnac.portAt s b p with heard := nh s0 b p } := fun p hp => by
      unfold ph1
      rw [range_getD hp]
      unfold Vbcnac.portAt
      rw [hx]
    have len1 : (ph1 s0 b).length = 16 := by
      unfold ph1
      rw [List.length_map, List.length_range]
    have hvs : ∀ k, k < 7 → ((fun k => if k = 3 then hl else if k = 4 then al else ws k) k).length = 16 := fun k hk => by
      show (if k = 3 then hl else if k = 4 then al else ws k).length = 16
      by_cases y3 : k = 3
      · rw [if_pos y3]
        exact L.1
      · rw [if_neg y3]
        by_cases y4 : k = 4
        · rw [if_pos y4]
          exact L.2.1
        · rw [if_neg y4, B.len k hk, l16]
    have inj : ∀ j k, j < 7 → k < 7 → j ≠ k → (setA (setA l 3 p4) 4 p5) j ≠ (setA (setA l 3 p4) 4 p5) k := setA_inj (setA_inj B.inj l4) fun k hk => by
      by_cases y : k = 3
      · rw [y, setA_same]
        exact p54.symm
      · rw [setA_ne y]
        exact l5 k hk
    have h2 : ∀ k, k < 7 → (upd H1 a (.ins (He.ga K "Bridge") dx (bF (Vbcnac.bridgeAt s b) (setA (setA l 3 p4) 4 p5) st))) ((setA (setA l 3 p4) 4 p5) k) = some (.lst (if k = 3 then hl else if k = 4 then al else ws k)) := fun k hk => by
      by_cases y4 : k = 4
      · rw [y4, setA_same, if_neg (by decide), if_pos rfl, upd_ne a5]
        exact h5
      · rw [setA_ne y4]
        by_cases y3 : k = 3
        · rw [y3, setA_same, if_pos rfl, upd_ne a4]
          exact h4
        · rw [setA_ne y3, if_neg y3, if_neg y4, upd_ne (B.la hk)]
          exact e1 _ _ (B.lst k hk)
    have h5' : ∀ k, k < 7 → ∀ p v, (if k = 3 then hl else if k = 4 then al else ws k)[p]? = some v → PV (upd H1 a (.ins (He.ga K "Bridge") dx (bF (Vbcnac.bridgeAt s b) (setA (setA l 3 p4) 4 p5) st))) k v ((ph1 s0 b).getD p {}) := fun k hk p v hv => by
      have hp : p < 16 := by
        have := (List.getElem?_eq_some_iff.mp hv).1
        rw [hvs k hk] at this
        exact this
      rw [hP p hp]
      by_cases y3 : k = 3
      · rw [if_pos y3] at hv
        subst y3
        have := L.2.2.1 p v hv
        rw [if_pos hp] at this
        exact this.mono t1
      · rw [if_neg y3] at hv
        by_cases y4 : k = 4
        · rw [if_pos y4] at hv
          subst y4
          have := L.2.2.2 p v hv
          rw [if_pos hp] at this
          exact this
        · rw [if_neg y4] at hv
          have h0 := PV.mono ((Tup.of_same e1)) (B.val k hk p v hv)
          have h0 := PV.mono t1 h0
          match k, hk, y3, y4 with
          | 0, _, _, _ => exact h0
          | 1, _, _, _ => exact h0
          | 2, _, _, _ => exact h0
          | 5, _, _, _ => exact h0
          | 6, _, _, _ => exact h0
    have hl' : ∀ k, k < 7 → (setA (setA l 3 p4) 4 p5) k = l k ∨ H ((setA (setA l 3 p4) 4 p5) k) = none := fun k hk => by
      by_cases y4 : k = 4
      · rw [y4, setA_same]
        exact .inr n5'
      · rw [setA_ne y4]
        by_cases y3 : k = 3
        · rw [y3, setA_same]
          exact .inr n4
        · rw [setA_ne y3]
          exact .inl rfl
    obtain ⟨ow', M, C⟩ := N.relist e B (l' := setA (setA l 3 p4) 4 p5) (x' := { Vbcnac.bridgeAt s b with ports := ph1 s0 b }) (vs' := fun k => if k = 3 then hl else if k = 4 then al else ws k) on hl' inj upd_same h2 (fun k hk => (hvs k hk).trans len1.symm) h5' rfl
    exact hQ _ ow' on C M
end
end Sw
namespace Sw
open PySem PySem.Spec PyProof.Rows L2
/-- a port's wait changes between going on and not -/
def chg (s : Vbcnac.State) (b p : Nat) : Bool := (nw s b p == s.wait) != ((Vbcnac.portAt s b p).wait == s.wait)
theorem list16 {α : Type} (l : List α) (d : α) (h : l.length = 16) : l = (List.range 16).map fun p => l.getD p d := by
  refine List.ext_getElem? fun i => ?_
  rw [List.getElem?_map]
  by_cases q : i < 16
  · rw [List.getElem?_range q, List.getElem?_eq_getElem (by rw [h]; exact q)]
    show _ = some (l.getD i d)
    rw [List.getD_eq_getElem?_getD, List.getElem?_eq_getElem (by rw [h]; exact q)]
    rfl
  · rw [List.getElem?_eq_none (by omega), List.getElem?_eq_none (by simp; omega)]
    rfl
theorem after1_map {s : Vbcnac.State} {b : Nat} (h : (Vbcnac.bridgeAt s b).ports.length = 16) : after1 s b = (List.range 16).map fun p => Vbcnac.portAfter s (s.bridges.map Vbcnac.sends) (Vbcnac.bridgeAt s b) (Vbcnac.view (Vbcnac.bridgeAt s b)) p (Vbcnac.portAt s b p) := by
  refine List.ext_getElem? fun i => ?_
  rw [List.getElem?_map]
  by_cases q : i < 16
  · rw [List.getElem?_range q, after1_get s b i (by rw [h]; exact q)]
    rfl
  · rw [List.getElem?_eq_none (by rw [after1_len, h]; omega), List.getElem?_eq_none (by simp; omega)]
    rfl
theorem after_wait {s : Vbcnac.State} {b p : Nat} (hb : b < s.bridges.length) (ho : (Vbcnac.bridgeAt s b).on = true) (hp : p < (Vbcnac.bridgeAt s b).ports.length) : (Vbcnac.portAfter s (s.bridges.map Vbcnac.sends) (Vbcnac.bridgeAt s b) (Vbcnac.view (Vbcnac.bridgeAt s b)) p (Vbcnac.portAt s b p)).wait = nw s b p := by
  have h1 := round_wait s hb ho hp
  rw [round_port s hb ho hp] at h1
  exact h1
theorem after_heard {s : Vbcnac.State} {b p : Nat} (hb : b < s.bridges.length) (ho : (Vbcnac.bridgeAt s b).on = true) (hp : p < (Vbcnac.bridgeAt s b).ports.length) : (Vbcnac.portAfter s (s.bridges.map Vbcnac.sends) (Vbcnac.bridgeAt s b) (Vbcnac.view (Vbcnac.bridgeAt s b)) p (Vbcnac.portAt s b p)).heard = nh s b p := by
  have h1 := round_heard s hb ho hp
  rw [round_port s hb ho hp] at h1
  unfold nh
  rw [show (Vbcnac.portAfter s (s.bridges.map Vbcnac.sends) (Vbcnac.bridgeAt s b) (Vbcnac.view (Vbcnac.bridgeAt s b)) p (Vbcnac.portAt s b p)).heard = _ from h1]
  cases hearsAt s b p with
  | none => rfl
  | some x => rfl
theorem changed_eq {s : Vbcnac.State} {b : Nat} (hb : b < s.bridges.length) (ho : (Vbcnac.bridgeAt s b).on = true) (h : (Vbcnac.bridgeAt s b).ports.length = 16) : changedAt s b = ((List.range 16).filter (chg s b)).length := by
  unfold changedAt Vbcnac.changes
  rw [after1_map h]
  have e1 : (Vbcnac.bridgeAt s b).ports = (List.range 16).map fun p => Vbcnac.portAt s b p := list16 _ ({} : Vbcnac.Port) h
  have e2 : ∀ l : List Nat, (∀ p ∈ l, p < 16) → (((l.map fun p => Vbcnac.portAt s b p).zip (l.map fun p => Vbcnac.portAfter s (s.bridges.map Vbcnac.sends) (Vbcnac.bridgeAt s b) (Vbcnac.view (Vbcnac.bridgeAt s b)) p (Vbcnac.portAt s b p))).filter fun x => (x.1.wait == s.wait) != (x.2.wait == s.wait)).length = (l.filter (chg s b)).length := by
    intro l
    induction l with
    | nil => intro _; rfl
    | cons p l ih =>
      intro hl
      have ih := ih fun q hq => hl q (List.mem_cons_of_mem _ hq)
      rw [List.map_cons, List.map_cons, List.zip_cons_cons, List.filter_cons, List.filter_cons]
      have e3 : (((Vbcnac.portAt s b p).wait == s.wait) != ((Vbcnac.portAfter s (s.bridges.map Vbcnac.sends) (Vbcnac.bridgeAt s b) (Vbcnac.view (Vbcnac.bridgeAt s b)) p (Vbcnac.portAt s b p)).wait == s.wait)) = chg s b p := by
        rw [after_wait hb ho (by rw [h]; exact hl p List.mem_cons_self)]
        unfold chg
        cases (Vbcnac.portAt s b p).wait == s.wait <;> cases nw s b p == s.wait <;> rfl
      show (if (((Vbcnac.portAt s b p).wait == s.wait) != ((Vbcnac.portAfter s (s.bridges.map Vbcnac.sends) (Vbcnac.bridgeAt s b) (Vbcnac.view (Vbcnac.bridgeAt s b)) p (Vbcnac.portAt s b p)).wait == s.wait)) = true then _ else _ : List _).length = _
      rw [e3]
      cases chg s b p with
      | true =>
        rw [if_pos rfl, if_pos rfl, List.length_cons, List.length_cons, ih]
      | false =>
        rw [if_neg Bool.false_ne_true, if_neg Bool.false_ne_true, ih]
  rw [← e2 (List.range 16) fun p hp => List.mem_range.mp hp, ← e1]
def waitV (s : Vbcnac.State) (b k p : Nat) : V := .int ((if p < k then nw s b p else min ((Vbcnac.portAt s b p).wait + 1) s.wait : Nat) : Nat)
theorem role_three {s : Vbcnac.State} {b k : Nat} : decide (V.int (Vbcnac.roleNumber (roleAt s b k) : Nat) = V.int 3) = decide (roleAt s b k = .blocked) := by
  cases roleAt s b k <;> rfl
theorem HV.some_iff {H : Hp} {v : Option V} {o : Option (Vbcnac.Told × Nat)} (h : HV H v o) : v.isSome = o.isSome := by
  cases o with
  | none =>
    rw [show v = none from h]
    rfl
  | some x =>
    obtain ⟨t, u, e, _⟩ := h
    rw [e]
    rfl
theorem waitV_succ (s : Vbcnac.State) (b k : Nat) : (List.range 16).map (waitV s b (k + 1)) = ((List.range 16).map (waitV s b k)).set k (.int (nw s b k : Nat)) := by
  rw [range_set]
  refine congrArg (fun f => (List.range 16).map f) (funext fun i => ?_)
  unfold waitV
  by_cases hi : i = k
  · rw [if_pos hi, hi, if_pos (Nat.lt_succ_self k)]
  · have : (i < k + 1) = (i < k) := propext (by omega)
    rw [if_neg hi]
    simp only [this]
theorem waitV_no {s : Vbcnac.State} {b k : Nat} (h : nw s b k = min ((Vbcnac.portAt s b k).wait + 1) s.wait) : (List.range 16).map (waitV s b (k + 1)) = (List.range 16).map (waitV s b k) := by
  refine congrArg (fun f => (List.range 16).map f) (funext fun i => ?_)
  unfold waitV
  by_cases hi : i = k
  · rw [hi, if_pos (Nat.lt_succ_self k), if_neg (Nat.lt_irrefl k), h]
  · have : (i < k + 1) = (i < k) := propext (by omega)
    simp only [this]
def cnt (s : Vbcnac.State) (b k : Nat) : Nat := ((List.range k).filter (chg s b)).length
theorem cnt_succ (s : Vbcnac.State) (b k : Nat) : cnt s b (k + 1) = if chg s b k = true then cnt s b k + 1 else cnt s b k := by
  unfold cnt
  rw [List.range_succ, List.filter_append, List.length_append, List.filter_cons]
  split <;> rfl
theorem dec_bl (x y : Bool) : (!decide (V.bl x = V.bl y)) = (x != y) := by
  cases x <;> cases y <;> rfl
section
variable {P : Program} {w : World} {K : PySem.W.Frag} {mg : Str → Option Value} {base : Heap}
/-! ### renew_waits -/
def sp_renew_waits (K : PySem.W.Frag) : Sp := fun vs H Q _ => ∃ n b bg ow as s s0 a dx l st ws kvs db r h g rs kh kg, vs = [.ref n, .int (b : Nat), .ref bg] ∧ NetAt K ow as H n s ∧ as[b]? = some a ∧ BrAt K ow H b a (Vbcnac.bridgeAt s b) dx l st ws kvs ∧ BegAt K ow H s0 bg db r h g rs kh kg ∧ Vbcnac.bridgeAt s b = { Vbcnac.bridgeAt s0 b with ports := ph1 s0 b } ∧ s.wait = s0.wait ∧ (Vbcnac.bridgeAt s0 b).ports.length = 16 ∧ Vbcnac.isOn s0 b = true ∧
  ∀ H' ow', Only a H H' → Loc1 b H H' ow ow' → NetAt K ow' as H' n (Vbcnac.setBridge s b { Vbcnac.bridgeAt s b with ports := ph2 s0 b }) → Q (.int (changedAt s0 b : Nat)) H'
theorem sc_renew_waits : FnScope ["net", "number", "beginning", "bridge", "roles", "waits", "place", "role", "changed", "wait"] ["net", "number", "beginning"] D_renew_waits.scope := ⟨rfl, rfl, rfl, by decide +kernel, rfl, by decide +kernel, by decide +kernel⟩
-- level 1; slots 0:net 1:number 2:beginning 3:bridge 4:roles 5:waits 6:place 7:role 8:changed 9:wait; captured ['net']
theorem ok_renew_waits (T : Txt K mg) : Does P w K mg base 1 "renew_waits" ["net", "number", "beginning"] (sp_renew_waits K) := by
  refine does_of T 24 (d := D_renew_waits) rfl rfl rfl rfl T.g_renew_waits sc_renew_waits (fun _ _ _ _ _ _ us hl => match us, hl with | [_, _, _], _ => rfl) (fun vs H Q E h => by obtain ⟨_, _, _, _, _, _, _, _, _, _, _, _, _, _, _, _, _, _, _, _, rfl, _⟩ := h; rfl) (fun cdv A outer s H vs Q E hr h => ⟨_, (pss_cons (ps_set (i := 3) sc_renew_waits.nd rfl (.inl rfl) (pe_ix ix_list (pe_fld (pv 0) rfl) (pv 1) (fun _ _ => rfl)))
      (pss_cons (ps_set (i := 4) sc_renew_waits.nd rfl (.inl rfl) (pe_ix ix_list (pe_fld (pv 2) rfl) (pv 1) (fun _ _ => rfl)))
      (pss_cons (ps_setLc (i := 5) (own := [("wait", 9)]) (tt := tYes) (g := gName 9) rfl sc_renew_waits.nd rfl rfl (sw_true rfl rfl rfl (by decide +kernel)) (pi_list (pe_fld (pv 3) rfl)) (blkOk_by (own := [("wait", 9)]) (N := ["net", "number", "beginning", "bridge", "roles", "waits", "place", "role", "changed", "wait"]) (sc := D_renew_waits.scope) (by decide +kernel)) (fun _ _ _ _ _ => (pg_name (i := 9) sc_renew_waits.nd rfl (.inl rfl))) (fun _ _ _ _ _ => pts_nil) (fun _ _ _ _ _ => (pe_callB (call_min2 rfl) (by rfl) T.f_min (by decide +kernel) (pa_cons (pe_op op_add (pv 9) pe_int) (pa_cons (pe_fldK (K := K) rfl (pv 0) rfl) pa_nil)))))
      (pss_cons (ps_for PassesOwn.never rfl (pi_enum (by rfl) T.f_enumerate (pa_cons (pv 4) pa_nil)) (pg_tup (n := 2) rfl (pgs_cons (pg_name (i := 6) sc_renew_waits.nd rfl (.inl rfl)) (pgs_cons (pg_name (i := 7) sc_renew_waits.nd rfl (.inl rfl)) pgs_nil))) (pss_one (ps_if (PW.pt (pw_or (pt_cmpR op_eq (pv 7) (pe_gi T.i_BLOCKED rfl) (nomark _)) (pw_or1 (PW.pt (pw_and (pt_cmpR op_eq (pv 7) (pe_gi T.i_DESIGNATED rfl) (nomark _)) (pw_and1 (pt_cmp (pc_din (hu_of hr) (pe_tup (pa_cons (pv 1) (pa_cons (pv 6) pa_nil))) (pe_fld (pv 2) rfl)) rfl))))))) (pss_one (ps_asg pe_int (pg_sub (pv 5) (pv 6) set_list))) pss_nil)))
      (pss_cons (ps_set (i := 8) sc_renew_waits.nd rfl (.inl rfl) pe_int)
      (pss_cons (ps_for PassesOwn.never rfl (pi_range1 (by rfl) T.f_range (pa_cons (pe_gi T.i_PORTS rfl) pa_nil)) (pg_name (i := 6) sc_renew_waits.nd rfl (.inl rfl)) (pss_one (ps_if (pt_cmpR op_ne (pe_cmpR op_eq (pe_ix ix_list (pv 5) (pv 6) (fun _ _ => rfl)) (pe_fld (pv 0) rfl) (nomark _)) (pe_cmpR op_eq (pe_ix ix_list (pe_fld (pv 3) rfl) (pv 6) (fun _ _ => rfl)) (pe_fld (pv 0) rfl) (nomark _)) (nomark _)) (pss_one (ps_set (i := 8) sc_renew_waits.nd rfl (.inl rfl) (pe_op op_add (pv 8) pe_int))) pss_nil)))
      (pss_cons (ps_fld (pv 3) (pv 5) rfl)
      (pss_one (ps_ret (pv 8)))))))))), ?_⟩)
  obtain ⟨n, b, bg, ow, as, s, s0, a, dx, l, st, ws, kvs, db, r, h, g, rs, kh, kg, rfl, N, e, B, G, hx, hwt, l16, hon, hQ⟩ := h
  have hb := N.lt e
  have hb0 : b < s0.bridges.length := (isOn_iff.mp hon).1
  have len1 : (Vbcnac.bridgeAt s b).ports.length = 16 := by
    rw [hx]
    show (ph1 s0 b).length = 16
    unfold ph1
    rw [List.length_map, List.length_range]
  have pW : ∀ p, p < 16 → Vbcnac.portAt s b p = { Vbcnac.portAt s0 b p with heard := nh s0 b p } := fun p hp => by
    unfold Vbcnac.portAt
    rw [hx]
    show (ph1 s0 b).getD p {} = _
    unfold ph1
    rw [range_getD hp]
    rfl
  have ws5 : ∀ i v, (ws 5)[i]? = some v → i < 16 ∧ v = .int ((Vbcnac.portAt s0 b i).wait : Nat) := fun i v hv => by
    have hi : i < 16 := by
      have := (List.getElem?_eq_some_iff.mp hv).1
      rw [B.len 5 (by decide), len1] at this
      exact this
    have := B.val 5 (by decide) i v hv
    refine ⟨hi, ?_⟩
    have h2 : v = .int (Vbcnac.portAt s b i).wait := this
    rw [h2, pW i hi]
  obtain ⟨ra, hra⟩ : ∃ ra, rs[b]? = some ra := ⟨_, List.getElem?_eq_getElem (by rw [G.rn]; exact hb0)⟩
  have hrl := (G.rr b ra hra).2
  rw [show rolesAt s0 b = rolesV (Vbcnac.bridgeAt s0 b) (Vbcnac.view (Vbcnac.bridgeAt s0 b)) from if_pos hon] at hrl
  have lw : (ws 5).length = 16 := by rw [B.len 5 (by decide), len1]
  refine r_seq (r_set (go (N.bridge T e vv vv) (nx ?_)))
  refine r_seq (r_set (go (v_ixL (j := b) (v := .ref ra) (val_fld (fs := begF r h g) (v := .ref r) vv G.self T.c_Beginning T.n_Beginning_roles rfl) vv G.rl (by rw [List.getElem?_map, hra]; rfl)) (nx ?_)))
  refine r_seq (r_asg (r_lcL (fun i => if i < 16 then some (waitV s0 b 0 i) else none) (B.fwaits T vv) (B.lst 5 (by decide)) (by rw [lw]; decide) (fun i x H1 hi e1 N' M' h1 _ => ⟨rfl, ?_⟩) fun p5 H1 n5 e1 hl5 => nx ?_))
  · obtain ⟨hi16, rfl⟩ := ws5 i x hi
    refine r_yes (iteT (r_cb (r_cons (r_op (go vv (r_c ⟨_, _, rfl, rfl, r_cons (go ((N.same e1).fwait T vv) (r_nil ⟨_, _, rfl, h1 _ _ (Same.refl _) ?_⟩))⟩))))))
    rw [if_pos hi16]
    unfold waitV
    rw [if_neg (Nat.not_lt_zero i), hwt]
    congr 2
    by_cases z : (s0.wait : Int) < ((Vbcnac.portAt s0 b i).wait : Int) + 1
    · rw [if_pos z, Nat.min_eq_right (by omega)]
    · rw [if_neg z, Nat.min_eq_left (by omega)]
      omega
  have hl5' : H1 p5 = some (.lst ((List.range 16).map (waitV s0 b 0))) := by
    rw [hl5, lw]
    rfl
  have rlen : (rolesV (Vbcnac.bridgeAt s0 b) (Vbcnac.view (Vbcnac.bridgeAt s0 b))).length = 16 := by
    unfold rolesV
    rw [List.length_map, List.length_range]
  refine r_seq (r_for (r_enum (r_cons (go vv (r_nil ⟨ra, _, rfl, SqL.of (e1 _ _ hrl), for_it walk_enum
    (fun k σ H' => ∃ v6 v7, σ = [some (.ref n), some (.int (b : Nat)), some (.ref bg), some (.ref a), some (.ref ra), some (.ref p5), v6, v7, none, none] ∧ Same H H' ∧ H' p5 = some (.lst ((List.range 16).map (waitV s0 b k)))) ⟨none, none, rfl, e1, hl5'⟩ (fun b σ H' _ ⟨_, _, _, e1, _⟩ => SqL.of (e1 _ _ hrl)) ?hs ?hd⟩)))))
  case hs =>
    rintro k y σ H2 H3 hk ⟨v6, v7, rfl, e2, hl⟩ ⟨t, z1, v, rfl, ht, rfl, y1, y2⟩
    cases y1
    rw [rlen] at hk
    have hv : v = .int (Vbcnac.roleNumber (roleAt s0 b k) : Nat) := by
      have y3 : (rolesV (Vbcnac.bridgeAt s0 b) (Vbcnac.view (Vbcnac.bridgeAt s0 b)))[k]? = some v := y2
      unfold rolesV at y3
      rw [List.getElem?_map, List.getElem?_range hk] at y3
      exact (Option.some.inj y3).symm
    subst hv
    have et := same_new (o := .tup [.int (k : Nat), .int (Vbcnac.roleNumber (roleAt s0 b k) : Nat)]) ht
    have zero : nw s0 b k = 0 → ∀ H4, Same H H4 → H4 p5 = some (.lst ((List.range 16).map (waitV s0 b k))) → ∃ v6 v7, ([some (.ref n), some (.int (b : Nat)), some (.ref bg), some (.ref a), some (.ref ra), some (.ref p5), some (.int (k : Nat)), some (.int (Vbcnac.roleNumber (roleAt s0 b k) : Nat)), none, none] : List (Option V)) = [some (.ref n), some (.int (b : Nat)), some (.ref bg), some (.ref a), some (.ref ra), some (.ref p5), v6, v7, none, none] ∧ Same H (upd H4 p5 (.lst (((List.range 16).map (waitV s0 b k)).set k (.int 0)))) ∧ (upd H4 p5 (.lst (((List.range 16).map (waitV s0 b k)).set k (.int 0)))) p5 = some (.lst ((List.range 16).map (waitV s0 b (k + 1)))) := fun hz H4 e4 h4 => ⟨_, _, rfl, same_upd e4 n5, by rw [upd_same, waitV_succ, hz]; rfl⟩
    refine g2 upd_same (r_if (r_or (r_test (r_op (go vv (r_c ⟨rfl, _, rfl, ?_⟩))))))
    rw [role_three]
    have h53 := et _ _ hl
    have len5 : k < ((List.range 16).map (waitV s0 b k)).length := by rw [List.length_map, List.length_range]; exact hk
    by_cases hB : roleAt s0 b k = .blocked
    · rw [decide_eq_true hB]
      refine if_y (if_y (r_setL val_c vv vv h53 len5 (zero ?_ _ (e2.trans et) h53)))
      unfold nw
      rw [if_pos hB]
    · rw [decide_eq_false hB]
      refine if_n (r_and (r_test (r_op (go vv (r_c ⟨rfl, _, rfl, ?_⟩)))))
      rw [role_two]
      by_cases hD : roleAt s0 b k = .designated
      · rw [decide_eq_true hD]
        refine if_y (r_test (r_din (r_tup (r_cons (go vv (r_cons (go vv (r_nil ⟨by show 2 ≤ sizeLine; decide, fun t3 ht3 => ?_⟩))))))))
        have et3 := same_new (o := .tup [.int (b : Nat), .int (k : Nat)]) ht3
        have e3 := (e2.trans et).trans et3
        refine go (val_fld (fs := begF r h g) (v := .ref h) vv (e3 _ _ G.self) T.c_Beginning T.n_Beginning_heard rfl) ⟨h, _, rfl, DGet.t (k := ck b k) (e3 _ _ G.hh) upd_same, _, rfl, ?_⟩
        rw [(G.vh b k hon).some_iff]
        cases hq : (hearsAt s0 b k).isSome with
        | true =>
          refine if_y (r_setL val_c vv vv (et3 _ _ h53) len5 (zero ?_ _ e3 (et3 _ _ h53)))
          unfold nw
          rw [if_neg hB, if_pos ⟨hD, hq⟩]
        | false =>
          refine if_n (r_next ⟨_, _, rfl, e3, ?_⟩)
          rw [waitV_no]
          · exact et3 _ _ h53
          · unfold nw
            rw [if_neg hB, if_neg fun z => Bool.false_ne_true (hq.symm.trans z.2)]
      · rw [decide_eq_false hD]
        refine if_n (if_n (r_next ⟨_, _, rfl, e2.trans et, ?_⟩))
        rw [waitV_no]
        · exact h53
        · unfold nw
          rw [if_neg hB, if_neg fun z => hD z.1]
  case hd =>
    rintro σ H2 ⟨v6, v7, rfl, e2, hl⟩
    rw [rlen] at hl
    refine nx (r_seq (r_set (r_c (nx ?_))))
    refine r_seq (r_for (r_range (r_cons (r_c (r_nil ⟨16, rfl, by decide, by decide, for_range (lo := 0) (n := 16)
      (fun k σ H' => ∃ v6, σ = [some (.ref n), some (.int (b : Nat)), some (.ref bg), some (.ref a), some (.ref ra), some (.ref p5), v6, v7, some (.int (cnt s0 b k : Nat)), none] ∧ H' = H2) ⟨v6, rfl, rfl⟩ ?hs2 ?hd2⟩)))))
    case hs2 =>
      rintro k σ H3 hk ⟨v6, rfl, rfl⟩
      rw [Int.zero_add]
      have hk5 : k < (ws 5).length := by rw [lw]; exact hk
      obtain ⟨_, hw⟩ := ws5 k _ (List.getElem?_eq_getElem hk5)
      have B3 := B.same e2
      have N3 := N.same e2
      refine r_if (r_test (r_op (r_op (go (v_ixL (j := k) (v := .int (nw s0 b k : Nat)) vv vv hl ?_) (go (N3.fwait T vv) ⟨rfl, ?_⟩)))))
      · rw [List.getElem?_map, List.getElem?_range hk]
        show some (waitV s0 b 16 k) = _
        unfold waitV
        rw [if_pos hk]
      · refine r_op (go (v_ixL (j := k) (v := .int ((Vbcnac.portAt s0 b k).wait : Nat)) (B3.fwaits T vv) vv (B3.lst 5 (by decide)) (by rw [List.getElem?_eq_getElem hk5, hw])) (go (N3.fwait T vv) ⟨rfl, ⟨rfl, _, rfl, ?_⟩⟩))
        rw [dec_int, dec_int, dec_bl, hwt]
        have hc := cnt_succ s0 b k
        cases q : chg s0 b k with
        | true =>
          rw [q, if_pos rfl] at hc
          refine if_y (r_set (v_add vv val_c _ ⟨some (.int (k : Nat)), ?_, rfl⟩)) q
          rw [hc]
          rfl
        | false =>
          rw [q, if_neg Bool.false_ne_true] at hc
          refine if_n (r_next ⟨some (.int (k : Nat)), ?_, rfl⟩) q
          rw [hc]
          rfl
    case hd2 =>
      rintro σ H3 ⟨v6, rfl, rfl⟩
      have B3 := B.same e2
      refine nx (r_seq (r_sfld (go vv (go vv ⟨a, _, dx, _, rfl, B3.self, T.c_Bridge, T.n_Bridge_waits, by show 11 < 1000; decide, nx ?_⟩))))
      rw [pF_waits]
      have lP : (ph2 s0 b).length = 16 := by
        unfold ph2
        rw [List.length_map, List.length_range]
      have hP : ∀ p, p < 16 → (ph2 s0 b).getD p {} = { Vbcnac.portAt s b p with wait := nw s0 b p } := fun p hp => by
        unfold ph2
        rw [range_getD hp, pW p hp]
      obtain ⟨ow', M, on, C⟩ := N.list1 e B e2 (k0 := 5) (P' := ph2 s0 b) n5 hl (by rw [List.length_map, List.length_range, lP]) (by rw [lP, len1]) (by decide) (fun q v hq => (by
          have hq16 : q < 16 := by
            have := (List.getElem?_eq_some_iff.mp hq).1
            rw [List.length_map, List.length_range] at this
            exact this
          rw [List.getElem?_map, List.getElem?_range hq16] at hq
          rw [hP q hq16, ← Option.some.inj hq]
          show waitV s0 b 16 q = .int (nw s0 b q : Nat)
          unfold waitV
          rw [if_pos hq16])) (fun k hk hk5 q v hq h0 => (by
          rw [lP] at hq
          rw [hP q hq]
          match k, hk, hk5 with
          | 0, _, _ => exact h0
          | 1, _, _ => exact h0
          | 2, _, _ => exact h0
          | 3, _, _ => exact h0
          | 4, _, _ => exact h0
          | 6, _, _ => exact h0))
      refine r_ret (go vv ?_)
      have hc : cnt s0 b 16 = changedAt s0 b := (changed_eq hb0 (isOn_iff.mp hon).2 l16).symm
      rw [hc]
      exact hQ _ ow' on C M
end
end Sw
namespace Sw
open PySem PySem.Spec PyProof.Rows L2
section
variable {K : PySem.W.Frag} {ow : Addr → Nat} {as : List Addr} {H H1 : Hp} {n a : Addr} {s : Vbcnac.State} {i : Nat} {dx : Addr} {l : Nat → Addr} {st : Addr} {vs : Nat → List V} {kvs : List (Key × V)}
/-- another dict of stations taken by a bridge -/
theorem NetAt.dict1 (N : NetAt K ow as H n s) (e : as[i]? = some a) (B : BrAt K ow H i a (Vbcnac.bridgeAt s i) dx l st vs kvs) (e1 : Same H H1) {p : Addr} {kv2 : List (Key × V)} {sts : List Vbcnac.Station} (np : H p = none) (hp : H1 p = some (.dK kv2)) (hS : Sta H1 kv2 sts) :
    ∃ ow', NetAt K ow' as (upd H1 a (.ins (He.ga K "Bridge") dx (bF (Vbcnac.bridgeAt s i) l p))) n (Vbcnac.setBridge s i { Vbcnac.bridgeAt s i with stations := sts }) ∧ Only a H (upd H1 a (.ins (He.ga K "Bridge") dx (bF (Vbcnac.bridgeAt s i) l p))) ∧ Loc1 i H (upd H1 a (.ins (He.ga K "Bridge") dx (bF (Vbcnac.bridgeAt s i) l p))) ow ow' := by
  have B1 := B.same e1
  have on : Only a H (upd H1 a (.ins (He.ga K "Bridge") dx (bF (Vbcnac.bridgeAt s i) l p))) := fun c o q z => by
    rw [upd_ne z]
    exact e1 _ _ q
  have pa : p ≠ a := (ne_of_none B.self np).symm
  have t1 : Tup H1 (upd H1 a (.ins (He.ga K "Bridge") dx (bF (Vbcnac.bridgeAt s i) l p))) := tup_upd B1.self rfl
  obtain ⟨M, g, ag⟩ := N.swap e B (l' := l) (st' := p) (vs' := vs) (kvs' := kv2) (x' := { Vbcnac.bridgeAt s i with stations := sts }) (fun _ _ => .inl rfl) (.inr (N.new np)) B.inj upd_same (fun k hk => on _ _ (B.lst k hk) (B.la hk)) (by rw [upd_ne pa]; exact hp) (fun k hk => B.len k hk) (fun k hk p v hv => PV.mono t1 (B1.val k hk p v hv)) (Sta.mono t1 hS) on
  refine ⟨_, M, on, frm1_of B.oa1 on, ag, fun b z => ?_⟩
  rcases g b z with y | y | ⟨k, hk, y⟩
  · exact .inl y
  · rw [y]
    exact .inr np
  · rw [y, B.ol k hk]
    exact .inl (by omega)
theorem ent_none {H : Hp} {k : Nat} : ∀ {kk : List (Key × V)} {m : List Vbcnac.Station}, Paired (Ent H) kk m → (∀ x ∈ m, x.number ≠ k) → valV kk (.inl (k : Int)) = none
  | _, _, .nil, _ => rfl
  | kv :: kk, x :: m, .cons h t, hn => by
    have ih := ent_none t fun y hy => hn y (List.mem_cons_of_mem _ hy)
    rw [valV_neg (p := kv)]
    · exact ih
    · rw [h.1]
      intro z
      have : (x.number : Int) = k := Sum.inl.inj z
      exact hn x List.mem_cons_self (by omega)
theorem Paired.snoc {α β : Type} {R : α → β → Prop} {x : α} {y : β} (r : R x y) : ∀ {xs : List α} {ys : List β}, Paired R xs ys → Paired R (xs ++ [x]) (ys ++ [y])
  | _, _, .nil => .cons r .nil
  | _, _, .cons h t => .cons h (Paired.snoc r t)
theorem older_snoc (k : Nat) (l : List Vbcnac.Station) (x : Vbcnac.Station) : Vbcnac.older k (l ++ [x]) = Vbcnac.older k l ++ (if x.age + 1 ≤ k then [{ x with age := x.age + 1 }] else []) := by
  unfold Vbcnac.older
  rw [List.map_append, List.filter_append, List.map_cons, List.map_nil, List.filter_cons, List.filter_nil]
  by_cases h : x.age + 1 ≤ k
  · rw [if_pos h, if_pos (decide_eq_true h)]
  · rw [if_neg h, if_neg (by simpa using h)]
end
section
variable {P : Program} {w : World} {K : PySem.W.Frag} {mg : Str → Option Value} {base : Heap}
/-! ### age_stations -/
def sp_age_stations (K : PySem.W.Frag) : Sp := fun vs H Q _ => ∃ n a ow as s b, vs = [.ref n, .ref a] ∧ NetAt K ow as H n s ∧ as[b]? = some a ∧ (Vbcnac.bridgeAt s b).stations.Pairwise (fun x y => x.number < y.number) ∧ (Vbcnac.bridgeAt s b).stations.length ≤ 1024 ∧
  ∀ H' ow', Only a H H' → Loc1 b H H' ow ow' → NetAt K ow' as H' n (Vbcnac.setBridge s b { Vbcnac.bridgeAt s b with stations := Vbcnac.older s.keep (Vbcnac.bridgeAt s b).stations }) → Q .non H'
theorem sc_age_stations : FnScope ["net", "bridge", "stations", "station", "known"] ["net", "bridge"] D_age_stations.scope := ⟨rfl, rfl, rfl, by decide +kernel, rfl, by decide +kernel, by decide +kernel⟩
-- level 1; slots 0:net 1:bridge 2:stations 3:station 4:known; captured []
theorem ok_age_stations (T : Txt K mg) : Does P w K mg base 1 "age_stations" ["net", "bridge"] (sp_age_stations K) := by
  refine does_of T 26 (d := D_age_stations) rfl rfl rfl rfl T.g_age_stations sc_age_stations (fun _ _ _ _ _ _ us hl => match us, hl with | [_, _], _ => rfl) (fun vs H Q E h => by obtain ⟨_, _, _, _, _, _, rfl, _⟩ := h; rfl) (fun cdv A outer s H vs Q E hr h => ⟨_, (pss_cons (ps_set (i := 2) sc_age_stations.nd rfl (.inl rfl) pe_dnewK)
      (pss_cons (ps_lock (ps_for PassesOwn.never rfl (pi_items (pe_fld (pv 1) rfl)) (pg_tup (n := 2) rfl (pgs_cons (pg_name (i := 3) sc_age_stations.nd rfl (.inl rfl)) (pgs_cons (pg_name (i := 4) sc_age_stations.nd rfl (.inl rfl)) pgs_nil))) (pss_one (ps_if (pt_cmpR op_le (pe_op op_add (pe_ix ix_tup (pv 4) pe_int (fun _ _ => rfl)) pe_int) (pe_fld (pv 0) rfl) (nomark _)) (pss_one (ps_dput (hu_of hr) (pv 2) (pv 3) (pe_tup (pa_cons (pe_ix ix_tup (pv 4) pe_int (fun _ _ => rfl)) (pa_cons (pe_op op_add (pe_ix ix_tup (pv 4) pe_int (fun _ _ => rfl)) pe_int) pa_nil))) rfl)) pss_nil))))
      (pss_one (ps_fld (pv 1) (pv 2) rfl)))), ?_⟩)
  obtain ⟨n, a, ow, as, s, b, rfl, N, e, hP, hL, hQ⟩ := h
  obtain ⟨dx, l, st, ws, kvs, B⟩ := N.br b a e
  obtain ⟨dn, bl, k1, k2, k3, k4⟩ := N.ex
  obtain ⟨m, pm, pe⟩ := B.sta
  have lm : kvs.length = m.length := Paired.length pe
  have lm2 : m.length ≤ 1024 := by rw [pm.length_eq]; exact hL
  have nd : ∀ i x, m[i]? = some x → ∀ y ∈ m.take i, y.number ≠ x.number := by
    have h1 : (Vbcnac.bridgeAt s b).stations.Pairwise (fun x y => x.number ≠ y.number) := hP.imp fun h => Nat.ne_of_lt h
    have h2 : m.Pairwise (fun x y => x.number ≠ y.number) := (pm.pairwise_iff (fun h z => h z.symm)).mpr h1
    intro i x hx y hy
    obtain ⟨j, hj, e3⟩ := List.mem_take_iff_getElem.mp hy
    obtain ⟨hi, e4⟩ := List.getElem?_eq_some_iff.mp hx
    have := List.pairwise_iff_getElem.mp h2 j i (by omega) hi (by omega)
    rw [← e3, ← e4]
    exact this
  refine r_seq (r_set (fun p np => nx ?_))
  have e0 : Same H (upd H p (.dK [])) := same_new np
  have pst : p ≠ st := (ne_of_none B.dct np).symm
  refine r_seq ?_
  refine ⟨st, .dK kvs, e0 _ _ B.dct, trivial, fun od => ?_⟩
  refine r_for (go (val_fld vv (by rw [upd_ne B.sa.symm]; exact e0 _ _ B.self) T.c_Bridge T.n_Bridge_stations (bF_stations _ l st)) ⟨st, od, kvs, rfl, upd_same, for_it walk_items
    (fun i σ H' => ∃ v3 v4 kk, σ = [some (.ref n), some (.ref a), some (.ref p), v3, v4] ∧ (∀ c o, H c = some o → c ≠ st → H' c = some o) ∧ H' st = some (.frz od (.dK kvs)) ∧ H' p = some (.dK kk) ∧ Paired (Ent H') kk (Vbcnac.older s.keep (m.take i)))
    ⟨none, none, [], rfl, fun c o q z => by rw [upd_ne z]; exact e0 _ _ q, upd_same, by rw [upd_ne pst]; exact upd_same, .nil⟩ (fun i σ H' _ ⟨_, _, _, _, _, h, _⟩ => h) ?hs ?hd⟩)
  case hs =>
    rintro i y σ H1 H2 hi ⟨v3, v4, kk, rfl, fr, hst, hp, pk⟩ ⟨t, x1, x2, rfl, ht, rfl, y1, y2⟩
    obtain ⟨kv, hkv⟩ : ∃ kv, kvs[i]? = some kv := ⟨_, List.getElem?_eq_getElem hi⟩
    have y1' : kvs[i]?.map (fun kv => kV kv.1) = some x1 := y1
    have y2' : kvs[i]?.map Prod.snd = some x2 := y2
    rw [hkv] at y1' y2'
    obtain ⟨x, hx, hk1, a', hk2, ha'⟩ := Paired.get pe hkv
    cases (show x1 = .int (x.number : Nat) by rw [← Option.some.inj y1']; show kV kv.1 = _; rw [hk1]; rfl)
    cases (show x2 = .ref a' by rw [← Option.some.inj y2', hk2])
    have et := same_new (o := .tup [.int (x.number : Nat), .ref a']) ht
    have fr2 : ∀ c o, H c = some o → c ≠ st → (upd H1 t (.tup [.int (x.number : Nat), .ref a'])) c = some o := fun c o q z => et _ _ (fr c o q z)
    have hst2 := et _ _ hst
    have hp2 := et _ _ hp
    have pk2 := Paired.imp (fun _ _ => Ent.mono (Tup.of_same et)) pk
    have ha2 := fr2 _ _ ha' (ne_of ha' B.dct (by intro z; cases z))
    have hn2 := fr2 _ _ k1 (ne_of k1 B.dct (by intro z; cases z))
    have htk := take_succ' hx
    have holder := older_snoc s.keep (m.take i) x
    rw [← htk] at holder
    refine g2 upd_same (r_if (r_test (r_op (r_op (go (v_ixT (j := 1) (xs := [.int (x.port : Nat), .int (x.age : Nat)]) vv (SqT.of ha2) rfl) (r_c ⟨_, _, rfl, rfl, go (val_fld vv hn2 T.c_Net T.n_Net_keep (nF_keep s bl)) ⟨_, _, rfl, rfl, _, rfl, ?_⟩⟩))))))
    by_cases hle : x.age + 1 ≤ s.keep
    · rw [if_pos hle] at holder
      rw [decide_eq_true (by omega)]
      refine if_y (r_dput (r_tup (r_cons (go (v_ixT (j := 0) (xs := [.int (x.port : Nat), .int (x.age : Nat)]) vv (SqT.of ha2) rfl) (r_cons (r_op (go (v_ixT (j := 1) (xs := [.int (x.port : Nat), .int (x.age : Nat)]) vv (SqT.of ha2) rfl) (r_c ⟨_, _, rfl, rfl, r_nil ⟨by show 2 ≤ sizeLine; decide, fun t2 ht2 => ?_⟩⟩))))))))
      have e2 := same_new (o := .tup [.int (x.port : Nat), .int ((x.age : Nat) + 1)]) ht2
      have hp3 := e2 _ _ hp2
      have lk : kk.length ≤ 1024 := by
        have h1 := Paired.length pk
        have h2 := older_len s.keep (m.take i)
        have h3 : (m.take i).length ≤ m.length := by rw [List.length_take]; omega
        omega
      have hnone : valV kk (.inl (x.number : Int)) = none := ent_none pk2 fun y hy => by
        obtain ⟨z, hz, h1, _⟩ := older_mem hy
        rw [← h1]
        exact nd i x hx z hz
      refine go vv (go vv ⟨p, _, rfl, DPut.k (k := .inl (x.number : Int)) hp3 (Nat.lt_of_le_of_lt lk (by decide)), _, _, kk ++ [(.inl (x.number : Int), .ref t2)], rfl, fun c o q z => ?_, ?_, ?_, ?_⟩)
      · rw [upd_ne (ne_of_none q np)]
        exact e2 _ _ (fr2 c o q z)
      · rw [upd_ne pst.symm]
        exact e2 _ _ hst2
      · rw [upd_same, putK_new _ hnone]
      · rw [holder]
        have t3 := tup_upd (u := .dK (putK kk (.inl (x.number : Int)) (.ref t2))) hp3 rfl
        exact Paired.snoc ⟨rfl, t2, rfl, t3 _ _ upd_same⟩ (Paired.imp (fun _ _ h => (h.mono (Tup.of_same e2)).mono t3) pk2)
    · rw [if_neg hle, List.append_nil] at holder
      rw [decide_eq_false (by omega)]
      refine if_n (r_next ⟨_, _, kk, rfl, fr2, hst2, hp2, ?_⟩)
      rw [holder]
      exact pk2
  case hd =>
    rintro σ H1 ⟨v3, v4, kk, rfl, fr, hst, hp, pk⟩
    rw [lm, List.take_length] at pk
    refine ⟨hst, nx ?_⟩
    have e2 : Same H (upd H1 st (.dK kvs)) := fun c o q => by
      by_cases y : c = st
      · rw [y, B.dct] at q
        rw [y, upd_same, ← q]
      · rw [upd_ne y]
        exact fr c o q y
    refine r_sfld (go vv (go vv ⟨a, _, dx, _, rfl, (B.same e2).self, T.c_Bridge, T.n_Bridge_stations, by show 11 < 1000; decide, ?_⟩))
    rw [pF_stations]
    have t2 : Tup H1 (upd H1 st (.dK kvs)) := tup_upd hst rfl
    obtain ⟨ow', M, on, C⟩ := N.dict1 e B e2 (kv2 := kk) (sts := Vbcnac.older s.keep (Vbcnac.bridgeAt s b).stations) np (by rw [upd_ne pst]; exact hp) ⟨Vbcnac.older s.keep m, (pm.map _).filter _, Paired.imp (fun _ _ => Ent.mono t2) pk⟩
    exact hQ _ ow' on C M
end
end Sw
namespace Sw
open PySem PySem.Spec PyProof.Rows L2
/-- the ports of a bridge that a notice comes to -/
def gv (s : Vbcnac.State) (b : Nat) : List Nat := (List.range 16).filter fun p => Vbcnac.noticed s (Vbcnac.portAt s b p)
theorem set_set (s : Vbcnac.State) (b : Nat) (x y : Vbcnac.Bridge) : Vbcnac.setBridge (Vbcnac.setBridge s b x) b y = Vbcnac.setBridge s b y := by
  unfold Vbcnac.setBridge
  rw [List.set_set]
theorem came_map {s : Vbcnac.State} {b : Nat} (h : (Vbcnac.bridgeAt s b).ports.length = 16) : cameAt s b = (List.range 16).map fun p => Vbcnac.noticed s (Vbcnac.portAt s b p) := by
  unfold cameAt
  have e : (Vbcnac.bridgeAt s b).ports = (List.range 16).map fun p => Vbcnac.portAt s b p := list16 _ ({} : Vbcnac.Port) h
  rw [e, List.map_map]
  rfl
theorem came_any {s : Vbcnac.State} {b : Nat} (h : (Vbcnac.bridgeAt s b).ports.length = 16) : (cameAt s b).any id = decide (0 < (gv s b).length) := by
  rw [came_map h, List.any_map]
  cases q : (List.range 16).any (id ∘ fun p => Vbcnac.noticed s (Vbcnac.portAt s b p)) with
  | true =>
    obtain ⟨p, hp, hq⟩ := List.any_eq_true.mp q
    exact (decide_eq_true (List.length_pos_of_mem (List.mem_filter.mpr ⟨hp, hq⟩))).symm
  | false =>
    symm
    rw [decide_eq_false_iff_not]
    intro z
    obtain ⟨p, hp⟩ := List.exists_mem_of_length_pos z
    obtain ⟨h1, h2⟩ := List.mem_filter.mp hp
    exact List.any_eq_false.mp q p h1 h2
theorem zip_map_self {α : Type} (f : Nat → α) : ∀ l : List Nat, l.zip (l.map f) = l.map fun p => (p, f p)
  | [] => rfl
  | a :: l => by rw [List.map_cons, List.zip_cons_cons, zip_map_self f l, List.map_cons]
theorem tell_eq {s : Vbcnac.State} {b i : Nat} (h : (Vbcnac.bridgeAt s b).ports.length = 16) : tellAt s b i = (decide (0 < changedAt s b) || (gv s b).any fun p => p != i) := by
  unfold tellAt gv
  rw [came_map h, List.length_map, List.length_range, zip_map_self, List.any_map, List.any_filter]
  rfl
theorem gv_nodup (s : Vbcnac.State) (b : Nat) : (gv s b).Nodup := List.Pairwise.filter _ List.nodup_range
theorem tell_many {s : Vbcnac.State} {b : Nat} (h : (Vbcnac.bridgeAt s b).ports.length = 16) (hm : 0 < changedAt s b ∨ 1 < (gv s b).length) (i : Nat) : tellAt s b i = true := by
  rw [tell_eq h]
  rcases hm with hm | hm
  · rw [decide_eq_true hm]
    rfl
  · have nd := gv_nodup s b
    have : (gv s b).any (fun p => p != i) = true := by
      match hg : gv s b, hm with
      | x :: y :: r, _ =>
        rw [hg] at nd
        have hxy : x ≠ y := fun z => by
          rw [z] at nd
          exact (List.nodup_cons.mp nd).1 List.mem_cons_self
        by_cases hx : x = i
        · exact List.any_eq_true.mpr ⟨y, by simp, by rw [bne_iff_ne]; exact fun z => hxy (hx.trans z.symm)⟩
        · exact List.any_eq_true.mpr ⟨x, by simp, by rw [bne_iff_ne]; exact hx⟩
    rw [this, Bool.or_true]
theorem tell_one {s : Vbcnac.State} {b x : Nat} (h : (Vbcnac.bridgeAt s b).ports.length = 16) (hm : ¬ 0 < changedAt s b) (hg : gv s b = [x]) (i : Nat) : tellAt s b i = (i != x) := by
  rw [tell_eq h, decide_eq_false hm, hg]
  show (false || ((x != i) || false)) = _
  rw [Bool.false_or, Bool.or_false]
  cases q : (i != x) with
  | true =>
    rw [bne_iff_ne] at q ⊢
    exact q.symm
  | false =>
    have q2 : i = x := by simpa using q
    rw [q2]
    simp
theorem tell_none {s : Vbcnac.State} {b : Nat} (h : (Vbcnac.bridgeAt s b).ports.length = 16) (hm : ¬ 0 < changedAt s b) (hg : gv s b = []) (i : Nat) : tellAt s b i = false := by
  rw [tell_eq h, decide_eq_false hm, hg]
  rfl
theorem round_br {s : Vbcnac.State} {b : Nat} (hb : b < s.bridges.length) (ho : (Vbcnac.bridgeAt s b).on = true) (h : (Vbcnac.bridgeAt s b).ports.length = 16) :
    Vbcnac.bridgeAt (Vbcnac.round s).1 b = { Vbcnac.bridgeAt s b with ports := ph3 s b, stations := if 0 < changedAt s b ∨ 0 < (gv s b).length then [] else Vbcnac.older s.keep (Vbcnac.bridgeAt s b).stations } := by
  have e1 : (Vbcnac.indexed (after1 s b)).map (fun x => ({ x.2 with notice := tellAt s b x.1 } : Vbcnac.Port)) = ph3 s b := by
    refine List.ext_getElem? fun i => ?_
    unfold ph3
    rw [List.getElem?_map, indexed_get, List.getElem?_map]
    by_cases hi : i < 16
    · rw [after1_get s b i (by rw [h]; exact hi), List.getElem?_range hi]
      have h1 := after_wait hb ho (p := i) (by rw [h]; exact hi)
      have h2 := after_heard hb ho (p := i) (by rw [h]; exact hi)
      show some _ = some _
      refine congrArg some ?_
      show ({ Vbcnac.portAfter s (s.bridges.map Vbcnac.sends) (Vbcnac.bridgeAt s b) (Vbcnac.view (Vbcnac.bridgeAt s b)) i (Vbcnac.portAt s b i) with notice := tellAt s b i } : Vbcnac.Port) = { Vbcnac.portAt s b i with heard := nh s b i, wait := nw s b i, notice := tellAt s b i }
      rw [← h1, ← h2]
      rfl
    · rw [List.getElem?_eq_none (by rw [after1_len, h]; omega), List.getElem?_eq_none (by simp; omega)]
      rfl
  rw [round_on s hb ho, e1]
  have e2 : (0 < changedAt s b ∨ (cameAt s b).any id = true) = (0 < changedAt s b ∨ 0 < (gv s b).length) := by
    rw [came_any h, decide_eq_true_eq]
  simp only [e2]
section
variable {P : Program} {w : World} {K : PySem.W.Frag} {mg : Str → Option Value} {base : Heap}
/-! ### renew_notices -/
theorem Only.frm1 {ow : Addr → Nat} {H H1 : Hp} {i : Nat} {a : Addr} {x : Vbcnac.Bridge} {dx : Addr} {l : Nat → Addr} {st : Addr} {vs : Nat → List V} {kvs : List (Key × V)} {H' : Hp} (B : BrAt K ow H1 i a x dx l st vs kvs) (e : Same H H') : Frm1 i ow H H' := fun c o q _ => e c o q
def sp_renew_notices (K : PySem.W.Frag) : Sp := fun vs H Q _ => ∃ n b bg ow as s s0 a db r h g rs kh kg, vs = [.ref n, .int (b : Nat), .ref bg, .int (changedAt s0 b : Nat)] ∧ NetAt K ow as H n s ∧ as[b]? = some a ∧ BegAt K ow H s0 bg db r h g rs kh kg ∧ Vbcnac.bridgeAt s b = { Vbcnac.bridgeAt s0 b with ports := ph2 s0 b } ∧ s.keep = s0.keep ∧ (Vbcnac.bridgeAt s0 b).ports.length = 16 ∧ Vbcnac.isOn s0 b = true ∧ (Vbcnac.bridgeAt s0 b).stations.Pairwise (fun x y => x.number < y.number) ∧ (Vbcnac.bridgeAt s0 b).stations.length ≤ 1024 ∧
  ∀ H' ow', Only a H H' → Loc1 b H H' ow ow' → NetAt K ow' as H' n (Vbcnac.setBridge s b (Vbcnac.bridgeAt (Vbcnac.round s0).1 b)) → Q .non H'
theorem sc_renew_notices : FnScope ["net", "number", "beginning", "changed", "bridge", "given", "place"] ["net", "number", "beginning", "changed"] D_renew_notices.scope := ⟨rfl, rfl, rfl, by decide +kernel, rfl, by decide +kernel, by decide +kernel⟩
-- level 2; slots 0:net 1:number 2:beginning 3:changed 4:bridge 5:given 6:place; captured ['beginning', 'given', 'number']
theorem ok_renew_notices (T : Txt K mg) (G_age_stations : Does P w K mg base 1 "age_stations" ["net", "bridge"] (sp_age_stations K)) : Does P w K mg base 2 "renew_notices" ["net", "number", "beginning", "changed"] (sp_renew_notices K) := by
  refine does_of T 25 (d := D_renew_notices) rfl rfl rfl rfl T.g_renew_notices sc_renew_notices (fun _ _ _ _ _ _ us hl => match us, hl with | [_, _, _, _], _ => rfl) (fun vs H Q E h => by obtain ⟨_, _, _, _, _, _, _, _, _, _, _, _, _, _, _, rfl, _⟩ := h; rfl) (fun cdv A outer s H vs Q E hr h => ⟨_, (pss_cons (ps_set (i := 4) sc_renew_notices.nd rfl (.inl rfl) (pe_ix ix_list (pe_fld (pv 0) rfl) (pv 1) (fun _ _ => rfl)))
      (pss_cons (ps_set (i := 5) sc_renew_notices.nd rfl (.inr rfl) (pe_lc (own := [("place", 6)]) (g := gName 6) rfl sc_renew_notices.nd (pi_range1 (by rfl) T.f_range (pa_cons (pe_gi T.i_PORTS rfl) pa_nil)) (blkOk_by (own := [("place", 6)]) (N := ["net", "number", "beginning", "changed", "bridge", "given", "place"]) (sc := D_renew_notices.scope) (by decide +kernel)) (fun _ _ _ _ _ => (pg_name (i := 6) sc_renew_notices.nd rfl (.inl rfl))) (fun _ _ _ _ _ => (pts_one (pt_cmp (pc_din (hu_of hr) (pe_tup (pa_cons (pv 1) (pa_cons (pv 6) pa_nil))) (pe_fldK (K := K) rfl (pv 2) rfl)) rfl))) (fun _ _ _ _ _ => (pv 6))))
      (pss_cons (ps_if (PW.pt (pw_or (pt_cmpR op_gt (pv 3) pe_int (nomark _)) (pw_or1 (pt_cmpR op_gt (pe_callB call_len_seq (by rfl) T.f_len PySem.boot_len (pa_cons (pv 5) pa_nil)) pe_int (nomark _))))) (pss_one (ps_fld (pv 4) (pe_lc (own := [("place", 6)]) (tt := tYes) (g := gName 6) rfl sc_renew_notices.nd (pi_range1 (by rfl) T.f_range (pa_cons (pe_gi T.i_PORTS rfl) pa_nil)) (blkOk_by (own := [("place", 6)]) (N := ["net", "number", "beginning", "changed", "bridge", "given", "place"]) (sc := D_renew_notices.scope) (by decide +kernel)) (fun _ _ _ _ _ => (pg_name (i := 6) sc_renew_notices.nd rfl (.inl rfl))) (fun _ _ _ _ _ => pts_nil) (fun _ _ _ _ _ => pe_bl)) rfl)) (pss_one (ps_if (pt_cmpR op_eq (pe_callB call_len_seq (by rfl) T.f_len PySem.boot_len (pa_cons (pv 5) pa_nil)) pe_int (nomark _)) (pss_one (ps_fld (pv 4) (pe_lc (own := [("place", 6)]) (tt := tYes) (g := gName 6) rfl sc_renew_notices.nd (pi_range1 (by rfl) T.f_range (pa_cons (pe_gi T.i_PORTS rfl) pa_nil)) (blkOk_by (own := [("place", 6)]) (N := ["net", "number", "beginning", "changed", "bridge", "given", "place"]) (sc := D_renew_notices.scope) (by decide +kernel)) (fun _ _ _ _ _ => (pg_name (i := 6) sc_renew_notices.nd rfl (.inl rfl))) (fun _ _ _ _ _ => pts_nil) (fun _ _ _ _ _ => (pe_cmpR op_ne (pv 6) (pe_ix (ix_listK (K := K) rfl) (pv 5) pe_int (fun _ _ => rfl)) (nomark _)))) rfl)) (pss_one (ps_fld (pv 4) (pe_lc (own := [("place", 6)]) (tt := tYes) (g := gName 6) rfl sc_renew_notices.nd (pi_range1 (by rfl) T.f_range (pa_cons (pe_gi T.i_PORTS rfl) pa_nil)) (blkOk_by (own := [("place", 6)]) (N := ["net", "number", "beginning", "changed", "bridge", "given", "place"]) (sc := D_renew_notices.scope) (by decide +kernel)) (fun _ _ _ _ _ => (pg_name (i := 6) sc_renew_notices.nd rfl (.inl rfl))) (fun _ _ _ _ _ => pts_nil) (fun _ _ _ _ _ => pe_bl)) rfl)))))
      (pss_one (ps_if (PW.pt (pw_or (pt_cmpR op_gt (pv 3) pe_int (nomark _)) (pw_or1 (pt_cmpR op_gt (pe_callB call_len_seq (by rfl) T.f_len PySem.boot_len (pa_cons (pv 5) pa_nil)) pe_int (nomark _))))) (pss_one (ps_fld (pv 4) pe_dnewK rfl)) (pss_one (ps_expr (pe_f G_age_stations (hr.mono (by decide)) (by rfl) (pa_cons (pv 0) (pa_cons (pv 4) pa_nil)))))))))), ?_⟩)
  obtain ⟨n, b, bg, ow, as, s, s0, a, db, r, h, g, rs, kh, kg, rfl, N, e, G, hx, hkeep, l16, hon, hP, hL, hQ⟩ := h
  have hb := N.lt e
  obtain ⟨hb0, ho0⟩ := isOn_iff.mp hon
  refine r_seq (r_set (go (N.bridge T e vv vv) (nx ?_)))
  refine r_seq (r_set (r_lcR (fun i => if Vbcnac.noticed s0 (Vbcnac.portAt s0 b i) = true then some (.int (i : Nat)) else none) (fun i H1 hi e1 N' M' h1 h2 => ⟨rfl, ?_⟩) fun p5 H1 n5 e1 hl5 => nx ?_))
  · refine r_test (r_din (r_tup (r_cons (go vv (r_cons (go vv (r_nil ⟨by show 2 ≤ sizeLine; decide, fun t3 ht3 => ?_⟩)))))))
    have et3 := same_new (o := .tup [.int (b : Nat), .int (i : Nat)]) ht3
    have e3 := e1.trans et3
    refine go (val_fld (fs := begF r h g) (v := .ref g) vv (e3 _ _ G.self) T.c_Beginning T.n_Beginning_given rfl) ⟨g, _, rfl, DGet.t (k := ck b i) (e3 _ _ G.gg) upd_same, _, rfl, ?_⟩
    rw [G.vg b i hon]
    cases q : Vbcnac.noticed s0 (Vbcnac.portAt s0 b i) with
    | true => exact if_y (go vv (h1 _ _ et3 (by rw [q]; rfl)))
    | false => exact if_n (h2 _ et3 (by rw [q]; rfl))
  have hl : H1 p5 = some (.lst ((gv s0 b).map fun p : Nat => V.int p)) := by
    rw [hl5]
    refine congrArg (fun z => some (HO.lst z)) ?_
    unfold gv
    generalize List.range 16 = l
    induction l with
    | nil => rfl
    | cons x l ih =>
      rw [List.filterMap_cons, List.filter_cons]
      cases q : Vbcnac.noticed s0 (Vbcnac.portAt s0 b x) with
      | true =>
        show V.int (x : Nat) :: _ = _
        rw [ih]
        rfl
      | false => exact ih
  have N1 := N.same e1
  obtain ⟨dx, l, st, ws, kvs, B⟩ := N1.br b a e
  have len2 : (Vbcnac.bridgeAt s b).ports.length = 16 := by
    rw [hx]
    show (ph2 s0 b).length = 16
    unfold ph2
    rw [List.length_map, List.length_range]
  have len3 : (ph3 s0 b).length = 16 := by
    unfold ph3
    rw [List.length_map, List.length_range]
  have pW : ∀ p, p < 16 → (Vbcnac.bridgeAt s b).ports.getD p {} = { Vbcnac.portAt s0 b p with heard := nh s0 b p, wait := nw s0 b p } := fun p hp => by
    rw [hx]
    show (ph2 s0 b).getD p {} = _
    unfold ph2
    rw [range_getD hp]
  have gl : (((gv s0 b).map fun p : Nat => V.int p)).length = (gv s0 b).length := List.length_map _
  have nota : ∀ (p6 : Addr) (H2 : Hp), Same H1 H2 → H1 p6 = none → H2 p6 = some (.lst ((List.range 16).map fun i => V.bl (tellAt s0 b i))) → ∃ ow', Only a H1 (upd H2 a (.ins (He.ga K "Bridge") dx (bF (Vbcnac.bridgeAt s b) (setA l 6 p6) st))) ∧ Loc1 b H1 (upd H2 a (.ins (He.ga K "Bridge") dx (bF (Vbcnac.bridgeAt s b) (setA l 6 p6) st))) ow ow' ∧ NetAt K ow' as (upd H2 a (.ins (He.ga K "Bridge") dx (bF (Vbcnac.bridgeAt s b) (setA l 6 p6) st))) n (Vbcnac.setBridge s b { Vbcnac.bridgeAt s b with ports := ph3 s0 b }) := fun p6 H2 e2 n6 h6 => by
    obtain ⟨ow', M, on, C⟩ := N1.list1 e B e2 (k0 := 6) (P' := ph3 s0 b) n6 h6 (by rw [List.length_map, List.length_range, len3]) (by rw [len3, len2]) (by decide) (fun q v hq => (by
          have hq16 : q < 16 := by
            have := (List.getElem?_eq_some_iff.mp hq).1
            rw [List.length_map, List.length_range] at this
            exact this
          rw [List.getElem?_map, List.getElem?_range hq16] at hq
          unfold ph3
          rw [range_getD hq16, ← Option.some.inj hq]
          rfl)) (fun k hk hk6 q v hq h0 => (by
          rw [len3] at hq
          rw [pW q hq] at h0
          unfold ph3
          rw [range_getD hq]
          match k, hk, hk6 with
          | 0, _, _ => exact h0
          | 1, _, _ => exact h0
          | 2, _, _ => exact h0
          | 3, _, _ => exact h0
          | 4, _, _ => exact h0
          | 5, _, _ => exact h0
          | k + 6, hk, hne => exact absurd (by omega) hne))
    exact ⟨ow', on, C, M⟩
  refine r_seq3 (fun σ' H' => σ' = [some (.ref n), some (.int (b : Nat)), some (.ref bg), some (.int (changedAt s0 b : Nat)), some (.ref a), some (.ref p5), none] ∧ ∃ ow', Only a H1 H' ∧ Loc1 b H1 H' ow ow' ∧ NetAt K ow' as H' n (Vbcnac.setBridge s b { Vbcnac.bridgeAt s b with ports := ph3 s0 b })) ?two fun two => ?one
  case one =>
    have rep : ∀ x : Bool, (∀ i, tellAt s0 b i = x) → List.replicate 16 (V.bl x) = (List.range 16).map fun i => V.bl (tellAt s0 b i) := fun x hx => by
      rw [rep_range]
      exact congrArg (fun f => (List.range 16).map f) (funext fun i => by rw [hx i])
    have yes : (0 < changedAt s0 b ∨ 1 < (gv s0 b).length) → ∀ D : Ends, (∀ σ' H', (σ' = [some (.ref n), some (.int (b : Nat)), some (.ref bg), some (.int (changedAt s0 b : Nat)), some (.ref a), some (.ref p5), none] ∧ ∃ ow', Only a H1 H' ∧ Loc1 b H1 H' ow ow' ∧ NetAt K ow' as H' n (Vbcnac.setBridge s b { Vbcnac.bridgeAt s b with ports := ph3 s0 b })) → D.nx σ' H') → sFld K (tVar 4) (tLc (iRng1 (tCons (tC (.int 16)) tNil)) (gName 6) tYes (tC (.bl true)) [6]) "notices" D [some (.ref n), some (.int (b : Nat)), some (.ref bg), some (.int (changedAt s0 b : Nat)), some (.ref a), some (.ref p5), none] H1 := fun hm D two => by
      refine r_sfld (lc_const fun p6 n6 => go vv ⟨a, _, dx, _, rfl, (B.same (same_new n6)).self, T.c_Bridge, T.n_Bridge_notices, by show 11 < 1000; decide, ?_⟩)
      rw [pF_notices]
      exact two _ _ ⟨rfl, nota p6 _ (same_new n6) n6 (by rw [upd_same, rep true (tell_many l16 hm)])⟩
    refine r_if (r_or (r_test (r_op (go vv (r_c ⟨_, _, rfl, rfl, _, rfl, ?_⟩)))))
    by_cases h1 : 0 < changedAt s0 b
    · rw [decide_eq_true (by omega)]
      exact if_y (if_y (yes (.inl h1) _ two))
    · rw [decide_eq_false (by omega)]
      refine if_n (r_test (r_op (r_cb (r_cons (go vv (r_nil ⟨p5, _, rfl, .inl (SqL.of hl), r_c ⟨_, _, rfl, rfl, _, rfl, ?_⟩⟩))))))
      rw [gl]
      by_cases h2 : 1 < (gv s0 b).length
      · rw [decide_eq_true (by omega)]
        exact if_y (yes (.inr h2) _ two)
      · rw [decide_eq_false (by omega)]
        refine if_n (r_if (r_test (r_op (r_cb (r_cons (go vv (r_nil ⟨p5, _, rfl, .inl (SqL.of hl), r_c ⟨rfl, _, rfl, ?_⟩⟩)))))))
        rw [gl]
        match hg : gv s0 b, h2 with
        | [x], _ =>
          refine if_y (r_sfld (r_lcR (fun i => some (.bl (i != x))) (fun i H2 hi e2 N' M' h1 h2 => ⟨rfl, ?_⟩) fun p6 H2 n6 e2 hl6 => ?_))
          · refine r_yes (iteT (r_op (go vv (go (v_ixL (j := 0) (v := .int (x : Nat)) vv val_c (e2 _ _ hl) (by rw [hg]; rfl)) ⟨rfl, ?_⟩))))
            rw [dec_int]
            exact h1 _ _ (Same.refl _) rfl
          · refine go vv ⟨a, _, dx, _, rfl, (B.same e2).self, T.c_Bridge, T.n_Bridge_notices, by show 11 < 1000; decide, ?_⟩
            rw [pF_notices]
            refine two _ _ ⟨rfl, nota p6 _ e2 n6 ?_⟩
            rw [hl6, List.filterMap_eq_map']
            exact congrArg (fun f => some (HO.lst ((List.range 16).map f))) (funext fun i => by rw [tell_one l16 h1 hg i])
        | [], _ =>
          refine if_n (r_sfld (lc_const fun p6 n6 => go vv ⟨a, _, dx, _, rfl, (B.same (same_new n6)).self, T.c_Bridge, T.n_Bridge_notices, by show 11 < 1000; decide, ?_⟩))
          rw [pF_notices]
          exact two _ _ ⟨rfl, nota p6 _ (same_new n6) n6 (by rw [upd_same, rep false (tell_none l16 h1 hg)])⟩
        | x :: y :: r, h2 => exact absurd (by simp) h2
  case two =>
    rintro σ H2 ⟨rfl, ow2, on2, C2, N2⟩
    have hl2 : H2 p5 = some (.lst ((gv s0 b).map fun p : Nat => V.int p)) := on2 _ _ hl (ne_of hl B.self (by intro z; cases z))
    have bs2 : Vbcnac.bridgeAt (Vbcnac.setBridge s b { Vbcnac.bridgeAt s b with ports := ph3 s0 b }) b = { Vbcnac.bridgeAt s0 b with ports := ph3 s0 b } := by
      rw [bridgeAt_same hb, hx]
    obtain ⟨dx2, l2, st2, ws2, kvs2, B2⟩ := N2.br b a e
    have rb := round_br hb0 ho0 l16
    have fin : ∀ H' ow' sts, Only a H2 H' → Loc1 b H2 H' ow2 ow' → NetAt K ow' as H' n (Vbcnac.setBridge (Vbcnac.setBridge s b { Vbcnac.bridgeAt s b with ports := ph3 s0 b }) b { Vbcnac.bridgeAt (Vbcnac.setBridge s b { Vbcnac.bridgeAt s b with ports := ph3 s0 b }) b with stations := sts }) → sts = (if 0 < changedAt s0 b ∨ 0 < (gv s0 b).length then [] else Vbcnac.older s0.keep (Vbcnac.bridgeAt s0 b).stations) → Q .non H' := fun H' ow' sts on3 C3 N3 hst => by
      refine hQ H' ow' ((Only.of_same e1).trans (on2.trans on3)) ((Loc1.same (Only.frm1 B e1)).trans (C2.trans C3)) ?_
      rw [set_set, bs2] at N3
      rw [rb, ← hst]
      exact N3
    have none_ : (0 < changedAt s0 b ∨ 0 < (gv s0 b).length) → ∀ D : Ends, (∀ σ H', Q .non H' → D.nx σ H') → sFld K (tVar 4) tDNewK "stations" D [some (.ref n), some (.int (b : Nat)), some (.ref bg), some (.int (changedAt s0 b : Nat)), some (.ref a), some (.ref p5), none] H2 := fun hm D hD => by
      refine r_sfld (r_newK fun p6 n6 => go vv ⟨a, _, dx2, _, rfl, (B2.same (same_new n6)).self, T.c_Bridge, T.n_Bridge_stations, by show 11 < 1000; decide, ?_⟩)
      rw [pF_stations]
      obtain ⟨ow', M, on, C⟩ := N2.dict1 e B2 (same_new n6) (kv2 := []) (sts := []) n6 upd_same ⟨[], .refl _, .nil⟩
      exact hD _ _ (fin _ ow' [] on C M (by rw [if_pos hm]))
    refine r_if (r_or (r_test (r_op (go vv (r_c ⟨_, _, rfl, rfl, _, rfl, ?_⟩)))))
    by_cases h1 : 0 < changedAt s0 b
    · rw [decide_eq_true (by omega)]
      exact if_y (if_y (none_ (.inl h1) _ fun _ _ q => q))
    · rw [decide_eq_false (by omega)]
      refine if_n (r_test (r_op (r_cb (r_cons (go vv (r_nil ⟨p5, _, rfl, .inl (SqL.of hl2), r_c ⟨_, _, rfl, rfl, _, rfl, ?_⟩⟩))))))
      rw [gl]
      by_cases h2 : 0 < (gv s0 b).length
      · rw [decide_eq_true (by omega)]
        exact if_y (none_ (.inr h2) _ fun _ _ q => q)
      · rw [decide_eq_false (by omega)]
        refine if_n (r_drop (c2 vv vv ⟨n, a, ow2, as, _, b, rfl, N2, e, ?_, ?_, fun H' ow' on3 C3 N3 => fin H' ow' _ on3 C3 N3 ?_⟩))
        · rw [bs2]
          exact hP
        · rw [bs2]
          exact hL
        · rw [if_neg (by omega), bs2]
          show Vbcnac.older s.keep _ = _
          rw [hkeep]
end
end Sw
namespace Sw
open PySem PySem.Spec PyProof.Rows L2
/-! ### a bridge's lists as data, compared -/
def dHel : Option Vbcnac.Heard → PyData
  | none => .none
  | some h => .tuple (h.told.key.map fun n : Nat => .int n)
def dV : V → PyData
  | .bl b => .bool b
  | .int i => .int i
  | _ => .none
def Okd (d : PyData) (k : Nat) : Prop := d.canLay0 = true ∧ d.depth ≤ k
theorem okd_all {k : Nat} : ∀ {ds : List PyData}, (∀ d ∈ ds, Okd d k) → PyData.canLayAll0 ds = true ∧ PyData.depthAll ds ≤ k
  | [], _ => ⟨rfl, Nat.zero_le _⟩
  | d :: ds, h => by
    obtain ⟨h1, h2⟩ := okd_all fun x hx => h x (List.mem_cons_of_mem _ hx)
    obtain ⟨h3, h4⟩ := h d List.mem_cons_self
    refine ⟨?_, ?_⟩
    · rw [PyData.canLayAll0, h3, h1]
      rfl
    · rw [PyData.depthAll]
      omega
theorem okd_list {k : Nat} {ds : List PyData} (h : ∀ d ∈ ds, Okd d k) : Okd (.list ds) (k + 1) := by
  obtain ⟨h1, h2⟩ := okd_all h
  refine ⟨?_, ?_⟩
  · rw [PyData.canLay0]
    exact h1
  · rw [PyData.depth]
    omega
theorem okd_tup {k : Nat} {ds : List PyData} (h : ∀ d ∈ ds, Okd d k) : Okd (.tuple ds) (k + 1) := by
  obtain ⟨h1, h2⟩ := okd_all h
  refine ⟨?_, ?_⟩
  · rw [PyData.canLay0]
    exact h1
  · rw [PyData.depth]
    omega
theorem okd_int (i : Int) : Okd (.int i) 0 := ⟨rfl, Nat.le_refl _⟩
theorem okd_V (v : V) : Okd (dV v) 1 := by
  unfold dV
  split <;> exact ⟨rfl, Nat.zero_le _⟩
theorem okd_hel (o : Option Vbcnac.Heard) : Okd (dHel o) 1 := by
  cases o with
  | none => exact ⟨rfl, Nat.zero_le _⟩
  | some h =>
    refine okd_tup fun d hd => ?_
    obtain ⟨n, _, rfl⟩ := List.mem_map.mp hd
    exact okd_int _
/-- the four lists -/
def brD (P : List Vbcnac.Port) (ws : Nat → List V) : List PyData := [.list ((List.range 16).map fun p => dHel (P.getD p {}).heard), .list ((ws 4).map dV), .list ((ws 5).map dV), .list ((ws 6).map dV)]
theorem okd_brD (P : List Vbcnac.Port) (ws : Nat → List V) : SeqAt.shaped (.tuple (brD P ws)) = true := by
  have h : Okd (.tuple (brD P ws)) 3 := by
    refine okd_tup fun d hd => ?_
    unfold brD at hd
    simp only [List.mem_cons, List.not_mem_nil, or_false] at hd
    rcases hd with rfl | rfl | rfl | rfl
    · refine okd_list fun d hd => ?_
      obtain ⟨n, _, rfl⟩ := List.mem_map.mp hd
      exact okd_hel _
    · refine okd_list fun d hd => ?_
      obtain ⟨n, _, rfl⟩ := List.mem_map.mp hd
      exact okd_V _
    · refine okd_list fun d hd => ?_
      obtain ⟨n, _, rfl⟩ := List.mem_map.mp hd
      exact okd_V _
    · refine okd_list fun d hd => ?_
      obtain ⟨n, _, rfl⟩ := List.mem_map.mp hd
      exact okd_V _
  unfold SeqAt.shaped
  rw [h.1, decide_eq_true (Nat.le_trans h.2 (by decide))]
  rfl
section
variable {K : PySem.W.Frag} {H : Hp}
theorem dpall_V : ∀ {xs : List V}, (∀ v ∈ xs, (∃ i, v = .int i) ∨ ∃ b, v = .bl b) → DpAll K H xs (xs.map dV)
  | [], _ => .nil
  | v :: xs, h => by
    refine .cons ?_ (dpall_V fun u hu => h u (List.mem_cons_of_mem _ hu))
    rcases h v List.mem_cons_self with ⟨i, rfl⟩ | ⟨b, rfl⟩
    · exact .int i
    · exact .bl b
theorem dpall_ints : ∀ l : List Nat, DpAll K H (l.map fun n : Nat => V.int n) (l.map fun n : Nat => .int n)
  | [] => .nil
  | n :: l => .cons (.int _) (dpall_ints l)
theorem dpall_get {f : Nat → PyData} : ∀ (n : Nat) {xs : List V} (k : Nat), xs.length = n → (∀ p v, xs[p]? = some v → Dp K H v (f (k + p))) → DpAll K H xs ((List.range' k n).map f)
  | 0, xs, k, hl, _ => by
    rw [List.length_eq_zero_iff.mp hl]
    exact .nil
  | n + 1, v :: xs, k, hl, h => by
    rw [List.range'_succ, List.map_cons]
    refine .cons (h 0 v rfl) (dpall_get n (k + 1) (Nat.succ.inj hl) fun p u hu => ?_)
    have := h (p + 1) u hu
    rw [show k + (p + 1) = k + 1 + p by omega] at this
    exact this
theorem dp_br {l : Nat → Addr} {P : List Vbcnac.Port} {ws : Nat → List V} {t : Addr} (ht : H t = some (.tup [.ref (l 3), .ref (l 4), .ref (l 5), .ref (l 6)])) (hl : ∀ k, k < 7 → H (l k) = some (.lst (ws k))) (hn : ∀ k, k < 7 → (ws k).length = 16) (hv : ∀ k, k < 7 → ∀ p v, (ws k)[p]? = some v → PV H k v (P.getD p {})) : Dp K H (.ref t) (.tuple (brD P ws)) := by
  refine .tup (SqT.of ht) (.cons (.lst (SqL.of (hl 3 (by decide))) ?_) (.cons (.lst (SqL.of (hl 4 (by decide))) (dpall_V fun v hm => ?_)) (.cons (.lst (SqL.of (hl 5 (by decide))) (dpall_V fun v hm => ?_)) (.cons (.lst (SqL.of (hl 6 (by decide))) (dpall_V fun v hm => ?_)) .nil))))
  · rw [List.range_eq_range']
    refine dpall_get 16 0 (hn 3 (by decide)) fun p v h => ?_
    rw [Nat.zero_add]
    have hh : Hel H v (P.getD p {}).heard := hv 3 (by decide) p v h
    cases ho : (P.getD p {}).heard with
    | none =>
      rw [ho] at hh
      rw [show v = .non from hh]
      exact .non
    | some x =>
      rw [ho] at hh
      obtain ⟨a, rfl, ha⟩ := hh
      exact .tup (SqT.of ha) (dpall_ints _)
  · obtain ⟨p, hp⟩ := List.mem_iff_getElem?.mp hm
    obtain ⟨z, h1, _⟩ := hv 4 (by decide) p v hp
    exact .inl ⟨z, h1⟩
  · obtain ⟨p, hp⟩ := List.mem_iff_getElem?.mp hm
    exact .inl ⟨_, hv 5 (by decide) p v hp⟩
  · obtain ⟨p, hp⟩ := List.mem_iff_getElem?.mp hm
    exact .inr ⟨_, hv 6 (by decide) p v hp⟩
end
theorem eqvAll_get : ∀ {xs ys : List PyData}, PyData.eqvAll xs ys = true → ∀ {i : Nat} {x y : PyData}, xs[i]? = some x → ys[i]? = some y → PyData.eqv x y = true
  | [], _, _, i, x, y, h1, _ => by simp at h1
  | _ :: _, [], _, i, x, y, _, h2 => by simp at h2
  | a :: xs, b :: ys, h, 0, x, y, h1, h2 => by
    rw [PyData.eqvAll, Bool.and_eq_true] at h
    cases (show a = x by simpa using h1)
    cases (show b = y by simpa using h2)
    exact h.1
  | a :: xs, b :: ys, h, i + 1, x, y, h1, h2 => by
    rw [PyData.eqvAll, Bool.and_eq_true] at h
    exact eqvAll_get h.2 (i := i) (by simpa using h1) (by simpa using h2)
theorem told_inj {x y : Vbcnac.Told} (h : PyData.eqvAll (x.key.map fun n : Nat => .int n) (y.key.map fun n : Nat => .int n) = true) : x = y := by
  have g : ∀ i : Nat, ∀ a b : Nat, x.key[i]? = some a → y.key[i]? = some b → a = b := fun i a b ha hb => by
    have := eqvAll_get h (i := i) (x := .int a) (y := .int b) (by rw [List.getElem?_map, ha]; rfl) (by rw [List.getElem?_map, hb]; rfl)
    rw [PyData.eqv] at this
    have e : (a : Int) = b := by simpa using this
    omega
  obtain ⟨⟨a, b⟩, c, ⟨d, e⟩, ⟨f, i⟩⟩ := x
  obtain ⟨⟨a', b'⟩, c', ⟨d', e'⟩, ⟨f', i'⟩⟩ := y
  have g0 : a = a' := g 0 _ _ rfl rfl
  have g1 : b = b' := g 1 _ _ rfl rfl
  have g2 : c = c' := g 2 _ _ rfl rfl
  have g3 : d = d' := g 3 _ _ rfl rfl
  have g4 : e = e' := g 4 _ _ rfl rfl
  have g5 : f = f' := g 5 _ _ rfl rfl
  have g6 : i = i' := g 6 _ _ rfl rfl
  subst g0 g1 g2 g3 g4 g5 g6
  rfl
theorem same_of_eqv {H H' : Hp} {P P' : List Vbcnac.Port} {ws ws' : Nat → List V} (hn : ∀ k, k < 7 → (ws k).length = 16) (hn' : ∀ k, k < 7 → (ws' k).length = 16) (hv : ∀ k, k < 7 → ∀ p v, (ws k)[p]? = some v → PV H k v (P.getD p {})) (hv' : ∀ k, k < 7 → ∀ p v, (ws' k)[p]? = some v → PV H' k v (P'.getD p {}))
    (h : PyData.eqv (.tuple (brD P ws)) (.tuple (brD P' ws')) = true) {p : Nat} (hp : p < 16) : (P.getD p {}).heard = (P'.getD p {}).heard ∧ (P.getD p {}).wait = (P'.getD p {}).wait ∧ (P.getD p {}).notice = (P'.getD p {}).notice := by
  rw [PyData.eqv] at h
  have li : ∀ k, k < 7 → ∃ v v', (ws k)[p]? = some v ∧ (ws' k)[p]? = some v' ∧ PV H k v (P.getD p {}) ∧ PV H' k v' (P'.getD p {}) := fun k hk => by
    have h1 : p < (ws k).length := by rw [hn k hk]; exact hp
    have h2 : p < (ws' k).length := by rw [hn' k hk]; exact hp
    exact ⟨_, _, List.getElem?_eq_getElem h1, List.getElem?_eq_getElem h2, hv k hk p _ (List.getElem?_eq_getElem h1), hv' k hk p _ (List.getElem?_eq_getElem h2)⟩
  have e3 := eqvAll_get h (i := 0) rfl rfl
  have e4 := eqvAll_get h (i := 1) rfl rfl
  have e5 := eqvAll_get h (i := 2) rfl rfl
  have e6 := eqvAll_get h (i := 3) rfl rfl
  rw [PyData.eqv] at e3 e4 e5 e6
  obtain ⟨v4, v4', a1, a2, ⟨z, rfl, a3⟩, z', rfl, a4⟩ := li 4 (by decide)
  obtain ⟨v5, v5', b1, b2, b3, b4⟩ := li 5 (by decide)
  obtain ⟨v6, v6', c1, c2, c3, c4⟩ := li 6 (by decide)
  cases (show v5 = .int _ from b3)
  cases (show v5' = .int _ from b4)
  cases (show v6 = .bl _ from c3)
  cases (show v6' = .bl _ from c4)
  have q3 := eqvAll_get e3 (i := p) (x := dHel (P.getD p {}).heard) (y := dHel (P'.getD p {}).heard) (by rw [List.getElem?_map, List.getElem?_range hp]; rfl) (by rw [List.getElem?_map, List.getElem?_range hp]; rfl)
  have q4 := eqvAll_get e4 (i := p) (x := .int z) (y := .int z') (by rw [List.getElem?_map, a1]; rfl) (by rw [List.getElem?_map, a2]; rfl)
  have q5 := eqvAll_get e5 (i := p) (x := .int (P.getD p {}).wait) (y := .int (P'.getD p {}).wait) (by rw [List.getElem?_map, b1]; rfl) (by rw [List.getElem?_map, b2]; rfl)
  have q6 := eqvAll_get e6 (i := p) (x := .bool (P.getD p {}).notice) (y := .bool (P'.getD p {}).notice) (by rw [List.getElem?_map, c1]; rfl) (by rw [List.getElem?_map, c2]; rfl)
  rw [PyData.eqv] at q4
  rw [PyData.eqv] at q5
  rw [PyData.eqv] at q6
  have z4 : z = z' := by simpa using q4
  have z5 : ((P.getD p {}).wait : Int) = (P'.getD p {}).wait := by simpa using q5
  have z6 : (P.getD p {}).notice = (P'.getD p {}).notice := by simpa using q6
  refine ⟨?_, by omega, z6⟩
  cases h1 : (P.getD p {}).heard with
  | none =>
    rw [h1] at q3
    cases h2 : (P'.getD p {}).heard with
    | none => rfl
    | some y =>
      rw [h2] at q3
      simp [dHel, PyData.eqv] at q3
  | some x =>
    rw [h1] at q3
    cases h2 : (P'.getD p {}).heard with
    | none =>
      rw [h2] at q3
      simp [dHel, PyData.eqv] at q3
    | some y =>
      rw [h2] at q3
      unfold dHel at q3
      rw [PyData.eqv] at q3
      have t := told_inj q3
      have g1 := a3 x h1
      have g2 := a4 y h2
      obtain ⟨xt, xa⟩ := x
      obtain ⟨yt, ya⟩ := y
      have : xa = ya := by
        have h3 : z = (xa : Int) := g1
        have h4 : z' = (ya : Int) := g2
        omega
      rw [show xt = yt from t, this]
end Sw
namespace Sw
open PySem PySem.Spec PyProof.Rows L2
/-- the first bridges done -/
def mapTo (f : Vbcnac.Bridge → Vbcnac.Bridge) (s : Vbcnac.State) (k : Nat) : Vbcnac.State := { s with bridges := (s.bridges.take k).map f ++ s.bridges.drop k }
section
variable {f : Vbcnac.Bridge → Vbcnac.Bridge} {s : Vbcnac.State} {k b : Nat}
theorem mapTo_len : (mapTo f s k).bridges.length = s.bridges.length := by
  unfold mapTo
  simp
  omega
theorem mapTo_zero : mapTo f s 0 = s := by
  unfold mapTo
  simp
theorem mapTo_all : mapTo f s s.bridges.length = { s with bridges := s.bridges.map f } := by
  unfold mapTo
  simp
theorem mapTo_at (h : k ≤ b) : Vbcnac.bridgeAt (mapTo f s k) b = Vbcnac.bridgeAt s b := by
  unfold Vbcnac.bridgeAt mapTo
  show ((s.bridges.take k).map f ++ s.bridges.drop k).getD b _ = _
  rw [List.getD_eq_getElem?_getD, List.getD_eq_getElem?_getD]
  by_cases hk : k ≤ s.bridges.length
  · rw [List.getElem?_append_right (by rw [List.length_map, List.length_take]; omega), List.length_map, List.length_take, List.getElem?_drop]
    congr 2
    omega
  · rw [List.drop_eq_nil_of_le (by omega), List.append_nil, List.getElem?_eq_none (by simp; omega), List.getElem?_eq_none (by omega)]
theorem mapTo_succ (h : k < s.bridges.length) : Vbcnac.setBridge (mapTo f s k) k (f (Vbcnac.bridgeAt s k)) = mapTo f s (k + 1) := by
  unfold Vbcnac.setBridge mapTo
  have e : Vbcnac.bridgeAt s k = s.bridges[k] := by
    unfold Vbcnac.bridgeAt
    rw [List.getD_eq_getElem?_getD, List.getElem?_eq_getElem h]
    rfl
  rw [e]
  have e2 : ((s.bridges.take k).map f ++ s.bridges.drop k).set k (f s.bridges[k]) = (s.bridges.take (k + 1)).map f ++ s.bridges.drop (k + 1) := by
    rw [List.set_append_right _ _ (by rw [List.length_map, List.length_take]; omega), List.length_map, List.length_take, show k - min k s.bridges.length = 0 by omega, List.drop_eq_getElem_cons h, List.set_cons_zero, List.take_succ_eq_append_getElem h, List.map_append, List.append_assoc]
    rfl
  show ({ s with bridges := ((s.bridges.take k).map f ++ s.bridges.drop k).set k (f s.bridges[k]) } : Vbcnac.State) = _
  rw [e2]
theorem mapTo_skip (h : k < s.bridges.length) (hf : f (Vbcnac.bridgeAt s k) = Vbcnac.bridgeAt s k) : mapTo f s (k + 1) = mapTo f s k := by
  rw [← mapTo_succ h, hf, ← mapTo_at (f := f) (s := s) (Nat.le_refl k)]
  unfold Vbcnac.setBridge
  have e : (mapTo f s k).bridges.set k (Vbcnac.bridgeAt (mapTo f s k) k) = (mapTo f s k).bridges := by
    refine List.ext_getElem? fun i => ?_
    rw [List.getElem?_set]
    by_cases q : k = i
    · subst q
      rw [if_pos rfl, if_pos (by rw [mapTo_len]; exact h)]
      unfold Vbcnac.bridgeAt
      rw [List.getD_eq_getElem?_getD, List.getElem?_eq_getElem (by rw [mapTo_len]; exact h)]
      rfl
    · rw [if_neg q]
  rw [e]
end
section
variable {P : Program} {w : World} {K : PySem.W.Frag} {mg : Str → Option Value} {base : Heap}
/-! ### age_all_stations -/
def sp_age_all_stations (K : PySem.W.Frag) : Sp := fun vs H Q _ => ∃ n ow as s, vs = [.ref n] ∧ NetAt K ow as H n s ∧ (∀ b, (Vbcnac.bridgeAt s b).stations.Pairwise (fun x y => x.number < y.number)) ∧ (∀ b, (Vbcnac.bridgeAt s b).stations.length ≤ 1024) ∧
  ∀ H' ow', Frm ow H H' → Grow H ow ow' → NetAt K ow' as H' n (aged s) → Q .non H'
theorem sc_age_all_stations : FnScope ["net", "bridge"] ["net"] D_age_all_stations.scope := ⟨rfl, rfl, rfl, by decide +kernel, rfl, by decide +kernel, by decide +kernel⟩
-- level 2; slots 0:net 1:bridge; captured []
theorem ok_age_all_stations (T : Txt K mg) (G_age_stations : Does P w K mg base 1 "age_stations" ["net", "bridge"] (sp_age_stations K)) : Does P w K mg base 2 "age_all_stations" ["net"] (sp_age_all_stations K) := by
  refine does_of T 27 (d := D_age_all_stations) rfl rfl rfl rfl T.g_age_all_stations sc_age_all_stations (fun _ _ _ _ _ _ us hl => match us, hl with | [_], _ => rfl) (fun vs H Q E h => by obtain ⟨_, _, _, _, rfl, _⟩ := h; rfl) (fun cdv A outer s H vs Q E hr h => ⟨_, (pss_one (ps_for PassesOwn.never rfl (pi_list (pe_fld (pv 0) rfl)) (pg_name (i := 1) sc_age_all_stations.nd rfl (.inl rfl)) (pss_one (ps_if (pt_val (pe_fld (pv 1) rfl)) (pss_one (ps_expr (pe_f G_age_stations (hr.mono (by decide)) (by rfl) (pa_cons (pv 0) (pa_cons (pv 1) pa_nil))))) pss_nil)))), ?_⟩)
  obtain ⟨n, ow, as, s, rfl, N, hP, hL, hQ⟩ := h
  obtain ⟨dn, bl, k1, k2, k3, k4⟩ := N.ex
  have hlen : (as.map V.ref).length = s.bridges.length := (List.length_map _).trans N.len
  refine r_for (r_ilist (go (val_fld vv k1 T.c_Net T.n_Net_bridges (nF_bridges s bl)) ⟨bl, rfl, ⟨_, SqL.of k2⟩, for_it walk_list
    (fun b σ H' => ∃ v1 ow', σ = [some (.ref n), v1] ∧ NetAt K ow' as H' n (mapTo (agedB s.keep) s b) ∧ Frm ow H H' ∧ Grow H ow ow' ∧ H' bl = some (.lst (as.map V.ref))) ⟨none, ow, rfl, by rw [mapTo_zero]; exact N, Frm.refl _ _, Grow.refl _ _, k2⟩ (fun b σ H' _ ⟨_, _, _, _, _, _, h⟩ => SqL.of h) ?hs ?hd⟩))
  case hs =>
    rintro b x σ H1 H2 hb ⟨v1, ow1, rfl, N1, F1, G1, hbl⟩ ⟨rfl, hx⟩
    have hb2 : b < s.bridges.length := by omega
    obtain ⟨a, ea⟩ := N.addr hb2
    rw [List.getElem?_map, ea] at hx
    cases hx
    obtain ⟨dx, l, st, ws, kvs, B⟩ := N1.br b a ea
    have eb := mapTo_at (f := agedB s.keep) (s := s) (Nat.le_refl b)
    refine r_if (r_tb (go (B.fon T vv) ⟨_, rfl, ?_⟩))
    rw [eb]
    cases hon : (Vbcnac.bridgeAt s b).on with
    | false =>
      refine if_n (r_next ⟨_, ow1, rfl, ?_, F1, G1, hbl⟩)
      rw [mapTo_skip hb2 (by unfold agedB; rw [if_neg (by rw [hon]; decide)])]
      exact N1
    | true =>
      refine if_y (r_drop (c2 vv vv ⟨n, a, ow1, as, _, b, rfl, N1, ea, by rw [eb]; exact hP b, by rw [eb]; exact hL b, fun H' ow' on C N2 => ⟨_, ow', rfl, ?_, F1.trans G1 C.fr.frm, Grow.trans F1 G1 C.gr, on _ _ hbl (ne_of hbl B.self (by intro z; cases z))⟩⟩))
      rw [← mapTo_succ hb2]
      have : agedB s.keep (Vbcnac.bridgeAt s b) = { Vbcnac.bridgeAt (mapTo (agedB s.keep) s b) b with stations := Vbcnac.older (mapTo (agedB s.keep) s b).keep (Vbcnac.bridgeAt (mapTo (agedB s.keep) s b) b).stations } := by
        rw [eb]
        unfold agedB
        rw [if_pos hon]
        rfl
      rw [this]
      exact N2
  case hd =>
    rintro σ H1 ⟨v1, ow1, rfl, N1, F1, G1, hbl⟩
    rw [hlen, mapTo_all] at N1
    exact hQ H1 ow1 F1 G1 N1
end
end Sw
namespace Sw
open PySem PySem.Spec PyProof.Rows L2
def rf (s : Vbcnac.State) (x : Vbcnac.Bridge) : Vbcnac.Bridge := (Vbcnac.bridgeAfter s (s.bridges.map Vbcnac.sends) x).1
def rn (s : Vbcnac.State) (k : Nat) : Nat := ((s.bridges.take k).map fun x => (Vbcnac.bridgeAfter s (s.bridges.map Vbcnac.sends) x).2).sum
theorem rn_succ {s : Vbcnac.State} {k : Nat} (h : k < s.bridges.length) : rn s (k + 1) = rn s k + if (Vbcnac.bridgeAt s k).on = true then changedAt s k else 0 := by
  unfold rn
  rw [List.take_succ_eq_append_getElem h, List.map_append, List.sum_append, ← after_num]
  have e : Vbcnac.bridgeAt s k = s.bridges[k] := by
    unfold Vbcnac.bridgeAt
    rw [List.getD_eq_getElem?_getD, List.getElem?_eq_getElem h]
    rfl
  rw [e]
  simp
theorem rn_all (s : Vbcnac.State) : rn s s.bridges.length = (Vbcnac.round s).2 := by
  unfold rn
  show _ = ((s.bridges.map fun b => Vbcnac.bridgeAfter s (s.bridges.map Vbcnac.sends) b).map fun x => x.2).sum
  rw [List.take_length, List.map_map]
  rfl
theorem rf_all (s : Vbcnac.State) : mapTo (rf s) s s.bridges.length = { (Vbcnac.round s).1 with quiet := s.quiet } := by
  rw [mapTo_all]
  show _ = ({ s with bridges := (s.bridges.map fun b => Vbcnac.bridgeAfter s (s.bridges.map Vbcnac.sends) b).map fun x => x.1 } : Vbcnac.State)
  rw [List.map_map]
  rfl
theorem rf_off {s : Vbcnac.State} {b : Nat} (h : (Vbcnac.bridgeAt s b).on = false) : rf s (Vbcnac.bridgeAt s b) = Vbcnac.bridgeAt s b := by
  unfold rf Vbcnac.bridgeAfter
  rw [if_pos h]
theorem ports_ext {P P' : List Vbcnac.Port} (h : P.length = 16) (h' : P'.length = 16) (e : ∀ p, p < 16 → P.getD p {} = P'.getD p {}) : P = P' := by
  rw [list16 P ({} : Vbcnac.Port) h, list16 P' ({} : Vbcnac.Port) h']
  exact List.map_congr_left fun p hp => e p (List.mem_range.mp hp)
theorem port_eta {x : Vbcnac.Port} {h : Option Vbcnac.Heard} {w : Nat} {t : Bool} (h1 : x.heard = h) (h2 : x.wait = w) (h3 : x.notice = t) : ({ x with heard := h, wait := w, notice := t } : Vbcnac.Port) = x := by
  subst h1 h2 h3
  rfl
section
variable {P : Program} {w : World} {K : PySem.W.Frag} {mg : Str → Option Value} {base : Heap}
/-! ### make_round -/
def sp_make_round (K : PySem.W.Frag) : Sp := fun vs H Q _ => ∃ n ow as s, vs = [.ref n] ∧ NetAt K ow as H n s ∧ Inv s ∧
  ∀ t H' ow' (st : Bool), Frm ow H H' → Grow H ow ow' → NetAt K ow' as H' n { (Vbcnac.round s).1 with quiet := s.quiet } → (st = true → Still s) → H' t = some (.tup [.int ((Vbcnac.round s).2 : Nat), .bl st]) → Q (.ref t) H'
theorem sc_make_round : FnScope ["net", "beginning", "changes", "is_still", "number", "bridge", "before", "changed"] ["net"] D_make_round.scope := ⟨rfl, rfl, rfl, by decide +kernel, rfl, by decide +kernel, by decide +kernel⟩
-- level 5; slots 0:net 1:beginning 2:changes 3:is_still 4:number 5:bridge 6:before 7:changed; captured []
theorem ok_make_round (T : Txt K mg) (G_beginning_of : Does P w K mg base 4 "beginning_of" ["net"] (sp_beginning_of K)) (G_renew_hellos : Does P w K mg base 1 "renew_hellos" ["net", "number", "beginning"] (sp_renew_hellos K)) (G_renew_waits : Does P w K mg base 1 "renew_waits" ["net", "number", "beginning"] (sp_renew_waits K)) (G_renew_notices : Does P w K mg base 2 "renew_notices" ["net", "number", "beginning", "changed"] (sp_renew_notices K)) : Does P w K mg base 5 "make_round" ["net"] (sp_make_round K) := by
  refine does_of T 21 (d := D_make_round) rfl rfl rfl rfl T.g_make_round sc_make_round (fun _ _ _ _ _ _ us hl => match us, hl with | [_], _ => rfl) (fun vs H Q E h => by obtain ⟨_, _, _, _, rfl, _⟩ := h; rfl) (fun cdv A outer s H vs Q E hr h => ⟨_, (pss_cons (ps_set (i := 1) sc_make_round.nd rfl (.inl rfl) (pe_f G_beginning_of (hr.mono (by decide)) (by rfl) (pa_cons (pv 0) pa_nil)))
      (pss_cons (ps_set (i := 2) sc_make_round.nd rfl (.inl rfl) pe_int)
      (pss_cons (ps_set (i := 3) sc_make_round.nd rfl (.inl rfl) pe_bl)
      (pss_cons (ps_for PassesOwn.never rfl (pi_enum (by rfl) T.f_enumerate (pa_cons (pe_fld (pv 0) rfl) pa_nil)) (pg_tup (n := 2) rfl (pgs_cons (pg_name (i := 4) sc_make_round.nd rfl (.inl rfl)) (pgs_cons (pg_name (i := 5) sc_make_round.nd rfl (.inl rfl)) pgs_nil))) (pss_one (ps_if (pt_val (pe_fld (pv 5) rfl)) (pss_cons (ps_set (i := 6) sc_make_round.nd rfl (.inl rfl) (pe_tup (pa_cons (pe_fld (pv 5) rfl) (pa_cons (pe_fld (pv 5) rfl) (pa_cons (pe_fld (pv 5) rfl) (pa_cons (pe_fld (pv 5) rfl) pa_nil))))))
      (pss_cons (ps_expr (pe_f G_renew_hellos (hr.mono (by decide)) (by rfl) (pa_cons (pv 0) (pa_cons (pv 4) (pa_cons (pv 1) pa_nil)))))
      (pss_cons (ps_set (i := 7) sc_make_round.nd rfl (.inl rfl) (pe_f G_renew_waits (hr.mono (by decide)) (by rfl) (pa_cons (pv 0) (pa_cons (pv 4) (pa_cons (pv 1) pa_nil)))))
      (pss_cons (ps_expr (pe_f G_renew_notices (hr.mono (by decide)) (by rfl) (pa_cons (pv 0) (pa_cons (pv 4) (pa_cons (pv 1) (pa_cons (pv 7) pa_nil))))))
      (pss_cons (ps_set (i := 2) sc_make_round.nd rfl (.inl rfl) (pe_op op_add (pv 2) (pv 7)))
      (pss_one (ps_if (pt_cmpR (op_neD (hu64 hr)) (pv 6) (pe_tup (pa_cons (pe_fld (pv 5) rfl) (pa_cons (pe_fld (pv 5) rfl) (pa_cons (pe_fld (pv 5) rfl) (pa_cons (pe_fld (pv 5) rfl) pa_nil))))) (nomark _)) (pss_one (ps_set (i := 3) sc_make_round.nd rfl (.inl rfl) pe_bl)) pss_nil))))))) pss_nil)))
      (pss_one (ps_ret (pe_tup (pa_cons (pv 2) (pa_cons (pv 3) pa_nil))))))))), ?_⟩)
  obtain ⟨n, ow, as, s, rfl, N, I, hQ⟩ := h
  have hlen : (as.map V.ref).length = s.bridges.length := (List.length_map _).trans N.len
  refine r_seq (r_set (r_call (r_cons (go vv (r_nil ⟨ow, as, n, s, rfl, N, I, fun bg H1 e1 hbg => nx ?_⟩)))))
  obtain ⟨db, r, h, g, rs, kh, kg, G⟩ := hbg
  have N1 := N.same e1
  obtain ⟨dn, bl, k1, k2, k3, k4⟩ := N1.ex
  refine r_seq (r_set (r_c (nx (r_seq (r_set (r_c (nx ?_)))))))
  refine r_seq (r_for (r_enum (r_cons (go (val_fld vv k1 T.c_Net T.n_Net_bridges (nF_bridges s bl)) (r_nil ⟨bl, as.map V.ref, rfl, SqL.of k2, for_it walk_enum
    (fun b σ H' => ∃ st v4 v5 v6 v7 ow', σ = [some (.ref n), some (.ref bg), some (.int (rn s b : Nat)), some (.bl st), v4, v5, v6, v7] ∧ NetAt K ow' as H' n (mapTo (rf s) s b) ∧ Frm ow H H' ∧ Grow H ow ow' ∧ BegAt K ow' H' s bg db r h g rs kh kg ∧ H' bl = some (.lst (as.map V.ref)) ∧ (st = true → ∀ c, c < b → (Vbcnac.bridgeAt (Vbcnac.round s).1 c).ports = (Vbcnac.bridgeAt s c).ports))
    ⟨true, none, none, none, none, ow, rfl, by rw [mapTo_zero]; exact N1, fun c o q _ => e1 c o q, Grow.refl _ _, G, k2, fun _ c hc => absurd hc (Nat.not_lt_zero c)⟩ (fun b σ H' _ ⟨_, _, _, _, _, _, _, _, _, _, _, h, _⟩ => SqL.of h) ?hs ?hd⟩)))))
  case hd =>
    rintro σ H2 ⟨st, v4, v5, v6, v7, ow2, rfl, N2, F2, G2, B2, hbl, hst⟩
    rw [hlen] at N2 hst
    rw [hlen]
    rw [rf_all] at N2
    refine nx (r_ret (r_tup (r_cons (go vv (r_cons (go vv (r_nil ⟨by show 2 ≤ sizeLine; decide, fun t ht => ?_⟩)))))))
    refine hQ t _ ow2 st (fun c o q z => same_new ht _ _ (F2 c o q z)) G2 (N2.same (same_new ht)) (fun hs c => ?_) (by rw [upd_same, rn_all])
    by_cases hc : c < s.bridges.length
    · exact hst hs c hc
    · rw [bridgeAt_out hc, bridgeAt_out (by rw [round_len]; exact hc)]
  case hs =>
    rintro b y σ H2 H3 hb ⟨st, v4, v5, v6, v7, ow2, rfl, N2, F2, G2, B2, hbl, hst⟩ ⟨t, z1, z2, rfl, ht, rfl, y1, y2⟩
    cases y1
    have hb2 : b < s.bridges.length := by omega
    obtain ⟨a, ea⟩ := N.addr hb2
    have y3 : (as.map V.ref)[b]? = some z2 := y2
    rw [List.getElem?_map, ea] at y3
    cases y3
    have et := same_new (o := .tup [.int (b : Nat), .ref a]) ht
    have N3 := N2.same et
    have B3 : BegAt K ow2 (upd H2 t (.tup [.int (b : Nat), .ref a])) s bg db r h g rs kh kg := B2.later (fun c o q _ => et c o q) (Grow.refl _ _) (Tup.of_same et)
    have F3 : Frm ow H (upd H2 t (.tup [.int (b : Nat), .ref a])) := fun c o q z => et _ _ (F2 c o q z)
    have hbl3 := et _ _ hbl
    obtain ⟨dx, l, stt, ws, kvs, B⟩ := N3.br b a ea
    have eb := mapTo_at (f := rf s) (s := s) (Nat.le_refl b)
    have htt : (upd H2 t (.tup [.int (b : Nat), .ref a])) t = some (.tup [.int (b : Nat), .ref a]) := upd_same
    generalize (upd H2 t (.tup [.int (b : Nat), .ref a])) = H3 at N3 B3 F3 hbl3 B et htt
    refine g2 htt (r_if (r_tb (go (B.fon T vv) ⟨_, rfl, ?_⟩)))
    rw [eb]
    have hrn := rn_succ hb2
    cases hon : (Vbcnac.bridgeAt s b).on with
    | false =>
      rw [if_neg (by rw [hon]; decide), Nat.add_zero] at hrn
      refine if_n (r_next ⟨st, _, _, v6, v7, ow2, by rw [hrn]; rfl, ?_, F3, G2, B3, hbl3, fun hs c hc => ?_⟩)
      · rw [mapTo_skip hb2 (rf_off hon)]
        exact N3
      · by_cases hcb : c = b
        · rw [hcb, round_off s hb2 hon]
        · exact hst hs c (by omega)
    | true =>
      have ho : Vbcnac.isOn s b = true := isOn_iff.mpr ⟨hb2, hon⟩
      have l16 := I.np b hb2
      rw [if_pos hon] at hrn
      have bl16 : (Vbcnac.bridgeAt (mapTo (rf s) s b) b).ports.length = 16 := by rw [eb]; exact l16
      have hb3 : b < (mapTo (rf s) s b).bridges.length := by rw [mapTo_len]; exact hb2
      refine if_y (r_seq (r_set (r_tup (r_cons (go (B.fhellos T vv) (r_cons (go (B.fages T vv) (r_cons (go (B.fwaits T vv) (r_cons (go (B.fnotices T vv) (r_nil ⟨by show 4 ≤ sizeLine; decide, fun t0 ht0 => nx ?_⟩))))))))))))
      have et0 := same_new (o := .tup [.ref (l 3), .ref (l 4), .ref (l 5), .ref (l 6)]) ht0
      have N4 := N3.same et0
      have B4 := B3.later (fun c o q _ => et0 c o q) (Grow.refl _ _) (Tup.of_same et0)
      have C4 := B.same et0
      have F4 : Frm ow H (upd H3 t0 (.tup [.ref (l 3), .ref (l 4), .ref (l 5), .ref (l 6)])) := fun c o q z => et0 _ _ (F3 c o q z)
      have hbl4 := et0 _ _ hbl3
      have h04 : (upd H3 t0 (.tup [.ref (l 3), .ref (l 4), .ref (l 5), .ref (l 6)])) t0 = some (.tup [.ref (l 3), .ref (l 4), .ref (l 5), .ref (l 6)]) := upd_same
      generalize (upd H3 t0 (.tup [.ref (l 3), .ref (l 4), .ref (l 5), .ref (l 6)])) = H4 at N4 B4 C4 F4 hbl4 h04
      refine r_seq (r_drop (c3 vv vv vv ⟨n, b, bg, ow2, as, _, s, a, dx, l, stt, ws, kvs, db, r, h, g, rs, kh, kg, rfl, N4, ea, C4, B4, eb, rfl, bl16, ho, fun H5 ow5 on5 L5 N5 => nx ?_⟩))
      have B5 := B4.later L5.fr.frm L5.gr (Only.tup C4 on5)
      have eb5 : Vbcnac.bridgeAt (Vbcnac.setBridge (mapTo (rf s) s b) b { Vbcnac.bridgeAt (mapTo (rf s) s b) b with ports := ph1 s b }) b = { Vbcnac.bridgeAt s b with ports := ph1 s b } := by
        rw [bridgeAt_same hb3, eb]
      obtain ⟨dx5, l5, st5, ws5, kvs5, C5⟩ := N5.br b a ea
      refine r_seq (r_set (c3 vv vv vv ⟨n, b, bg, ow5, as, _, s, a, dx5, l5, st5, ws5, kvs5, db, r, h, g, rs, kh, kg, rfl, N5, ea, C5, B5, eb5, rfl, l16, ho, fun H6 ow6 on6 L6 N6 => nx ?_⟩))
      have B6 := B5.later L6.fr.frm L6.gr (Only.tup C5 on6)
      rw [set_set, eb5] at N6
      have eb6 : Vbcnac.bridgeAt (Vbcnac.setBridge (mapTo (rf s) s b) b { Vbcnac.bridgeAt s b with ports := ph2 s b }) b = { Vbcnac.bridgeAt s b with ports := ph2 s b } := bridgeAt_same hb3
      obtain ⟨dx6, l6, st6, ws6, kvs6, C6⟩ := N6.br b a ea
      refine r_seq (r_drop (c4 vv vv vv vv ⟨n, b, bg, ow6, as, _, s, a, db, r, h, g, rs, kh, kg, rfl, N6, ea, B6, eb6, rfl, l16, ho, I.stS b, Nat.le_trans (I.stL b) I.rm, fun H7 ow7 on7 L7 N7 => nx ?_⟩))
      have B7 := B6.later L7.fr.frm L7.gr (Only.tup C6 on7)
      rw [set_set] at N7
      have eb7 : Vbcnac.bridgeAt (Vbcnac.setBridge (mapTo (rf s) s b) b (Vbcnac.bridgeAt (Vbcnac.round s).1 b)) b = Vbcnac.bridgeAt (Vbcnac.round s).1 b := bridgeAt_same hb3
      obtain ⟨dx7, l7, st7, ws7, kvs7, C7⟩ := N7.br b a ea
      have on47 : Only a H4 H7 := on5.trans (on6.trans on7)
      have L47 := L5.trans (L6.trans L7)
      rw [eb7] at C7
      have hround : rf s (Vbcnac.bridgeAt s b) = Vbcnac.bridgeAt (Vbcnac.round s).1 b := (round_at s hb2).symm
      rw [← hround, mapTo_succ hb2] at N7
      refine r_seq (r_set (v_add vv vv _ (nx ?_)))
      refine r_if (r_test (r_op (go vv (r_tup (r_cons (go (C7.fhellos T vv) (r_cons (go (C7.fages T vv) (r_cons (go (C7.fwaits T vv) (r_cons (go (C7.fnotices T vv) (r_nil ⟨by show 4 ≤ sizeLine; decide, fun t1 ht1 => ?_⟩)))))))))))))
      have et1 := same_new (o := .tup [.ref (l7 3), .ref (l7 4), .ref (l7 5), .ref (l7 6)]) ht1
      have t48 : Tup H4 (upd H7 t1 (.tup [.ref (l7 3), .ref (l7 4), .ref (l7 5), .ref (l7 6)])) := fun c xs q => et1 _ _ (Only.tup C4 on47 c xs q)
      have len7 : (Vbcnac.bridgeAt (Vbcnac.round s).1 b).ports.length = 16 := by
        rw [round_plen]
        exact l16
      have lw4 : ∀ k, k < 7 → (ws k).length = 16 := fun k hk => by rw [C4.len k hk, bl16]
      have lw7 : ∀ k, k < 7 → (ws7 k).length = 16 := fun k hk => by rw [C7.len k hk, len7]
      have pv4 : ∀ k, k < 7 → ∀ p v, (ws k)[p]? = some v → PV (upd H7 t1 (.tup [.ref (l7 3), .ref (l7 4), .ref (l7 5), .ref (l7 6)])) k v ((Vbcnac.bridgeAt s b).ports.getD p {}) := fun k hk p v hv => by
        have := PV.mono t48 (C4.val k hk p v hv)
        rw [eb] at this
        exact this
      have C8 := C7.same et1
      refine ⟨_, _, dp_br (t48 _ _ h04) (fun k hk => et1 _ _ (on47 _ _ (C4.lst k hk) (C4.la hk))) lw4 pv4, dp_br upd_same (fun k hk => C8.lst k hk) lw7 (fun k hk p v hv => C8.val k hk p v hv), okd_brD _ _, okd_brD _ _, _, rfl, ?_⟩
      have fin : ∀ st', (st' = true → st = true ∧ (Vbcnac.bridgeAt (Vbcnac.round s).1 b).ports = (Vbcnac.bridgeAt s b).ports) → ∃ st v4 v5 v6 v7 ow', ([some (.ref n), some (.ref bg), some (.int ((rn s b : Nat) + (changedAt s b : Nat))), some (.bl st'), some (.int (b : Nat)), some (.ref a), some (.ref t0), some (.int (changedAt s b : Nat))] : List (Option V)) = [some (.ref n), some (.ref bg), some (.int (rn s (b + 1) : Nat)), some (.bl st), v4, v5, v6, v7] ∧ NetAt K ow' as (upd H7 t1 (.tup [.ref (l7 3), .ref (l7 4), .ref (l7 5), .ref (l7 6)])) n (mapTo (rf s) s (b + 1)) ∧ Frm ow H (upd H7 t1 (.tup [.ref (l7 3), .ref (l7 4), .ref (l7 5), .ref (l7 6)])) ∧ Grow H ow ow' ∧ BegAt K ow' (upd H7 t1 (.tup [.ref (l7 3), .ref (l7 4), .ref (l7 5), .ref (l7 6)])) s bg db r h g rs kh kg ∧ (upd H7 t1 (.tup [.ref (l7 3), .ref (l7 4), .ref (l7 5), .ref (l7 6)])) bl = some (.lst (as.map V.ref)) ∧ (st = true → ∀ c, c < b + 1 → (Vbcnac.bridgeAt (Vbcnac.round s).1 c).ports = (Vbcnac.bridgeAt s c).ports) := fun st' hst' => by
        refine ⟨st', _, _, _, _, ow7, by rw [hrn]; rfl, N7.same et1, fun c o q z => et1 _ _ ((F4.trans G2 L47.fr.frm) c o q z), Grow.trans F4 G2 L47.gr, B7.later (fun c o q _ => et1 c o q) (Grow.refl _ _) (Tup.of_same et1), et1 _ _ (on47 _ _ hbl4 (ne_of hbl4 C4.self (by intro z; cases z))), fun hs c hc => ?_⟩
        obtain ⟨h1, h2⟩ := hst' hs
        by_cases hcb : c = b
        · rw [hcb]
          exact h2
        · exact hst h1 c (by omega)
      cases hq : PyData.eqv (.tuple (brD (Vbcnac.bridgeAt s b).ports ws)) (.tuple (brD (Vbcnac.bridgeAt (Vbcnac.round s).1 b).ports ws7)) with
      | false => exact if_y (r_set (r_c (fin false fun z => by cases z)))
      | true =>
        refine if_n (r_next (fin st fun z => ⟨z, ?_⟩))
        refine ports_ext len7 l16 fun p hp => ?_
        obtain ⟨g1, g2, g3⟩ := same_of_eqv lw4 lw7 pv4 (fun k hk p v hv => C8.val k hk p v hv) hq hp
        have hrb : (Vbcnac.bridgeAt (Vbcnac.round s).1 b).ports = ph3 s b := by rw [round_br hb2 hon l16]
        rw [hrb] at g1 g2 g3 ⊢
        unfold ph3 at g1 g2 g3 ⊢
        rw [range_getD hp] at g1 g2 g3 ⊢
        exact port_eta g1 g2 g3
end
end Sw
namespace Sw
open PySem PySem.Spec PyProof.Rows L2
theorem rounds_snoc : ∀ (k : Nat) (s : Vbcnac.State), Vbcnac.rounds (k + 1) s = ((Vbcnac.round (Vbcnac.rounds k s).1).1, (Vbcnac.rounds k s).2 + (Vbcnac.round (Vbcnac.rounds k s).1).2)
  | 0, s => by
    show ((Vbcnac.round s).1, (Vbcnac.round s).2 + 0) = ((Vbcnac.round s).1, 0 + (Vbcnac.round s).2)
    rw [Nat.add_zero, Nat.zero_add]
  | k + 1, s => by
    have ih := rounds_snoc k (Vbcnac.round s).1
    have e : ∀ j, Vbcnac.rounds (j + 1) s = ((Vbcnac.rounds j (Vbcnac.round s).1).1, (Vbcnac.round s).2 + (Vbcnac.rounds j (Vbcnac.round s).1).2) := fun _ => rfl
    rw [e (k + 1), e k, ih]
    show (_, _) = (_, _)
    rw [Nat.add_assoc]
theorem rounds_begun : ∀ (k : Nat) (s : Vbcnac.State), (Vbcnac.rounds k s).1.begun = s.begun
  | 0, _ => rfl
  | k + 1, s => rounds_begun k (Vbcnac.round s).1
section
variable {P : Program} {w : World} {K : PySem.W.Frag} {mg : Str → Option Value} {base : Heap}
/-- net.quiet = a number -/
theorem r_quietN {ow : Addr → Nat} {as : List Addr} {H : Hp} {n : Addr} {s : Vbcnac.State} {σ : L2.St} {D : Ends} {te : TE} {k : Nat} (T : Txt K mg) (N : NetAt K ow as H n s) (hv : Val te σ H (.int (k : Nat))) (h : ∀ H', NetAt K ow as H' n { s with quiet := k } → Frm ow H H' → D.nx σ H') (ha : σ[0]? = some (some (.ref n)) := by rfl) : sFld K (tVar 0) te "quiet" D σ H := by
  obtain ⟨dx, bl, h1, h2, h3, h4⟩ := N.ex
  refine hv _ ⟨_, ha, n, _, dx, _, rfl, h1, T.c_Net, T.n_Net_quiet, by show 6 < 1000; decide, ?_⟩
  rw [show (putF "quiet" (.int (k : Nat)) (nF s bl)) = nF { s with quiet := k } bl from pF_quiet s bl k]
  exact h _ (N.quiet k h1) (frm_set (by rw [h3]; decide))
/-! ### make_rounds -/
def sp_make_rounds (K : PySem.W.Frag) : Sp := fun vs H Q _ => ∃ n c ow as s, vs = [.ref n, .int (c : Nat)] ∧ NetAt K ow as H n s ∧ Inv s ∧ c ≤ 1000 ∧
  ∀ H' ow', Frm ow H H' → Grow H ow ow' → NetAt K ow' as H' n (Vbcnac.rounds c s).1 → Q (.int ((Vbcnac.rounds c s).2 : Nat)) H'
theorem sc_make_rounds : FnScope ["net", "count", "changes", "is_still", "turn", "changed"] ["net", "count"] D_make_rounds.scope := ⟨rfl, rfl, rfl, by decide +kernel, rfl, by decide +kernel, by decide +kernel⟩
-- level 6; slots 0:net 1:count 2:changes 3:is_still 4:turn 5:changed; captured []
theorem ok_make_rounds (T : Txt K mg) (G_age_all_stations : Does P w K mg base 2 "age_all_stations" ["net"] (sp_age_all_stations K)) (G_make_round : Does P w K mg base 5 "make_round" ["net"] (sp_make_round K)) : Does P w K mg base 6 "make_rounds" ["net", "count"] (sp_make_rounds K) := by
  refine does_of T 20 (d := D_make_rounds) rfl rfl rfl rfl T.g_make_rounds sc_make_rounds (fun _ _ _ _ _ _ us hl => match us, hl with | [_, _], _ => rfl) (fun vs H Q E h => by obtain ⟨_, _, _, _, _, rfl, _⟩ := h; rfl) (fun cdv A outer s H vs Q E hr h => ⟨_, (pss_cons (ps_set (i := 2) sc_make_rounds.nd rfl (.inl rfl) pe_int)
      (pss_cons (ps_set (i := 3) sc_make_rounds.nd rfl (.inl rfl) pe_bl)
      (pss_cons (ps_for PassesOwn.never rfl (pi_range1 (by rfl) T.f_range (pa_cons (pv 1) pa_nil)) (pg_name (i := 4) sc_make_rounds.nd rfl (.inl rfl)) (pss_cons (ps_if (pt_val (pv 3)) (pss_one (ps_expr (pe_f G_age_all_stations (hr.mono (by decide)) (by rfl) (pa_cons (pv 0) pa_nil)))) (pss_cons (ps_asg (pe_f G_make_round (hr.mono (by decide)) (by rfl) (pa_cons (pv 0) pa_nil)) (pg_tup (n := 2) rfl (pgs_cons (pg_name (i := 5) sc_make_rounds.nd rfl (.inl rfl)) (pgs_cons (pg_name (i := 3) sc_make_rounds.nd rfl (.inl rfl)) pgs_nil))))
      (pss_one (ps_set (i := 2) sc_make_rounds.nd rfl (.inl rfl) (pe_op op_add (pv 2) (pv 5))))))
      (pss_one (ps_fld (pv 0) (pe_op op_add (pe_fld (pv 0) rfl) pe_int) rfl))))
      (pss_one (ps_ret (pv 2)))))), ?_⟩)
  obtain ⟨n, c, ow, as, s, rfl, N, I, hc, hQ⟩ := h
  refine r_seq (r_set (r_c (nx (r_seq (r_set (r_c (nx ?_)))))))
  refine r_seq (r_for (r_range (r_cons (go vv (r_nil ⟨(c : Int), rfl, by omega, by omega, for_range (lo := 0) (n := c)
    (fun k σ H' => ∃ (st : Bool) (v4 v5 : Option V) (ow' : Addr → Nat), σ = [some (.ref n), some (.int (c : Nat)), some (.int ((Vbcnac.rounds k s).2 : Nat)), some (.bl st), v4, v5] ∧ NetAt K ow' as H' n (Vbcnac.rounds k s).1 ∧ Frm ow H H' ∧ Grow H ow ow' ∧ (st = true → ∃ s', Still s' ∧ (Vbcnac.rounds k s).1 = (Vbcnac.round s').1)) ⟨false, none, none, ow, rfl, N, Frm.refl _ _, Grow.refl _ _, fun z => by cases z⟩ ?hs ?hd⟩)))))
  case hd =>
    rintro σ H1 ⟨st, v4, v5, ow1, rfl, N1, F1, G1, _⟩
    exact nx (r_ret (go vv (hQ H1 ow1 F1 G1 N1)))
  case hs =>
    rintro k σ H1 hk ⟨st, v4, v5, ow1, rfl, N1, F1, G1, hst⟩
    rw [Int.zero_add]
    have I1 := inv_rounds k I
    have sn := rounds_snoc k s
    have e1 : (Vbcnac.rounds (k + 1) s).1 = (Vbcnac.round (Vbcnac.rounds k s).1).1 := by rw [sn]
    have e2 : (Vbcnac.rounds (k + 1) s).2 = (Vbcnac.rounds k s).2 + (Vbcnac.round (Vbcnac.rounds k s).1).2 := by rw [sn]
    have eq : (Vbcnac.round (Vbcnac.rounds k s).1).1.quiet = (Vbcnac.rounds k s).1.quiet + 1 := rfl
    refine r_seq3 (fun σ' H' => ∃ (st : Bool) (v5 : Option V) (ow' : Addr → Nat) (s2 : Vbcnac.State), σ' = [some (.ref n), some (.int (c : Nat)), some (.int ((Vbcnac.rounds (k + 1) s).2 : Nat)), some (.bl st), some (.int (k : Nat)), v5] ∧ NetAt K ow' as H' n s2 ∧ s2.quiet = (Vbcnac.rounds k s).1.quiet ∧ { s2 with quiet := s2.quiet + 1 } = (Vbcnac.rounds (k + 1) s).1 ∧ Frm ow H H' ∧ Grow H ow ow' ∧ (st = true → ∃ s', Still s' ∧ (Vbcnac.rounds (k + 1) s).1 = (Vbcnac.round s').1)) ?two fun two => ?one
    case two =>
      rintro σ H2 ⟨st, v5, ow2, s2, rfl, N2, q1, q2, F2, G2, hst2⟩
      refine r_quietN (k := s2.quiet + 1) T N2 (v_add (N2.fquiet T vv) val_c) fun H3 N3 F3 => ⟨st, _, _, ow2, rfl, ?_, F2.trans G2 F3, G2, hst2⟩
      rw [← q2]
      exact N3
    case one =>
      refine r_if (r_tb (go vv ⟨_, rfl, ?_⟩))
      cases st with
      | true =>
        obtain ⟨s', hs1, hs2⟩ := hst rfl
        obtain ⟨h1, h2⟩ := still_next hs1
        rw [← hs2] at h1 h2
        refine if_y (r_drop (c1 vv ⟨n, ow1, as, _, rfl, N1, I1.stS, fun b => Nat.le_trans (I1.stL b) I1.rm, fun H2 ow2 F2 G2 N2 => two _ _ ⟨true, v5, ow2, aged (Vbcnac.rounds k s).1, ?_, N2, rfl, ?_, F1.trans G1 F2, Grow.trans F1 G1 G2, fun _ => ⟨_, h2, e1⟩⟩⟩))
        · rw [e2, h1]
          rfl
        · rw [e1, h1]
          rfl
      | false =>
        refine if_n (r_seq (r_asg (c1 vv ⟨n, ow1, as, _, rfl, N1, I1, fun t H2 ow2 st2 F2 G2 N2 hst2 ht => g2 ht (nx (r_set (v_add vv vv _ (two _ _ ⟨st2, some (.int ((Vbcnac.round (Vbcnac.rounds k s).1).2 : Nat)), ow2, _, ?_, N2, rfl, ?_, F1.trans G1 F2, Grow.trans F1 G1 G2, fun z => ⟨_, hst2 z, e1⟩⟩))))⟩)))
        · rw [e2]
          rfl
        · rw [e1]
          rfl
/-! ### rounds_call -/
def sp_rounds_call (K : PySem.W.Frag) : Sp := fun vs H Q _ => ∃ v c ow as s, vs = [v, .int c] ∧ SesAt K ow as H v s ∧ Ans K v ow H (Vbcnac.step s (.rounds c)) Q
theorem sc_rounds_call : FnScope ["net", "count", "refusal"] ["net", "count"] D_rounds_call.scope := ⟨rfl, rfl, rfl, by decide +kernel, rfl, by decide +kernel, by decide +kernel⟩
-- level 7; slots 0:net 1:count 2:refusal; captured []
theorem ok_rounds_call (T : Txt K mg) (G_refusal_of : Does P w K mg base 1 "refusal_of" ["net", "numbers", "ranges", "bridges"] (sp_refusal_of K)) (G_make_rounds : Does P w K mg base 6 "make_rounds" ["net", "count"] (sp_make_rounds K)) : Does P w K mg base 7 "rounds_call" ["net", "count"] (sp_rounds_call K) := by
  refine does_of T 39 (d := D_rounds_call) rfl rfl rfl rfl T.g_rounds_call sc_rounds_call (fun _ _ _ _ _ _ us hl => match us, hl with | [_, _], _ => rfl) (fun vs H Q E h => by obtain ⟨_, _, _, _, _, rfl, _⟩ := h; rfl) (fun cdv A outer s H vs Q E hr h => ⟨_, (pss_cons (ps_set (i := 2) sc_rounds_call.nd rfl (.inl rfl) (pe_f G_refusal_of (hr.mono (by decide)) (by rfl) (pa_cons (pv 0) (pa_cons (pe_tup (pa_cons (pv 1) pa_nil)) (pa_cons (pe_tup (pa_cons (pe_gr T.g_ROUNDS rfl) pa_nil)) (pa_cons (pe_tup pa_nil) pa_nil))))))
      (pss_cons (ps_if (pt_cmpR op_ne (pv 2) pe_int (nomark _)) (pss_one (ps_ret (pe_lst (pa_cons (pv 2) pa_nil)))) pss_nil)
      (pss_one (ps_ret (pe_lst (pa_cons (pe_f G_make_rounds (hr.mono (by decide)) (by rfl) (pa_cons (pv 0) (pa_cons (pv 1) pa_nil))) pa_nil)))))), ?_⟩)
  obtain ⟨v, c, ow, as, s, rfl, S, A⟩ := h
  refine r_refusal (c := .rounds c) (ns := [c]) (rs := [(1, 1000)]) (bs := []) 2 S A rfl ?_ rfl rfl rfl (by show 2 < 3; decide) (fun QA k => ?_) fun n H1 hv N e hbeg I z A1 => ?_
  · show Vbcnac.within c 1 1000 = (inSpan c (1, 1000) && true)
    rw [Bool.and_true]
    rfl
  · refine r_cons (r_tup (r_cons (go vv (r_nil ⟨by show 1 ≤ sizeLine; decide, fun t1 n1 => ?_⟩))))
    have e1 := same_new (o := .tup [.int c]) n1
    refine r_cons (r_tup (r_cons (r_c (r_nil ⟨by show 1 ≤ sizeLine; decide, fun t2 n2 => ?_⟩))))
    have e2 := same_new (o := .tup [.ref (He.ga K "ROUNDS")]) n2
    refine r_cons (r_tup (r_nil ⟨by show 0 ≤ sizeLine; decide, fun t3 n3 => r_nil ?_⟩))
    have e3 := same_new (o := .tup []) n3
    exact k t1 t2 t3 _ _ (e1.trans (e2.trans e3)) (SqT.of (e3 _ _ (e2 _ _ upd_same))) (SqT.of (e3 _ _ upd_same)) (.cons ⟨_, rfl, fun H => T.t_ROUNDS H⟩ .nil) (SqT.of upd_same)
  · subst hv
    obtain ⟨hr, _⟩ := ref3_zero z
    have hc1 : 1 ≤ c ∧ c ≤ 1000 := hr (c, (1, 1000)) (by simp)
    obtain ⟨c, rfl⟩ := nat_of (show 0 ≤ c by omega)
    have ed : Vbcnac.does s (.rounds (c : Int)) = ((Vbcnac.rounds c s).1, [((Vbcnac.rounds c s).2 : Int)]) := rfl
    refine r_ret (r_lst (r_cons (c2 vv vv ⟨n, c, ow, as, s, rfl, N, I, by omega, fun H2 ow2 F2 G2 N2 => r_nil ⟨by show 1 ≤ sizeLine; decide, ?_⟩⟩)))
    exact (A1.eq ed).ret (.inr ⟨n, rfl, N2, (rounds_begun c s).trans hbeg, inv_rounds c I⟩) F2 G2 rfl
end
end Sw
namespace Sw
open PySem PySem.Spec PyProof.Rows L2
section
variable {K : PySem.W.Frag} {ow : Addr → Nat} {as : List Addr} {H H1 : Hp} {n a : Addr} {s : Vbcnac.State} {i : Nat} {dx : Addr} {l : Nat → Addr} {st : Addr} {vs : Nat → List V} {kvs : List (Key × V)}
/-- the dict of stations stored to -/
theorem NetAt.setD (N : NetAt K ow as H n s) (e : as[i]? = some a) (B : BrAt K ow H i a (Vbcnac.bridgeAt s i) dx l st vs kvs) {kv2 : List (Key × V)} {sts : List Vbcnac.Station} (hS : Sta H kv2 sts) :
    NetAt K ow as (upd H st (.dK kv2)) n (Vbcnac.setBridge s i { Vbcnac.bridgeAt s i with stations := sts }) ∧ Loc1 i H (upd H st (.dK kv2)) ow ow := by
  have t : Tup H (upd H st (.dK kv2)) := tup_upd B.dct rfl
  have hst : ow st / 16 = i + 1 := by rw [B.os]; omega
  refine ⟨N.put e ⟨by rw [upd_ne B.sa.symm]; exact B.self, B.oa, fun k hk => by rw [upd_ne (B.ls hk)]; exact B.lst k hk, B.ol, fun k hk => B.len k hk, fun k hk p v h => PV.mono t (B.val k hk p v h), upd_same, B.os, Sta.mono t hS⟩ (fun b o q z => ?_) (fun _ _ _ => rfl) fun b z => ?_, Loc1.same (frm1_set hst)⟩
  · rw [upd_ne]
    · exact q
    · intro y
      rw [y] at z
      exact z hst
  · by_cases y : b = st
    · rw [y]
      exact ⟨_, upd_same, rfl⟩
    · rw [upd_ne y]
      exact N.fp b z
/-- a station looked for -/
theorem ent_find {k : Nat} : ∀ {kk : List (Key × V)} {m : List Vbcnac.Station}, Paired (Ent H) kk m → match m.find? (fun x => x.number == k) with
    | none => valV kk (.inl (k : Int)) = none
    | some y => ∃ a, valV kk (.inl (k : Int)) = some (.ref a) ∧ H a = some (.tup [.int (y.port : Nat), .int (y.age : Nat)])
  | _, _, .nil => rfl
  | kv :: kk, x :: m, .cons h t => by
    have ih := ent_find (k := k) t
    rw [List.find?_cons]
    by_cases e : x.number = k
    · rw [beq_iff_eq.mpr e]
      obtain ⟨h1, a, h2, h3⟩ := h
      exact ⟨a, by rw [valV_pos (p := kv) (by rw [h1, e]), h2], h3⟩
    · rw [beq_eq_false_iff_ne.mpr e]
      have e2 : ¬ kv.1 = .inl (k : Int) := by
        rw [h.1]
        intro z
        have : (x.number : Int) = k := Sum.inl.inj z
        omega
      rw [valV_neg (p := kv) e2]
      exact ih
theorem find_perm {k : Nat} {m l : List Vbcnac.Station} (p : m.Perm l) (hs : SortedS l) : m.find? (fun x => x.number == k) = l.find? (fun x => x.number == k) := by
  have uniq : ∀ x ∈ l, ∀ y ∈ l, x.number = y.number → x = y := fun x hx y hy e => by
    obtain ⟨i, hi, rfl⟩ := List.getElem_of_mem hx
    obtain ⟨j, hj, rfl⟩ := List.getElem_of_mem hy
    have := List.pairwise_iff_getElem.mp hs
    rcases Nat.lt_trichotomy i j with h | h | h
    · have := this i j hi hj h
      omega
    · subst h
      rfl
    · have := this j i hj hi h
      omega
  cases h : m.find? (fun x => x.number == k) with
  | none =>
    symm
    rw [List.find?_eq_none] at h ⊢
    exact fun x hx => h x (p.mem_iff.mpr hx)
  | some y =>
    have h1 := List.mem_of_find?_eq_some h
    have h2 := List.find?_some h
    cases h3 : l.find? (fun x => x.number == k) with
    | none =>
      rw [List.find?_eq_none] at h3
      exact absurd h2 (h3 y (p.mem_iff.mp h1))
    | some z =>
      have h4 := List.mem_of_find?_eq_some h3
      have h5 := List.find?_some h3
      have e1 : y.number = k := by simpa using h2
      have e2 : z.number = k := by simpa using h5
      rw [uniq y (p.mem_iff.mp h1) z h4 (e1.trans e2.symm)]
theorem sta_find {k : Nat} {l : List Vbcnac.Station} (S : Sta H kvs l) (hs : SortedS l) : match l.find? (fun x => x.number == k) with
    | none => valV kvs (.inl (k : Int)) = none
    | some y => ∃ a, valV kvs (.inl (k : Int)) = some (.ref a) ∧ H a = some (.tup [.int (y.port : Nat), .int (y.age : Nat)]) := by
  obtain ⟨m, p, q⟩ := S
  rw [← find_perm p hs]
  exact ent_find q
theorem find_any {k : Nat} (l : List Vbcnac.Station) : (l.any fun x => x.number == k) = (l.find? fun x => x.number == k).isSome := by
  rw [List.isSome_find?]
/-- a station put into the dict -/
theorem sta_put {l : List Vbcnac.Station} (S : Sta H kvs l) (hs : SortedS l) {k p : Nat} {t : Addr} (ht : H t = some (.tup [.int (p : Nat), .int 0])) : Sta H (putK kvs (.inl (k : Int)) (.ref t)) (Vbcnac.putIn { number := k, port := p, age := 0 } l) := by
  have hf := sta_find (k := k) S hs
  obtain ⟨m, pm, q⟩ := S
  cases h : l.find? (fun x => x.number == k) with
  | none =>
    rw [h] at hf
    have hn : ∀ y ∈ l, y.number ≠ k := fun y hy z => by
      rw [List.find?_eq_none] at h
      exact h y hy (beq_iff_eq.mpr z)
    refine ⟨m ++ [{ number := k, port := p, age := 0 }], ?_, ?_⟩
    · refine List.Perm.trans ?_ (putIn_new (x := { number := k, port := p, age := 0 }) hn).symm
      exact (List.perm_append_comm).trans (pm.cons _)
    · rw [putK_new _ hf]
      exact Paired.snoc ⟨rfl, t, rfl, ht⟩ q
  | some y =>
    rw [h] at hf
    obtain ⟨a, ha, _⟩ := hf
    have hy : ∃ z ∈ l, z.number = k := ⟨y, List.mem_of_find?_eq_some h, by simpa using List.find?_some h⟩
    rw [putIn_old (x := { number := k, port := p, age := 0 }) hs hy]
    refine ⟨m.map fun z => if z.number = k then { number := k, port := p, age := 0 } else z, pm.map _, ?_⟩
    have e : putK kvs (.inl (k : Int)) (V.ref t) = kvs.map (fun kv => if kv.1 = .inl (k : Int) then (kv.1, V.ref t) else kv) := by
      unfold putK
      rw [valV_any, ha]
      rfl
    rw [e]
    clear e ha h hy pm hs
    induction q with
    | nil => exact .nil
    | cons r t' ih =>
      rw [List.map_cons, List.map_cons]
      refine .cons ?_ ih
      obtain ⟨h1, a', h2, h3⟩ := r
      rename_i kv x _ _
      by_cases c : x.number = k
      · rw [if_pos c, if_pos (by rw [h1, c])]
        exact ⟨by rw [h1, c], t, rfl, ht⟩
      · rw [if_neg c, if_neg (by
          rw [h1]
          intro z
          have : (x.number : Int) = k := Sum.inl.inj z
          omega)]
        exact ⟨h1, a', h2, h3⟩
end
section
variable {P : Program} {w : World} {K : PySem.W.Frag} {mg : Str → Option Value} {base : Heap}
/-! ### learn -/
def sp_learn (K : PySem.W.Frag) : Sp := fun vs H Q _ => ∃ n a ow as s b x p, vs = [.ref n, .ref a, .int (x : Nat), .int (p : Nat)] ∧ NetAt K ow as H n s ∧ as[b]? = some a ∧ SortedS (Vbcnac.bridgeAt s b).stations ∧ (Vbcnac.bridgeAt s b).stations.length ≤ 1024 ∧
  ∀ H', NetAt K ow as H' n (Vbcnac.learn s b p x) → Loc1 b H H' ow ow → Q .non H'
theorem sc_learn : FnScope ["net", "bridge", "source", "place"] ["net", "bridge", "source", "place"] D_learn.scope := ⟨rfl, rfl, rfl, by decide +kernel, rfl, by decide +kernel, by decide +kernel⟩
-- level 1; slots 0:net 1:bridge 2:source 3:place; captured []
theorem ok_learn (T : Txt K mg) : Does P w K mg base 1 "learn" ["net", "bridge", "source", "place"] (sp_learn K) := by
  refine does_of T 41 (d := D_learn) rfl rfl rfl rfl T.g_learn sc_learn (fun _ _ _ _ _ _ us hl => match us, hl with | [_, _, _, _], _ => rfl) (fun vs H Q E h => by obtain ⟨_, _, _, _, _, _, _, _, rfl, _⟩ := h; rfl) (fun cdv A outer s H vs Q E hr h => ⟨_, (pss_one (ps_if (PW.pt (pw_or (pt_cmp (pc_din (hu_of hr) (pv 2) (pe_fld (pv 1) rfl)) rfl) (pw_or1 (pt_cmpR op_lt (pe_callB call_lenD (by rfl) T.f_len PySem.boot_len (pa_cons (pe_fld (pv 1) rfl) pa_nil)) (pe_fld (pv 0) rfl) (nomark _))))) (pss_one (ps_dput (hu_of hr) (pe_fld (pv 1) rfl) (pv 2) (pe_tup (pa_cons (pv 3) (pa_cons pe_int pa_nil))) rfl)) pss_nil)), ?_⟩)
  obtain ⟨n, a, ow, as, s, b, x, p, rfl, N, e, hs, hl, hQ⟩ := h
  obtain ⟨dx, l, st, ws, kvs, B⟩ := N.br b a e
  have hf := sta_find (k := x) B.sta hs
  have lk : kvs.length = (Vbcnac.bridgeAt s b).stations.length := by
    obtain ⟨m, pm, q⟩ := B.sta
    rw [Paired.length q, pm.length_eq]
  have same_ : ¬ ((Vbcnac.bridgeAt s b).stations.any (fun y => y.number == x) = true ∨ (Vbcnac.bridgeAt s b).stations.length < s.room) → NetAt K ow as H n (Vbcnac.learn s b p x) := fun hc => by
    have e1 : Vbcnac.learn s b p x = s := by
      unfold Vbcnac.learn Vbcnac.learnt
      rw [if_neg hc]
      unfold Vbcnac.setBridge
      have : s.bridges.set b (Vbcnac.bridgeAt s b) = s.bridges := by
        unfold Vbcnac.bridgeAt
        rw [List.getD_eq_getElem?_getD, List.getElem?_eq_getElem (N.lt e)]
        exact List.set_getElem_self _
      show ({ s with bridges := s.bridges.set b (Vbcnac.bridgeAt s b) } : Vbcnac.State) = s
      rw [this]
    rw [e1]
    exact N
  have put_ : ((Vbcnac.bridgeAt s b).stations.any (fun y => y.number == x) = true ∨ (Vbcnac.bridgeAt s b).stations.length < s.room) → ∀ D : Ends, (∀ σ H', Q .non H' → D.nx σ H') → sDPut (tFld K (tVar 1) "stations") (tVar 2) (tTup (tCons (tVar 3) (tCons (tC (.int 0)) tNil))) D [some (.ref n), some (.ref a), some (.int (x : Nat)), some (.int (p : Nat))] H := fun hc D hD => by
    refine r_dput (r_tup (r_cons (go vv (r_cons (r_c (r_nil ⟨by show 2 ≤ sizeLine; decide, fun t ht => ?_⟩))))))
    have et := same_new (o := .tup [.int (p : Nat), .int 0]) ht
    have B1 := B.same et
    refine go (B1.fstations T vv) (go vv ⟨st, _, rfl, DPut.k (k := .inl (x : Int)) B1.dct (by rw [lk]; exact Nat.lt_of_le_of_lt hl (by decide)), hD _ _ ?_⟩)
    refine And.elim (fun M C => ?_) ((N.same et).setD e B1 (sta_put (k := x) B1.sta hs upd_same))
    refine hQ _ ?_ ⟨fun c o q z => C.fr c o (et _ _ q) z, C.ag, fun c z => (C.gr c z).imp id fun y => et.free y⟩
    unfold Vbcnac.learn Vbcnac.learnt
    rw [if_pos hc]
    exact M
  refine r_if (r_or (r_test (r_din (go vv (go (B.fstations T vv) ⟨st, _, rfl, DGet.k (k := .inl (x : Int)) B.dct, _, rfl, ?_⟩)))))
  have hany := find_any (k := x) (Vbcnac.bridgeAt s b).stations
  cases h : (Vbcnac.bridgeAt s b).stations.find? (fun y => y.number == x) with
  | some y =>
    rw [h] at hf hany
    obtain ⟨a', ha, _⟩ := hf
    rw [ha]
    exact if_y (if_y (put_ (.inl hany) _ fun _ _ q => q))
  | none =>
    rw [h] at hf hany
    rw [show valV kvs (.inl (x : Int)) = none from hf]
    refine if_n (r_test (r_op (r_cb (r_cons (go (B.fstations T vv) (r_nil ⟨st, kvs, rfl, B.dct, go (N.froom T vv) ⟨_, _, rfl, rfl, _, rfl, ?_⟩⟩))))))
    rw [lk]
    by_cases hr : (Vbcnac.bridgeAt s b).stations.length < s.room
    · rw [decide_eq_true (by omega)]
      exact if_y (put_ (.inr hr) _ fun _ _ q => q)
    · rw [decide_eq_false (by omega)]
      refine if_n (r_next (hQ H (same_ fun z => z.elim (fun y => ?_) hr) (Loc1.same fun c o q _ => q)))
      rw [hany] at y
      cases y
/-! ### places_to_pass -/
def sp_places_to_pass (K : PySem.W.Frag) : Sp := fun vs H Q _ => ∃ n t ow as s b i d, vs = [.ref n, .ref t, .int (d : Nat)] ∧ NetAt K ow as H n s ∧ H t = some (.tup [.int (b : Nat), .int (i : Nat)]) ∧ b < s.bridges.length ∧ (Vbcnac.bridgeAt s b).ports.length = 16 ∧ SortedS (Vbcnac.bridgeAt s b).stations ∧
  ∀ L H', Same H H' → H L = none → H' L = some (.lst ((Vbcnac.outs s b i d).map fun j : Nat => V.int j)) → Q (.ref L) H'
theorem sc_places_to_pass : FnScope ["net", "entry", "target", "bridge", "place"] ["net", "entry", "target"] D_places_to_pass.scope := ⟨rfl, rfl, rfl, by decide +kernel, rfl, by decide +kernel, by decide +kernel⟩
-- level 2; slots 0:net 1:entry 2:target 3:bridge 4:place; captured ['entry', 'net']
theorem ok_places_to_pass (T : Txt K mg) (G_forwards : Does P w K mg base 1 "forwards" ["net", "port"] (sp_forwards K)) : Does P w K mg base 2 "places_to_pass" ["net", "entry", "target"] (sp_places_to_pass K) := by
  refine does_of T 42 (d := D_places_to_pass) rfl rfl rfl rfl T.g_places_to_pass sc_places_to_pass (fun _ _ _ _ _ _ us hl => match us, hl with | [_, _, _], _ => rfl) (fun vs H Q E h => by obtain ⟨_, _, _, _, _, _, _, _, rfl, _⟩ := h; rfl) (fun cdv A outer s H vs Q E hr h => ⟨_, (pss_cons (ps_set (i := 3) sc_places_to_pass.nd rfl (.inl rfl) (pe_ix ix_list (pe_fld (pv 0) rfl) (pe_ix ix_tup (pv 1) pe_int (fun _ _ => rfl)) (fun _ _ => rfl)))
      (pss_cons (ps_if (pt_cmp (pc_din (hu_of hr) (pv 2) (pe_fld (pv 3) rfl)) rfl) (pss_cons (ps_set (i := 4) sc_places_to_pass.nd rfl (.inl rfl) (pe_ix ix_tup (pe_dget (hu_of hr) (pe_fld (pv 3) rfl) (pv 2) (fun _ _ => rfl)) pe_int (fun _ _ => rfl)))
      (pss_one (ps_ret (pe_ifExp (pt_cmpR op_eq (pv 4) (pe_ix ix_tup (pv 1) pe_int (fun _ _ => rfl)) (nomark _)) (pe_lst pa_nil) (pe_lst (pa_cons (pv 4) pa_nil)))))) pss_nil)
      (pss_one (ps_ret (pe_lc (own := [("place", 4)]) (g := gName 4) rfl sc_places_to_pass.nd (pi_range1 (by rfl) T.f_range (pa_cons (pe_gi T.i_PORTS rfl) pa_nil)) (blkOk_by (own := [("place", 4)]) (N := ["net", "entry", "target", "bridge", "place"]) (sc := D_places_to_pass.scope) (by decide +kernel)) (fun _ _ _ _ _ => (pg_name (i := 4) sc_places_to_pass.nd rfl (.inl rfl))) (fun _ _ _ _ _ => (pts_one (PW.pt (pw_and (pt_cmpR op_ne (pv 4) (pe_ix (ix_tupK (K := K) rfl) (pv 1) pe_int (fun _ _ => rfl)) (nomark _)) (pw_and1 (pt_val (pe_f G_forwards (hr.mono (by decide)) (by rfl) (pa_cons (pv 0) (pa_cons (pe_tup (pa_cons (pe_ix (ix_tupK (K := K) rfl) (pv 1) pe_int (fun _ _ => rfl)) (pa_cons (pv 4) pa_nil))) pa_nil))))))))) (fun _ _ _ _ _ => (pv 4))))))), ?_⟩)
  obtain ⟨n, t, ow, as, s, b, i, d, rfl, N, ht, hb, h16, hs, hQ⟩ := h
  obtain ⟨a, e⟩ := N.addr hb
  obtain ⟨dx, l, st, ws, kvs, B⟩ := N.br b a e
  have hf := sta_find (k := d) B.sta hs
  refine r_seq (r_set (go (N.bridge T e vv (v_ixT (j := 0) vv (SqT.of ht) rfl)) (nx ?_)))
  refine r_seq (r_if (r_test (r_din (go vv (go (B.fstations T vv) ⟨st, _, rfl, DGet.k (k := .inl (d : Int)) B.dct, _, rfl, ?_⟩)))))
  cases h : (Vbcnac.bridgeAt s b).stations.find? (fun y => y.number == d) with
  | some y =>
    rw [h] at hf
    obtain ⟨a', ha, ha'⟩ := hf
    have ho : Vbcnac.outs s b i d = if y.port = i then [] else [y.port] := by
      unfold Vbcnac.outs Vbcnac.known
      rw [h]
      rfl
    rw [ha]
    refine if_y (r_seq (r_set (r_op (r_dget (go (B.fstations T vv) (go vv ⟨st, .ref a', rfl, ha ▸ DGet.k (k := .inl (d : Int)) B.dct, r_c ⟨a', _, _, _, rfl, rfl, SqT.of ha', atI_nat (j := 0) rfl, nx ?_⟩⟩))))))
    refine r_ret (r_ife (r_test (r_op (go vv (go (v_ixT (j := 1) (xs := [.int (b : Nat), .int (i : Nat)]) vv (SqT.of ht) rfl) ⟨rfl, _, rfl, ?_⟩)))))
    rw [dec_int]
    by_cases hy : y.port = i
    · rw [if_pos hy] at ho
      rw [beq_iff_eq.mpr hy]
      exact if_y (r_lst (r_nil ⟨by show 0 ≤ sizeLine; decide, fun p hp => hQ p _ (same_new hp) hp (by rw [upd_same, ho]; rfl)⟩))
    · rw [if_neg hy] at ho
      rw [beq_eq_false_iff_ne.mpr hy]
      exact if_n (r_lst (r_cons (go vv (r_nil ⟨by show 1 ≤ sizeLine; decide, fun p hp => hQ p _ (same_new hp) hp (by rw [upd_same, ho]; rfl)⟩))))
  | none =>
    rw [h] at hf
    have ho : Vbcnac.outs s b i d = (List.range 16).filter fun j => j != i && Vbcnac.forwards s b j := by
      unfold Vbcnac.outs Vbcnac.known
      rw [h]
      rfl
    rw [show valV kvs (.inl (d : Int)) = none from hf]
    refine if_n (r_next (nx (r_ret (r_lcR (fun j => if (j != i && Vbcnac.forwards s b j) = true then some (.int (j : Nat)) else none) (fun j H1 hj e1 N' M' h1 h2 => ⟨rfl, ?_⟩) fun L H1 hL e1 hl => hQ L H1 e1 hL ?_))))
    · refine r_and (r_test (r_op (go vv (go (v_ixT (j := 1) (xs := [.int (b : Nat), .int (i : Nat)]) vv (SqT.of (e1 _ _ ht)) rfl) ⟨rfl, _, rfl, ?_⟩))))
      rw [dec_int]
      by_cases hji : j = i
      · rw [beq_iff_eq.mpr hji]
        exact if_n (if_n (h2 _ (Same.refl _) (by rw [hji]; simp)))
      · rw [beq_eq_false_iff_ne.mpr hji]
        refine if_y (r_tb (r_call (r_cons (go vv (r_cons (r_tup (r_cons (go (v_ixT (j := 0) (xs := [.int (b : Nat), .int (i : Nat)]) vv (SqT.of (e1 _ _ ht)) rfl) (r_cons (go vv (r_nil ⟨by show 2 ≤ sizeLine; decide, fun t4 ht4 => r_nil ?_⟩)))))))))))
        have e4 := same_new (o := .tup [.int (b : Nat), .int (j : Nat)]) ht4
        refine ⟨ow, as, n, s, t4, b, j, rfl, (N.same e1).same e4, upd_same, hb, by rw [h16]; exact hj, _, rfl, ?_⟩
        have hne : (j != i) = true := by rw [bne_iff_ne]; exact hji
        cases q : Vbcnac.forwards s b j with
        | true => exact if_y (go vv (h1 _ _ e4 (by rw [hne, q]; rfl)))
        | false => exact if_n (h2 _ e4 (by rw [hne, q]; rfl))
    · rw [hl, ho]
      refine congrArg (fun z => some (HO.lst z)) ?_
      generalize List.range 16 = r
      induction r with
      | nil => rfl
      | cons x r ih =>
        rw [List.filterMap_cons, List.filter_cons]
        cases q : (x != i && Vbcnac.forwards s b x) with
        | true =>
          show V.int (x : Nat) :: _ = _
          rw [ih]
          rfl
        | false => exact ih
end
end Sw
namespace Sw
open PySem PySem.Spec PyProof.Rows L2
theorem all_begun (src : Nat) : ∀ (l : List (Nat × Nat)) (t : Vbcnac.State), (learnAll src t l).begun = t.begun
  | [], _ => rfl
  | e :: l, t => all_begun src l _
theorem Paired.last {α β : Type} {R : α → β → Prop} {y : β} : ∀ {ys : List β} {xs : List α}, Paired R xs (ys ++ [y]) → ∃ xs' x, xs = xs' ++ [x] ∧ Paired R xs' ys ∧ R x y
  | [], _, .cons h .nil => ⟨[], _, rfl, .nil, h⟩
  | _ :: ys, _, .cons h t => by
    obtain ⟨xs', x, e, h1, h2⟩ := Paired.last (ys := ys) t
    exact ⟨_ :: xs', x, by rw [e]; rfl, .cons h h1, h2⟩
section
variable {K : PySem.W.Frag} {H : Hp}
/-- a list of places is empty? -/
theorem dp_pts : ∀ {us : List V} {C : List (Nat × Nat)}, Paired (Pt H) us C → DpAll K H us (C.map fun x => .tuple [.int x.1, .int x.2])
  | _, _, .nil => .nil
  | _, _, .cons h t => by
    obtain ⟨a, e, ha⟩ := h
    subst e
    exact .cons (dp_pt ha) (dp_pts t)
theorem okd_pts (C : List (Nat × Nat)) : SeqAt.shaped (.list (C.map fun x => .tuple [.int x.1, .int x.2])) = true := by
  have h : Okd (.list (C.map fun x : Nat × Nat => .tuple [.int x.1, .int x.2])) 2 := okd_list fun d hd => by
    obtain ⟨x, _, rfl⟩ := List.mem_map.mp hd
    refine okd_tup fun d hd => ?_
    simp only [List.mem_cons, List.not_mem_nil, or_false] at hd
    rcases hd with rfl | rfl
    · exact okd_int _
    · exact okd_int _
  unfold SeqAt.shaped
  rw [h.1, decide_eq_true (Nat.le_trans h.2 (by decide))]
  rfl
theorem okd_nil : SeqAt.shaped (.list []) = true := rfl
theorem eqv_nil (ds : List PyData) : PyData.eqv (.list ds) (.list []) = ds.isEmpty := by
  rw [PyData.eqv]
  cases ds with
  | nil => rfl
  | cons d ds => rw [PyData.eqvAll]; rfl
/-! places sorted -/
def kOf (H : Hp) (v : V) : Int × Int := match v with
  | .ref t => match H t with
    | some (.tup [.int a, .int b]) => (a, b)
    | _ => (0, 0)
  | _ => (0, 0)
theorem kOf_pt {v : V} {x : Nat × Nat} (h : Pt H v x) : kOf H v = ((x.1 : Int), (x.2 : Int)) := by
  obtain ⟨a, e, ha⟩ := h
  subst e
  unfold kOf
  simp only [ha]
theorem pt_of : ∀ {us : List V} {L : List (Nat × Nat)}, Paired (Pt H) us L → ∀ v ∈ us, ∃ x ∈ L, Pt H v x
  | _, _, .nil, v, h => by cases h
  | _, _, .cons h t, v, hv => by
    rcases List.mem_cons.mp hv with e | e
    · exact ⟨_, List.mem_cons_self, e ▸ h⟩
    · obtain ⟨x, hx, hp⟩ := pt_of t v e
      exact ⟨x, List.mem_cons_of_mem _ hx, hp⟩
def nOf (H : Hp) (v : V) : Nat × Nat := ((kOf H v).1.toNat, (kOf H v).2.toNat)
theorem nOf_pt {v : V} {x : Nat × Nat} (h : Pt H v x) : nOf H v = x := by
  unfold nOf
  rw [kOf_pt h]
  rfl
theorem nOf_all : ∀ {us : List V} {L : List (Nat × Nat)}, Paired (Pt H) us L → us.map (nOf H) = L
  | _, _, .nil => rfl
  | _, _, .cons h t => by rw [List.map_cons, nOf_pt h, nOf_all t]
theorem paired_nOf : ∀ {ys : List V}, (∀ v ∈ ys, ∃ x, Pt H v x) → Paired (Pt H) ys (ys.map (nOf H))
  | [], _ => .nil
  | v :: ys, h => by
    obtain ⟨x, hx⟩ := h v List.mem_cons_self
    refine .cons ?_ (paired_nOf fun u hu => h u (List.mem_cons_of_mem _ hu))
    rw [nOf_pt hx]
    exact hx
theorem sorted_pts {us ys : List V} {L : List (Nat × Nat)} (h : Paired (Pt H) us L) (h1 : SrtO.Srtd (ltP (kOf H)) ys) (h2 : SrtO.Stb (ltP (kOf H)) ys us) : Paired (Pt H) ys (Vbcnac.sorted L) := by
  have hm : ∀ v ∈ ys, ∃ x, Pt H v x := fun v hv => by
    obtain ⟨x, _, hx⟩ := pt_of h v (h2.perm.mem_iff.mp hv)
    exact ⟨x, hx⟩
  have hp := paired_nOf hm
  have e : ys.map (nOf H) = Vbcnac.sorted L := by
    refine pw_unique ?_ ?_ (sorted_pw L)
    · have := (h2.perm.map (nOf H))
      rw [nOf_all h] at this
      exact this.trans (sorted_perm L).symm
    · rw [List.pairwise_map]
      refine List.Pairwise.imp_of_mem (fun {u v} hu hv hlt => ?_) h1
      obtain ⟨x, hx⟩ := hm u hu
      obtain ⟨y, hy⟩ := hm v hv
      rw [nOf_pt hx, nOf_pt hy]
      have h3 : SrtO.lexB (kOf H v) (kOf H u) = false := hlt
      rw [kOf_pt hx, kOf_pt hy, SrtO.lexB_no] at h3
      show Vbcnac.less [y.1, y.2] [x.1, x.2] = false
      rw [Bool.eq_false_iff]
      intro z
      rw [less_cons] at z
      apply h3
      rcases z with z | ⟨z1, z2⟩
      · exact .inl (by show (y.1 : Int) < x.1; omega)
      · rw [less_cons] at z2
        rcases z2 with z2 | ⟨_, z2⟩
        · exact .inr ⟨by show (y.1 : Int) = x.1; omega, by show (y.2 : Int) < x.2; omega⟩
        · cases z2
  rw [e] at hp
  exact hp
end
/-! bounds -/
theorem out0_len (s : Vbcnac.State) (x d : Nat) (e : Nat × Nat) : (out0 s x d e).length ≤ 16 := by
  unfold out0 Vbcnac.outs
  split
  · split
    · exact Nat.zero_le _
    · exact (by decide : 1 ≤ 16)
  · refine Nat.le_trans (List.length_filter_le _ _) ?_
    rw [List.length_range]
    exact Nat.le_refl _
theorem left0_len (s : Vbcnac.State) (x d : Nat) : ∀ D : List (Nat × Nat), (D.flatMap (left0 s x d)).length ≤ 16 * D.length
  | [] => Nat.le_refl _
  | e :: D => by
    rw [List.flatMap_cons, List.length_append, List.length_cons]
    have h1 := left0_len s x d D
    have h2 : (left0 s x d e).length ≤ 16 := Nat.le_trans (List.length_filterMap_le _ _) (out0_len s x d e)
    omega
theorem way_len {s : Vbcnac.State} (I : Inv s) {x d : Nat} {r : Nat × Nat} : ∀ {C : List (Nat × Nat)}, (∀ e ∈ C, ∃ l, Way s r e l) → C.length ≤ (C.flatMap (trs s x d)).length
  | [], _ => Nat.le_refl _
  | e :: C, h => by
    obtain ⟨l, w⟩ := h e List.mem_cons_self
    have ih := way_len I (x := x) (d := d) (C := C) fun f hf => h f (List.mem_cons_of_mem _ hf)
    rw [List.flatMap_cons, trs_eq I w, List.length_append, List.length_cons, List.length_cons]
    omega
theorem fwd16 {s : Vbcnac.State} (I : Inv s) {b p : Nat} (hf : Vbcnac.forwards s b p = true) : p < 16 := by
  apply Decidable.byContradiction
  intro q
  have h1 := portAt_ge (s := s) (b := b) (p := p) (by have := I.plen b; omega)
  have h2 := (forwards_iff.mp hf).2
  rw [h1] at h2
  have h3 : (0 : Nat) = s.wait := h2
  have := I.w1
  omega
theorem NetAt.loose {K : PySem.W.Frag} {ow : Addr → Nat} {as : List Addr} {H : Hp} {n c : Addr} {s : Vbcnac.State} {o u : HO} (N : NetAt K ow as H n s) (hc : H c = some o) (ht : isT o = false) (h0 : ow c = 0) : NetAt K ow as (upd H c u) n s := N.keep fun b o' q z => by
  rw [upd_ne]
  · exact q
  · intro y
    rw [y] at q z
    rcases z with z | z
    · exact z h0
    · rw [hc] at q
      cases q
      rw [ht] at z
      cases z
section
variable {P : Program} {w : World} {K : PySem.W.Frag} {mg : Str → Option Value} {base : Heap}
/-! ### ports_left_by -/
def sp_ports_left_by (K : PySem.W.Frag) : Sp := fun vs H Q _ => ∃ n tp ow as s b p x d, vs = [.ref n, .ref tp, .int (x : Nat), .int (d : Nat)] ∧ NetAt K ow as H n s ∧ Inv s ∧ H tp = some (.tup [.int (b : Nat), .int (p : Nat)]) ∧ Vbcnac.forwards s b p = true ∧
  ∀ R H' us t' L, Vbcnac.flow Vbcnac.BRIDGES s b p x d = (t', L) → t'.begun = s.begun → NetAt K ow as H' n t' → Inv t' → Frm ow H H' → (∀ o, H R = some o → False) → H' R = some (.lst us) → Paired (Pt H') us (Vbcnac.sorted L) → us.length ≤ 512 → Q (.ref R) H'
theorem sc_ports_left_by : FnScope ["net", "port", "source", "target", "left", "coming", "entry", "bridge", "place", "out", "other"] ["net", "port", "source", "target"] D_ports_left_by.scope := ⟨rfl, rfl, rfl, by decide +kernel, rfl, by decide +kernel, by decide +kernel⟩
-- level 3; slots 0:net 1:port 2:source 3:target 4:left 5:coming 6:entry 7:bridge 8:place 9:out 10:other; captured []
theorem ok_ports_left_by (T : Txt K mg) (G_learn : Does P w K mg base 1 "learn" ["net", "bridge", "source", "place"] (sp_learn K)) (G_places_to_pass : Does P w K mg base 2 "places_to_pass" ["net", "entry", "target"] (sp_places_to_pass K)) (G_cable_at : Does P w K mg base 1 "cable_at" ["net", "port"] (sp_cable_at K)) (G_forwards : Does P w K mg base 1 "forwards" ["net", "port"] (sp_forwards K)) : Does P w K mg base 3 "ports_left_by" ["net", "port", "source", "target"] (sp_ports_left_by K) := by
  refine does_of T 40 (d := D_ports_left_by) rfl rfl rfl rfl T.g_ports_left_by sc_ports_left_by (fun _ _ _ _ _ _ us hl => match us, hl with | [_, _, _, _], _ => rfl) (fun vs H Q E h => by obtain ⟨_, _, _, _, _, _, _, _, _, rfl, _⟩ := h; rfl) (fun cdv A outer s H vs Q E hr h => ⟨_, (pss_cons (ps_set (i := 4) sc_ports_left_by.nd rfl (.inl rfl) (pe_lst pa_nil))
      (pss_cons (ps_set (i := 5) sc_ports_left_by.nd rfl (.inl rfl) (pe_lst (pa_cons (pv 1) pa_nil)))
      (pss_cons (ps_while PassesOwn.never (pt_cmpR (op_neD (hu64 hr)) (pv 5) (pe_lst pa_nil) (nomark _)) (pss_cons (ps_set (i := 6) sc_ports_left_by.nd rfl (.inl rfl) (pe_bm0 PySem.F.plainAttrs_list PySem.F.slot_list_pop PySem.F.type_list_pop mt_pop (pv 5)))
      (pss_cons (ps_set (i := 7) sc_ports_left_by.nd rfl (.inl rfl) (pe_ix ix_list (pe_fld (pv 0) rfl) (pe_ix ix_tup (pv 6) pe_int (fun _ _ => rfl)) (fun _ _ => rfl)))
      (pss_cons (ps_expr (pe_f G_learn (hr.mono (by decide)) (by rfl) (pa_cons (pv 0) (pa_cons (pv 7) (pa_cons (pv 2) (pa_cons (pe_ix ix_tup (pv 6) pe_int (fun _ _ => rfl)) pa_nil))))))
      (pss_one (ps_for PassesOwn.never rfl (pi_list (pe_f G_places_to_pass (hr.mono (by decide)) (by rfl) (pa_cons (pv 0) (pa_cons (pv 6) (pa_cons (pv 3) pa_nil))))) (pg_name (i := 8) sc_ports_left_by.nd rfl (.inl rfl)) (pss_cons (ps_set (i := 9) sc_ports_left_by.nd rfl (.inl rfl) (pe_tup (pa_cons (pe_ix ix_tup (pv 6) pe_int (fun _ _ => rfl)) (pa_cons (pv 8) pa_nil))))
      (pss_cons (ps_set (i := 10) sc_ports_left_by.nd rfl (.inl rfl) (pe_f G_cable_at (hr.mono (by decide)) (by rfl) (pa_cons (pv 0) (pa_cons (pv 9) pa_nil))))
      (pss_one (ps_if (pt_cmpR op_isN (pv 10) pe_non (nomark _)) (pss_one (ps_expr (pe_bm PySem.F.plainAttrs_list PySem.F.slot_list_append PySem.F.type_list_append mt_append (pv 4) (pa_cons (pv 9) pa_nil)))) (pss_one (ps_if (pt_val (pe_f G_forwards (hr.mono (by decide)) (by rfl) (pa_cons (pv 0) (pa_cons (pv 10) pa_nil)))) (pss_one (ps_expr (pe_bm PySem.F.plainAttrs_list PySem.F.slot_list_append PySem.F.type_list_append mt_append (pv 5) (pa_cons (pv 10) pa_nil)))) pss_nil))))))))))))
      (pss_one (ps_ret (pe_callB cr_sortedPO (by rfl) T.f_sorted (by decide +kernel) (pa_cons (pv 4) pa_nil))))))), ?_⟩)
  obtain ⟨n, tp, ow, as, s, b, p, x, d, rfl, N, I, htp, hf, hQ⟩ := h
  refine r_seq (r_set (r_lst (r_nil ⟨by show 0 ≤ sizeLine; decide, fun Ll nl => nx ?_⟩)))
  have e0 : Same H (upd H Ll (.lst [])) := same_new nl
  refine r_seq (r_set (r_lst (r_cons (go vv (r_nil ⟨by show 1 ≤ sizeLine; decide, fun Lc nc => nx ?_⟩)))))
  have e1 : Same H (upd (upd H Ll (.lst [])) Lc (.lst [.ref tp])) := e0.trans (same_new nc)
  have nc' : H Lc = none := e0.free nc
  have lcl : Lc ≠ Ll := fun y => by
    rw [y, upd_same] at nc
    cases nc
  have trl : (trs s x d (b, p)).length ≤ 32 := by
    have nd := tr_nodup I (src := x) (dest := d) 32 (e := (b, p)) hf
    have := nodup_le (n := s.bridges.length) nd fun c hc => by
      obtain ⟨f, hf1, hf2⟩ := List.mem_map.mp hc
      obtain ⟨l, w⟩ := tr_way I 32 (e := (b, p)) hf hf1
      rw [← hf2]
      exact fwd_lt w.fwd2
    rw [List.length_map] at this
    exact Nat.le_trans this I.nb
  refine r_seq ?_
  refine ⟨fun m σ H' => ∃ v6 v7 v8 v9 v10 D C us vs, m = (trs s x d (b, p)).length - D.length ∧ σ = [some (.ref n), some (.ref tp), some (.int (x : Nat)), some (.int (d : Nat)), some (.ref Ll), some (.ref Lc), v6, v7, v8, v9, v10] ∧ Work s x d (b, p) D C ∧ NetAt K ow as H' n (learnAll x s D) ∧ Frm ow H H' ∧ H' Lc = some (.lst us) ∧ Paired (Pt H') us C ∧ H' Ll = some (.lst vs) ∧ Paired (Pt H') vs (D.flatMap (left0 s x d)),
    ⟨_, none, none, none, none, none, [], [(b, p)], [.ref tp], [], rfl, rfl, work_start hf, N.same e1, fun c o q _ => e1 _ _ q, upd_same, .cons ⟨tp, rfl, e1 _ _ htp⟩ .nil, by rw [upd_ne lcl.symm]; exact upd_same, .nil⟩, ?_⟩
  rintro m σ H1 ⟨v6, v7, v8, v9, v10, D, C, us, vs, rfl, rfl, W, N1, F1, hc, pc, hl, pl⟩
  refine r_test (r_op (go vv (r_lst (r_nil ⟨by show 0 ≤ sizeLine; decide, fun le ne => ?_⟩))))
  have et : Same H1 (upd H1 le (.lst [])) := same_new ne
  have N2 := N1.same et
  have hc2 := et _ _ hc
  have hl2 := et _ _ hl
  have pc2 := Paired.imp (fun _ _ => Pt.mono (Tup.of_same et)) pc
  have pl2 := Paired.imp (fun _ _ => Pt.mono (Tup.of_same et)) pl
  have F2 : Frm ow H (upd H1 le (.lst [])) := fun c o q z => et _ _ (F1 c o q z)
  have hle : (upd H1 le (.lst [])) le = some (.lst []) := upd_same
  generalize (upd H1 le (.lst [])) = H2 at N2 hc2 hl2 pc2 pl2 F2 hle
  refine ⟨_, _, .lst (SqL.of hc2) (dp_pts pc2), .lst (SqL.of hle) .nil, okd_pts C, okd_nil, _, rfl, ?_⟩
  rw [eqv_nil]
  rcases List.eq_nil_or_concat C with rfl | ⟨C', e, rfl⟩
  · refine if_n (nx (r_ret (r_cb (r_cons (go vv (r_nil ?_))))))
    obtain ⟨L, h1, h2⟩ := flow_work I W hf
    have hD := W.done
    refine ⟨Ll, vs, kOf H2, rfl, SqL.of hl2, fun v hv => ?_, fun ys q s1 s2 hq => ?_⟩
    · obtain ⟨y, _, hy⟩ := pt_of pl2 v hv
      rw [kOf_pt hy]
      exact hy
    · have ps := sorted_pts pl2 s1 s2
      rw [← h2] at ps
      have es := same_new (o := .lst ys) hq
      refine hQ q _ ys (learnAll x s D) L h1 (all_begun x D s) (N2.same es) (inv_all x D I (Like.refl s) fun e he => ?_) (fun c o q z => es _ _ (F2 c o q z)) (fun o ho => ?_) upd_same (Paired.imp (fun _ _ => Pt.mono (Tup.of_same es)) ps) ?_
      · obtain ⟨l, w⟩ := tr_way I 32 (e := (b, p)) hf (hD.mem_iff.mp he)
        exact w.fwd2
      · have z : ow q = 0 := N2.new hq
        rw [F2 _ _ ho z] at hq
        cases hq
      · rw [s2.perm.length_eq, Paired.length pl2]
        have h3 := left0_len s x d D
        have h4 := hD.length_eq
        omega
  · rw [List.concat_eq_append] at W pc2 ⊢
    have hlt := W.lt I (by simp)
    have clen : (C' ++ [e]).length ≤ 32 := by
      have h1 := way_len I (x := x) (d := d) W.way
      have h2 := W.perm.length_eq
      rw [List.length_append] at h2
      omega
    have dlen : D.length ≤ 32 := by omega
    rw [List.length_append] at clen
    obtain ⟨W2, fe, ne2, lt2⟩ := W.pop I
    obtain ⟨us', u, rfl, pc3, te, rfl, hte⟩ := Paired.last pc2
    have hne : ((C' ++ [e]).map fun x : Nat × Nat => PyData.tuple [.int x.1, .int x.2]).isEmpty = false := by
      rw [List.map_append]
      cases C'.map fun x : Nat × Nat => PyData.tuple [.int x.1, .int x.2] <;> rfl
    rw [hne]
    have oc : ow Lc = 0 := N.new nc'
    have ol : ow Ll = 0 := N.new nl
    have eb : e.1 < s.bridges.length := fwd_lt fe
    refine if_y ⟨fun σ' H' => ∃ v6 v7 v8 v9 v10 us vs, σ' = [some (.ref n), some (.ref tp), some (.int (x : Nat)), some (.int (d : Nat)), some (.ref Ll), some (.ref Lc), v6, v7, v8, v9, v10] ∧ NetAt K ow as H' n (learnAll x s (D ++ [e])) ∧ Frm ow H H' ∧ H' Lc = some (.lst us) ∧ Paired (Pt H') us (C' ++ kids s x d e) ∧ H' Ll = some (.lst vs) ∧ Paired (Pt H') vs ((D ++ [e]).flatMap (left0 s x d)), ?_, ?_⟩
    · rintro σ' H' ⟨v6, v7, v8, v9, v10, us, vs, q1, q2, q3, q4, q5, q6, q7⟩
      refine ⟨(trs s x d (b, p)).length - (D ++ [e]).length, ?_, v6, v7, v8, v9, v10, D ++ [e], _, us, vs, rfl, q1, W2, q2, q3, q4, q5, q6, q7⟩
      rw [List.length_append, List.length_singleton]
      omega
    refine r_seq (r_set (r_bm0 (go vv ⟨ty_list hc2, Lc, us' ++ [.ref te], .ref te, rfl, rfl, hc2, ?_, nx ?_⟩)))
    · rw [List.length_append, List.length_singleton, Nat.add_sub_cancel, List.getElem?_append_right (Nat.le_refl _), Nat.sub_self]
      rfl
    rw [List.dropLast_concat]
    have t3 : Tup H2 (upd H2 Lc (.lst us')) := tup_upd hc2 rfl
    have N3 : NetAt K ow as (upd H2 Lc (.lst us')) n (learnAll x s D) := N2.loose hc2 rfl oc
    have F3 : Frm ow H (upd H2 Lc (.lst us')) := fun c o q z => by
      rw [upd_ne (ne_of_none q nc')]
      exact F2 c o q z
    have hte3 := t3 _ _ hte
    have pc4 := Paired.imp (fun _ _ => Pt.mono t3) pc3
    have pl3 := Paired.imp (fun _ _ => Pt.mono t3) pl2
    have hl3 : (upd H2 Lc (.lst us')) Ll = some (.lst vs) := by
      rw [upd_ne lcl.symm]
      exact hl2
    have hc3 : (upd H2 Lc (.lst us')) Lc = some (.lst us') := upd_same
    generalize (upd H2 Lc (.lst us')) = H3 at N3 F3 hte3 pc4 pl3 hl3 hc3
    have lk := like_all (src := x) D s (Like.refl s)
    have hbl : e.1 < (learnAll x s D).bridges.length := by rw [lk.len]; exact eb
    obtain ⟨a, ea⟩ := N3.addr hbl
    have bsame : Vbcnac.bridgeAt (learnAll x s D) e.1 = Vbcnac.bridgeAt s e.1 := all_ne D s e.1 ne2
    refine r_seq (r_set (go (N3.bridge T ea vv (v_ixT (j := 0) (xs := [.int (e.1 : Nat), .int (e.2 : Nat)]) vv (SqT.of hte3) rfl)) (nx ?_)))
    refine r_seq (r_drop (c4 vv vv vv (v_ixT (j := 1) (xs := [.int (e.1 : Nat), .int (e.2 : Nat)]) vv (SqT.of hte3) rfl) ⟨n, a, ow, as, _, e.1, x, e.2, rfl, N3, ea, by rw [bsame]; exact I.stS e.1, by rw [bsame]; exact Nat.le_trans (I.stL e.1) I.rm, fun H4 N4 C4 => nx ?_⟩))
    have F34 := C4.fr.frm
    have t4 : Tup H3 H4 := N3.tups F34
    have F4 : Frm ow H H4 := F3.trans (Grow.refl _ _) F34
    have hte4 := t4 _ _ hte3
    have hc4 := F34 _ _ hc3 oc
    have hl4 := F34 _ _ hl3 ol
    have lk2 : Like s (Vbcnac.learn (learnAll x s D) e.1 e.2 x) := lk.trans (like_learn _ _ _ _)
    have hbl2 : e.1 < (Vbcnac.learn (learnAll x s D) e.1 e.2 x).bridges.length := by rw [lk2.len]; exact eb
    have h16 : (Vbcnac.bridgeAt (Vbcnac.learn (learnAll x s D) e.1 e.2 x) e.1).ports.length = 16 := by
      rw [lk2.br e.1]
      exact I.np e.1 eb
    have hso : SortedS (Vbcnac.bridgeAt (Vbcnac.learn (learnAll x s D) e.1 e.2 x) e.1).stations := by
      rw [learn_at _ _ _ hbl, bsame]
      exact learnt_sorted (I.stS e.1)
    have ho : Vbcnac.outs (Vbcnac.learn (learnAll x s D) e.1 e.2 x) e.1 e.2 d = out0 s x d e := out0_of lk eb (by rw [bsame])
    have hall : Vbcnac.learn (learnAll x s D) e.1 e.2 x = learnAll x s (D ++ [e]) := (all_app s D [e]).symm
    refine r_for (r_ilist (c3 vv vv vv ⟨n, te, ow, as, _, e.1, e.2, d, rfl, N4, hte4, hbl2, h16, hso, fun L H5 e5 hL hLv => ⟨L, rfl, ⟨_, SqL.of hLv⟩, for_it walk_list
      (fun k σ H' => ∃ v8 v9 v10 us2 vs2, σ = [some (.ref n), some (.ref tp), some (.int (x : Nat)), some (.int (d : Nat)), some (.ref Ll), some (.ref Lc), some (.ref te), some (.ref a), v8, v9, v10] ∧ NetAt K ow as H' n (Vbcnac.learn (learnAll x s D) e.1 e.2 x) ∧ Frm ow H H' ∧ H' L = some (.lst ((Vbcnac.outs (Vbcnac.learn (learnAll x s D) e.1 e.2 x) e.1 e.2 d).map fun j : Nat => V.int j)) ∧ H' te = some (.tup [.int (e.1 : Nat), .int (e.2 : Nat)]) ∧
        H' Lc = some (.lst us2) ∧ Paired (Pt H') us2 (C' ++ ((out0 s x d e).take k).filterMap (kid s e.1)) ∧ H' Ll = some (.lst vs2) ∧ Paired (Pt H') vs2 (D.flatMap (left0 s x d) ++ ((out0 s x d e).take k).filterMap (left1 s e.1)))
      ⟨v8, v9, v10, us', vs, rfl, N4.same e5, fun c o q z => e5 _ _ (F4 c o q z), hLv, e5 _ _ hte4, e5 _ _ hc4, ?_, e5 _ _ hl4, ?_⟩ (fun k σ H' _ ⟨_, _, _, _, _, _, _, _, h, _⟩ => SqL.of h) ?hs ?hd⟩⟩))
    · show Paired _ _ (C' ++ [])
      rw [List.append_nil]
      exact Paired.imp (fun _ _ h => (h.mono t4).mono (Tup.of_same e5)) pc4
    · show Paired _ _ (D.flatMap (left0 s x d) ++ [])
      rw [List.append_nil]
      exact Paired.imp (fun _ _ h => (h.mono t4).mono (Tup.of_same e5)) pl3
    case hd =>
      rintro σ H6 ⟨v8, v9, v10, us2, vs2, rfl, N6, F6, hL6, hte6, hc6, pc6, hl6, pl6⟩
      rw [List.length_map, ho, List.take_length] at pc6 pl6
      rw [hall] at N6
      refine ⟨_, _, _, _, _, us2, vs2, rfl, N6, F6, hc6, pc6, hl6, ?_⟩
      rw [List.flatMap_append, List.flatMap_cons, List.flatMap_nil, List.append_nil]
      exact pl6
    case hs =>
      rintro k y σ H6 H7 hk ⟨v8, v9, v10, us2, vs2, rfl, N6, F6, hL6, hte6, hc6, pc6, hl6, pl6⟩ ⟨rfl, hy⟩
      rw [List.length_map, ho] at hk
      obtain ⟨j, hj⟩ : ∃ j, (out0 s x d e)[k]? = some j := ⟨_, List.getElem?_eq_getElem hk⟩
      rw [ho, List.getElem?_map, hj] at hy
      have hyj : y = .int (j : Nat) := (Option.some.inj hy).symm
      subst hyj
      obtain ⟨hj1, hj2⟩ := out0_ok I fe (List.mem_of_getElem? hj)
      have hj16 := fwd16 I hj2
      have htk := take_succ' hj
      refine r_seq (r_set (r_tup (r_cons (go (v_ixT (j := 0) (xs := [.int (e.1 : Nat), .int (e.2 : Nat)]) vv (SqT.of hte6) rfl) (r_cons (go vv (r_nil ⟨by show 2 ≤ sizeLine; decide, fun to hto => nx ?_⟩)))))))
      have e8 := same_new (o := .tup [.int (e.1 : Nat), .int (j : Nat)]) hto
      have t8 := Tup.of_same e8
      have N8 := N6.same e8
      have F8 : Frm ow H (upd H7 to (.tup [.int (e.1 : Nat), .int (j : Nat)])) := fun c o q z => e8 _ _ (F6 c o q z)
      have hL8 := e8 _ _ hL6
      have hte8 := e8 _ _ hte6
      have hc8 := e8 _ _ hc6
      have hl8 := e8 _ _ hl6
      have pc8 := Paired.imp (fun _ _ => Pt.mono t8) pc6
      have pl8 := Paired.imp (fun _ _ => Pt.mono t8) pl6
      have hto8 : (upd H7 to (.tup [.int (e.1 : Nat), .int (j : Nat)])) to = some (.tup [.int (e.1 : Nat), .int (j : Nat)]) := upd_same
      generalize (upd H7 to (.tup [.int (e.1 : Nat), .int (j : Nat)])) = H8 at N8 F8 hL8 hte8 hc8 hl8 pc8 pl8 hto8
      have luc : us2.length ≤ 48 := by
        rw [Paired.length pc8, List.length_append]
        have h1 := List.length_filterMap_le (kid s e.1) ((out0 s x d e).take k)
        have h2 := out0_len s x d e
        rw [List.length_take] at h1
        omega
      have lul : vs2.length ≤ 528 := by
        rw [Paired.length pl8, List.length_append]
        have h1 := List.length_filterMap_le (left1 s e.1) ((out0 s x d e).take k)
        have h2 := out0_len s x d e
        have h3 := left0_len s x d D
        rw [List.length_take] at h1
        omega
      refine r_seq (r_set (c2 vv vv ⟨ow, as, n, _, to, e.1, j, rfl, N8, hto8, hbl2, by rw [h16]; exact hj16, fun v hv => nx ?_⟩))
      rw [lk2.port] at hv
      refine r_if (r_test (r_op (go vv (r_c ⟨rfl, _, rfl, ?_⟩))))
      cases hx : (Vbcnac.portAt s e.1 j).peer with
      | none =>
        rw [hx] at hv
        cases (show v = .non from hv)
        have hk1 : kid s e.1 j = none := by
          unfold kid
          rw [hx]
          rfl
        have hk2 : left1 s e.1 j = some (e.1, j) := by
          unfold left1
          rw [if_pos hx]
        have t9 : Tup H8 (upd H8 Ll (.lst (vs2 ++ [.ref to]))) := tup_upd hl8 rfl
        refine if_y (r_drop (r_bm (go vv ⟨ty_list hl8, r_cons (go vv (r_nil ⟨Ll, vs2, .ref to, rfl, rfl, hl8, Nat.lt_of_le_of_lt lul (by decide), _, _, _, us2, vs2 ++ [.ref to], rfl, N8.loose hl8 rfl ol, fun c o q z => ?_, ?_, t9 _ _ hte8, ?_, ?_, upd_same, ?_⟩))⟩)))
        · rw [upd_ne (ne_of_none q nl)]
          exact F8 c o q z
        · rw [upd_ne (fun y => ?_)]
          · exact hL8
          · have h1 := hl4
            rw [← y, hL] at h1
            cases h1
        · rw [upd_ne lcl]
          exact hc8
        · rw [htk, List.filterMap_append, List.filterMap_cons, hk1, List.filterMap_nil, List.append_nil]
          exact Paired.imp (fun _ _ => Pt.mono t9) pc8
        · rw [htk, List.filterMap_append, List.filterMap_cons, hk2, List.filterMap_nil, ← List.append_assoc]
          exact Paired.snoc ⟨to, rfl, t9 _ _ hto8⟩ (Paired.imp (fun _ _ => Pt.mono t9) pl8)
      | some y =>
        rw [hx] at hv
        obtain ⟨o, rfl, hoo⟩ := hv
        obtain ⟨_, _, hy1, hy2⟩ := I.peer (c := y.1) (q := y.2) hx
        have hk2 : left1 s e.1 j = none := by
          unfold left1
          rw [if_neg (by rw [hx]; intro z; cases z)]
        refine if_n (r_if (r_tb (c2 vv vv ⟨ow, as, n, _, o, y.1, y.2, rfl, N8, hoo, by rw [lk2.len]; exact hy1, by rw [lk2.br y.1]; show y.2 < (Vbcnac.bridgeAt s y.1).ports.length; rw [I.np y.1 hy1]; exact hy2, _, rfl, ?_⟩)))
        rw [lk2.fwd]
        by_cases hf2 : Vbcnac.forwards s y.1 y.2 = true
        · have hk1 : kid s e.1 j = some y := by
            unfold kid
            rw [hx]
            exact if_pos hf2
          rw [hf2]
          have t9 : Tup H8 (upd H8 Lc (.lst (us2 ++ [.ref o]))) := tup_upd hc8 rfl
          refine if_y (r_drop (r_bm (go vv ⟨ty_list hc8, r_cons (go vv (r_nil ⟨Lc, us2, .ref o, rfl, rfl, hc8, Nat.lt_of_le_of_lt luc (by decide), _, _, _, us2 ++ [.ref o], vs2, rfl, N8.loose hc8 rfl oc, fun c o' q z => ?_, ?_, t9 _ _ hte8, upd_same, ?_, ?_, ?_⟩))⟩)))
          · rw [upd_ne (ne_of_none q nc')]
            exact F8 c o' q z
          · rw [upd_ne (fun y => ?_)]
            · exact hL8
            · have h1 := hc4
              rw [← y, hL] at h1
              cases h1
          · rw [htk, List.filterMap_append, List.filterMap_cons, hk1, List.filterMap_nil, ← List.append_assoc]
            exact Paired.snoc ⟨o, rfl, t9 _ _ hoo⟩ (Paired.imp (fun _ _ => Pt.mono t9) pc8)
          · rw [upd_ne lcl.symm]
            exact hl8
          · rw [htk, List.filterMap_append, List.filterMap_cons, hk2, List.filterMap_nil, List.append_nil]
            exact Paired.imp (fun _ _ => Pt.mono t9) pl8
        · have hk1 : kid s e.1 j = none := by
            unfold kid
            rw [hx]
            exact if_neg hf2
          rw [Bool.eq_false_iff.mpr hf2]
          refine if_n (r_next ⟨_, _, _, us2, vs2, rfl, N8, F8, hL8, hte8, hc8, ?_, hl8, ?_⟩)
          · rw [htk, List.filterMap_append, List.filterMap_cons, hk1, List.filterMap_nil, List.append_nil]
            exact pc8
          · rw [htk, List.filterMap_append, List.filterMap_cons, hk2, List.filterMap_nil, List.append_nil]
            exact pl8
end
end Sw
namespace Sw
open PySem PySem.Spec PyProof.Rows L2
/-- a row told -/
def Rw (H : Hp) (v : V) (r : List Nat) : Prop := ∃ t, v = .ref t ∧ H t = some (.tup (rowV r))
theorem Rw.mono {H H' : Hp} (e : Tup H H') {v : V} {r : List Nat} (h : Rw H v r) : Rw H' v r := by
  obtain ⟨t, h1, h2⟩ := h
  exact ⟨t, h1, e _ _ h2⟩
theorem rowV_app (a b : List Nat) : rowV (a ++ b) = rowV a ++ rowV b := List.map_append
theorem rowsOf_V (rows : List (List Nat)) : (Vbcnac.rowsOf rows).map V.int = rowV (rows.length :: rows.flatten) := by
  unfold Vbcnac.rowsOf Vbcnac.ints rowV
  rw [List.map_map]
  rfl
theorem big_line : 100000 ≤ sizeLine := by decide
theorem take_flat {rows : List (List Nat)} {k : Nat} {r : List Nat} (h : rows[k]? = some r) : (rows.take (k + 1)).flatten = (rows.take k).flatten ++ r := by
  rw [take_succ' h, List.flatten_append]
  simp
theorem flat_le : ∀ (rows : List (List Nat)) (k : Nat), (rows.take k).flatten.length ≤ rows.flatten.length
  | [], k => by simp
  | r :: rows, 0 => by simp
  | r :: rows, k + 1 => by
    have := flat_le rows k
    rw [List.take_succ_cons, List.flatten_cons, List.flatten_cons, List.length_append, List.length_append]
    omega
section
variable {P : Program} {w : World} {K : PySem.W.Frag} {mg : Str → Option Value} {base : Heap}
def sp_rows_of (K : PySem.W.Frag) : Sp := fun vs H Q _ => ∃ L us rows, vs = [.ref L] ∧ H L = some (.lst us) ∧ Paired (Rw H) us rows ∧ rows.flatten.length ≤ 50000 ∧
  ∀ p H', Same H H' → H p = none → H' p = some (.lst ((Vbcnac.rowsOf rows).map V.int)) → Q (.ref p) H'
theorem sc_rows_of : FnScope ["rows", "answer", "row"] ["rows"] D_rows_of.scope := ⟨rfl, rfl, rfl, by decide +kernel, rfl, by decide +kernel, by decide +kernel⟩
-- level 1; slots 0:rows 1:answer 2:row; captured []
theorem ok_rows_of (T : Txt K mg) : Does P w K mg base 1 "rows_of" ["rows"] (sp_rows_of K) := by
  refine does_of T 57 (d := D_rows_of) rfl rfl rfl rfl T.g_rows_of sc_rows_of (fun _ _ _ _ _ _ us hl => match us, hl with | [_], _ => rfl) (fun vs H Q E h => by obtain ⟨_, _, _, rfl, _⟩ := h; rfl) (fun cdv A outer s H vs Q E hr h => ⟨_, (pss_cons (ps_set (i := 1) sc_rows_of.nd rfl (.inl rfl) (pe_lst (pa_cons (pe_callB call_len_seq (by rfl) T.f_len PySem.boot_len (pa_cons (pv 0) pa_nil)) pa_nil)))
      (pss_cons (ps_for PassesOwn.never rfl (pi_list (pv 0)) (pg_name (i := 2) sc_rows_of.nd rfl (.inl rfl)) (pss_one (ps_expr (pe_bm PySem.F.plainAttrs_list PySem.F.slot_list_extend PySem.F.type_list_extend mt_extend (pv 1) (pa_cons (pe_callTy call_list_of (by rfl) T.f_list (by decide +kernel) (pa_cons (pv 2) pa_nil)) pa_nil)))))
      (pss_one (ps_ret (pv 1))))), ?_⟩)
  obtain ⟨L, us, rows, rfl, hL, hp, hb, hQ⟩ := h
  refine r_seq (r_set (r_lst (r_cons (r_cb (r_cons (go vv (r_nil ⟨L, us, rfl, .inl (SqL.of hL), r_nil ⟨by show 1 ≤ sizeLine; decide, fun p np => nx ?_⟩⟩)))))))
  have e0 : Same H (upd H p (.lst [.int us.length])) := same_new np
  refine r_seq (r_for (r_ilist (go vv ⟨L, rfl, ⟨_, SqL.of (e0 _ _ hL)⟩, for_it walk_list
    (fun k σ H' => ∃ v2, σ = [some (.ref L), some (.ref p), v2] ∧ Same H H' ∧ H' p = some (.lst (rowV (rows.length :: (rows.take k).flatten)))) ⟨none, rfl, e0, ?_⟩ (fun k σ H' _ ⟨_, _, e, _⟩ => SqL.of (e _ _ hL)) ?hs ?hd⟩)))
  · rw [upd_same, Paired.length hp]
    rfl
  case hd =>
    rintro σ H1 ⟨v2, rfl, e1, h1⟩
    rw [Paired.length hp, List.take_length] at h1
    exact nx (r_ret (go vv (hQ p H1 e1 np (by rw [h1, rowsOf_V]))))
  case hs =>
    rintro k x σ H1 H2 hk ⟨v2, rfl, e1, h1⟩ ⟨rfl, hx⟩
    obtain ⟨r, hr, t, rfl, ht⟩ := Paired.get hp hx
    refine r_drop (r_bm (go vv ⟨ty_list h1, r_cons (r_cb (r_cons (go vv (r_nil ⟨t, rowV r, rfl, .inr (SqT.of (e1 _ _ ht)), fun l nl => r_nil ?_⟩))))⟩))
    have el := same_new (o := .lst (rowV r)) nl
    have hlen : (rowV (rows.length :: (rows.take k).flatten)).length + (rowV r).length ≤ sizeLine := by
      have h2 := flat_le rows (k + 1)
      rw [take_flat hr, List.length_append] at h2
      unfold rowV
      rw [List.length_map, List.length_map, List.length_cons]
      exact Nat.le_trans (by omega) big_line
    refine ⟨p, l, _, _, rfl, rfl, el _ _ h1, upd_same, hlen, _, rfl, same_upd (e1.trans el) np, ?_⟩
    rw [upd_same, take_flat hr, ← rowV_app]
    rfl
/-! ### quiet_call -/
theorem args_0 {σ : L2.St} {H : Hp} : ∀ QA : List V → Hp → Prop, (∀ tn tr tb us H1, Same H H1 → SqT K H1 tn (([] : List Int).map V.int) → SqT K H1 tr us → Paired (Spn K) us [] → SqT K H1 tb (([] : List Int).map V.int) → QA [.ref tn, .ref tr, .ref tb] H1) →
    (tCons (tTup tNil) (tCons (tTup tNil) (tCons (tTup tNil) tNil))) σ H QA := fun QA q => by
  refine r_cons (r_tup (r_nil ⟨by show 0 ≤ sizeLine; decide, fun t1 n1 => r_cons (r_tup (r_nil ⟨by show 0 ≤ sizeLine; decide, fun t2 n2 => r_cons (r_tup (r_nil ⟨by show 0 ≤ sizeLine; decide, fun t3 n3 => r_nil ?_⟩))⟩))⟩))
  have e1 := same_new (o := .tup []) n1
  have e2 := same_new (o := .tup []) n2
  have e3 := same_new (o := .tup []) n3
  exact q t1 t2 t3 _ _ (e1.trans (e2.trans e3)) (SqT.of (e3 _ _ (e2 _ _ upd_same))) (SqT.of (e3 _ _ upd_same)) .nil (SqT.of upd_same)
def sp_quiet_call (K : PySem.W.Frag) : Sp := fun vs H Q _ => ∃ v ow as s, vs = [v] ∧ SesAt K ow as H v s ∧ Ans K v ow H (Vbcnac.step s .quiet) Q
theorem sc_quiet_call : FnScope ["net", "refusal"] ["net"] D_quiet_call.scope := ⟨rfl, rfl, rfl, by decide +kernel, rfl, by decide +kernel, by decide +kernel⟩
-- level 2; slots 0:net 1:refusal; captured []
theorem ok_quiet_call (T : Txt K mg) (G_refusal_of : Does P w K mg base 1 "refusal_of" ["net", "numbers", "ranges", "bridges"] (sp_refusal_of K)) : Does P w K mg base 2 "quiet_call" ["net"] (sp_quiet_call K) := by
  refine does_of T 65 (d := D_quiet_call) rfl rfl rfl rfl T.g_quiet_call sc_quiet_call (fun _ _ _ _ _ _ us hl => match us, hl with | [_], _ => rfl) (fun vs H Q E h => by obtain ⟨_, _, _, _, rfl, _⟩ := h; rfl) (fun cdv A outer s H vs Q E hr h => ⟨_, (pss_cons (ps_set (i := 1) sc_quiet_call.nd rfl (.inl rfl) (pe_f G_refusal_of (hr.mono (by decide)) (by rfl) (pa_cons (pv 0) (pa_cons (pe_tup pa_nil) (pa_cons (pe_tup pa_nil) (pa_cons (pe_tup pa_nil) pa_nil))))))
      (pss_cons (ps_if (pt_cmpR op_ne (pv 1) pe_int (nomark _)) (pss_one (ps_ret (pe_lst (pa_cons (pv 1) pa_nil)))) pss_nil)
      (pss_one (ps_ret (pe_lst (pa_cons (pe_fld (pv 0) rfl) pa_nil)))))), ?_⟩)
  obtain ⟨v, ow, as, s, rfl, S, A⟩ := h
  refine r_refusal (c := .quiet) (ns := []) (rs := []) (bs := []) 1 S A rfl rfl rfl rfl rfl (by show 1 < 2; decide) args_0 fun n H1 hv N e hbeg I z A1 => ?_
  subst hv
  have ed : Vbcnac.does s .quiet = (s, [(s.quiet : Int)]) := rfl
  refine r_ret (r_lst (r_cons (go (N.fquiet T vv) (r_nil ⟨by show 1 ≤ sizeLine; decide, ?_⟩))))
  exact (A1.eq ed).ret (.inr ⟨n, rfl, N, hbeg, I⟩) (Frm.refl _ _) (Grow.refl _ _) rfl
/-! ### view_call -/
theorem Ans.ret2 {ow ow' : Addr → Nat} {as' : List Addr} {H H1 : Hp} {v : V} {Q : VK} {x : Vbcnac.State × List Int} (A : Ans K v ow H x Q) (S : SesAt K ow' as' H1 v x.1) (F : Frm ow H H1) (G : Grow H ow ow') {p : Addr} (hf : ∀ o, H p = some o → ow p ≠ 0) (h0 : ow' p = 0) (hl : H1 p = some (.lst (x.2.map V.int))) : Q (.ref p) H1 := A H1 ow' as' p S F G hf h0 hl
/-- an answer that only looked -/
theorem Ans.look {ow : Addr → Nat} {as : List Addr} {H H1 : Hp} {v : V} {s : Vbcnac.State} {Q : VK} {l : List Int} (A : Ans K v ow H (s, l) Q) (S : SesAt K ow as H v s) (e : Same H H1) {p : Addr} (np : H p = none) (hl : H1 p = some (.lst (l.map V.int))) : Q (.ref p) H1 :=
  A H1 ow as p (S.same e) (fun b o h _ => e b o h) (Grow.refl _ _) (fun o ho => (by rw [np] at ho; cases ho)) (S.new np) hl
def sp_view_call (K : PySem.W.Frag) : Sp := fun vs H Q _ => ∃ v b ow as s, vs = [v, .int b] ∧ SesAt K ow as H v s ∧ Ans K v ow H (Vbcnac.step s (.view b)) Q
theorem sc_view_call : FnScope ["net", "number", "refusal", "bridge", "held"] ["net", "number"] D_view_call.scope := ⟨rfl, rfl, rfl, by decide +kernel, rfl, by decide +kernel, by decide +kernel⟩
-- level 4; slots 0:net 1:number 2:refusal 3:bridge 4:held; captured []
theorem ok_view_call (T : Txt K mg) (G_refusal_of : Does P w K mg base 1 "refusal_of" ["net", "numbers", "ranges", "bridges"] (sp_refusal_of K)) (G_held_by : Does P w K mg base 3 "held_by" ["bridge"] (sp_held_by K)) : Does P w K mg base 4 "view_call" ["net", "number"] (sp_view_call K) := by
  refine does_of T 59 (d := D_view_call) rfl rfl rfl rfl T.g_view_call sc_view_call (fun _ _ _ _ _ _ us hl => match us, hl with | [_, _], _ => rfl) (fun vs H Q E h => by obtain ⟨_, _, _, _, _, rfl, _⟩ := h; rfl) (fun cdv A outer s H vs Q E hr h => ⟨_, (pss_cons (ps_set (i := 2) sc_view_call.nd rfl (.inl rfl) (pe_f G_refusal_of (hr.mono (by decide)) (by rfl) (pa_cons (pv 0) (pa_cons (pe_tup (pa_cons (pv 1) pa_nil)) (pa_cons (pe_tup (pa_cons (pe_gr T.g_BRIDGE rfl) pa_nil)) (pa_cons (pe_tup (pa_cons (pv 1) pa_nil)) pa_nil))))))
      (pss_cons (ps_if (pt_cmpR op_ne (pv 2) pe_int (nomark _)) (pss_one (ps_ret (pe_lst (pa_cons (pv 2) pa_nil)))) pss_nil)
      (pss_cons (ps_set (i := 3) sc_view_call.nd rfl (.inl rfl) (pe_ix ix_list (pe_fld (pv 0) rfl) (pv 1) (fun _ _ => rfl)))
      (pss_cons (ps_if (pt_not (pt_val (pe_fld (pv 3) rfl))) (pss_one (ps_ret (pe_lst (pa_cons pe_int pa_nil)))) pss_nil)
      (pss_cons (ps_set (i := 4) sc_view_call.nd rfl (.inl rfl) (pe_f G_held_by (hr.mono (by decide)) (by rfl) (pa_cons (pv 3) pa_nil)))
      (pss_one (ps_ret (pe_op op_cat (pe_op op_cat (pe_lst (pa_cons pe_int pa_nil)) (pe_callTy call_list_of (by rfl) T.f_list (by decide +kernel) (pa_cons (pe_fld (pv 4) rfl) pa_nil))) (pe_lst (pa_cons (pe_fld (pv 4) rfl) (pa_cons (pe_fld (pv 4) rfl) (pa_cons (pe_fld (pv 4) rfl) pa_nil)))))))))))), ?_⟩)
  obtain ⟨v, b, ow, as, s, rfl, S, A⟩ := h
  refine r_refusal (c := .view b) (ns := [b]) (rs := [(0, 31)]) (bs := [b]) 2 S A rfl ?_ rfl rfl rfl (by show 2 < 5; decide) (args_b T rfl) fun n H1 hv N e hbeg I z A1 => ?_
  · show Vbcnac.isB b = (inSpan b (0, 31) && true)
    rw [Bool.and_true]
    rfl
  · subst hv
    obtain ⟨hr, hb⟩ := ref3_zero z
    have hb1 : 0 ≤ b ∧ b ≤ 31 := hr (b, (0, 31)) (by simp)
    have hb2 := hb b (by simp)
    obtain ⟨b, rfl⟩ := nat_of hb1.1
    have hb3 : b < s.bridges.length := by omega
    obtain ⟨a, ea⟩ := N.addr hb3
    obtain ⟨dx, l, st, ws, kvs, B⟩ := N.br b a ea
    have bk : SesAt K ow as H1 (.ref n) s := .inr ⟨n, rfl, N, hbeg, I⟩
    refine r_seq (r_set (go (N.bridge T ea vv vv) (nx ?_)))
    refine r_seq (r_if (r_not (r_tb (go (B.fon T vv) ⟨_, rfl, ?_⟩))))
    cases hon : (Vbcnac.bridgeAt s b).on with
    | false =>
      have ed : Vbcnac.does s (.view (b : Int)) = (s, [0]) := by
        show (if Vbcnac.isOn s b = false then (s, [0]) else _) = _
        rw [if_pos (by rw [isOn_at hb3, hon])]
      refine if_y (r_ret (r_lst (r_cons (r_c (r_nil ⟨by show 1 ≤ sizeLine; decide, ?_⟩)))))
      exact (A1.eq ed).ret bk (Frm.refl _ _) (Grow.refl _ _) rfl
    | true =>
      have ed : Vbcnac.does s (.view (b : Int)) = (s, [1, ((Vbcnac.view (Vbcnac.bridgeAt s b)).root.1 : Int), ((Vbcnac.view (Vbcnac.bridgeAt s b)).root.2 : Int), ((Vbcnac.view (Vbcnac.bridgeAt s b)).cost : Int), (match (Vbcnac.view (Vbcnac.bridgeAt s b)).port with
          | none => -1
          | some i => (i : Int)), ((Vbcnac.view (Vbcnac.bridgeAt s b)).age : Int)]) := by
        show (if Vbcnac.isOn s b = false then (s, [0]) else _) = _
        rw [if_neg (by rw [isOn_at hb3, hon]; decide)]
        rfl
      refine if_n (r_next (nx (r_seq (r_set (c1 vv ⟨ow, b, a, _, dx, l, st, ws, kvs, rfl, B, fun hd H2 e2 hh => nx ?_⟩)))))
      obtain ⟨dh, rt, h1, h2⟩ := hh
      refine r_ret (r_op (r_op (r_lst (r_cons (r_c (r_nil ⟨by show 1 ≤ sizeLine; decide, fun p1 n1 => ?_⟩))))))
      have g1 := same_new (o := .lst [.int 1]) n1
      refine r_cb (r_cons (go (val_fld (fs := heldF (.ref rt) (.int ((Vbcnac.view (Vbcnac.bridgeAt s b)).cost : Nat)) (placeV (Vbcnac.view (Vbcnac.bridgeAt s b)).port) (.int ((Vbcnac.view (Vbcnac.bridgeAt s b)).age : Nat))) (v := .ref rt) vv (g1 _ _ h1) T.c_Held T.n_Held_root rfl) (r_nil ⟨rt, _, rfl, .inr (SqT.of (g1 _ _ h2)), fun p2 n2 => ?_⟩)))
      have g2' := same_new (o := .lst (rowV [(Vbcnac.view (Vbcnac.bridgeAt s b)).root.1, (Vbcnac.view (Vbcnac.bridgeAt s b)).root.2])) n2
      refine ⟨p1, p2, _, _, rfl, rfl, g2' _ _ upd_same, upd_same, by show 3 ≤ sizeLine; decide, fun p3 n3 => ?_⟩
      have g3 := same_new (o := .lst ([.int 1] ++ rowV [(Vbcnac.view (Vbcnac.bridgeAt s b)).root.1, (Vbcnac.view (Vbcnac.bridgeAt s b)).root.2])) n3
      have h13 := g3 _ _ (g2' _ _ (g1 _ _ h1))
      refine r_lst (r_cons (go (val_fld (fs := heldF (.ref rt) (.int ((Vbcnac.view (Vbcnac.bridgeAt s b)).cost : Nat)) (placeV (Vbcnac.view (Vbcnac.bridgeAt s b)).port) (.int ((Vbcnac.view (Vbcnac.bridgeAt s b)).age : Nat))) vv h13 T.c_Held T.n_Held_cost rfl) (r_cons (go (val_fld (fs := heldF (.ref rt) (.int ((Vbcnac.view (Vbcnac.bridgeAt s b)).cost : Nat)) (placeV (Vbcnac.view (Vbcnac.bridgeAt s b)).port) (.int ((Vbcnac.view (Vbcnac.bridgeAt s b)).age : Nat))) vv h13 T.c_Held T.n_Held_place rfl) (r_cons (go (val_fld (fs := heldF (.ref rt) (.int ((Vbcnac.view (Vbcnac.bridgeAt s b)).cost : Nat)) (placeV (Vbcnac.view (Vbcnac.bridgeAt s b)).port) (.int ((Vbcnac.view (Vbcnac.bridgeAt s b)).age : Nat))) vv h13 T.c_Held T.n_Held_age rfl) (r_nil ⟨by show 3 ≤ sizeLine; decide, fun p4 n4 => ?_⟩)))))))
      have g4 := same_new (o := .lst [.int ((Vbcnac.view (Vbcnac.bridgeAt s b)).cost : Nat), placeV (Vbcnac.view (Vbcnac.bridgeAt s b)).port, .int ((Vbcnac.view (Vbcnac.bridgeAt s b)).age : Nat)]) n4
      refine ⟨p3, p4, _, _, rfl, rfl, g4 _ _ upd_same, upd_same, by show 6 ≤ sizeLine; decide, fun p5 n5 => ?_⟩
      have gg := e2.trans (g1.trans (g2'.trans (g3.trans g4)))
      refine (A1.eq ed).look bk (gg.trans (same_new n5)) (gg.free n5) ?_
      rw [upd_same]
      cases (Vbcnac.view (Vbcnac.bridgeAt s b)).port <;> rfl
end
end Sw
namespace Sw
open PySem PySem.Spec PyProof.Rows L2
section
variable {P : Program} {w : World} {K : PySem.W.Frag} {mg : Str → Option Value} {base : Heap}
theorem pts_rows {H : Hp} : ∀ {us : List V} {L : List (Nat × Nat)}, Paired (Pt H) us L → Paired (Rw H) us (L.map fun w => [w.1, w.2])
  | _, _, .nil => .nil
  | _, _, .cons h t => .cons h (pts_rows t)
theorem flat2 : ∀ L : List (Nat × Nat), (L.map fun w => [w.1, w.2]).flatten.length = 2 * L.length
  | [] => rfl
  | x :: L => by
    rw [List.map_cons, List.flatten_cons, List.length_append, flat2 L]
    show 2 + 2 * L.length = 2 * (L.length + 1)
    omega
/-! ### frame_call -/
def sp_frame_call (K : PySem.W.Frag) : Sp := fun vs H Q _ => ∃ v t b p x y ow as s, vs = [v, .ref t, .int x, .int y] ∧ H t = some (.tup [.int b, .int p]) ∧ SesAt K ow as H v s ∧ Ans K v ow H (Vbcnac.step s (.frame b p x y)) Q
theorem sc_frame_call : FnScope ["net", "port", "source", "target", "ranges", "refusal"] ["net", "port", "source", "target"] D_frame_call.scope := ⟨rfl, rfl, rfl, by decide +kernel, rfl, by decide +kernel, by decide +kernel⟩
-- level 4; slots 0:net 1:port 2:source 3:target 4:ranges 5:refusal; captured []
theorem ok_frame_call (T : Txt K mg) (G_refusal_of : Does P w K mg base 1 "refusal_of" ["net", "numbers", "ranges", "bridges"] (sp_refusal_of K)) (G_cable_at : Does P w K mg base 1 "cable_at" ["net", "port"] (sp_cable_at K)) (G_forwards : Does P w K mg base 1 "forwards" ["net", "port"] (sp_forwards K)) (G_rows_of : Does P w K mg base 1 "rows_of" ["rows"] (sp_rows_of K)) (G_ports_left_by : Does P w K mg base 3 "ports_left_by" ["net", "port", "source", "target"] (sp_ports_left_by K)) : Does P w K mg base 4 "frame_call" ["net", "port", "source", "target"] (sp_frame_call K) := by
  refine does_of T 62 (d := D_frame_call) rfl rfl rfl rfl T.g_frame_call sc_frame_call (fun _ _ _ _ _ _ us hl => match us, hl with | [_, _, _, _], _ => rfl) (fun vs H Q E h => by obtain ⟨_, _, _, _, _, _, _, _, _, rfl, _⟩ := h; rfl) (fun cdv A outer s H vs Q E hr h => ⟨_, (pss_cons (ps_set (i := 4) sc_frame_call.nd rfl (.inl rfl) (pe_tup (pa_cons (pe_gr T.g_BRIDGE rfl) (pa_cons (pe_gr T.g_PORT rfl) (pa_cons (pe_gr T.g_STATION rfl) (pa_cons (pe_gr T.g_STATION_OR_EVERYBODY rfl) pa_nil))))))
      (pss_cons (ps_set (i := 5) sc_frame_call.nd rfl (.inl rfl) (pe_f G_refusal_of (hr.mono (by decide)) (by rfl) (pa_cons (pv 0) (pa_cons (pe_op op_catT (pv 1) (pe_tup (pa_cons (pv 2) (pa_cons (pv 3) pa_nil)))) (pa_cons (pv 4) (pa_cons (pe_tup (pa_cons (pe_ix ix_tup (pv 1) pe_int (fun _ _ => rfl)) pa_nil)) pa_nil))))))
      (pss_cons (ps_if (pt_cmpR op_ne (pv 5) pe_int (nomark _)) (pss_one (ps_ret (pe_lst (pa_cons (pv 5) pa_nil)))) pss_nil)
      (pss_cons (ps_if (pt_not (pt_val (pe_fld (pe_ix ix_list (pe_fld (pv 0) rfl) (pe_ix ix_tup (pv 1) pe_int (fun _ _ => rfl)) (fun _ _ => rfl)) rfl))) (pss_one (ps_ret (pe_lst (pa_cons (pe_gi T.i_FRAME_AT_OFF rfl) pa_nil)))) pss_nil)
      (pss_cons (ps_if (pt_cmpR op_notN (pe_f G_cable_at (hr.mono (by decide)) (by rfl) (pa_cons (pv 0) (pa_cons (pv 1) pa_nil))) pe_non (nomark _)) (pss_one (ps_ret (pe_lst (pa_cons (pe_gi T.i_FRAME_AT_CABLE rfl) pa_nil)))) pss_nil)
      (pss_cons (ps_if (pt_not (pt_val (pe_f G_forwards (hr.mono (by decide)) (by rfl) (pa_cons (pv 0) (pa_cons (pv 1) pa_nil))))) (pss_one (ps_ret (pe_lst (pa_cons (pe_gi T.i_FRAME_NOT_FORWARDED rfl) pa_nil)))) pss_nil)
      (pss_one (ps_ret (pe_f G_rows_of (hr.mono (by decide)) (by rfl) (pa_cons (pe_f G_ports_left_by (hr.mono (by decide)) (by rfl) (pa_cons (pv 0) (pa_cons (pv 1) (pa_cons (pv 2) (pa_cons (pv 3) pa_nil))))) pa_nil)))))))))), ?_⟩)
  obtain ⟨v, t, b, p, x, y, ow, as, s, rfl, ht0, S0, A0⟩ := h
  refine r_seq (r_set (r_tup (r_cons (r_c (r_cons (r_c (r_cons (r_c (r_cons (r_c (r_nil ⟨by show 4 ≤ sizeLine; decide, fun tr nr => nx ?_⟩)))))))))))
  have er := same_new (o := .tup [.ref (He.ga K "BRIDGE"), .ref (He.ga K "PORT"), .ref (He.ga K "STATION"), .ref (He.ga K "STATION_OR_EVERYBODY")]) nr
  have S := S0.same er
  have A := A0.later er
  have ht := er _ _ ht0
  have htr : (upd H tr (.tup [.ref (He.ga K "BRIDGE"), .ref (He.ga K "PORT"), .ref (He.ga K "STATION"), .ref (He.ga K "STATION_OR_EVERYBODY")])) tr = some (.tup [.ref (He.ga K "BRIDGE"), .ref (He.ga K "PORT"), .ref (He.ga K "STATION"), .ref (He.ga K "STATION_OR_EVERYBODY")]) := upd_same
  generalize (upd H tr (.tup [.ref (He.ga K "BRIDGE"), .ref (He.ga K "PORT"), .ref (He.ga K "STATION"), .ref (He.ga K "STATION_OR_EVERYBODY")])) = H0 at S A ht htr
  refine r_refusal (c := .frame b p x y) (ns := [b, p, x, y]) (rs := [(0, 31), (0, 15), (0, 281474976710654), (0, 281474976710655)]) (bs := [b]) 5 S A rfl ?_ rfl rfl rfl (by show 5 < 6; decide) (fun QA k => ?_) fun n H1 hv N e hbeg I z A1 => ?_
  · show (Vbcnac.isB b && Vbcnac.isP p && Vbcnac.within x 0 (2 ^ 48 - 2) && Vbcnac.within y 0 (2 ^ 48 - 1)) = (inSpan b (0, 31) && (inSpan p (0, 15) && (inSpan x (0, 281474976710654) && (inSpan y (0, 281474976710655) && true))))
    rw [Bool.and_true, Bool.and_assoc, Bool.and_assoc]
    rfl
  · refine r_cons (r_op (go vv (r_tup (r_cons (go vv (r_cons (go vv (r_nil ⟨by show 2 ≤ sizeLine; decide, fun t1 n1 => ?_⟩))))))))
    have e1 := same_new (o := .tup [.int x, .int y]) n1
    refine ⟨t, t1, [.int b, .int p], [.int x, .int y], rfl, rfl, SqT.of (e1 _ _ ht), SqT.of upd_same, by simp, by show 4 ≤ sizeLine; decide, fun y => (by cases y), fun _ t2 n2 => ?_⟩
    have e2 := same_new (o := .tup ([.int b, .int p] ++ [.int x, .int y])) n2
    refine r_cons (go vv (r_cons (r_tup (r_cons (go (v_ixT (j := 0) (xs := [.int b, .int p]) vv (SqT.of (e2 _ _ (e1 _ _ ht))) rfl) (r_nil ⟨by show 1 ≤ sizeLine; decide, fun t3 n3 => r_nil ?_⟩))))))
    have e3 := same_new (o := .tup [.int b]) n3
    exact k t2 tr t3 _ _ (e1.trans (e2.trans e3)) (SqT.of (e3 _ _ upd_same)) (SqT.of (e3 _ _ (e2 _ _ (e1 _ _ htr)))) (.cons ⟨_, rfl, fun H => T.t_BRIDGE H⟩ (.cons ⟨_, rfl, fun H => T.t_PORT H⟩ (.cons ⟨_, rfl, fun H => T.t_STATION H⟩ (.cons ⟨_, rfl, fun H => T.t_STATION_OR_EVERYBODY H⟩ .nil)))) (SqT.of upd_same)
  · subst hv
    obtain ⟨hr, hb⟩ := ref3_zero z
    have hb1 : 0 ≤ b ∧ b ≤ 31 := hr (b, (0, 31)) (by simp)
    have hp1 : 0 ≤ p ∧ p ≤ 15 := hr (p, (0, 15)) (by simp)
    have hx1 : 0 ≤ x ∧ x ≤ 281474976710654 := hr (x, (0, 281474976710654)) (by simp)
    have hy1 : 0 ≤ y ∧ y ≤ 281474976710655 := hr (y, (0, 281474976710655)) (by simp)
    have hb2 := hb b (by simp)
    obtain ⟨b, rfl⟩ := nat_of hb1.1
    obtain ⟨p, rfl⟩ := nat_of hp1.1
    obtain ⟨x, rfl⟩ := nat_of hx1.1
    obtain ⟨y, rfl⟩ := nat_of hy1.1
    have hb3 : b < s.bridges.length := by omega
    have hp3 : p < (Vbcnac.bridgeAt s b).ports.length := by
      rw [I.np b hb3]
      omega
    have ht1 := e _ _ ht
    have bk : SesAt K ow as H1 (.ref n) s := .inr ⟨n, rfl, N, hbeg, I⟩
    have ed : Vbcnac.does s (.frame (b : Int) (p : Int) (x : Int) (y : Int)) = if Vbcnac.isOn s b = false then (s, [-11]) else if (Vbcnac.portAt s b p).peer.isSome = true then (s, [-12]) else if Vbcnac.forwards s b p = false then (s, [-13]) else ((Vbcnac.flow Vbcnac.BRIDGES s b p x y).1, Vbcnac.rowsOf ((Vbcnac.sorted (Vbcnac.flow Vbcnac.BRIDGES s b p x y).2).map fun w => [w.1, w.2])) := rfl
    obtain ⟨a, ea⟩ := N.addr hb3
    obtain ⟨dx, l, st, ws, kvs, B⟩ := N.br b a ea
    refine r_seq (r_if (r_not (r_tb (go (B.fon T (N.bridge T ea vv (v_ixT (j := 0) vv (SqT.of ht1) rfl))) ⟨_, rfl, ?_⟩))))
    cases hon : (Vbcnac.bridgeAt s b).on with
    | false =>
      rw [if_pos (by rw [isOn_at hb3, hon])] at ed
      refine if_y (r_ret (r_lst (r_cons (r_c (r_nil ⟨by show 1 ≤ sizeLine; decide, ?_⟩)))))
      exact (A1.eq ed).ret bk (Frm.refl _ _) (Grow.refl _ _) rfl
    | true =>
    rw [if_neg (by rw [isOn_at hb3, hon]; decide)] at ed
    refine if_n (r_next (nx (r_seq (r_if (r_test (r_op (c2 vv vv ⟨ow, as, n, s, t, b, p, rfl, N, ht1, hb3, hp3, fun v hv => r_c ⟨rfl, _, rfl, ?_⟩⟩)))))))
    cases hx : (Vbcnac.portAt s b p).peer with
    | some q =>
      rw [hx] at hv ed
      obtain ⟨_, rfl, _⟩ := hv
      rw [if_pos (show (some q).isSome = true from rfl)] at ed
      refine if_y (r_ret (r_lst (r_cons (r_c (r_nil ⟨by show 1 ≤ sizeLine; decide, ?_⟩)))))
      exact (A1.eq ed).ret bk (Frm.refl _ _) (Grow.refl _ _) rfl
    | none =>
    rw [hx] at hv ed
    cases (show v = .non from hv)
    rw [if_neg (show ¬ (none : Option (Nat × Nat)).isSome = true by decide)] at ed
    refine if_n (r_next (nx (r_seq (r_if (r_not (r_tb (c2 vv vv ⟨ow, as, n, s, t, b, p, rfl, N, ht1, hb3, hp3, _, rfl, ?_⟩)))))))
    cases hf : Vbcnac.forwards s b p with
    | false =>
      rw [hf, if_pos rfl] at ed
      refine if_y (r_ret (r_lst (r_cons (r_c (r_nil ⟨by show 1 ≤ sizeLine; decide, ?_⟩)))))
      exact (A1.eq ed).ret bk (Frm.refl _ _) (Grow.refl _ _) rfl
    | true =>
      rw [hf, if_neg (show ¬ true = false by decide)] at ed
      refine if_n (r_next (nx (r_ret ?_)))
      refine r_call (r_cons (c4 vv vv vv vv ⟨n, t, ow, as, s, b, p, x, y, rfl, N, I, ht1, hf, fun R H2 us t' L hfl hbeg' N2 I2 F2 hR hus pp hlen => r_nil ⟨R, us, _, rfl, hus, pts_rows pp, ?_, fun q H3 e3 nq hq => ?_⟩⟩))
      · rw [flat2, ← Paired.length pp]
        omega
      · rw [hfl] at ed
        refine (A1.eq ed).ret2 (.inr ⟨n, rfl, N2.same e3, hbeg'.trans hbeg, I2⟩) (fun c o h z => e3 _ _ (F2 c o h z)) (Grow.refl _ _) (fun o ho z => ?_) (N2.new nq) hq
        rw [F2 _ _ ho z] at nq
        cases nq
end
end Sw
namespace Sw
open PySem PySem.Spec PyProof.Rows L2
section
variable {P : Program} {w : World} {K : PySem.W.Frag} {mg : Str → Option Value} {base : Heap}
/-! ### port_call -/
def sp_port_call (K : PySem.W.Frag) : Sp := fun vs H Q _ => ∃ v t b p ow as s, vs = [v, .ref t] ∧ H t = some (.tup [.int b, .int p]) ∧ SesAt K ow as H v s ∧ Ans K v ow H (Vbcnac.step s (.port b p)) Q
theorem sc_port_call : FnScope ["net", "port", "refusal", "bridge", "place", "role", "answer"] ["net", "port"] D_port_call.scope := ⟨rfl, rfl, rfl, by decide +kernel, rfl, by decide +kernel, by decide +kernel⟩
-- level 4; slots 0:net 1:port 2:refusal 3:bridge 4:place 5:role 6:answer; captured []
theorem ok_port_call (T : Txt K mg) (G_refusal_of : Does P w K mg base 1 "refusal_of" ["net", "numbers", "ranges", "bridges"] (sp_refusal_of K)) (G_roles_of : Does P w K mg base 3 "roles_of" ["bridge", "held"] (sp_roles_of K)) (G_held_by : Does P w K mg base 3 "held_by" ["bridge"] (sp_held_by K)) (G_forwards : Does P w K mg base 1 "forwards" ["net", "port"] (sp_forwards K)) : Does P w K mg base 4 "port_call" ["net", "port"] (sp_port_call K) := by
  refine does_of T 58 (d := D_port_call) rfl rfl rfl rfl T.g_port_call sc_port_call (fun _ _ _ _ _ _ us hl => match us, hl with | [_, _], _ => rfl) (fun vs H Q E h => by obtain ⟨_, _, _, _, _, _, _, rfl, _⟩ := h; rfl) (fun cdv A outer s H vs Q E hr h => ⟨_, (pss_cons (ps_set (i := 2) sc_port_call.nd rfl (.inl rfl) (pe_f G_refusal_of (hr.mono (by decide)) (by rfl) (pa_cons (pv 0) (pa_cons (pv 1) (pa_cons (pe_tup (pa_cons (pe_gr T.g_BRIDGE rfl) (pa_cons (pe_gr T.g_PORT rfl) pa_nil))) (pa_cons (pe_tup (pa_cons (pe_ix ix_tup (pv 1) pe_int (fun _ _ => rfl)) pa_nil)) pa_nil))))))
      (pss_cons (ps_if (pt_cmpR op_ne (pv 2) pe_int (nomark _)) (pss_one (ps_ret (pe_lst (pa_cons (pv 2) pa_nil)))) pss_nil)
      (pss_cons (ps_set (i := 3) sc_port_call.nd rfl (.inl rfl) (pe_ix ix_list (pe_fld (pv 0) rfl) (pe_ix ix_tup (pv 1) pe_int (fun _ _ => rfl)) (fun _ _ => rfl)))
      (pss_cons (ps_set (i := 4) sc_port_call.nd rfl (.inl rfl) (pe_ix ix_tup (pv 1) pe_int (fun _ _ => rfl)))
      (pss_cons (ps_set (i := 5) sc_port_call.nd rfl (.inl rfl) (pe_gi T.i_NO_ROLE rfl))
      (pss_cons (ps_if (pt_val (pe_fld (pv 3) rfl)) (pss_one (ps_set (i := 5) sc_port_call.nd rfl (.inl rfl) (pe_ix ix_list (pe_f G_roles_of (hr.mono (by decide)) (by rfl) (pa_cons (pv 3) (pa_cons (pe_f G_held_by (hr.mono (by decide)) (by rfl) (pa_cons (pv 3) pa_nil)) pa_nil))) (pv 4) (fun _ _ => rfl)))) pss_nil)
      (pss_cons (ps_set (i := 6) sc_port_call.nd rfl (.inl rfl) (pe_lst (pa_cons (pv 5) (pa_cons (pe_ix ix_list (pe_fld (pv 3) rfl) (pv 4) (fun _ _ => rfl)) (pa_cons (pe_ifExp (pt_val (pe_f G_forwards (hr.mono (by decide)) (by rfl) (pa_cons (pv 0) (pa_cons (pv 1) pa_nil)))) pe_int pe_int) pa_nil)))))
      (pss_cons (ps_if (pt_cmpR op_isN (pe_ix ix_list (pe_fld (pv 3) rfl) (pv 4) (fun _ _ => rfl)) pe_non (nomark _)) (pss_one (ps_ret (pe_op op_cat (pv 6) (pe_lst (pa_cons pe_int pa_nil))))) pss_nil)
      (pss_one (ps_ret (pe_op op_cat (pe_op op_cat (pe_op op_cat (pv 6) (pe_lst (pa_cons pe_int pa_nil))) (pe_callTy call_list_of (by rfl) T.f_list (by decide +kernel) (pa_cons (pe_ix ix_list (pe_fld (pv 3) rfl) (pv 4) (fun _ _ => rfl)) pa_nil))) (pe_lst (pa_cons (pe_ix ix_list (pe_fld (pv 3) rfl) (pv 4) (fun _ _ => rfl)) pa_nil))))))))))))), ?_⟩)
  obtain ⟨v, t, b, p, ow, as, s, rfl, ht, S, A⟩ := h
  refine r_refusal (c := .port b p) (ns := [b, p]) (rs := [(0, 31), (0, 15)]) (bs := [b]) 2 S A rfl ?_ rfl rfl rfl (by show 2 < 7; decide) (args_p T rfl ht) fun n H1 hv N e hbeg I z A1 => ?_
  · show (Vbcnac.isB b && Vbcnac.isP p) = (inSpan b (0, 31) && (inSpan p (0, 15) && true))
    rw [Bool.and_true]
    rfl
  · subst hv
    obtain ⟨hr, hb⟩ := ref3_zero z
    have hb1 : 0 ≤ b ∧ b ≤ 31 := hr (b, (0, 31)) (by simp)
    have hp1 : 0 ≤ p ∧ p ≤ 15 := hr (p, (0, 15)) (by simp)
    have hb2 := hb b (by simp)
    obtain ⟨b, rfl⟩ := nat_of hb1.1
    obtain ⟨p, rfl⟩ := nat_of hp1.1
    have hb3 : b < s.bridges.length := by omega
    have hp16 : p < 16 := by omega
    have hp3 : p < (Vbcnac.bridgeAt s b).ports.length := by
      rw [I.np b hb3]
      exact hp16
    have ht1 := e _ _ ht
    have bk : SesAt K ow as H1 (.ref n) s := .inr ⟨n, rfl, N, hbeg, I⟩
    obtain ⟨a, ea⟩ := N.addr hb3
    obtain ⟨dx, l, st, ws, kvs, B⟩ := N.br b a ea
    have ed : Vbcnac.does s (.port (b : Int) (p : Int)) = (s, Vbcnac.ints ([Vbcnac.roleNumber (roleAt s b p), (Vbcnac.portAt s b p).wait, if Vbcnac.forwards s b p = true then 1 else 0] ++ Vbcnac.heardRow (Vbcnac.portAt s b p).heard)) := rfl
    refine r_seq (r_set (go (N.bridge T ea vv (v_ixT (j := 0) vv (SqT.of ht1) rfl)) (nx ?_)))
    refine r_seq (r_set (go (v_ixT (j := 1) vv (SqT.of ht1) rfl) (nx ?_)))
    refine r_seq (r_set (r_c (nx ?_)))
    refine r_seq3 (fun σ' H' => σ' = [some (.ref n), some (.ref t), some (.int 0), some (.ref a), some (.int (p : Nat)), some (.int (Vbcnac.roleNumber (roleAt s b p) : Nat)), none] ∧ Same H1 H') ?two fun two => ?one
    case one =>
      refine r_if (r_tb (go (B.fon T vv) ⟨_, rfl, ?_⟩))
      cases hon : (Vbcnac.bridgeAt s b).on with
      | false =>
        have h0 : roleAt s b p = .none := by
          unfold roleAt Vbcnac.roleOf
          rw [if_pos hon]
        refine if_n (r_next (two _ _ ⟨?_, Same.refl _⟩))
        rw [h0]
        rfl
      | true =>
        refine if_y (r_set (r_op (r_call (r_cons (go vv (r_cons (c1 vv ⟨ow, b, a, _, dx, l, st, ws, kvs, rfl, B, fun hd H2 e2 hh => r_nil ⟨ow, b, a, _, dx, l, st, ws, kvs, hd, _, rfl, B.same e2, I.np b hb3, hon, hh, fun i hi => ?_, fun r H3 e3 nr hr => ?_⟩⟩))))))) 
        · obtain ⟨q, x, hq, _⟩ := view_port hi
          rw [← I.np b hb3]
          exact (List.getElem?_eq_some_iff.mp hq).1
        · refine go vv ⟨r, _, _, .int (Vbcnac.roleNumber (roleAt s b p) : Nat), rfl, rfl, SqL.of hr, atI_nat (j := p) ?_, two _ _ ⟨rfl, e2.trans e3⟩⟩
          unfold rolesV
          rw [List.getElem?_map, List.getElem?_range hp16]
          rfl
    case two =>
      rintro σ H2 ⟨rfl, e2⟩
      have B2 := B.same e2
      have N2 := N.same e2
      have ht2 := e2 _ _ ht1
      obtain ⟨v5, hv5, pv5⟩ := B.get (k := 5) (by decide) hp3
      obtain ⟨v3, hv3, pv3⟩ := B2.get (k := 3) (by decide) hp3
      obtain ⟨v4, hv4, z4, rfl, pv4⟩ := B.get (k := 4) (by decide) hp3
      cases (show v5 = .int (Vbcnac.portAt s b p).wait from pv5)
      have hh : Hel H2 v3 (Vbcnac.portAt s b p).heard := pv3
      have A2 := A1.later e2
      have fw : ∀ (f : Bool) (σ : L2.St) (QQ : VK) HH, QQ (.int ((if f = true then 1 else 0 : Nat) : Nat)) HH → (if f = true then tC (.int 1) σ HH QQ else tC (.int 0) σ HH QQ) := fun f σ QQ HH q => by
        cases f with
        | true => exact if_y q
        | false => exact if_n q
      refine r_seq (r_set (r_lst (r_cons (go vv (r_cons (go (v_ixL (j := p) (B2.fwaits T vv) vv (B2.lst 5 (by decide)) hv5) (r_cons (r_ife (r_tb (c2 vv vv ⟨ow, as, n, s, t, b, p, rfl, N2, ht2, hb3, hp3, _, rfl, fw _ _ _ _ (r_nil ⟨by show 3 ≤ sizeLine; decide, fun p6 n6 => nx ?_⟩)⟩)))))))))) 
      have g6 := same_new (o := .lst [.int (Vbcnac.roleNumber (roleAt s b p) : Nat), .int (Vbcnac.portAt s b p).wait, .int ((if Vbcnac.forwards s b p = true then 1 else 0 : Nat) : Nat)]) n6
      have h6 : (upd H2 p6 (.lst [.int (Vbcnac.roleNumber (roleAt s b p) : Nat), .int (Vbcnac.portAt s b p).wait, .int ((if Vbcnac.forwards s b p = true then 1 else 0 : Nat) : Nat)])) p6 = some (.lst (rowV [Vbcnac.roleNumber (roleAt s b p), (Vbcnac.portAt s b p).wait, if Vbcnac.forwards s b p = true then 1 else 0])) := upd_same
      generalize (upd H2 p6 (.lst [.int (Vbcnac.roleNumber (roleAt s b p) : Nat), .int (Vbcnac.portAt s b p).wait, .int ((if Vbcnac.forwards s b p = true then 1 else 0 : Nat) : Nat)])) = H6 at g6 h6
      have B6 := B2.same g6
      have fin : ∀ p9 H9, Same H6 H9 → H6 p9 = none → H9 p9 = some (.lst (rowV ([Vbcnac.roleNumber (roleAt s b p), (Vbcnac.portAt s b p).wait, if Vbcnac.forwards s b p = true then 1 else 0] ++ Vbcnac.heardRow (Vbcnac.portAt s b p).heard))) → Q (.ref p9) H9 := fun p9 H9 e9 n9 h9 => by
        refine (A2.eq ed).look (bk.same e2) (g6.trans e9) (g6.free n9) ?_
        rw [h9]
        unfold Vbcnac.ints rowV
        rw [List.map_map]
        rfl
      refine r_seq (r_if (r_test (r_op (go (v_ixL (j := p) (B6.fhellos T vv) vv (B6.lst 3 (by decide)) hv3) (r_c ⟨rfl, _, rfl, ?_⟩)))))
      cases hx : (Vbcnac.portAt s b p).heard with
      | none =>
        rw [hx] at hh fin
        cases (show v3 = .non from hh)
        refine if_y (r_ret (r_op (go vv (r_lst (r_cons (r_c (r_nil ⟨by show 1 ≤ sizeLine; decide, fun p7 n7 => ?_⟩)))))))
        have g7 := same_new (o := .lst [.int 0]) n7
        exact ⟨p6, p7, _, _, rfl, rfl, g7 _ _ h6, upd_same, by show 4 ≤ sizeLine; decide, fun p8 n8 => fin p8 _ (g7.trans (same_new n8)) (g7.free n8) upd_same⟩
      | some x =>
        rw [hx] at hh fin
        obtain ⟨u, rfl, hu⟩ := hh
        have hza : z4 = (x.age : Nat) := pv4 x hx
        subst hza
        refine if_n (r_next (nx (r_ret (r_op (r_op (r_op (go vv (r_lst (r_cons (r_c (r_nil ⟨by show 1 ≤ sizeLine; decide, fun p7 n7 => ?_⟩)))))))))))
        have g7 := same_new (o := .lst [.int 1]) n7
        refine ⟨p6, p7, _, _, rfl, rfl, g7 _ _ h6, upd_same, by show 4 ≤ sizeLine; decide, fun p8 n8 => ?_⟩
        have g8 := same_new (o := .lst (rowV [Vbcnac.roleNumber (roleAt s b p), (Vbcnac.portAt s b p).wait, if Vbcnac.forwards s b p = true then 1 else 0] ++ [.int 1])) n8
        have B8 := B6.same (g7.trans g8)
        refine r_cb (r_cons (go (v_ixL (j := p) (B8.fhellos T vv) vv (B8.lst 3 (by decide)) hv3) (r_nil ⟨u, told x.told, rfl, .inr (SqT.of (g8 _ _ (g7 _ _ (g6 _ _ hu)))), fun p9 n9 => ?_⟩)))
        have g9 := same_new (o := .lst (told x.told)) n9
        refine ⟨p8, p9, _, _, rfl, rfl, g9 _ _ upd_same, upd_same, by show 11 ≤ sizeLine; decide, fun p10 n10 => ?_⟩
        have g10 := same_new (o := .lst (rowV [Vbcnac.roleNumber (roleAt s b p), (Vbcnac.portAt s b p).wait, if Vbcnac.forwards s b p = true then 1 else 0] ++ [.int 1] ++ told x.told)) n10
        have B10 := B8.same (g9.trans g10)
        refine r_lst (r_cons (go (v_ixL (j := p) (B10.fages T vv) vv (B10.lst 4 (by decide)) hv4) (r_nil ⟨by show 1 ≤ sizeLine; decide, fun p11 n11 => ?_⟩)))
        have g11 := same_new (o := .lst [.int (x.age : Nat)]) n11
        refine ⟨p10, p11, _, _, rfl, rfl, g11 _ _ upd_same, upd_same, by show 12 ≤ sizeLine; decide, fun p12 n12 => ?_⟩
        have gg := g7.trans (g8.trans (g9.trans (g10.trans g11)))
        refine fin p12 _ (gg.trans (same_new n12)) (gg.free n12) ?_
        rw [upd_same]
        rfl
end
end Sw
namespace Sw
open PySem PySem.Spec PyProof.Rows L2
abbrev Cb := (Nat × Nat) × (Nat × Nat)
def fwd2 (s : Vbcnac.State) (x : Cb) : Bool := Vbcnac.forwards s x.1.1 x.1.2 && Vbcnac.forwards s x.2.1 x.2.2
/-- cables that forward at both ends -/
def fcabs (s : Vbcnac.State) : List Cb := (cabs s).filter (fwd2 s)
def row4 (x : Cb) : List Nat := [x.1.1, x.1.2, x.2.1, x.2.2]
theorem tree_rows (s : Vbcnac.State) : Vbcnac.treeRows s = (fcabs s).map row4 := by
  unfold Vbcnac.treeRows fcabs cabs cabsTo Vbcnac.places
  have key : ∀ (b : Nat) (l : List Nat), ((l.map fun p => (b, p)).filterMap fun x => match (Vbcnac.portAt s x.1 x.2).peer with
      | none => none
      | some y => if Vbcnac.less [x.1, x.2] [y.1, y.2] = true ∧ Vbcnac.forwards s x.1 x.2 = true ∧ Vbcnac.forwards s y.1 y.2 = true then some [x.1, x.2, y.1, y.2] else none) = ((l.filterMap fun p => cab s b p).filter (fwd2 s)).map row4 := by
    intro b l
    induction l with
    | nil => rfl
    | cons p l ih =>
      rw [List.map_cons, List.filterMap_cons, List.filterMap_cons, ih]
      unfold cab
      cases hx : (Vbcnac.portAt s b p).peer with
      | none => rfl
      | some y =>
        by_cases h1 : Vbcnac.less [b, p] [y.1, y.2] = true
        · by_cases h2 : Vbcnac.forwards s b p = true ∧ Vbcnac.forwards s y.1 y.2 = true
          · simp [h1, h2.1, h2.2, fwd2, row4]
          · have h3 : fwd2 s ((b, p), y) = false := by
              unfold fwd2
              rw [Bool.eq_false_iff]
              intro z
              rw [Bool.and_eq_true] at z
              exact h2 z
            simp [h1, h2, h3]
        · simp [h1]
  generalize List.range s.bridges.length = bs
  induction bs with
  | nil => rfl
  | cons b bs ih =>
    rw [List.flatMap_cons, List.flatMap_cons, List.filterMap_append, List.filter_append, List.map_append, ih]
    exact congrArg (· ++ _) (key b (List.range 16))
theorem paired_filter {α β : Type} {R : α → β → Prop} (c : β → Bool) : ∀ {us : List α} {l : List β}, Paired R us l → Paired R ((List.range us.length).filterMap fun i => if ((l[i]?).map c).getD false = true then us[i]? else none) (l.filter c)
  | _, _, .nil => .nil
  | u :: us, x :: l, .cons h t => by
    have ih := paired_filter c t
    rw [List.length_cons, List.range_succ_eq_map, List.filterMap_cons, List.filterMap_map, List.filter_cons]
    have e : (fun i => if (((x :: l)[i]?).map c).getD false = true then (u :: us)[i]? else none) ∘ Nat.succ = fun i => if ((l[i]?).map c).getD false = true then us[i]? else none := by
      funext i
      rfl
    rw [e]
    cases hc : c x with
    | true =>
      have : (if (((x :: l)[0]?).map c).getD false = true then (u :: us)[0]? else none) = some u := by
        show (if c x = true then some u else none) = some u
        rw [hc]
        rfl
      rw [this]
      exact .cons h ih
    | false =>
      have : (if (((x :: l)[0]?).map c).getD false = true then (u :: us)[0]? else none) = none := by
        show (if c x = true then some u else none) = none
        rw [hc]
        rfl
      rw [this]
      exact ih
theorem cab_mem {s : Vbcnac.State} {x : Cb} (h : x ∈ cabs s) : x.1.1 < s.bridges.length ∧ x.1.2 < 16 ∧ (Vbcnac.portAt s x.1.1 x.1.2).peer = some x.2 := by
  unfold cabs cabsTo rowTo at h
  obtain ⟨b, hb, h2⟩ := List.mem_flatMap.mp h
  obtain ⟨p, hp, h3⟩ := List.mem_filterMap.mp h2
  unfold cab at h3
  cases hx : (Vbcnac.portAt s b p).peer with
  | none =>
    rw [hx] at h3
    cases h3
  | some y =>
    rw [hx] at h3
    by_cases hl : Vbcnac.less [b, p] [y.1, y.2] = true
    · simp only [hl, if_true] at h3
      cases h3
      exact ⟨List.mem_range.mp hb, List.mem_range.mp hp, hx⟩
    · simp only [hl, if_false] at h3
      cases h3
section
variable {P : Program} {w : World} {K : PySem.W.Frag} {mg : Str → Option Value} {base : Heap}
/-! ### forwarding_cables -/
def sp_forwarding_cables (K : PySem.W.Frag) : Sp := fun vs H Q _ => ∃ n ow as s, vs = [.ref n] ∧ NetAt K ow as H n s ∧ Inv s ∧ ∀ p H' us, Same H H' → H p = none → H' p = some (.lst us) → Paired (PP H') us (fcabs s) → Q (.ref p) H'
theorem sc_forwarding_cables : FnScope ["net", "cable"] ["net"] D_forwarding_cables.scope := ⟨rfl, rfl, rfl, by decide +kernel, rfl, by decide +kernel, by decide +kernel⟩
-- level 2; slots 0:net 1:cable; captured ['net']
theorem ok_forwarding_cables (T : Txt K mg) (G_cables_of : Does P w K mg base 1 "cables_of" ["net"] (sp_cables_of K)) (G_forwards : Does P w K mg base 1 "forwards" ["net", "port"] (sp_forwards K)) : Does P w K mg base 2 "forwarding_cables" ["net"] (sp_forwarding_cables K) := by
  refine does_of T 55 (d := D_forwarding_cables) rfl rfl rfl rfl T.g_forwarding_cables sc_forwarding_cables (fun _ _ _ _ _ _ us hl => match us, hl with | [_], _ => rfl) (fun vs H Q E h => by obtain ⟨_, _, _, _, rfl, _⟩ := h; rfl) (fun cdv A outer s H vs Q E hr h => ⟨_, (pss_one (ps_ret (pe_lc (own := [("cable", 1)]) (g := gName 1) rfl sc_forwarding_cables.nd (pi_list (pe_f G_cables_of (hr.mono (by decide)) (by rfl) (pa_cons (pv 0) pa_nil))) (blkOk_by (own := [("cable", 1)]) (N := ["net", "cable"]) (sc := D_forwarding_cables.scope) (by decide +kernel)) (fun _ _ _ _ _ => (pg_name (i := 1) sc_forwarding_cables.nd rfl (.inl rfl))) (fun _ _ _ _ _ => (pts_one (PW.pt (pw_and (pt_val (pe_f G_forwards (hr.mono (by decide)) (by rfl) (pa_cons (pv 0) (pa_cons (pe_ix (ix_tupK (K := K) rfl) (pv 1) pe_int (fun _ _ => rfl)) pa_nil)))) (pw_and1 (pt_val (pe_f G_forwards (hr.mono (by decide)) (by rfl) (pa_cons (pv 0) (pa_cons (pe_ix (ix_tupK (K := K) rfl) (pv 1) pe_int (fun _ _ => rfl)) pa_nil))))))))) (fun _ _ _ _ _ => (pv 1))))), ?_⟩)
  obtain ⟨n, ow, as, s, rfl, N, I, hQ⟩ := h
  refine r_ret ?_
  refine c1 vv ⟨ow, as, n, s, rfl, N, I.np, I.nb, fun H1 p us e1 np hl pp => ⟨p, rfl, ⟨_, SqL.of hl⟩, fun D hD => lc_pure walk_list (fun i => if (((cabs s)[i]?).map (fwd2 s)).getD false = true then us[i]? else none) hD ?_ (fun H' e => SqL.of (e _ _ hl)) (fun i x H2 H3 hi e y => ?_) fun H' e h => ?_⟩⟩
  · rw [Paired.length pp]
    have := cabsTo_len s s.bridges.length
    have := I.nb
    exact Nat.le_trans (by show (cabsTo s s.bridges.length).length ≤ 512; omega) (by decide)
  · obtain ⟨rfl, hy⟩ := y
    refine ⟨Same.refl _, fun N' M' h1 h2 => ⟨rfl, ?_⟩⟩
    obtain ⟨y, hy2, ta, u1, u2, rfl, hta, ⟨t1, rfl, ht1⟩, t2, rfl, ht2⟩ := Paired.get pp hy
    have N2 := (N.same e1).same e
    obtain ⟨c1', c2', c3'⟩ := cab_mem (List.mem_of_getElem? hy2)
    obtain ⟨_, _, c4', c5'⟩ := I.peer (c := y.2.1) (q := y.2.2) c3'
    have hfy : fwd2 s y = (Vbcnac.forwards s y.1.1 y.1.2 && Vbcnac.forwards s y.2.1 y.2.2) := rfl
    refine r_and (r_tb (r_call (r_cons (go vv (r_cons (go (v_ixT (j := 0) (xs := [.ref t1, .ref t2]) vv (SqT.of (e _ _ hta)) rfl) (r_nil ?_)))))))
    refine ⟨ow, as, n, s, t1, y.1.1, y.1.2, rfl, N2, e _ _ ht1, c1', by rw [I.np _ c1']; exact c2', _, rfl, ?_⟩
    cases f1 : Vbcnac.forwards s y.1.1 y.1.2 with
    | false => exact if_n (if_n (h2 _ (Same.refl _) (by rw [hy2]; show (if fwd2 s y = true then _ else none) = none; rw [hfy, f1]; rfl)))
    | true =>
      refine if_y (r_tb (r_call (r_cons (go vv (r_cons (go (v_ixT (j := 1) (xs := [.ref t1, .ref t2]) vv (SqT.of (e _ _ hta)) rfl) (r_nil ?_)))))))
      refine ⟨ow, as, n, s, t2, y.2.1, y.2.2, rfl, N2, e _ _ ht2, c4', by rw [I.np _ c4']; exact c5', _, rfl, ?_⟩
      cases f2 : Vbcnac.forwards s y.2.1 y.2.2 with
      | false => exact if_n (h2 _ (Same.refl _) (by rw [hy2]; show (if fwd2 s y = true then _ else none) = none; rw [hfy, f1, f2]; rfl))
      | true => exact if_y (go vv (h1 _ _ (Same.refl _) (by rw [hy2]; show (if fwd2 s y = true then us[i]? else none) = _; rw [hfy, f1, f2]; exact hy)))
  · refine hQ D H' _ (e1.trans e) (e1.free hD) h ?_
    exact Paired.imp (fun _ _ => PP.mono (Tup.of_same e)) (paired_filter (fwd2 s) pp)
end
end Sw
namespace Sw
open PySem PySem.Spec PyProof.Rows L2
theorem flat4 : ∀ L : List Cb, (L.map row4).flatten.length = 4 * L.length
  | [] => rfl
  | x :: L => by
    rw [List.map_cons, List.flatten_cons, List.length_append, flat4 L]
    show 4 + 4 * L.length = 4 * (L.length + 1)
    omega
/-- [port + other for port, other in cables] -/
theorem lc_rows {K : PySem.W.Frag} {σ : L2.St} {H1 : Hp} {p : Addr} {us : List V} {l : List Cb} {Qd : Addr → Hp → Prop} (h : σ.length = 4) (hl : H1 p = some (.lst us)) (pp : Paired (PP H1) us l) (hn : us.length ≤ 1024) (q : ∀ D H' us', Same H1 H' → H1 D = none → H' D = some (.lst us') → Paired (Rw H') us' (l.map row4) → Qd D H') :
    ∀ D, H1 D = none → ∃ W : Nat → Nat → Hp → Prop, (∃ m, W 0 m (upd H1 D (.lst []))) ∧ ∀ i m H, W i m H →
      ((Itl K p).stop i H ∧ Qd D H) ∨ ((Itl K p).go i H ∧ ∃ Nx : Hp → Prop, (∀ H', Nx H' → ∃ m', m' < m ∧ W (i + 1) m' H') ∧ ∀ x H', (Itl K p).yld i H x H' → gTup K 2 (gCons (gName 2) (gCons (gName 3) gNil)) x (wipe σ [2, 3]) H' fun σ2 H2 => wipe σ2 [2, 3] = wipe σ [2, 3] ∧ tYes σ2 H2 fun b H3 =>
        if b = true then (tOp (rCatT K) (tVar 2) (tVar 3)) σ2 H3 fun y H4 => ∃ acc, H4 D = some (.lst acc) ∧ acc.length < sizeLine ∧ Nx (upd H4 D (.lst (acc ++ [y]))) else Nx H3) := fun D hD => by
  refine lc_it walk_list (fun i H' => Same H1 H' ∧ ∃ us', H' D = some (.lst us') ∧ Paired (Rw H') us' ((l.take i).map row4)) ⟨same_new hD, [], upd_same, .nil⟩ (fun i H' _ h => SqL.of (h.1 _ _ hl)) (fun i x H2 H3 hi h y => ?_) fun H' h => ?_
  · obtain ⟨e1, us', hD2, pr⟩ := h
    obtain ⟨rfl, hx⟩ := y
    obtain ⟨c, hc, ta, u1, u2, rfl, hta, ⟨t1, rfl, ht1⟩, t2, rfl, ht2⟩ := Paired.get pp hx
    match σ, h with
    | [a0, a1, a2, a3], _ =>
    refine g2 (e1 _ _ hta) ⟨rfl, r_yes (iteT (r_op (go vv (go vv ⟨t1, t2, _, _, rfl, rfl, SqT.of (e1 _ _ ht1), SqT.of (e1 _ _ ht2), by simp, by show 4 ≤ sizeLine; decide, fun y => (by cases y), fun _ t3 n3 => ?_⟩))))⟩
    have e3 := same_new (o := .tup ([.int (c.1.1 : Nat), .int (c.1.2 : Nat)] ++ [.int (c.2.1 : Nat), .int (c.2.2 : Nat)])) n3
    have hD3 := e3 _ _ hD2
    have t4 := tup_upd (u := .lst (us' ++ [.ref t3])) hD3 rfl
    refine ⟨us', hD3, ?_, same_upd (e1.trans e3) hD, us' ++ [.ref t3], upd_same, ?_⟩
    · rw [Paired.length pr, List.length_map, List.length_take]
      have := Paired.length pp
      exact Nat.lt_of_le_of_lt (show min i l.length ≤ 1024 by omega) (by decide)
    · rw [take_succ' hc, List.map_append]
      exact Paired.snoc ⟨t3, rfl, t4 _ _ upd_same⟩ (Paired.imp (fun _ _ h => (h.mono (Tup.of_same e3)).mono t4) pr)
  · obtain ⟨e1, us', hD2, pr⟩ := h
    rw [Paired.length pp, List.take_length] at pr
    exact q D H' us' e1 hD hD2 pr
section
variable {P : Program} {w : World} {K : PySem.W.Frag} {mg : Str → Option Value} {base : Heap}
/-! ### tree_call -/
def sp_tree_call (K : PySem.W.Frag) : Sp := fun vs H Q _ => ∃ v ow as s, vs = [v] ∧ SesAt K ow as H v s ∧ Ans K v ow H (Vbcnac.step s .tree) Q
theorem sc_tree_call : FnScope ["net", "refusal", "port", "other"] ["net"] D_tree_call.scope := ⟨rfl, rfl, rfl, by decide +kernel, rfl, by decide +kernel, by decide +kernel⟩
-- level 3; slots 0:net 1:refusal 2:port 3:other; captured []
theorem ok_tree_call (T : Txt K mg) (G_refusal_of : Does P w K mg base 1 "refusal_of" ["net", "numbers", "ranges", "bridges"] (sp_refusal_of K)) (G_rows_of : Does P w K mg base 1 "rows_of" ["rows"] (sp_rows_of K)) (G_forwarding_cables : Does P w K mg base 2 "forwarding_cables" ["net"] (sp_forwarding_cables K)) : Does P w K mg base 3 "tree_call" ["net"] (sp_tree_call K) := by
  refine does_of T 60 (d := D_tree_call) rfl rfl rfl rfl T.g_tree_call sc_tree_call (fun _ _ _ _ _ _ us hl => match us, hl with | [_], _ => rfl) (fun vs H Q E h => by obtain ⟨_, _, _, _, rfl, _⟩ := h; rfl) (fun cdv A outer s H vs Q E hr h => ⟨_, (pss_cons (ps_set (i := 1) sc_tree_call.nd rfl (.inl rfl) (pe_f G_refusal_of (hr.mono (by decide)) (by rfl) (pa_cons (pv 0) (pa_cons (pe_tup pa_nil) (pa_cons (pe_tup pa_nil) (pa_cons (pe_tup pa_nil) pa_nil))))))
      (pss_cons (ps_if (pt_cmpR op_ne (pv 1) pe_int (nomark _)) (pss_one (ps_ret (pe_lst (pa_cons (pv 1) pa_nil)))) pss_nil)
      (pss_one (ps_ret (pe_f G_rows_of (hr.mono (by decide)) (by rfl) (pa_cons (pe_lc (own := [("port", 2), ("other", 3)]) (tt := tYes) (g := gTup K 2 (gCons (gName 2) (gCons (gName 3) gNil))) rfl sc_tree_call.nd (pi_list (pe_f G_forwarding_cables (hr.mono (by decide)) (by rfl) (pa_cons (pv 0) pa_nil))) (blkOk_by (own := [("port", 2), ("other", 3)]) (N := ["net", "refusal", "port", "other"]) (sc := D_tree_call.scope) (by decide +kernel)) (fun _ _ _ _ _ => (pg_tup (n := 2) rfl (pgs_cons (pg_name (i := 2) sc_tree_call.nd rfl (.inl rfl)) (pgs_cons (pg_name (i := 3) sc_tree_call.nd rfl (.inl rfl)) pgs_nil)))) (fun _ _ _ _ _ => pts_nil) (fun _ _ _ _ _ => (pe_op (op_catK (K := K) rfl) (pv 2) (pv 3)))) pa_nil)))))), ?_⟩)
  obtain ⟨v, ow, as, s, rfl, S, A⟩ := h
  refine r_refusal (c := .tree) (ns := []) (rs := []) (bs := []) 1 S A rfl rfl rfl rfl rfl (by show 1 < 4; decide) args_0 fun n H1 hv N e hbeg I z A1 => ?_
  subst hv
  have ed : Vbcnac.does s .tree = (s, Vbcnac.rowsOf (Vbcnac.treeRows s)) := rfl
  rw [tree_rows] at ed
  refine r_ret (r_call (r_cons ?_))
  have flen : (fcabs s).length ≤ 512 := by
    have h1 := cabsTo_len s s.bridges.length
    have h2 : (fcabs s).length ≤ (cabs s).length := List.length_filter_le _ _
    have h3 := I.nb
    have h4 : (cabs s).length ≤ 16 * s.bridges.length := h1
    omega
  refine c1 vv ⟨n, ow, as, s, rfl, N, I, fun p H2 us e2 np hl pp => ⟨p, rfl, ⟨_, SqL.of hl⟩, lc_rows rfl hl pp (by rw [Paired.length pp]; omega) fun D H3 us' e3 hD hD3 pr => r_nil ⟨D, us', _, rfl, hD3, pr, by rw [flat4]; omega, fun q H4 e4 nq hq => ?_⟩⟩⟩
  have ee := e2.trans e3
  exact (A1.eq ed).look (.inr ⟨n, rfl, N, hbeg, I⟩) (ee.trans e4) (ee.free nq) hq
end
end Sw
namespace Sw
open PySem PySem.Spec PyProof.Rows L2
theorem fcab_mem {s : Vbcnac.State} {x : Cb} (I : Inv s) (h : x ∈ fcabs s) : Adj s x.1.1 x.2.1 ∧ Adj s x.2.1 x.1.1 := by
  obtain ⟨h1, h2⟩ := List.mem_filter.mp h
  obtain ⟨_, _, hp⟩ := cab_mem h1
  unfold fwd2 at h2
  rw [Bool.and_eq_true] at h2
  have hp' : (Vbcnac.portAt s x.1.1 x.1.2).peer = some (x.2.1, x.2.2) := hp
  exact ⟨⟨_, _, h2.1, hp', h2.2⟩, ⟨_, _, h2.2, (I.sym _ _ _ _ hp').1, h2.1⟩⟩
theorem cab_in {s : Vbcnac.State} {b p : Nat} {y : Nat × Nat} (hb : b < s.bridges.length) (hp : p < 16) (h : (Vbcnac.portAt s b p).peer = some y) (hl : Vbcnac.less [b, p] [y.1, y.2] = true) : ((b, p), y) ∈ cabs s := by
  unfold cabs cabsTo rowTo
  refine List.mem_flatMap.mpr ⟨b, List.mem_range.mpr hb, List.mem_filterMap.mpr ⟨p, List.mem_range.mpr hp, ?_⟩⟩
  unfold cab
  rw [h]
  exact if_pos hl
theorem adj_fcab {s : Vbcnac.State} (I : Inv s) {x y : Nat} (h : Adj s x y) : ∃ c ∈ fcabs s, (c.1.1 = x ∧ c.2.1 = y) ∨ (c.2.1 = x ∧ c.1.1 = y) := by
  obtain ⟨j, q, f1, hp, f2⟩ := h
  obtain ⟨a1, a2, a3, a4⟩ := I.peer hp
  obtain ⟨hp2, hne⟩ := I.sym _ _ _ _ hp
  rcases less_tri [x, j] [y, q] with h | h | h
  · exact ⟨((x, j), (y, q)), List.mem_filter.mpr ⟨cab_in a1 a2 hp h, by unfold fwd2; rw [Bool.and_eq_true]; exact ⟨f1, f2⟩⟩, .inl ⟨rfl, rfl⟩⟩
  · injection h with h1 h2
    injection h2 with h2 _
    exact absurd ⟨h1, h2⟩ hne
  · exact ⟨((y, q), (x, j)), List.mem_filter.mpr ⟨cab_in a3 a4 hp2 h, by unfold fwd2; rw [Bool.and_eq_true]; exact ⟨f2, f1⟩⟩, .inr ⟨rfl, rfl⟩⟩
def parV : Option Nat → V
  | none => .non
  | some y => .int (y : Nat)
theorem dp_ints {K : PySem.W.Frag} {H : Hp} : ∀ l : List Nat, DpAll K H (l.map fun n : Nat => V.int n) (l.map fun n : Nat => .int n) := dpall_ints
theorem okd_ints (l : List Nat) : SeqAt.shaped (.list (l.map fun n : Nat => .int n)) = true := by
  have h : Okd (.list (l.map fun n : Nat => PyData.int n)) 1 := okd_list fun d hd => by
    obtain ⟨x, _, rfl⟩ := List.mem_map.mp hd
    exact okd_int _
  unfold SeqAt.shaped
  rw [h.1, decide_eq_true (Nat.le_trans h.2 (by decide))]
  rfl
/-- the search's dict -/
def Bef (H : Hp) (D : Addr) (f : Nat → Option (Option Nat)) (ks : List Nat) : Prop := ∃ kvs, H D = some (.dK kvs) ∧ kvs.length = ks.length ∧ ∀ x : Nat, valV kvs (.inl (x : Int)) = (f x).map parV
theorem Bef.put {H : Hp} {D : Addr} {f : Nat → Option (Option Nat)} {ks : List Nat} {s : Vbcnac.State} {b y : Nat} {x : Option Nat} (S : Srch s b f ks) (h : Bef H D f ks) (hy : y ∉ ks) : ∃ kvs, H D = some (.dK kvs) ∧ kvs.length = ks.length ∧ Bef (upd H D (.dK (putK kvs (.inl (y : Int)) (parV x)))) D (putF1 f y x) (ks ++ [y]) := by
  obtain ⟨kvs, h1, h2, h3⟩ := h
  have hn : valV kvs (.inl (y : Int)) = none := by
    rw [h3]
    cases q : f y with
    | none => rfl
    | some v => exact absurd ((S.key y).mpr (by rw [q]; rfl)) hy
  refine ⟨kvs, h1, h2, _, upd_same, ?_, fun z => ?_⟩
  · rw [putK_new _ hn, List.length_append, List.length_append, h2]
    rfl
  · rw [valV_put]
    unfold putF1
    by_cases e : z = y
    · rw [if_pos e, if_pos (by rw [e])]
      rfl
    · rw [if_neg e, if_neg (fun w => e (by have := Sum.inl.inj w; omega))]
      exact h3 z
/-- from bridge x, some cables looked at -/
structure Scan (s : Vbcnac.State) (b x : Nat) (f : Nat → Option (Option Nat)) (ks W : List Nat) (dn : List Cb) : Prop where
  S : Srch s b f ks
  hx : x ∈ ks
  hW : ∀ z ∈ W, z ∈ ks
  cov : ∀ z ∈ ks, z = x ∨ z ∈ W ∨ ∀ y, Adj s z y → y ∈ ks
  dn : ∀ c ∈ dn, (c.1.1 = x → c.2.1 ∈ ks) ∧ (c.2.1 = x → c.1.1 ∈ ks)
section
variable {s : Vbcnac.State} {b x y : Nat} {f : Nat → Option (Option Nat)} {ks W : List Nat} {dn : List Cb}
theorem Scan.add (I : Inv s) (A : Scan s b x f ks W dn) (ha : Adj s x y) (hy : y ∉ ks) : Scan s b x (putF1 f y (some x)) (ks ++ [y]) (W ++ [y]) dn := by
  refine ⟨A.S.add I A.hx ha hy, List.mem_append_left _ A.hx, fun z hz => ?_, fun z hz => ?_, fun c hc => ⟨fun h => List.mem_append_left _ ((A.dn c hc).1 h), fun h => List.mem_append_left _ ((A.dn c hc).2 h)⟩⟩
  · rcases List.mem_append.mp hz with hz | hz
    · exact List.mem_append_left _ (A.hW z hz)
    · exact List.mem_append_right _ hz
  · rcases List.mem_append.mp hz with hz | hz
    · rcases A.cov z hz with h | h | h
      · exact .inl h
      · exact .inr (.inl (List.mem_append_left _ h))
      · exact .inr (.inr fun y' a => List.mem_append_left _ (h y' a))
    · exact .inr (.inl (List.mem_append_right _ hz))
theorem Scan.snoc (A : Scan s b x f ks W dn) {c : Cb} (h1 : c.1.1 = x → c.2.1 ∈ ks) (h2 : c.2.1 = x → c.1.1 ∈ ks) : Scan s b x f ks W (dn ++ [c]) := by
  refine { A with dn := fun d hd => ?_ }
  rcases List.mem_append.mp hd with hd | hd
  · exact A.dn d hd
  · rw [List.mem_singleton.mp hd]
    exact ⟨h1, h2⟩
theorem Scan.done (I : Inv s) (A : Scan s b x f ks W (fcabs s)) : ∀ z ∈ ks, z ∈ W ∨ ∀ y, Adj s z y → y ∈ ks := fun z hz => by
  rcases A.cov z hz with h | h | h
  · refine .inr fun y a => ?_
    rw [h] at a
    obtain ⟨c, hc, h1 | h1⟩ := adj_fcab I a
    · exact h1.2 ▸ (A.dn c hc).1 h1.1
    · exact h1.2 ▸ (A.dn c hc).2 h1.1
  · exact .inl h
  · exact .inr h
end
section
variable {P : Program} {w : World} {K : PySem.W.Frag} {mg : Str → Option Value} {base : Heap}
/-! ### way_between -/
def sp_way_between (K : PySem.W.Frag) : Sp := fun vs H Q _ => ∃ n ow as s b c, vs = [.ref n, .int (b : Nat), .int (c : Nat)] ∧ NetAt K ow as H n s ∧ Inv s ∧ b < s.bridges.length ∧
  (Vbcnac.wayFrom Vbcnac.BRIDGES s b none c = none → ∀ H', Same H H' → Q .non H') ∧ (∀ l, Vbcnac.wayFrom Vbcnac.BRIDGES s b none c = some l → ∀ p H', Same H H' → H p = none → H' p = some (.lst (rowV l)) → Q (.ref p) H')
theorem sc_way_between : FnScope ["net", "number", "goal", "cables", "before", "waiting", "here", "port", "other", "near", "far", "way"] ["net", "number", "goal"] D_way_between.scope := ⟨rfl, rfl, rfl, by decide +kernel, rfl, by decide +kernel, by decide +kernel⟩
-- level 3; slots 0:net 1:number 2:goal 3:cables 4:before 5:waiting 6:here 7:port 8:other 9:near 10:far 11:way; captured []
theorem ok_way_between (T : Txt K mg) (G_forwarding_cables : Does P w K mg base 2 "forwarding_cables" ["net"] (sp_forwarding_cables K)) : Does P w K mg base 3 "way_between" ["net", "number", "goal"] (sp_way_between K) := by
  refine does_of T 56 (d := D_way_between) rfl rfl rfl rfl T.g_way_between sc_way_between (fun _ _ _ _ _ _ us hl => match us, hl with | [_, _, _], _ => rfl) (fun vs H Q E h => by obtain ⟨_, _, _, _, _, _, rfl, _⟩ := h; rfl) (fun cdv A outer s H vs Q E hr h => ⟨_, (pss_cons (ps_set (i := 3) sc_way_between.nd rfl (.inl rfl) (pe_f G_forwarding_cables (hr.mono (by decide)) (by rfl) (pa_cons (pv 0) pa_nil)))
      (pss_cons (ps_set (i := 4) sc_way_between.nd rfl (.inl rfl) (pe_disp (pps_cons (pv 1) pe_non pps_nil) (by rfl) (by rfl) (fun z => by cases z) (by decide)))
      (pss_cons (ps_set (i := 5) sc_way_between.nd rfl (.inl rfl) (pe_lst (pa_cons (pv 1) pa_nil)))
      (pss_cons (ps_while PassesOwn.never (pt_cmpR (op_neD (hu64 hr)) (pv 5) (pe_lst pa_nil) (nomark _)) (pss_cons (ps_set (i := 6) sc_way_between.nd rfl (.inl rfl) (pe_bm0 PySem.F.plainAttrs_list PySem.F.slot_list_pop PySem.F.type_list_pop mt_pop (pv 5)))
      (pss_one (ps_for PassesOwn.never rfl (pi_list (pv 3)) (pg_tup (n := 2) rfl (pgs_cons (pg_name (i := 7) sc_way_between.nd rfl (.inl rfl)) (pgs_cons (pg_name (i := 8) sc_way_between.nd rfl (.inl rfl)) pgs_nil))) (pss_one (ps_for PassesOwn.never rfl (pi_tup (pe_tup (pa_cons (pe_tup (pa_cons (pe_ix ix_tup (pv 7) pe_int (fun _ _ => rfl)) (pa_cons (pe_ix ix_tup (pv 8) pe_int (fun _ _ => rfl)) pa_nil))) (pa_cons (pe_tup (pa_cons (pe_ix ix_tup (pv 8) pe_int (fun _ _ => rfl)) (pa_cons (pe_ix ix_tup (pv 7) pe_int (fun _ _ => rfl)) pa_nil))) pa_nil)))) (pg_tup (n := 2) rfl (pgs_cons (pg_name (i := 9) sc_way_between.nd rfl (.inl rfl)) (pgs_cons (pg_name (i := 10) sc_way_between.nd rfl (.inl rfl)) pgs_nil))) (pss_one (ps_if (PW.pt (pw_and (pt_cmpR op_eq (pv 9) (pv 6) (nomark _)) (pw_and1 (pt_cmp (pc_dnotin (hu_of hr) (pv 10) (pv 4)) rfl)))) (pss_cons (ps_dput (hu_of hr) (pv 4) (pv 10) (pv 6) rfl)
      (pss_one (ps_expr (pe_bm PySem.F.plainAttrs_list PySem.F.slot_list_append PySem.F.type_list_append mt_append (pv 5) (pa_cons (pv 10) pa_nil))))) pss_nil))))))))
      (pss_cons (ps_if (pt_cmp (pc_dnotin (hu_of hr) (pv 2) (pv 4)) rfl) (pss_one (ps_ret pe_non)) pss_nil)
      (pss_cons (ps_set (i := 11) sc_way_between.nd rfl (.inl rfl) (pe_lst pa_nil))
      (pss_cons (ps_set (i := 6) sc_way_between.nd rfl (.inl rfl) (pv 2))
      (pss_cons (ps_while PassesOwn.never (pt_cmpR op_notN (pv 6) pe_non (nomark _)) (pss_cons (ps_expr (pe_bm PySem.F.plainAttrs_list PySem.F.slot_list_insert PySem.F.type_list_insert mt_insert (pv 11) (pa_cons pe_int (pa_cons (pv 6) pa_nil))))
      (pss_one (ps_set (i := 6) sc_way_between.nd rfl (.inl rfl) (pe_dget (hu_of hr) (pv 4) (pv 6) (fun _ _ => rfl))))))
      (pss_one (ps_ret (pv 11))))))))))), ?_⟩)
  obtain ⟨n, ow, as, s, b, c, rfl, N, I, hb, hQ1, hQ2⟩ := h
  refine r_seq (r_set (c1 vv ⟨n, ow, as, s, rfl, N, I, fun Lc H1 us e1 nL hL pp => nx ?_⟩))
  refine r_seq (r_set (fun D nD => ?_))
  refine go (te := tVar 1) (v := .int (b : Nat)) vv ?_
  refine r_c (v := .non) ⟨upd_same, [(.inl (b : Int), .non)], rfl, by show 1 ≤ 15; decide, nx ?_⟩
  rw [upd_upd]
  have eD : Same H1 (upd H1 D (.dK (mergeK [] [(.inl (b : Int), V.non)]))) := same_new nD
  have nD0 : H D = none := e1.free nD
  have bD : Bef (upd H1 D (.dK (mergeK [] [(.inl (b : Int), V.non)]))) D (putF1 (fun _ => none) b none) [b] := by
    refine ⟨_, upd_same, rfl, fun x => ?_⟩
    show valV (putK ([] : List (Key × V)) (Sum.inl (b : Int)) V.non) (Sum.inl (x : Int)) = _
    rw [valV_put]
    unfold putF1
    by_cases e : x = b
    · rw [if_pos e, if_pos (by rw [e])]
      rfl
    · rw [if_neg e, if_neg (fun w => e (by have := Sum.inl.inj w; omega))]
      rfl
  generalize (upd H1 D (.dK (mergeK [] [(.inl (b : Int), V.non)]))) = H2 at eD bD
  refine r_seq (r_set (r_lst (r_cons (go vv (r_nil ⟨by show 1 ≤ sizeLine; decide, fun Lw nw => nx ?_⟩)))))
  have ew : Same H2 (upd H2 Lw (.lst [.int (b : Nat)])) := same_new nw
  have eD2 : ∀ H', Same H2 H' → Same H1 H' := fun H' e => eD.trans e
  have nw1 : H1 Lw = none := eD.free nw
  have nw0 : H Lw = none := e1.free nw1
  have hDw : ∀ f ks, Bef H2 D f ks → D ≠ Lw := fun f ks h => by
    obtain ⟨kvs, h1, _⟩ := h
    exact ne_of_none h1 nw
  have hne : D ≠ Lw := hDw _ _ bD
  have bD3 : Bef (upd H2 Lw (.lst [.int (b : Nat)])) D (putF1 (fun _ => none) b none) [b] := by
    obtain ⟨kvs, h1, h2, h3⟩ := bD
    exact ⟨kvs, ew _ _ h1, h2, h3⟩
  refine r_seq3 (fun σ' H' => ∃ v6 v7 v8 v9 v10 v11 f ks, σ' = [some (.ref n), some (.int (b : Nat)), some (.int (c : Nat)), some (.ref Lc), some (.ref D), some (.ref Lw), v6, v7, v8, v9, v10, v11] ∧ Srch s b f ks ∧ (∀ x ∈ ks, ∀ y, Adj s x y → y ∈ ks) ∧ Same H1 H' ∧ Bef H' D f ks) ?after fun after => ?loop
  case loop =>
    refine ⟨fun m σ' H' => ∃ v6 v7 v8 v9 v10 v11 f ks W, m = 2 * (32 - ks.length) + W.length ∧ 2 * (32 - ks.length) + W.length ≤ 63 ∧ σ' = [some (.ref n), some (.int (b : Nat)), some (.int (c : Nat)), some (.ref Lc), some (.ref D), some (.ref Lw), v6, v7, v8, v9, v10, v11] ∧ Srch s b f ks ∧ (∀ x ∈ W, x ∈ ks) ∧ (∀ x ∈ ks, x ∈ W ∨ ∀ y, Adj s x y → y ∈ ks) ∧ Same H1 H' ∧ Bef H' D f ks ∧ H' Lw = some (.lst (W.map fun n : Nat => V.int n)),
      ⟨_, none, none, none, none, none, none, _, _, [b], rfl, by show 2 * (32 - 1) + 1 ≤ 63; decide, rfl, srch_start hb, fun x hx => hx, fun x hx => .inl hx, eD2 _ ew, bD3, upd_same⟩, ?_⟩
    rintro m σ' H3 ⟨v6, v7, v8, v9, v10, v11, f, ks, W, rfl, hm63, rfl, S, hW, cov, e3, hB, hw⟩
    refine r_test (r_op (go vv (r_lst (r_nil ⟨by show 0 ≤ sizeLine; decide, fun le ne => ?_⟩))))
    have et : Same H3 (upd H3 le (.lst [])) := same_new ne
    refine ⟨_, _, .lst (SqL.of (et _ _ hw)) (dp_ints W), .lst (SqL.of upd_same) .nil, okd_ints W, okd_nil, _, rfl, ?_⟩
    rw [eqv_nil]
    have hB4 : Bef (upd H3 le (.lst [])) D f ks := by
      obtain ⟨kvs, h1, h2, h3⟩ := hB
      exact ⟨kvs, et _ _ h1, h2, h3⟩
    have e4 := e3.trans et
    have hw4 := et _ _ hw
    generalize (upd H3 le (.lst [])) = H4 at hB4 e4 hw4
    rcases List.eq_nil_or_concat W with rfl | ⟨W', x, rfl⟩
    · refine if_n (after _ _ ⟨_, _, _, _, _, _, f, ks, rfl, S, fun x hx => (cov x hx).elim (fun z => by cases z) id, e4, hB4⟩)
    · rw [List.concat_eq_append] at hm63 hW cov hw4 ⊢
      have hnil : ((W' ++ [x]).map fun n : Nat => PyData.int n).isEmpty = false := by
        rw [List.map_append]
        cases W'.map fun n : Nat => PyData.int n <;> rfl
      rw [hnil]
      refine if_y ⟨fun σ' H' => ∃ (v6 v7 v8 v9 v10 v11 : Option V) (f' : Nat → Option (Option Nat)) (ks' W2 : List Nat), 2 * (32 - ks'.length) + W2.length < 2 * (32 - ks.length) + (W' ++ [x]).length ∧ σ' = [some (.ref n), some (.int (b : Nat)), some (.int (c : Nat)), some (.ref Lc), some (.ref D), some (.ref Lw), v6, v7, v8, v9, v10, v11] ∧ Srch s b f' ks' ∧ (∀ x ∈ W2, x ∈ ks') ∧ (∀ x ∈ ks', x ∈ W2 ∨ ∀ y, Adj s x y → y ∈ ks') ∧ Same H1 H' ∧ Bef H' D f' ks' ∧ H' Lw = some (.lst (W2.map fun n : Nat => V.int n)), ?_, ?_⟩
      · rintro σ' H' ⟨v6, v7, v8, v9, v10, v11, f', ks', W2, q0, q1, q2, q3, q4, q5, q6, q7⟩
        exact ⟨_, q0, v6, v7, v8, v9, v10, v11, f', ks', W2, rfl, by omega, q1, q2, q3, q4, q5, q6, q7⟩
      · refine r_seq (r_set (r_bm0 (go vv ⟨ty_list hw4, Lw, _, .int (x : Nat), rfl, rfl, hw4, ?_, nx ?_⟩)))
        · rw [List.map_append, List.length_append, List.getElem?_append_right (by simp)]
          simp
        · rw [List.map_append, List.map_cons, List.map_nil, List.dropLast_concat]
          have A0 : Scan s b x f ks W' [] := ⟨S, hW x (by simp), fun z hz => hW z (by simp [hz]), fun z hz => (cov z hz).elim (fun h => (List.mem_append.mp h).elim (fun h => .inr (.inl h)) fun h => .inl (List.mem_singleton.mp h)) (fun h => .inr (.inr h)), fun c hc => by cases hc⟩
          have e5 : Same H1 (upd H4 Lw (.lst (W'.map fun n : Nat => V.int n))) := same_upd e4 nw1
          have hB5 : Bef (upd H4 Lw (.lst (W'.map fun n : Nat => V.int n))) D f ks := by
            obtain ⟨kvs, h1, h2, h3⟩ := hB4
            exact ⟨kvs, by rw [upd_ne hne]; exact h1, h2, h3⟩
          have hw5 : (upd H4 Lw (.lst (W'.map fun n : Nat => V.int n))) Lw = some (.lst (W'.map fun n : Nat => V.int n)) := upd_same
          generalize (upd H4 Lw (.lst (W'.map fun n : Nat => V.int n))) = H5 at e5 hB5 hw5
          have kl := S.len I
          refine r_for (r_ilist (go vv ⟨Lc, rfl, ⟨_, SqL.of (e5 _ _ hL)⟩, for_it walk_list
            (fun i σ H' => ∃ (v7 v8 v9 v10 v11 : Option V) (f' : Nat → Option (Option Nat)) (ks' W2 : List Nat), σ = [some (.ref n), some (.int (b : Nat)), some (.int (c : Nat)), some (.ref Lc), some (.ref D), some (.ref Lw), some (.int (x : Nat)), v7, v8, v9, v10, v11] ∧ 2 * (32 - ks'.length) + W2.length ≤ 2 * (32 - ks.length) + W'.length ∧ Scan s b x f' ks' W2 ((fcabs s).take i) ∧ Same H1 H' ∧ Bef H' D f' ks' ∧ H' Lw = some (.lst (W2.map fun n : Nat => V.int n)))
            ⟨v7, v8, v9, v10, v11, f, ks, W', rfl, Nat.le_refl _, A0, e5, hB5, hw5⟩ (fun i σ H' _ ⟨_, _, _, _, _, _, _, _, _, _, _, e, _⟩ => SqL.of (e _ _ hL)) ?hs ?hd⟩))
          case hd =>
            rintro σ H6 ⟨v7, v8, v9, v10, v11, f', ks', W2, rfl, q0, A, e6, hB6, hw6⟩
            rw [Paired.length pp, List.take_length] at A
            exact ⟨_, v7, v8, v9, v10, v11, f', ks', W2, by rw [List.length_append, List.length_singleton]; omega, rfl, A.S, A.hW, A.done I, e6, hB6, hw6⟩
          case hs =>
            rintro i y σ H6 H7 hi ⟨v7, v8, v9, v10, v11, f', ks', W2, rfl, q0, A, e6, hB6, hw6⟩ ⟨rfl, hy⟩
            obtain ⟨cb, hcb, ta, u1, u2, rfl, hta, ⟨t1, rfl, ht1⟩, t2, rfl, ht2⟩ := Paired.get pp hy
            refine g2 (e6 _ _ hta) (r_for (r_ituple (r_tup (r_cons (r_tup (r_cons (go (v_ixT (j := 0) (xs := [.int (cb.1.1 : Nat), .int (cb.1.2 : Nat)]) vv (SqT.of (e6 _ _ ht1)) rfl) (r_cons (go (v_ixT (j := 0) (xs := [.int (cb.2.1 : Nat), .int (cb.2.2 : Nat)]) vv (SqT.of (e6 _ _ ht2)) rfl) (r_nil ⟨by show 2 ≤ sizeLine; decide, fun ta1 na1 => ?_⟩))))))))))
            have ea1 := same_new (o := .tup [.int (cb.1.1 : Nat), .int (cb.2.1 : Nat)]) na1
            refine r_cons (r_tup (r_cons (go (v_ixT (j := 0) (xs := [.int (cb.2.1 : Nat), .int (cb.2.2 : Nat)]) vv (SqT.of (ea1 _ _ (e6 _ _ ht2))) rfl) (r_cons (go (v_ixT (j := 0) (xs := [.int (cb.1.1 : Nat), .int (cb.1.2 : Nat)]) vv (SqT.of (ea1 _ _ (e6 _ _ ht1))) rfl) (r_nil ⟨by show 2 ≤ sizeLine; decide, fun ta2 na2 => r_nil ⟨by show 2 ≤ sizeLine; decide, fun tb nb => ?_⟩⟩))))))
            have ea2 := same_new (o := .tup [.int (cb.2.1 : Nat), .int (cb.1.1 : Nat)]) na2
            have eb := same_new (o := .tup [.ref ta1, .ref ta2]) nb
            have e8 := e6.trans (ea1.trans (ea2.trans eb))
            have h1 := eb _ _ (ea2 _ _ (show (upd H7 ta1 (.tup [.int (cb.1.1 : Nat), .int (cb.2.1 : Nat)])) ta1 = some (.tup [.int (cb.1.1 : Nat), .int (cb.2.1 : Nat)]) from upd_same))
            have h2 := eb _ _ (show (upd (upd H7 ta1 (.tup [.int (cb.1.1 : Nat), .int (cb.2.1 : Nat)])) ta2 (.tup [.int (cb.2.1 : Nat), .int (cb.1.1 : Nat)])) ta2 = some (.tup [.int (cb.2.1 : Nat), .int (cb.1.1 : Nat)]) from upd_same)
            have hm := List.mem_of_getElem? hcb
            obtain ⟨ad1, ad2⟩ := fcab_mem I hm
            have hB8 : Bef (upd (upd (upd H7 ta1 (.tup [.int (cb.1.1 : Nat), .int (cb.2.1 : Nat)])) ta2 (.tup [.int (cb.2.1 : Nat), .int (cb.1.1 : Nat)])) tb (.tup [.ref ta1, .ref ta2])) D f' ks' := by
              obtain ⟨kvs, g1, g2, g3⟩ := hB6
              exact ⟨kvs, eb _ _ (ea2 _ _ (ea1 _ _ g1)), g2, g3⟩
            have hw8 := eb _ _ (ea2 _ _ (ea1 _ _ hw6))
            have htb : (upd (upd (upd H7 ta1 (.tup [.int (cb.1.1 : Nat), .int (cb.2.1 : Nat)])) ta2 (.tup [.int (cb.2.1 : Nat), .int (cb.1.1 : Nat)])) tb (.tup [.ref ta1, .ref ta2])) tb = some (.tup [.ref ta1, .ref ta2]) := upd_same
            have tk := take_succ' hcb
            generalize (upd (upd (upd H7 ta1 (.tup [.int (cb.1.1 : Nat), .int (cb.2.1 : Nat)])) ta2 (.tup [.int (cb.2.1 : Nat), .int (cb.1.1 : Nat)])) tb (.tup [.ref ta1, .ref ta2])) = H8 at e8 hB8 hw8 h1 h2 htb
            refine ⟨tb, rfl, ⟨_, SqT.of htb⟩, for_it walk_tup
              (fun k σ H' => ∃ (v9 v10 v11 : Option V) (f' : Nat → Option (Option Nat)) (ks' W2 : List Nat), σ = [some (.ref n), some (.int (b : Nat)), some (.int (c : Nat)), some (.ref Lc), some (.ref D), some (.ref Lw), some (.int (x : Nat)), some (.ref t1), some (.ref t2), v9, v10, v11] ∧ 2 * (32 - ks'.length) + W2.length ≤ 2 * (32 - ks.length) + W'.length ∧ Scan s b x f' ks' W2 ((fcabs s).take i) ∧ Same H1 H' ∧ Bef H' D f' ks' ∧ H' Lw = some (.lst (W2.map fun n : Nat => V.int n)) ∧ H' tb = some (.tup [.ref ta1, .ref ta2]) ∧ H' ta1 = some (.tup [.int (cb.1.1 : Nat), .int (cb.2.1 : Nat)]) ∧ H' ta2 = some (.tup [.int (cb.2.1 : Nat), .int (cb.1.1 : Nat)]) ∧ (1 ≤ k → cb.1.1 = x → cb.2.1 ∈ ks') ∧ (2 ≤ k → cb.2.1 = x → cb.1.1 ∈ ks'))
              ⟨v9, v10, v11, f', ks', W2, rfl, q0, A, e8, hB8, hw8, htb, h1, h2, fun z => absurd z (by decide), fun z => absurd z (by decide)⟩ (fun k σ H' _ ⟨_, _, _, _, _, _, _, _, _, _, _, _, h, _⟩ => SqT.of h) ?hs3 ?hd3⟩
            case hd3 =>
              rintro σ H9 ⟨v9, v10, v11, f', ks', W2, rfl, q0, A, e9, hB9, hw9, _, _, _, k1, k2⟩
              refine ⟨_, _, v9, v10, v11, f', ks', W2, rfl, q0, ?_, e9, hB9, hw9⟩
              rw [tk]
              exact A.snoc (k1 (by show 1 ≤ 2; decide)) (k2 (by show 2 ≤ 2; decide))
            case hs3 =>
              rintro k z σ H9 H10 hk ⟨v9, v10, v11, f', ks', W2, rfl, q0, A, e9, hB9, hw9, htb9, h19, h29, k1, k2⟩ ⟨rfl, hz⟩
              have kl' := A.S.len I
              obtain ⟨u, v, tz, rfl, htz, ad, hlast⟩ : ∃ u v tz, z = .ref tz ∧ H10 tz = some (.tup [.int (u : Nat), .int (v : Nat)]) ∧ Adj s u v ∧ ∀ ks2 : List Nat, (∀ q ∈ ks', q ∈ ks2) → (u = x → v ∈ ks2) → (1 ≤ k + 1 → cb.1.1 = x → cb.2.1 ∈ ks2) ∧ (2 ≤ k + 1 → cb.2.1 = x → cb.1.1 ∈ ks2) := by
                match k, hk, hz with
                | 0, _, hz =>
                  cases hz
                  exact ⟨_, _, ta1, rfl, h19, ad1, fun ks2 _ h => ⟨fun _ => h, fun z => absurd z (by decide)⟩⟩
                | 1, _, hz =>
                  cases hz
                  exact ⟨_, _, ta2, rfl, h29, ad2, fun ks2 hk h => ⟨fun _ e => hk _ (k1 (by decide) e), fun _ => h⟩⟩
              refine Sw.g2 htz (r_if (r_and (r_test (r_op (go vv (go vv ⟨rfl, _, rfl, ?_⟩))))))
              rw [dec_int]
              by_cases hux : u = x
              · rw [beq_iff_eq.mpr hux]
                obtain ⟨kvs, p1, p2, p3⟩ := hB9
                refine if_y (r_test (r_dnin (go vv (go vv ⟨D, _, rfl, DGet.k (k := .inl (v : Int)) p1, _, rfl, ?_⟩))))
                rw [p3]
                by_cases hv : v ∈ ks'
                · obtain ⟨vv0, hvv⟩ := Option.isSome_iff_exists.mp ((A.S.key v).mp hv)
                  rw [hvv]
                  obtain ⟨m1, m2⟩ := hlast ks' (fun _ h => h) fun _ => hv
                  exact if_n (r_next ⟨_, _, v11, f', ks', W2, rfl, q0, A, e9, ⟨kvs, p1, p2, p3⟩, hw9, htb9, h19, h29, m1, m2⟩)
                · have hfn : f' v = none := by
                    cases q : f' v with
                    | none => rfl
                    | some w => exact absurd ((A.S.key v).mpr (by rw [q]; rfl)) hv
                  rw [hfn]
                  rw [hux] at ad
                  have A' := A.add I ad hv
                  have kl2 := A'.S.len I
                  rw [List.length_append, List.length_singleton] at kl2
                  obtain ⟨kv2, r1, r2, r3⟩ := Bef.put (x := some x) A.S ⟨kvs, p1, p2, p3⟩ hv
                  rw [p1] at r1
                  cases r1
                  obtain ⟨m1, m2⟩ := hlast (ks' ++ [v]) (fun _ h => List.mem_append_left _ h) fun _ => by simp
                  have nD1 : H1 D = none := nD
                  have hwa : (upd H10 D (.dK (putK kvs (.inl (v : Int)) (.int (x : Nat))))) Lw = some (.lst (W2.map fun n : Nat => V.int n)) := by
                    rw [upd_ne hne.symm]
                    exact hw9
                  have wl : (W2.map fun n : Nat => V.int n).length < sizeLine := by
                    rw [List.length_map]
                    exact Nat.lt_of_le_of_lt (show W2.length ≤ 200 by
                      rw [List.length_append] at hm63
                      omega) (by decide)
                  refine if_y (r_seq (r_dput (go vv (go vv (go vv ⟨D, _, rfl, DPut.k (k := .inl (v : Int)) p1 (by rw [p2]; exact Nat.lt_of_le_of_lt kl' (by decide)), nx ?_⟩)))))
                  have tt : Tup H10 (upd H10 D (.dK (putK kvs (.inl (v : Int)) (.int (x : Nat))))) := tup_upd p1 rfl
                  have t5 : Tup (upd H10 D (.dK (putK kvs (.inl (v : Int)) (.int (x : Nat))))) (upd (upd H10 D (.dK (putK kvs (.inl (v : Int)) (.int (x : Nat))))) Lw (.lst ((W2.map fun n : Nat => V.int n) ++ [.int (v : Nat)]))) := tup_upd hwa rfl
                  refine r_drop (r_bm (go vv ⟨ty_list hwa, r_cons (go vv (r_nil ⟨Lw, _, .int (v : Nat), rfl, rfl, hwa, wl, _, _, v11, _, ks' ++ [v], W2 ++ [v], rfl, ?_, A', same_upd (same_upd e9 nD1) nw1, ?_, ?_, t5 _ _ (tt _ _ htb9), t5 _ _ (tt _ _ h19), t5 _ _ (tt _ _ h29), m1, m2⟩))⟩))
                  · rw [List.length_append, List.length_append, List.length_singleton]
                    show 2 * (32 - (ks'.length + 1)) + (W2.length + 1) ≤ _
                    omega
                  · obtain ⟨kv3, s1, s2, s3⟩ := r3
                    exact ⟨kv3, by rw [upd_ne hne]; exact s1, s2, s3⟩
                  · rw [upd_same, List.map_append]
                    rfl
              · rw [beq_eq_false_iff_ne.mpr hux]
                obtain ⟨m1, m2⟩ := hlast ks' (fun _ h => h) fun e => absurd e hux
                exact if_n (if_n (r_next ⟨_, _, v11, f', ks', W2, rfl, q0, A, e9, hB9, hw9, htb9, h19, h29, m1, m2⟩))
  case after =>
    rintro σ' H3 ⟨v6, v7, v8, v9, v10, v11, f, ks, rfl, S, hc, e3, kvs, h1, h2, h3⟩
    obtain ⟨hw1, hw2⟩ := S.way I hc c
    have ee := e1.trans e3
    refine r_seq (r_if (r_test (r_dnin (go vv (go vv ⟨D, _, rfl, DGet.k (k := .inl (c : Int)) h1, _, rfl, ?_⟩)))))
    rw [h3]
    by_cases hcm : c ∈ ks
    · obtain ⟨v, hv⟩ := Option.isSome_iff_exists.mp ((S.key c).mp hcm)
      obtain ⟨l, hp, hw⟩ := hw2 hcm
      rw [hv]
      refine if_n (r_next (nx (r_seq (r_set (r_lst (r_nil ⟨by show 0 ≤ sizeLine; decide, fun Lp np => nx ?_⟩))))))
      have ep := same_new (o := .lst []) np
      have hll : l.length ≤ 32 := by
        obtain ⟨k, g⟩ := way_go _ hw
        exact Nat.le_trans (nodup_le (g.nodup I.sym I.noring) (g.lt hb)) I.nb
      refine r_seq (r_set (go vv (nx (r_seq ?_))))
      refine ⟨fun m σ' H' => ∃ hv v7 v8 v9 v10 l2, σ' = [some (.ref n), some (.int (b : Nat)), some (.int (c : Nat)), some (.ref Lc), some (.ref D), some (.ref Lw), some hv, v7, v8, v9, v10, some (.ref Lp)] ∧ Same H3 H' ∧ H' Lp = some (.lst (rowV l2)) ∧ ((hv = .non ∧ m = 0 ∧ l2 = l) ∨ ∃ y l1, hv = .int (y : Nat) ∧ m = l1.length ∧ Path f y l1 ∧ l = l1 ++ l2),
        ⟨l.length, _, v7, v8, v9, v10, [], rfl, ep, upd_same, .inr ⟨c, l, rfl, rfl, hp, (List.append_nil l).symm⟩⟩, ?_⟩
      rintro m σ' H5 ⟨hv', v7, v8, v9, v10, l2, rfl, e5, hl5, hcase⟩
      refine r_test (r_op (go vv (r_c ⟨rfl, _, rfl, ?_⟩)))
      rcases hcase with ⟨rfl, rfl, rfl⟩ | ⟨y, l1, rfl, rfl, py, hl12⟩
      · refine if_n (nx (r_ret (go vv (hQ2 _ hw Lp H5 (ee.trans e5) ?_ hl5))))
        exact ee.free np
      · have hpos : 0 < l1.length := by cases py <;> simp
        refine if_y ⟨fun σ' H' => ∃ hv v7 v8 v9 v10 l2, σ' = [some (.ref n), some (.int (b : Nat)), some (.int (c : Nat)), some (.ref Lc), some (.ref D), some (.ref Lw), some hv, v7, v8, v9, v10, some (.ref Lp)] ∧ Same H3 H' ∧ H' Lp = some (.lst (rowV l2)) ∧ ((hv = .non ∧ l2 = l) ∨ ∃ y l3, hv = .int (y : Nat) ∧ l3.length < l1.length ∧ Path f y l3 ∧ l = l3 ++ l2), ?_, ?_⟩
        · rintro σ' H' ⟨hv, v7, v8, v9, v10, l2, q1, q2, q3, q4⟩
          rcases q4 with ⟨q4, q5⟩ | ⟨y, l3, q4, q5, q6, q7⟩
          · exact ⟨0, hpos, hv, v7, v8, v9, v10, l2, q1, q2, q3, .inl ⟨q4, rfl, q5⟩⟩
          · exact ⟨_, q5, hv, v7, v8, v9, v10, l2, q1, q2, q3, .inr ⟨y, l3, q4, rfl, q6, q7⟩⟩
        · have hl2 : l2.length ≤ 32 := by
            rw [hl12, List.length_append] at hll
            omega
          refine r_seq (r_drop (r_bm (go vv ⟨ty_list hl5, r_cons (r_c (r_cons (go vv (r_nil ⟨Lp, rowV l2, 0, .int (y : Nat), rfl, rfl, hl5, ?_, by decide, by decide, nx ?_⟩))))⟩)))
          · show (l2.map _).length < sizeLine
            rw [List.length_map]
            exact Nat.lt_of_le_of_lt hl2 (by decide)
          have e6 : Same H3 (upd H5 Lp (.lst ((rowV l2).take (0 : Int).toNat ++ [.int (y : Nat)] ++ (rowV l2).drop (0 : Int).toNat))) := same_upd e5 np
          have hl6 : (upd H5 Lp (.lst ((rowV l2).take (0 : Int).toNat ++ [.int (y : Nat)] ++ (rowV l2).drop (0 : Int).toNat))) Lp = some (.lst (rowV (y :: l2))) := upd_same
          generalize (upd H5 Lp (.lst ((rowV l2).take (0 : Int).toNat ++ [.int (y : Nat)] ++ (rowV l2).drop (0 : Int).toNat))) = H6 at e6 hl6
          have hk := h3 y
          have dg := DGet.k (k := .inl (y : Int)) (e6 _ _ h1)
          rw [hk] at dg
          cases py with
          | root hf =>
            rw [hf] at dg
            refine r_set (r_dget (go vv (go vv ⟨D, .non, rfl, dg, _, _, _, _, _, y :: l2, rfl, e6, hl6, .inl ⟨rfl, ?_⟩⟩)))
            rw [hl12]
            rfl
          | @step _ z l3 hf pz =>
            rw [hf] at dg
            refine r_set (r_dget (go vv (go vv ⟨D, .int (z : Nat), rfl, dg, _, _, _, _, _, y :: l2, rfl, e6, hl6, .inr ⟨z, l3, rfl, by simp, pz, ?_⟩⟩)))
            rw [hl12, List.append_assoc]
            rfl
    · have hv : f c = none := by
        cases q : f c with
        | none => rfl
        | some v => exact absurd ((S.key c).mpr (by rw [q]; rfl)) hcm
      rw [hv]
      exact if_y (r_ret (r_c (hQ1 (hw1 hcm) H3 ee)))
end
end Sw
namespace Sw
open PySem PySem.Spec PyProof.Rows L2
/-- [a new row for x in list] -/
theorem lc_mkL {K : PySem.W.Frag} {σ : L2.St} {H1 : Hp} {p : Addr} {us : List V} {j : Nat} {te : TE} {Qd : Addr → Hp → Prop} (rows : Nat → List Nat) (hl : H1 p = some (.lst us)) (hn : us.length ≤ 100000)
    (hs : ∀ i x H2, us[i]? = some x → Same H1 H2 → ∀ N : VK, (∀ t H5, Same H2 H5 → H5 t = some (.tup (rowV (rows i))) → N (.ref t) H5) → te ((wipe σ [j]).set j (some x)) H2 N)
    (q : ∀ D H' us', Same H1 H' → H1 D = none → H' D = some (.lst us') → Paired (Rw H') us' ((List.range us.length).map rows) → Qd D H') :
    ∀ D, H1 D = none → ∃ W : Nat → Nat → Hp → Prop, (∃ m, W 0 m (upd H1 D (.lst []))) ∧ ∀ i m H, W i m H →
      ((Itl K p).stop i H ∧ Qd D H) ∨ ((Itl K p).go i H ∧ ∃ Nx : Hp → Prop, (∀ H', Nx H' → ∃ m', m' < m ∧ W (i + 1) m' H') ∧ ∀ x H', (Itl K p).yld i H x H' → gName j x (wipe σ [j]) H' fun σ2 H2 => wipe σ2 [j] = wipe σ [j] ∧ tYes σ2 H2 fun b H3 =>
        if b = true then te σ2 H3 fun y H4 => ∃ acc, H4 D = some (.lst acc) ∧ acc.length < sizeLine ∧ Nx (upd H4 D (.lst (acc ++ [y]))) else Nx H3) := fun D hD => by
  refine lc_it walk_list (fun i H' => Same H1 H' ∧ ∃ us', H' D = some (.lst us') ∧ Paired (Rw H') us' ((List.range i).map rows)) ⟨same_new hD, [], upd_same, .nil⟩ (fun i H' _ h => SqL.of (h.1 _ _ hl)) (fun i x H2 H3 hi h y => ?_) fun H' h => ?_
  · obtain ⟨e1, us', hD2, pr⟩ := h
    obtain ⟨rfl, hx⟩ := y
    refine ⟨wipe1 _ _ _, r_yes (iteT (hs i x H3 hx e1 _ fun t H5 e5 ht => ?_))⟩
    have hD3 := e5 _ _ hD2
    have t4 := tup_upd (u := .lst (us' ++ [.ref t])) hD3 rfl
    refine ⟨us', hD3, ?_, same_upd (e1.trans e5) hD, us' ++ [.ref t], upd_same, ?_⟩
    · rw [Paired.length pr, List.length_map, List.length_range]
      exact Nat.lt_of_lt_of_le (show i < 100000 by omega) (by decide)
    · rw [List.range_succ, List.map_append]
      exact Paired.snoc ⟨t, rfl, t4 _ _ ht⟩ (Paired.imp (fun _ _ h => (h.mono (Tup.of_same e5)).mono t4) pr)
  · obtain ⟨e1, us', hD2, pr⟩ := h
    exact q D H' us' e1 hD hD2 pr
theorem range_rows {α : Type} (l : List α) (d : α) (f : α → List Nat) : ((List.range l.length).map fun i => f (l.getD i d)) = l.map f := by
  refine List.ext_getElem? fun i => ?_
  rw [List.getElem?_map, List.getElem?_map]
  by_cases h : i < l.length
  · rw [List.getElem?_range h, List.getElem?_eq_getElem h]
    show some (f (l.getD i d)) = some (f l[i])
    rw [List.getD_eq_getElem?_getD, List.getElem?_eq_getElem h]
    rfl
  · rw [List.getElem?_eq_none (by simp; omega), List.getElem?_eq_none (by omega)]
    rfl
theorem flat1 : ∀ L : List Nat, (L.map fun x => [x]).flatten.length = L.length
  | [] => rfl
  | x :: L => by
    rw [List.map_cons, List.flatten_cons, List.length_append, flat1 L]
    show 1 + L.length = L.length + 1
    omega
section
variable {P : Program} {w : World} {K : PySem.W.Frag} {mg : Str → Option Value} {base : Heap}
/-! ### way_call -/
def sp_way_call (K : PySem.W.Frag) : Sp := fun vs H Q _ => ∃ v b c ow as s, vs = [v, .int b, .int c] ∧ SesAt K ow as H v s ∧ Ans K v ow H (Vbcnac.step s (.way b c)) Q
theorem sc_way_call : FnScope ["net", "number", "goal", "refusal", "way", "bridge"] ["net", "number", "goal"] D_way_call.scope := ⟨rfl, rfl, rfl, by decide +kernel, rfl, by decide +kernel, by decide +kernel⟩
-- level 4; slots 0:net 1:number 2:goal 3:refusal 4:way 5:bridge; captured []
theorem ok_way_call (T : Txt K mg) (G_refusal_of : Does P w K mg base 1 "refusal_of" ["net", "numbers", "ranges", "bridges"] (sp_refusal_of K)) (G_way_between : Does P w K mg base 3 "way_between" ["net", "number", "goal"] (sp_way_between K)) (G_rows_of : Does P w K mg base 1 "rows_of" ["rows"] (sp_rows_of K)) : Does P w K mg base 4 "way_call" ["net", "number", "goal"] (sp_way_call K) := by
  refine does_of T 64 (d := D_way_call) rfl rfl rfl rfl T.g_way_call sc_way_call (fun _ _ _ _ _ _ us hl => match us, hl with | [_, _, _], _ => rfl) (fun vs H Q E h => by obtain ⟨_, _, _, _, _, _, rfl, _⟩ := h; rfl) (fun cdv A outer s H vs Q E hr h => ⟨_, (pss_cons (ps_set (i := 3) sc_way_call.nd rfl (.inl rfl) (pe_f G_refusal_of (hr.mono (by decide)) (by rfl) (pa_cons (pv 0) (pa_cons (pe_tup (pa_cons (pv 1) (pa_cons (pv 2) pa_nil))) (pa_cons (pe_tup (pa_cons (pe_gr T.g_BRIDGE rfl) (pa_cons (pe_gr T.g_BRIDGE rfl) pa_nil))) (pa_cons (pe_tup (pa_cons (pv 1) (pa_cons (pv 2) pa_nil))) pa_nil))))))
      (pss_cons (ps_if (pt_cmpR op_ne (pv 3) pe_int (nomark _)) (pss_one (ps_ret (pe_lst (pa_cons (pv 3) pa_nil)))) pss_nil)
      (pss_cons (ps_if (pt_not (pt_val (pe_fld (pe_ix ix_list (pe_fld (pv 0) rfl) (pv 1) (fun _ _ => rfl)) rfl))) (pss_one (ps_ret (pe_lst (pa_cons (pe_gi T.i_NO_WAY rfl) pa_nil)))) pss_nil)
      (pss_cons (ps_set (i := 4) sc_way_call.nd rfl (.inl rfl) (pe_f G_way_between (hr.mono (by decide)) (by rfl) (pa_cons (pv 0) (pa_cons (pv 1) (pa_cons (pv 2) pa_nil)))))
      (pss_cons (ps_if (pt_cmpR op_isN (pv 4) pe_non (nomark _)) (pss_one (ps_ret (pe_lst (pa_cons (pe_gi T.i_NO_WAY rfl) pa_nil)))) pss_nil)
      (pss_one (ps_ret (pe_f G_rows_of (hr.mono (by decide)) (by rfl) (pa_cons (pe_lc (own := [("bridge", 5)]) (tt := tYes) (g := gName 5) rfl sc_way_call.nd (pi_list (pv 4)) (blkOk_by (own := [("bridge", 5)]) (N := ["net", "number", "goal", "refusal", "way", "bridge"]) (sc := D_way_call.scope) (by decide +kernel)) (fun _ _ _ _ _ => (pg_name (i := 5) sc_way_call.nd rfl (.inl rfl))) (fun _ _ _ _ _ => pts_nil) (fun _ _ _ _ _ => (pe_tup (pa_cons (pv 5) pa_nil)))) pa_nil))))))))), ?_⟩)
  obtain ⟨v, b, c, ow, as, s, rfl, S, A⟩ := h
  refine r_refusal (c := .way b c) (ns := [b, c]) (rs := [(0, 31), (0, 31)]) (bs := [b, c]) 3 S A rfl ?_ rfl rfl rfl (by show 3 < 6; decide) (fun QA k => ?_) fun n H1 hv N e hbeg I z A1 => ?_
  · show (Vbcnac.isB b && Vbcnac.isB c) = (inSpan b (0, 31) && (inSpan c (0, 31) && true))
    rw [Bool.and_true]
    rfl
  · refine r_cons (r_tup (r_cons (go vv (r_cons (go vv (r_nil ⟨by show 2 ≤ sizeLine; decide, fun t1 n1 => ?_⟩))))))
    have e1 := same_new (o := .tup [.int b, .int c]) n1
    refine r_cons (r_tup (r_cons (r_c (r_cons (r_c (r_nil ⟨by show 2 ≤ sizeLine; decide, fun t2 n2 => ?_⟩))))))
    have e2 := same_new (o := .tup [.ref (He.ga K "BRIDGE"), .ref (He.ga K "BRIDGE")]) n2
    refine r_cons (r_tup (r_cons (go vv (r_cons (go vv (r_nil ⟨by show 2 ≤ sizeLine; decide, fun t3 n3 => r_nil ?_⟩))))))
    have e3 := same_new (o := .tup [.int b, .int c]) n3
    exact k t1 t2 t3 _ _ (e1.trans (e2.trans e3)) (SqT.of (e3 _ _ (e2 _ _ upd_same))) (SqT.of (e3 _ _ upd_same)) (.cons ⟨_, rfl, fun H => T.t_BRIDGE H⟩ (.cons ⟨_, rfl, fun H => T.t_BRIDGE H⟩ .nil)) (SqT.of upd_same)
  · subst hv
    obtain ⟨hr, hb⟩ := ref3_zero z
    have hb1 : 0 ≤ b ∧ b ≤ 31 := hr (b, (0, 31)) (by simp)
    have hc1 : 0 ≤ c ∧ c ≤ 31 := hr (c, (0, 31)) (by simp)
    have hb2 := hb b (by simp)
    have hc2 := hb c (by simp)
    obtain ⟨b, rfl⟩ := nat_of hb1.1
    obtain ⟨c, rfl⟩ := nat_of hc1.1
    have hb3 : b < s.bridges.length := by omega
    have bk : SesAt K ow as H1 (.ref n) s := .inr ⟨n, rfl, N, hbeg, I⟩
    obtain ⟨a, ea⟩ := N.addr hb3
    obtain ⟨dx, l, st, ws, kvs, B⟩ := N.br b a ea
    have ed : Vbcnac.does s (.way (b : Int) (c : Int)) = match (if Vbcnac.isOn s b = true then Vbcnac.wayFrom Vbcnac.BRIDGES s b none c else none) with
      | none => (s, [-14])
      | some l => (s, Vbcnac.rowsOf (l.map fun x => [x])) := rfl
    refine r_seq (r_if (r_not (r_tb (go (B.fon T (N.bridge T ea vv vv)) ⟨_, rfl, ?_⟩))))
    cases hon : (Vbcnac.bridgeAt s b).on with
    | false =>
      rw [if_neg (by rw [isOn_at hb3, hon]; decide)] at ed
      refine if_y (r_ret (r_lst (r_cons (r_c (r_nil ⟨by show 1 ≤ sizeLine; decide, ?_⟩)))))
      exact (A1.eq ed).ret bk (Frm.refl _ _) (Grow.refl _ _) rfl
    | true =>
      rw [if_pos (by rw [isOn_at hb3, hon])] at ed
      refine if_n (r_next (nx (r_seq (r_set (c3 vv vv vv ⟨n, ow, as, s, b, c, rfl, N, I, hb3, fun hw H2 e2 => nx ?_, fun wl hw p H2 e2 np hp => nx ?_⟩)))))
      · rw [hw] at ed
        refine r_seq (r_if (r_test (r_op (go vv (r_c ⟨rfl, _, rfl, if_y (r_ret (r_lst (r_cons (r_c (r_nil ⟨by show 1 ≤ sizeLine; decide, ?_⟩)))))⟩)))))
        exact ((A1.eq ed).later e2).ret (bk.same e2) (Frm.refl _ _) (Grow.refl _ _) rfl
      · rw [hw] at ed
        have hwl : wl.length ≤ 32 := by
          obtain ⟨k, g⟩ := way_go _ hw
          exact Nat.le_trans (nodup_le (g.nodup I.sym I.noring) (g.lt hb3)) I.nb
        have hrl : (rowV wl).length = wl.length := List.length_map _
        refine r_seq (r_if (r_test (r_op (go vv (r_c ⟨rfl, _, rfl, if_n (r_next (nx (r_ret (r_call (r_cons ?_)))))⟩)))))
        refine r_ilist (go vv ⟨p, rfl, ⟨_, SqL.of hp⟩, lc_mkL (fun i => [wl.getD i 0]) hp (by rw [hrl]; omega) (fun i x H3 hx e3 N' hN => ?_) fun D H3 us' e3 hD hD3 pr => r_nil ⟨D, us', wl.map fun x => [x], rfl, hD3, ?_, by rw [flat1]; omega, fun q H4 e4 nq hq => ?_⟩⟩)
        · refine r_tup (r_cons (go vv (r_nil ⟨by show 1 ≤ sizeLine; decide, fun t nt => hN t _ (same_new nt) ?_⟩)))
          rw [upd_same]
          unfold rowV at hx
          rw [List.getElem?_map] at hx
          cases hwi : wl[i]? with
          | none =>
            rw [hwi] at hx
            cases hx
          | some y =>
            rw [hwi] at hx
            rw [← Option.some.inj hx, List.getD_eq_getElem?_getD, hwi]
            rfl
        · rw [hrl, range_rows wl 0 fun x => [x]] at pr
          exact pr
        · have ee := e2.trans (e3.trans e4)
          exact (A1.eq ed).look bk ee (e2.free (e3.free nq)) hq
end
end Sw
namespace Sw
open PySem PySem.Spec PyProof.Rows L2
section
variable {P : Program} {w : World} {K : PySem.W.Frag} {mg : Str → Option Value} {base : Heap}
/-! ### live_cable -/
theorem across_off {s : Vbcnac.State} {b p : Nat} (h : Vbcnac.isOn s b = false) : Vbcnac.across s b p = none := by
  cases q : Vbcnac.across s b p with
  | none => rfl
  | some x => rw [(across_iff.mp q).1] at h; cases h
theorem across_np {s : Vbcnac.State} {b p : Nat} (h : (Vbcnac.portAt s b p).peer = none) : Vbcnac.across s b p = none := by
  cases q : Vbcnac.across s b p with
  | none => rfl
  | some x => rw [(across_iff.mp q).2.1] at h; cases h
theorem across_far {s : Vbcnac.State} {b p : Nat} {x : Nat × Nat} (h : (Vbcnac.portAt s b p).peer = some x) (h2 : Vbcnac.isOn s x.1 = false) : Vbcnac.across s b p = none := by
  cases q : Vbcnac.across s b p with
  | none => rfl
  | some y =>
    obtain ⟨_, z1, z2⟩ := across_iff.mp q
    rw [h] at z1
    cases z1
    rw [z2] at h2
    cases h2
def sp_live_cable (K : PySem.W.Frag) : Sp := fun vs H Q _ => ∃ n ow as s b p, vs = [.ref n, .int (b : Nat), .int (p : Nat)] ∧ NetAt K ow as H n s ∧ Inv s ∧ b < s.bridges.length ∧ p < 16 ∧ ∀ v, Cab H v (Vbcnac.across s b p) → Q v H
theorem sc_live_cable : FnScope ["net", "number", "place", "bridge", "other"] ["net", "number", "place"] D_live_cable.scope := ⟨rfl, rfl, rfl, by decide +kernel, rfl, by decide +kernel, by decide +kernel⟩
-- level 1; slots 0:net 1:number 2:place 3:bridge 4:other; captured []
theorem ok_live_cable (T : Txt K mg) : Does P w K mg base 1 "live_cable" ["net", "number", "place"] (sp_live_cable K) := by
  refine does_of T 44 (d := D_live_cable) rfl rfl rfl rfl T.g_live_cable sc_live_cable (fun _ _ _ _ _ _ us hl => match us, hl with | [_, _, _], _ => rfl) (fun vs H Q E h => by obtain ⟨_, _, _, _, _, _, rfl, _⟩ := h; rfl) (fun cdv A outer s H vs Q E hr h => ⟨_, (pss_cons (ps_set (i := 3) sc_live_cable.nd rfl (.inl rfl) (pe_ix ix_list (pe_fld (pv 0) rfl) (pv 1) (fun _ _ => rfl)))
      (pss_cons (ps_set (i := 4) sc_live_cable.nd rfl (.inl rfl) (pe_ix ix_list (pe_fld (pv 3) rfl) (pv 2) (fun _ _ => rfl)))
      (pss_cons (ps_if (PW.pt (pw_or (pt_cmpR op_isN (pv 4) pe_non (nomark _)) (pw_or (pt_not (pt_val (pe_fld (pv 3) rfl))) (pw_or1 (pt_not (pt_val (pe_fld (pe_ix ix_list (pe_fld (pv 0) rfl) (pe_ix ix_tup (pv 4) pe_int (fun _ _ => rfl)) (fun _ _ => rfl)) rfl))))))) (pss_one (ps_ret pe_non)) pss_nil)
      (pss_one (ps_ret (pv 4)))))), ?_⟩)
  obtain ⟨n, ow, as, s, b, p, rfl, N, I, hb, hp, hQ⟩ := h
  obtain ⟨a, e⟩ := N.addr hb
  obtain ⟨dx, l, st, ws, kvs, B⟩ := N.br b a e
  obtain ⟨v, hv, pv⟩ := B.get (k := 2) (p := p) (by decide) (by rw [I.np b hb]; exact hp)
  have pc : Cab H v (Vbcnac.portAt s b p).peer := pv
  refine r_seq (r_set (go (N.bridge T e vv vv) (nx ?_)))
  refine r_seq (r_set (go (v_ixL (B.fcables T vv) vv (B.lst 2 (by decide)) hv) (nx ?_)))
  refine r_seq (r_if (r_or (r_test (r_op (go vv (r_c ⟨rfl, _, rfl, ?_⟩))))))
  cases hpe : (Vbcnac.portAt s b p).peer with
  | none =>
    rw [hpe] at pc
    cases (show v = .non from pc)
    exact if_y (if_y (r_ret (r_c (hQ _ (by rw [across_np hpe]; rfl)))))
  | some x =>
    rw [hpe] at pc
    obtain ⟨t, rfl, ht⟩ := pc
    obtain ⟨_, _, hx1, hx2⟩ := I.peer (c := x.1) (q := x.2) hpe
    refine if_n (r_or (r_not (r_tb (go (B.fon T vv) ⟨_, rfl, ?_⟩))))
    cases hon : (Vbcnac.bridgeAt s b).on with
    | false => exact if_y (if_y (r_ret (r_c (hQ _ (by rw [across_off (by rw [isOn_at hb, hon])]; rfl)))))
    | true =>
      obtain ⟨a2, e2⟩ := N.addr hx1
      obtain ⟨dx2, l2, st2, ws2, kvs2, B2⟩ := N.br x.1 a2 e2
      refine if_n (r_not (r_tb (go (B2.fon T (N.bridge T e2 vv (v_ixT (j := 0) vv (SqT.of ht) rfl))) ⟨_, rfl, ?_⟩)))
      cases hon2 : (Vbcnac.bridgeAt s x.1).on with
      | false => exact if_y (r_ret (r_c (hQ _ (by rw [across_far hpe (by rw [isOn_at hx1, hon2])]; rfl))))
      | true =>
        refine if_n (r_next (nx (r_ret (go vv (hQ _ ?_)))))
        rw [across_iff.mpr ⟨by rw [isOn_at hb, hon], hpe, by rw [isOn_at hx1, hon2]⟩]
        exact ⟨t, rfl, ht⟩
/-! ### neighbours_of -/
def nbsTo (s : Vbcnac.State) (b k : Nat) : List (Nat × Nat) := (List.range k).filterMap fun p => (Vbcnac.across s b p).map fun x => ((Vbcnac.portAt s b p).cost, x.1)
theorem nbsTo_succ (s : Vbcnac.State) (b k : Nat) : nbsTo s b (k + 1) = nbsTo s b k ++ ((Vbcnac.across s b k).map fun x => ((Vbcnac.portAt s b k).cost, x.1)).toList := by
  unfold nbsTo
  rw [List.range_succ, List.filterMap_append, List.filterMap_cons, List.filterMap_nil]
  cases Vbcnac.across s b k <;> rfl
theorem nbsTo_len (s : Vbcnac.State) (b k : Nat) : (nbsTo s b k).length ≤ k := by
  unfold nbsTo
  exact Nat.le_trans (List.length_filterMap_le _ _) (by simp)
def sp_neighbours_of (K : PySem.W.Frag) : Sp := fun vs H Q _ => ∃ n ow as s b, vs = [.ref n, .int (b : Nat)] ∧ NetAt K ow as H n s ∧ Inv s ∧ b < s.bridges.length ∧ ∀ p H' us, Same H H' → H p = none → H' p = some (.lst us) → Paired (Pt H') us (nbs s b) → Q (.ref p) H'
theorem sc_neighbours_of : FnScope ["net", "number", "neighbours", "place", "other"] ["net", "number"] D_neighbours_of.scope := ⟨rfl, rfl, rfl, by decide +kernel, rfl, by decide +kernel, by decide +kernel⟩
-- level 2; slots 0:net 1:number 2:neighbours 3:place 4:other; captured []
theorem ok_neighbours_of (T : Txt K mg) (G_live_cable : Does P w K mg base 1 "live_cable" ["net", "number", "place"] (sp_live_cable K)) : Does P w K mg base 2 "neighbours_of" ["net", "number"] (sp_neighbours_of K) := by
  refine does_of T 45 (d := D_neighbours_of) rfl rfl rfl rfl T.g_neighbours_of sc_neighbours_of (fun _ _ _ _ _ _ us hl => match us, hl with | [_, _], _ => rfl) (fun vs H Q E h => by obtain ⟨_, _, _, _, _, rfl, _⟩ := h; rfl) (fun cdv A outer s H vs Q E hr h => ⟨_, (pss_cons (ps_set (i := 2) sc_neighbours_of.nd rfl (.inl rfl) (pe_lst pa_nil))
      (pss_cons (ps_for PassesOwn.never rfl (pi_range1 (by rfl) T.f_range (pa_cons (pe_gi T.i_PORTS rfl) pa_nil)) (pg_name (i := 3) sc_neighbours_of.nd rfl (.inl rfl)) (pss_cons (ps_set (i := 4) sc_neighbours_of.nd rfl (.inl rfl) (pe_f G_live_cable (hr.mono (by decide)) (by rfl) (pa_cons (pv 0) (pa_cons (pv 1) (pa_cons (pv 3) pa_nil)))))
      (pss_one (ps_if (pt_cmpR op_notN (pv 4) pe_non (nomark _)) (pss_one (ps_expr (pe_bm PySem.F.plainAttrs_list PySem.F.slot_list_append PySem.F.type_list_append mt_append (pv 2) (pa_cons (pe_tup (pa_cons (pe_ix ix_list (pe_fld (pe_ix ix_list (pe_fld (pv 0) rfl) (pv 1) (fun _ _ => rfl)) rfl) (pv 3) (fun _ _ => rfl)) (pa_cons (pe_ix ix_tup (pv 4) pe_int (fun _ _ => rfl)) pa_nil))) pa_nil)))) pss_nil))))
      (pss_one (ps_ret (pv 2))))), ?_⟩)
  obtain ⟨n, ow, as, s, b, rfl, N, I, hb, hQ⟩ := h
  refine r_seq (r_set (r_lst (r_nil ⟨by show 0 ≤ sizeLine; decide, fun L nL => nx ?_⟩)))
  have e0 : Same H (upd H L (.lst [])) := same_new nL
  refine r_seq (r_for (r_range (r_cons (r_c (r_nil ⟨16, rfl, by decide, by decide, for_range (lo := 0) (n := 16)
    (fun k σ H' => ∃ v3 v4 us, σ = [some (.ref n), some (.int (b : Nat)), some (.ref L), v3, v4] ∧ Same H H' ∧ H' L = some (.lst us) ∧ Paired (Pt H') us (nbsTo s b k)) ⟨none, none, [], rfl, e0, upd_same, .nil⟩ ?hs ?hd⟩)))))
  case hs =>
    rintro k σ H1 hk ⟨v3, v4, us, rfl, e1, hL, pp⟩
    rw [Int.zero_add]
    have hs := nbsTo_succ s b k
    have N1 := N.same e1
    refine r_seq (r_set (c3 vv vv vv ⟨n, ow, as, s, b, k, rfl, N1, I, hb, hk, fun v hv => nx ?_⟩))
    refine r_if (r_test (r_op (go vv (r_c ⟨rfl, _, rfl, ?_⟩))))
    cases hx : Vbcnac.across s b k with
    | none =>
      rw [hx] at hv hs
      cases (show v = .non from hv)
      refine if_n (r_next ⟨_, _, us, rfl, e1, hL, ?_⟩)
      rw [hs]
      exact (List.append_nil _).symm ▸ pp
    | some x =>
      rw [hx] at hv hs
      obtain ⟨t, rfl, ht⟩ := hv
      obtain ⟨a, ea⟩ := N1.addr hb
      obtain ⟨dx, l, st, ws, kvs, B⟩ := N1.br b a ea
      obtain ⟨cv, hcv, pv⟩ := B.get (k := 0) (p := k) (by decide) (by rw [I.np b hb]; exact hk)
      cases (show cv = .int (Vbcnac.portAt s b k).cost from pv)
      refine if_y (r_drop (r_bm (go vv ⟨ty_list hL, r_cons (r_tup (r_cons (go (v_ixL (B.fcosts T (N1.bridge T ea vv vv)) vv (B.lst 0 (by decide)) hcv) (r_cons (go (v_ixT (j := 0) (xs := [.int (x.1 : Nat), .int (x.2 : Nat)]) vv (SqT.of ht) rfl) (r_nil ⟨by show 2 ≤ sizeLine; decide, fun t2 n2 => r_nil ?_⟩))))))⟩)))
      have e2 := same_new (o := .tup [.int ((Vbcnac.portAt s b k).cost : Nat), .int (x.1 : Nat)]) n2
      have hL2 := e2 _ _ hL
      have t4 := tup_upd (u := .lst (us ++ [.ref t2])) hL2 rfl
      refine ⟨L, us, .ref t2, rfl, rfl, hL2, ?_, _, _, us ++ [.ref t2], rfl, same_upd (e1.trans e2) nL, upd_same, ?_⟩
      · rw [Paired.length pp]
        exact Nat.lt_of_le_of_lt (Nat.le_trans (nbsTo_len s b k) (Nat.le_of_lt hk)) (by decide)
      · rw [hs]
        exact Paired.snoc ⟨t2, rfl, t4 _ _ upd_same⟩ (Paired.imp (fun _ _ h => (h.mono (Tup.of_same e2)).mono t4) pp)
  case hd =>
    rintro σ H1 ⟨v3, v4, us, rfl, e1, hL, pp⟩
    exact nx (r_ret (go vv (hQ L H1 us e1 nL hL pp)))
/-! ### piece_of -/
def keysOf (ks : List Nat) : List Key := ks.map fun k : Nat => .inl (k : Int)
/-- a dict with these keys -/
def KsAt (H : Hp) (D : Addr) (ks : List Nat) : Prop := ∃ kvs, H D = some (.dK kvs) ∧ kvs.map (·.1) = keysOf ks
theorem keys_mem {x : Nat} {ks : List Nat} : (.inl (x : Int) : Key) ∈ keysOf ks ↔ x ∈ ks := by
  unfold keysOf
  rw [List.mem_map]
  constructor
  · rintro ⟨y, hy, e⟩
    have := Sum.inl.inj e
    rw [show x = y by omega]
    exact hy
  · exact fun h => ⟨x, h, rfl⟩
theorem keys_val {kvs : List (Key × V)} {ks : List Nat} (h : kvs.map (·.1) = keysOf ks) (x : Nat) : (valV kvs (.inl (x : Int))).isSome = decide (x ∈ ks) := by
  cases q : valV kvs (.inl (x : Int)) with
  | none =>
    have := valV_not q
    rw [h, keys_mem] at this
    exact (decide_eq_false this).symm
  | some v =>
    have := valV_in q
    rw [h, keys_mem] at this
    exact (decide_eq_true this).symm
theorem keys_put {kvs : List (Key × V)} {ks : List Nat} (h : kvs.map (·.1) = keysOf ks) {x : Nat} (hx : x ∉ ks) (v : V) : (putK kvs (.inl (x : Int)) v).map (·.1) = keysOf (ks ++ [x]) := by
  have hn : valV kvs (.inl (x : Int)) = none := by
    have := keys_val h x
    rw [decide_eq_false hx] at this
    cases q : valV kvs (.inl (x : Int)) with
    | none => rfl
    | some v => rw [q] at this; cases this
  rw [putK_new _ hn, List.map_append, h]
  unfold keysOf
  rw [List.map_append]
  rfl
theorem keys_len {kvs : List (Key × V)} {ks : List Nat} (h : kvs.map (·.1) = keysOf ks) : kvs.length = ks.length := by
  have := congrArg List.length h
  unfold keysOf at this
  rw [List.length_map, List.length_map] at this
  exact this
def sp_piece_of (K : PySem.W.Frag) : Sp := fun vs H Q _ => ∃ n ow as s b, vs = [.ref n, .int (b : Nat)] ∧ NetAt K ow as H n s ∧ Inv s ∧ Vbcnac.isOn s b = true ∧ ∀ D H' ks, Same H H' → H D = none → KsAt H' D ks → (∀ x, x ∈ ks ↔ Rc s b x) → ks.length ≤ 32 → Q (.ref D) H'
theorem sc_piece_of : FnScope ["net", "number", "piece", "waiting", "cost", "other"] ["net", "number"] D_piece_of.scope := ⟨rfl, rfl, rfl, by decide +kernel, rfl, by decide +kernel, by decide +kernel⟩
-- level 3; slots 0:net 1:number 2:piece 3:waiting 4:cost 5:other; captured []
theorem ok_piece_of (T : Txt K mg) (G_neighbours_of : Does P w K mg base 2 "neighbours_of" ["net", "number"] (sp_neighbours_of K)) : Does P w K mg base 3 "piece_of" ["net", "number"] (sp_piece_of K) := by
  refine does_of T 46 (d := D_piece_of) rfl rfl rfl rfl T.g_piece_of sc_piece_of (fun _ _ _ _ _ _ us hl => match us, hl with | [_, _], _ => rfl) (fun vs H Q E h => by obtain ⟨_, _, _, _, _, rfl, _⟩ := h; rfl) (fun cdv A outer s H vs Q E hr h => ⟨_, (pss_cons (ps_set (i := 2) sc_piece_of.nd rfl (.inl rfl) (pe_disp (pps_cons (pv 1) pe_bl pps_nil) (by rfl) (by rfl) (fun z => by cases z) (by decide)))
      (pss_cons (ps_set (i := 3) sc_piece_of.nd rfl (.inl rfl) (pe_lst (pa_cons (pv 1) pa_nil)))
      (pss_cons (ps_while PassesOwn.never (pt_cmpR (op_neD (hu64 hr)) (pv 3) (pe_lst pa_nil) (nomark _)) (pss_one (ps_for PassesOwn.never rfl (pi_list (pe_f G_neighbours_of (hr.mono (by decide)) (by rfl) (pa_cons (pv 0) (pa_cons (pe_bm0 PySem.F.plainAttrs_list PySem.F.slot_list_pop PySem.F.type_list_pop mt_pop (pv 3)) pa_nil)))) (pg_tup (n := 2) rfl (pgs_cons (pg_name (i := 4) sc_piece_of.nd rfl (.inl rfl)) (pgs_cons (pg_name (i := 5) sc_piece_of.nd rfl (.inl rfl)) pgs_nil))) (pss_one (ps_if (pt_cmp (pc_dnotin (hu_of hr) (pv 5) (pv 2)) rfl) (pss_cons (ps_dput (hu_of hr) (pv 2) (pv 5) pe_bl rfl)
      (pss_one (ps_expr (pe_bm PySem.F.plainAttrs_list PySem.F.slot_list_append PySem.F.type_list_append mt_append (pv 3) (pa_cons (pv 5) pa_nil))))) pss_nil)))))
      (pss_one (ps_ret (pv 2)))))), ?_⟩)
  obtain ⟨n, ow, as, s, b, rfl, N, I, hon, hQ⟩ := h
  refine r_seq (r_set (fun D nD => ?_))
  refine go (te := tVar 1) (v := .int (b : Nat)) vv ?_
  refine r_c (v := .bl true) ⟨upd_same, [(.inl (b : Int), .bl true)], rfl, by show 1 ≤ 15; decide, nx ?_⟩
  rw [upd_upd]
  have eD : Same H (upd H D (.dK (mergeK [] [(.inl (b : Int), V.bl true)]))) := same_new nD
  have bD : KsAt (upd H D (.dK (mergeK [] [(.inl (b : Int), V.bl true)]))) D [b] := ⟨_, upd_same, rfl⟩
  generalize (upd H D (.dK (mergeK [] [(.inl (b : Int), V.bl true)]))) = H2 at eD bD
  refine r_seq (r_set (r_lst (r_cons (go vv (r_nil ⟨by show 1 ≤ sizeLine; decide, fun Lw nw => nx ?_⟩)))))
  have ew : Same H2 (upd H2 Lw (.lst [.int (b : Nat)])) := same_new nw
  have nw0 : H Lw = none := eD.free nw
  have hne : D ≠ Lw := by
    obtain ⟨kvs, h1, _⟩ := bD
    exact ne_of_none h1 nw
  have bD3 : KsAt (upd H2 Lw (.lst [.int (b : Nat)])) D [b] := by
    obtain ⟨kvs, h1, h2⟩ := bD
    exact ⟨kvs, ew _ _ h1, h2⟩
  refine r_seq3 (fun σ' H' => ∃ v4 v5 ks, σ' = [some (.ref n), some (.int (b : Nat)), some (.ref D), some (.ref Lw), v4, v5] ∧ Srp s b ks ∧ (∀ x ∈ ks, ∀ y c, Lv s x y c → y ∈ ks) ∧ Same H H' ∧ KsAt H' D ks) ?after fun after => ?loop
  case after =>
    rintro σ' H3 ⟨v4, v5, ks, rfl, S, hc, e3, hk⟩
    exact r_ret (go vv (hQ D H3 ks e3 nD hk (S.all hc) (S.len I)))
  case loop =>
    refine ⟨fun m σ' H' => ∃ v4 v5 ks W, m = 2 * (32 - ks.length) + W.length ∧ 2 * (32 - ks.length) + W.length ≤ 63 ∧ σ' = [some (.ref n), some (.int (b : Nat)), some (.ref D), some (.ref Lw), v4, v5] ∧ Srp s b ks ∧ (∀ x ∈ W, x ∈ ks) ∧ (∀ x ∈ ks, x ∈ W ∨ ∀ y c, Lv s x y c → y ∈ ks) ∧ Same H H' ∧ KsAt H' D ks ∧ H' Lw = some (.lst (W.map fun n : Nat => V.int n)),
      ⟨_, none, none, _, [b], rfl, by show 2 * (32 - 1) + 1 ≤ 63; decide, rfl, srp_start hon, fun x hx => hx, fun x hx => .inl hx, eD.trans ew, bD3, upd_same⟩, ?_⟩
    rintro m σ' H3 ⟨v4, v5, ks, W, rfl, hm63, rfl, S, hW, cov, e3, hB, hw⟩
    refine r_test (r_op (go vv (r_lst (r_nil ⟨by show 0 ≤ sizeLine; decide, fun le ne => ?_⟩))))
    have et : Same H3 (upd H3 le (.lst [])) := same_new ne
    refine ⟨_, _, .lst (SqL.of (et _ _ hw)) (dp_ints W), .lst (SqL.of upd_same) .nil, okd_ints W, okd_nil, _, rfl, ?_⟩
    rw [eqv_nil]
    have hB4 : KsAt (upd H3 le (.lst [])) D ks := by
      obtain ⟨kvs, h1, h2⟩ := hB
      exact ⟨kvs, et _ _ h1, h2⟩
    have e4 := e3.trans et
    have hw4 := et _ _ hw
    generalize (upd H3 le (.lst [])) = H4 at hB4 e4 hw4
    rcases List.eq_nil_or_concat W with rfl | ⟨W', x, rfl⟩
    · refine if_n (after _ _ ⟨_, _, ks, rfl, S, fun x hx => (cov x hx).elim (fun z => by cases z) id, e4, hB4⟩)
    · rw [List.concat_eq_append] at hm63 hW cov hw4 ⊢
      have hnil : ((W' ++ [x]).map fun n : Nat => PyData.int n).isEmpty = false := by
        rw [List.map_append]
        cases W'.map fun n : Nat => PyData.int n <;> rfl
      rw [hnil]
      refine if_y ⟨fun σ' H' => ∃ (v4 v5 : Option V) (ks' W2 : List Nat), 2 * (32 - ks'.length) + W2.length < 2 * (32 - ks.length) + (W' ++ [x]).length ∧ σ' = [some (.ref n), some (.int (b : Nat)), some (.ref D), some (.ref Lw), v4, v5] ∧ Srp s b ks' ∧ (∀ x ∈ W2, x ∈ ks') ∧ (∀ x ∈ ks', x ∈ W2 ∨ ∀ y c, Lv s x y c → y ∈ ks') ∧ Same H H' ∧ KsAt H' D ks' ∧ H' Lw = some (.lst (W2.map fun n : Nat => V.int n)), ?_, ?_⟩
      · rintro σ' H' ⟨v4, v5, ks', W2, q0, q1, q2, q3, q4, q5, q6, q7⟩
        exact ⟨_, q0, v4, v5, ks', W2, rfl, by omega, q1, q2, q3, q4, q5, q6, q7⟩
      · have hxk : x ∈ ks := hW x (by simp)
        have hxr := S.rc x hxk
        refine r_for (r_ilist (r_call (r_cons (go vv (r_cons (r_bm0 (go vv ⟨ty_list hw4, Lw, _, .int (x : Nat), rfl, rfl, hw4, ?_, r_nil ?_⟩)))))))
        · rw [List.map_append, List.length_append, List.getElem?_append_right (by simp)]
          simp
        · rw [List.map_append, List.map_cons, List.map_nil, List.dropLast_concat]
          have e5 : Same H (upd H4 Lw (.lst (W'.map fun n : Nat => V.int n))) := same_upd e4 nw0
          have hB5 : KsAt (upd H4 Lw (.lst (W'.map fun n : Nat => V.int n))) D ks := by
            obtain ⟨kvs, h1, h2⟩ := hB4
            exact ⟨kvs, by rw [upd_ne hne]; exact h1, h2⟩
          have hw5 : (upd H4 Lw (.lst (W'.map fun n : Nat => V.int n))) Lw = some (.lst (W'.map fun n : Nat => V.int n)) := upd_same
          generalize (upd H4 Lw (.lst (W'.map fun n : Nat => V.int n))) = H5 at e5 hB5 hw5
          have kl := S.len I
          refine ⟨n, ow, as, s, x, rfl, N.same e5, I, on_lt hxr.on.2, fun p H6 us e6 np hp pp => ⟨p, rfl, ⟨us, SqL.of hp⟩, for_it walk_list
            (fun i σ H' => ∃ (v4 v5 : Option V) (ks' W2 : List Nat), σ = [some (.ref n), some (.int (b : Nat)), some (.ref D), some (.ref Lw), v4, v5] ∧ 2 * (32 - ks'.length) + W2.length ≤ 2 * (32 - ks.length) + W'.length ∧ Srp s b ks' ∧ x ∈ ks' ∧ (∀ z ∈ W2, z ∈ ks') ∧ (∀ z ∈ ks', z = x ∨ z ∈ W2 ∨ ∀ y c, Lv s z y c → y ∈ ks') ∧ (∀ e ∈ (nbs s x).take i, e.2 ∈ ks') ∧ Same H H' ∧ KsAt H' D ks' ∧ H' Lw = some (.lst (W2.map fun n : Nat => V.int n)) ∧ H' p = some (.lst us) ∧ Paired (Pt H') us (nbs s x))
            ⟨v4, v5, ks, W', rfl, Nat.le_refl _, S, hxk, fun z hz => hW z (by simp [hz]), fun z hz => (cov z hz).elim (fun h => (List.mem_append.mp h).elim (fun h => .inr (.inl h)) fun h => .inl (List.mem_singleton.mp h)) (fun h => .inr (.inr h)), fun e he => (by simp at he), e5.trans e6, hB5.elim fun kvs h => ⟨kvs, e6 _ _ h.1, h.2⟩, e6 _ _ hw5, hp, pp⟩ (fun i σ H' _ ⟨_, _, _, _, _, _, _, _, _, _, _, _, _, _, h, _⟩ => SqL.of h) ?hs ?hd⟩⟩
          case hd =>
            rintro σ H7 ⟨v4, v5, ks', W2, rfl, q0, S', hx', hW2, cov2, dn, e7, hB7, hw7, hp7, pp7⟩
            rw [Paired.length pp7, List.take_length] at dn
            refine ⟨v4, v5, ks', W2, by rw [List.length_append, List.length_singleton]; omega, rfl, S', hW2, fun z hz => ?_, e7, hB7, hw7⟩
            rcases cov2 z hz with h | h | h
            · refine .inr fun y c hl => ?_
              rw [h] at hl
              exact dn (c, y) (mem_nbs.mpr hl)
            · exact .inl h
            · exact .inr h
          case hs =>
            rintro i y σ H7 H8 hi ⟨v4, v5, ks', W2, rfl, q0, S', hx', hW2, cov2, dn, e7, hB7, hw7, hp7, pp7⟩ ⟨rfl, hy⟩
            obtain ⟨ed, hed, t, rfl, ht⟩ := Paired.get pp7 hy
            have tk := take_succ' hed
            have hed2 : Lv s x ed.2 ed.1 := mem_nbs.mp (List.mem_of_getElem? hed)
            have hnil2 : H5 p = none := np
            obtain ⟨kvs, p1, p2⟩ := hB7
            have hpD : p ≠ D := by
              obtain ⟨kv5, g1, _⟩ := hB5
              exact (ne_of_none g1 np).symm
            have hpw : p ≠ Lw := (ne_of_none hw5 np).symm
            refine Sw.g2 ht (r_if (r_test (r_dnin (go vv (go vv ⟨D, _, rfl, DGet.k (k := .inl (ed.2 : Int)) p1, _, rfl, ?_⟩)))))
            rw [keys_val p2]
            by_cases hv : ed.2 ∈ ks'
            · rw [decide_eq_true hv]
              refine if_n (r_next ⟨_, _, ks', W2, rfl, q0, S', hx', hW2, cov2, fun e he => ?_, e7, ⟨kvs, p1, p2⟩, hw7, hp7, pp7⟩)
              rw [tk] at he
              exact (List.mem_append.mp he).elim (dn e) fun h => by rw [List.mem_singleton.mp h]; exact hv
            · rw [decide_eq_false hv]
              have S2 := S'.add hx' hed2 hv
              have kl2 := S2.len I
              rw [List.length_append, List.length_singleton] at kl2
              have kl3 := keys_len p2
              refine if_y (r_seq (r_dput (r_c (go vv (go vv ⟨D, _, rfl, DPut.k (k := .inl (ed.2 : Int)) p1 (by rw [kl3]; exact Nat.lt_of_le_of_lt (show ks'.length ≤ 32 by omega) (by decide)), nx ?_⟩)))))
              have tt : Tup H8 (upd H8 D (.dK (putK kvs (.inl (ed.2 : Int)) (.bl true)))) := tup_upd p1 rfl
              have hwa : (upd H8 D (.dK (putK kvs (.inl (ed.2 : Int)) (.bl true)))) Lw = some (.lst (W2.map fun n : Nat => V.int n)) := by
                rw [upd_ne hne.symm]
                exact hw7
              have t5 : Tup (upd H8 D (.dK (putK kvs (.inl (ed.2 : Int)) (.bl true)))) (upd (upd H8 D (.dK (putK kvs (.inl (ed.2 : Int)) (.bl true)))) Lw (.lst ((W2.map fun n : Nat => V.int n) ++ [.int (ed.2 : Nat)]))) := tup_upd hwa rfl
              have wl : (W2.map fun n : Nat => V.int n).length < sizeLine := by
                rw [List.length_map]
                exact Nat.lt_of_le_of_lt (show W2.length ≤ 200 by
                  rw [List.length_append] at hm63
                  omega) (by decide)
              refine r_drop (r_bm (go vv ⟨ty_list hwa, r_cons (go vv (r_nil ⟨Lw, _, .int (ed.2 : Nat), rfl, rfl, hwa, wl, _, _, ks' ++ [ed.2], W2 ++ [ed.2], rfl, ?_, S2, List.mem_append_left _ hx', fun z hz => ?_, fun z hz => ?_, fun e he => ?_, same_upd (same_upd e7 nD) nw0, ⟨_, ?_, keys_put p2 hv (.bl true)⟩, ?_, ?_, Paired.imp (fun _ _ h => (h.mono tt).mono t5) pp7⟩))⟩))
              · rw [List.length_append, List.length_append, List.length_singleton]
                show 2 * (32 - (ks'.length + 1)) + (W2.length + 1) ≤ _
                omega
              · exact (List.mem_append.mp hz).elim (fun h => List.mem_append_left _ (hW2 z h)) fun h => List.mem_append_right _ h
              · rcases List.mem_append.mp hz with hz | hz
                · rcases cov2 z hz with h | h | h
                  · exact .inl h
                  · exact .inr (.inl (List.mem_append_left _ h))
                  · exact .inr (.inr fun y c hl => List.mem_append_left _ (h y c hl))
                · exact .inr (.inl (List.mem_append_right _ hz))
              · rw [tk] at he
                exact (List.mem_append.mp he).elim (fun h => List.mem_append_left _ (dn e h)) fun h => by rw [List.mem_singleton.mp h]; simp
              · rw [upd_ne hne]
                exact upd_same
              · rw [upd_same, List.map_append]
                rfl
              · rw [upd_ne hpw, upd_ne hpD]
                exact hp7
/-! ### chief_of -/
theorem NetAt.frz {ow : Addr → Nat} {as : List Addr} {H H' : Hp} {n D : Addr} {s : Vbcnac.State} {o : HO} (N : NetAt K ow as H n s) (h0 : ow D = 0) (hD : H D = some o) (ho : isT o = false) (fr : ∀ c o, H c = some o → c ≠ D → H' c = some o) : NetAt K ow as H' n s := N.keep fun b o' q z => fr b o' q fun y => by
  rw [y] at z q
  rw [hD] at q
  cases q
  rcases z with z | z
  · exact z h0
  · rw [ho] at z
    cases z
theorem name_row {s : Vbcnac.State} {x : Nat} : [V.int ((Vbcnac.bridgeAt s x).rank : Nat), V.int ((Vbcnac.bridgeAt s x).number : Nat)] = rowV [(Vbcnac.nameAt s x).1, (Vbcnac.nameAt s x).2] := rfl
def sp_chief_of (K : PySem.W.Frag) : Sp := fun vs H Q _ => ∃ n D ow as s ks, vs = [.ref n, .ref D] ∧ NetAt K ow as H n s ∧ KsAt H D ks ∧ ow D = 0 ∧ ks ≠ [] ∧ (∀ x ∈ ks, x < s.bridges.length) ∧ ∀ c H', c ∈ ks → (∀ z ∈ ks, Vbcnac.nameLess (Vbcnac.nameAt s z) (Vbcnac.nameAt s c) = false) → Same H H' → Q (.int (c : Nat)) H'
theorem sc_chief_of : FnScope ["net", "piece", "chief", "number"] ["net", "piece"] D_chief_of.scope := ⟨rfl, rfl, rfl, by decide +kernel, rfl, by decide +kernel, by decide +kernel⟩
-- level 2; slots 0:net 1:piece 2:chief 3:number; captured []
theorem ok_chief_of (T : Txt K mg) (G_name_of : Does P w K mg base 1 "name_of" ["bridge"] (sp_name_of K)) : Does P w K mg base 2 "chief_of" ["net", "piece"] (sp_chief_of K) := by
  refine does_of T 47 (d := D_chief_of) rfl rfl rfl rfl T.g_chief_of sc_chief_of (fun _ _ _ _ _ _ us hl => match us, hl with | [_, _], _ => rfl) (fun vs H Q E h => by obtain ⟨_, _, _, _, _, _, rfl, _⟩ := h; rfl) (fun cdv A outer s H vs Q E hr h => ⟨_, (pss_cons (ps_set (i := 2) sc_chief_of.nd rfl (.inl rfl) pe_non)
      (pss_cons (ps_lock (ps_for PassesOwn.never rfl (pi_keys (pv 1)) (pg_name (i := 3) sc_chief_of.nd rfl (.inl rfl)) (pss_one (ps_if (PW.pt (pw_or (pt_cmpR op_isN (pv 2) pe_non (nomark _)) (pw_or1 (pt_cmpR (op_ltT hr.units0) (pe_f G_name_of (hr.mono (by decide)) (by rfl) (pa_cons (pe_ix ix_list (pe_fld (pv 0) rfl) (pv 3) (fun _ _ => rfl)) pa_nil)) (pe_f G_name_of (hr.mono (by decide)) (by rfl) (pa_cons (pe_ix ix_list (pe_fld (pv 0) rfl) (pv 2) (fun _ _ => rfl)) pa_nil)) (nomark _))))) (pss_one (ps_set (i := 2) sc_chief_of.nd rfl (.inl rfl) (pv 3))) pss_nil))))
      (pss_one (ps_ret (pv 2))))), ?_⟩)
  obtain ⟨n, D, ow, as, s, ks, rfl, N, ⟨kvs, hD, hks⟩, h0, hne, hlt, hQ⟩ := h
  have hlen := keys_len hks
  refine r_seq (r_set (r_c (nx ?_)))
  refine r_seq ?_
  refine ⟨D, .dK kvs, hD, trivial, fun od => ?_⟩
  refine r_for (go vv ⟨D, od, rfl, .inl ⟨kvs, upd_same, for_it walk_keys
    (fun i σ H' => ∃ vb v3, σ = [some (.ref n), some (.ref D), some vb, v3] ∧ (∀ c o, H c = some o → c ≠ D → H' c = some o) ∧ H' D = some (.frz od (.dK kvs)) ∧ ((vb = .non ∧ i = 0) ∨ ∃ c : Nat, vb = .int (c : Nat) ∧ c ∈ ks.take i ∧ ∀ z ∈ ks.take i, Vbcnac.nameLess (Vbcnac.nameAt s z) (Vbcnac.nameAt s c) = false))
    ⟨.non, none, rfl, fun c o q z => by rw [upd_ne z]; exact q, upd_same, .inl ⟨rfl, rfl⟩⟩ (fun i σ H' _ ⟨_, _, _, _, h, _⟩ => h) ?hs ?hd⟩⟩)
  case hs =>
    rintro i y σ H1 H2 hi ⟨vb, v3, rfl, fr, hf, hb⟩ ⟨rfl, ky, vy, hky, rfl⟩
    have hi2 : i < ks.length := by rw [← hlen]; exact hi
    have hx : ks[i]? = some ks[i] := List.getElem?_eq_getElem hi2
    have hkx : ky = .inl (ks[i] : Int) := by
      have h1 : (kvs.map (·.1))[i]? = some ky := by rw [List.getElem?_map, hky]; rfl
      rw [hks] at h1
      unfold keysOf at h1
      rw [List.getElem?_map, hx] at h1
      exact (Option.some.inj h1).symm
    subst hkx
    have tk := take_succ' hx
    generalize hxx : ks[i] = x at hx tk
    have hxm : x ∈ ks := List.mem_of_getElem? hx
    have N1 := N.frz h0 hD rfl fr
    show gName 3 (.int (x : Nat)) _ _ _
    refine r_if (r_or (r_test (r_op (go vv (r_c ⟨rfl, _, rfl, ?_⟩)))))
    rcases hb with ⟨rfl, rfl⟩ | ⟨c, rfl, hc, hm⟩
    · refine if_y (if_y (r_set (go vv ⟨_, _, rfl, fr, hf, .inr ⟨x, rfl, ?_, ?_⟩⟩)))
      · rw [tk]
        simp
      · intro z hz
        rw [tk] at hz
        rw [show z = x by simpa using hz]
        exact less_irrefl _
    · have hck : c ∈ ks := List.mem_of_mem_take hc
      obtain ⟨a1, ea1⟩ := N1.addr (hlt x hxm)
      obtain ⟨dx1, l1, st1, ws1, kv1, B1⟩ := N1.br x a1 ea1
      refine if_n (r_test (r_op (r_call (r_cons (go (N1.bridge T ea1 vv vv) (r_nil ⟨ow, x, a1, _, dx1, l1, st1, ws1, kv1, rfl, B1, fun t1 n1 => ?_⟩))))))
      have e1 := same_new (o := .tup [.int ((Vbcnac.bridgeAt s x).rank : Nat), .int ((Vbcnac.bridgeAt s x).number : Nat)]) n1
      have N2 := N1.same e1
      obtain ⟨a2, ea2⟩ := N2.addr (hlt c hck)
      obtain ⟨dx2, l2, st2, ws2, kv2, B2⟩ := N2.br c a2 ea2
      refine r_call (r_cons (go (N2.bridge T ea2 vv vv) (r_nil ⟨ow, c, a2, _, dx2, l2, st2, ws2, kv2, rfl, B2, fun t2 n2 => ?_⟩)))
      have e2 := same_new (o := .tup [.int ((Vbcnac.bridgeAt s c).rank : Nat), .int ((Vbcnac.bridgeAt s c).number : Nat)]) n2
      refine v_ltR (l := [(Vbcnac.nameAt s x).1, (Vbcnac.nameAt s x).2]) (m := [(Vbcnac.nameAt s c).1, (Vbcnac.nameAt s c).2]) (e2 _ _ upd_same) upd_same ⟨_, rfl, ?_⟩
      have ee := e1.trans e2
      have fr2 : ∀ c' o, H c' = some o → c' ≠ D → (upd (upd H2 t1 (.tup [.int ((Vbcnac.bridgeAt s x).rank : Nat), .int ((Vbcnac.bridgeAt s x).number : Nat)])) t2 (.tup [.int ((Vbcnac.bridgeAt s c).rank : Nat), .int ((Vbcnac.bridgeAt s c).number : Nat)])) c' = some o := fun c' o q z => ee _ _ (fr c' o q z)
      have hf2 := ee _ _ hf
      cases hl : Vbcnac.less [(Vbcnac.nameAt s x).1, (Vbcnac.nameAt s x).2] [(Vbcnac.nameAt s c).1, (Vbcnac.nameAt s c).2] with
      | true =>
        refine if_y (r_set (go vv ⟨_, _, rfl, fr2, hf2, .inr ⟨x, rfl, ?_, fun z hz => ?_⟩⟩))
        · rw [tk]
          simp
        · rw [tk] at hz
          rcases List.mem_append.mp hz with hz | hz
          · cases q : Vbcnac.nameLess (Vbcnac.nameAt s z) (Vbcnac.nameAt s x) with
            | false => rfl
            | true =>
              have : Vbcnac.nameLess (Vbcnac.nameAt s z) (Vbcnac.nameAt s c) = true := less_trans q hl
              rw [hm z hz] at this
              cases this
          · rw [List.mem_singleton.mp hz]
            exact less_irrefl _
      | false =>
        refine if_n (r_next ⟨_, _, rfl, fr2, hf2, .inr ⟨c, rfl, ?_, fun z hz => ?_⟩⟩)
        · rw [tk]
          exact List.mem_append_left _ hc
        · rw [tk] at hz
          rcases List.mem_append.mp hz with hz | hz
          · exact hm z hz
          · rw [List.mem_singleton.mp hz]
            exact hl
  case hd =>
    rintro σ H1 ⟨vb, v3, rfl, fr, hf, hb⟩
    refine ⟨hf, nx ?_⟩
    have e2 : Same H (upd H1 D (.dK kvs)) := fun c o q => by
      by_cases y : c = D
      · rw [y, hD] at q
        rw [y, upd_same, ← q]
      · rw [upd_ne y]
        exact fr c o q y
    rw [hlen, List.take_length] at hb
    rcases hb with ⟨_, hz⟩ | ⟨c, rfl, hc, hm⟩
    · exact absurd (List.eq_nil_of_length_eq_zero hz) hne
    · exact r_ret (go vv (hQ c _ hc hm e2))
end
end Sw
namespace Sw
open PySem PySem.Spec PyProof.Rows L2
/-! ### spread_costs -/
def cstV (s : Vbcnac.State) (d : Nat → Option Nat) : List V := (List.range s.bridges.length).map fun x => parV (d x)
theorem cst_get {s : Vbcnac.State} {d : Nat → Option Nat} {x : Nat} (h : x < s.bridges.length) : (cstV s d)[x]? = some (parV (d x)) := by
  unfold cstV
  rw [List.getElem?_map, List.getElem?_range h]
  rfl
theorem cst_len (s : Vbcnac.State) (d : Nat → Option Nat) : (cstV s d).length = s.bridges.length := by
  unfold cstV
  rw [List.length_map, List.length_range]
theorem cst_set (s : Vbcnac.State) (d : Nat → Option Nat) (x u : Nat) : (cstV s d).set x (.int (u : Nat)) = cstV s (putN d x u) := by
  unfold cstV
  rw [range_set]
  refine List.map_congr_left fun i _ => ?_
  unfold putN
  by_cases h : i = x
  · rw [if_pos h, if_pos h]
    rfl
  · rw [if_neg h, if_neg h]
theorem NetAt.loose2 {K : PySem.W.Frag} {ow : Addr → Nat} {as : List Addr} {H H' : Hp} {n D L : Addr} {s : Vbcnac.State} {o o2 : HO} (N : NetAt K ow as H n s) (h0 : ow D = 0) (hD : H D = some o) (ho : isT o = false) (h2 : ow L = 0) (hL : H L = some o2) (ho2 : isT o2 = false) (fr : ∀ c o, H c = some o → c ≠ L → c ≠ D → H' c = some o) : NetAt K ow as H' n s := N.keep fun b o' q z => by
  refine fr b o' q (fun y => ?_) fun y => ?_
  · rw [y] at z q
    rw [hL] at q
    cases q
    rcases z with z | z
    · exact z h2
    · rw [ho2] at z
      cases z
  · rw [y] at z q
    rw [hD] at q
    cases q
    rcases z with z | z
    · exact z h0
    · rw [ho] at z
      cases z
section
variable {P : Program} {w : World} {K : PySem.W.Frag} {mg : Str → Option Value} {base : Heap}
def sp_spread_costs (K : PySem.W.Frag) : Sp := fun vs H Q _ => ∃ n D L ow as s ks b c d, vs = [.ref n, .ref D, .ref L] ∧ NetAt K ow as H n s ∧ Inv s ∧ KsAt H D ks ∧ ow D = 0 ∧ ow L = 0 ∧ H L = some (.lst (cstV s d)) ∧ Bas s b c ks d 0 ∧
  ∀ d' H', (∀ x, Rc s b x → d' x = dst s x) → (∀ x, ¬ Rc s b x → d' x = d x) → (∀ a o, H a = some o → a ≠ L → H' a = some o) → H' L = some (.lst (cstV s d')) → Q .non H'
theorem sc_spread_costs : FnScope ["net", "piece", "costs", "is_done", "number", "cost", "other"] ["net", "piece", "costs"] D_spread_costs.scope := ⟨rfl, rfl, rfl, by decide +kernel, rfl, by decide +kernel, by decide +kernel⟩
-- level 3; slots 0:net 1:piece 2:costs 3:is_done 4:number 5:cost 6:other; captured []
theorem ok_spread_costs (T : Txt K mg) (G_neighbours_of : Does P w K mg base 2 "neighbours_of" ["net", "number"] (sp_neighbours_of K)) : Does P w K mg base 3 "spread_costs" ["net", "piece", "costs"] (sp_spread_costs K) := by
  refine does_of T 49 (d := D_spread_costs) rfl rfl rfl rfl T.g_spread_costs sc_spread_costs (fun _ _ _ _ _ _ us hl => match us, hl with | [_, _, _], _ => rfl) (fun vs H Q E h => by obtain ⟨_, _, _, _, _, _, _, _, _, _, rfl, _⟩ := h; rfl) (fun cdv A outer s H vs Q E hr h => ⟨_, (pss_cons (ps_set (i := 3) sc_spread_costs.nd rfl (.inl rfl) pe_bl)
      (pss_one (ps_while PassesOwn.never (pt_not (pt_val (pv 3))) (pss_cons (ps_set (i := 3) sc_spread_costs.nd rfl (.inl rfl) pe_bl)
      (pss_one (ps_lock (ps_for PassesOwn.never rfl (pi_keys (pv 1)) (pg_name (i := 4) sc_spread_costs.nd rfl (.inl rfl)) (pss_one (ps_for PassesOwn.never rfl (pi_list (pe_f G_neighbours_of (hr.mono (by decide)) (by rfl) (pa_cons (pv 0) (pa_cons (pv 4) pa_nil)))) (pg_tup (n := 2) rfl (pgs_cons (pg_name (i := 5) sc_spread_costs.nd rfl (.inl rfl)) (pgs_cons (pg_name (i := 6) sc_spread_costs.nd rfl (.inl rfl)) pgs_nil))) (pss_one (ps_if (PW.pt (pw_and (pt_cmpR op_notN (pe_ix ix_list (pv 2) (pv 6) (fun _ _ => rfl)) pe_non (nomark _)) (pw_and1 (PW.pt (pw_or (pt_cmpR op_isN (pe_ix ix_list (pv 2) (pv 4) (fun _ _ => rfl)) pe_non (nomark _)) (pw_or1 (pt_cmpR op_lt (pe_op op_add (pe_ix ix_list (pv 2) (pv 6) (fun _ _ => rfl)) (pv 5)) (pe_ix ix_list (pv 2) (pv 4) (fun _ _ => rfl)) (nomark _)))))))) (pss_cons (ps_asg (pe_op op_add (pe_ix ix_list (pv 2) (pv 6) (fun _ _ => rfl)) (pv 5)) (pg_sub (pv 2) (pv 4) set_list))
      (pss_one (ps_set (i := 3) sc_spread_costs.nd rfl (.inl rfl) pe_bl))) pss_nil))))))))))), ?_⟩)
  obtain ⟨n, D, L, ow, as, s, ks, b, c, d0, rfl, N, I, ⟨kvs, hD, hks⟩, w0, w1, hL, B0, hQ⟩ := h
  have hlen := keys_len hks
  have hDL : D ≠ L := ne_of hD hL (by intro z; cases z)
  refine r_seq (r_set (r_c (nx ?_)))
  refine ⟨fun m σ' H' => ∃ v4 v5 v6 k d dn, m = (if dn = true then 0 else 33 - k) ∧ σ' = [some (.ref n), some (.ref D), some (.ref L), some (.bl dn), v4, v5, v6] ∧ (dn = false → k ≤ 31) ∧ Bas s b c ks d k ∧ (dn = true → ∀ x, Rc s b x → d x = dst s x) ∧ (∀ x, ¬ Rc s b x → d x = d0 x) ∧ (∀ a o, H a = some o → a ≠ L → H' a = some o) ∧ H' L = some (.lst (cstV s d)),
    ⟨_, none, none, none, 0, d0, false, rfl, rfl, fun _ => by decide, B0, fun z => (by cases z), fun _ _ => rfl, fun a o q _ => q, hL⟩, ?_⟩
  rintro m σ' H3 ⟨v4, v5, v6, k, d, dn, rfl, rfl, hk, B, hdn, hout, fr, hL3⟩
  refine r_not (r_tb (go vv ⟨_, rfl, ?_⟩))
  cases dn with
  | true => exact if_n (hQ d H3 (hdn rfl) hout fr hL3)
  | false =>
    have hk31 := hk rfl
    refine if_y ⟨fun σ' H' => ∃ (v4 v5 v6 : Option V) (d : Nat → Option Nat) (dn : Bool), σ' = [some (.ref n), some (.ref D), some (.ref L), some (.bl dn), v4, v5, v6] ∧ (dn = false → k + 1 ≤ 31) ∧ Bas s b c ks d (k + 1) ∧ (dn = true → ∀ x, Rc s b x → d x = dst s x) ∧ (∀ x, ¬ Rc s b x → d x = d0 x) ∧ (∀ a o, H a = some o → a ≠ L → H' a = some o) ∧ H' L = some (.lst (cstV s d)), ?_, ?_⟩
    · rintro σ' H' ⟨v4, v5, v6, d, dn, q1, q2, q3, q4, q5, q6, q7⟩
      refine ⟨_, ?_, v4, v5, v6, k + 1, d, dn, rfl, q1, q2, q3, q4, q5, q6, q7⟩
      cases dn with
      | true =>
        show 0 < 33 - k
        omega
      | false =>
        show 33 - (k + 1) < 33 - k
        omega
    · refine r_seq (r_set (r_c (nx ?_)))
      have hD3 := fr _ _ hD hDL
      refine ⟨D, .dK kvs, hD3, trivial, fun od => ?_⟩
      refine r_for (go vv ⟨D, od, rfl, .inl ⟨kvs, upd_same, for_it walk_keys
        (fun i σ H' => ∃ v4 v5 v6 e dn, σ = [some (.ref n), some (.ref D), some (.ref L), some (.bl dn), v4, v5, v6] ∧ Pas s b ks d k e dn i 0 [] ∧ (∀ a o, H a = some o → a ≠ L → a ≠ D → H' a = some o) ∧ H' D = some (.frz od (.dK kvs)) ∧ H' L = some (.lst (cstV s e)))
        ⟨v4, v5, v6, d, true, rfl, pas_start B, fun a o q z1 z2 => by rw [upd_ne z2]; exact fr a o q z1, upd_same, by rw [upd_ne hDL.symm]; exact hL3⟩ (fun i σ H' _ ⟨_, _, _, _, _, _, _, _, h, _⟩ => h) ?hs ?hd⟩⟩)
      case hd =>
        rintro σ H4 ⟨v4, v5, v6, e, dn, rfl, A, fr4, hf, hL4⟩
        rw [hlen] at A
        refine ⟨hf, v4, v5, v6, e, dn, rfl, fun z => ?_, A.done B, fun z => ?_, fun x hx => (A.out x hx).trans (hout x hx), fun a o q z => ?_, ?_⟩
        · apply Decidable.byContradiction
          intro y
          have := A.dn2 (by omega)
          rw [z] at this
          cases this
        · rw [z] at A
          exact A.still I B
        · by_cases y : a = D
          · rw [y, hD] at q
            rw [y, upd_same, ← q]
          · rw [upd_ne y]
            exact fr4 a o q z y
        · rw [upd_ne hDL.symm]
          exact hL4
      case hs =>
        rintro i y σ H4 H5 hi ⟨v4, v5, v6, e, dn, rfl, A, fr4, hf, hL4⟩ ⟨rfl, ky, vy, hky, rfl⟩
        have hi2 : i < ks.length := by rw [← hlen]; exact hi
        have hx : ks[i]? = some ks[i] := List.getElem?_eq_getElem hi2
        have hkx : ky = .inl (ks[i] : Int) := by
          have h1 : (kvs.map (·.1))[i]? = some ky := by rw [List.getElem?_map, hky]; rfl
          rw [hks] at h1
          unfold keysOf at h1
          rw [List.getElem?_map, hx] at h1
          exact (Option.some.inj h1).symm
        subst hkx
        generalize hxx : ks[i] = x at hx
        have hxr : Rc s b x := (B.ks x).mp (List.mem_of_getElem? hx)
        have hxl := on_lt hxr.on.2
        have N5 := N.loose2 w0 hD rfl w1 hL rfl fr4
        show gName 4 (.int (x : Nat)) _ _ _
        have A0 : Pas s b ks d k e dn i x [] := ⟨A.snd, A.le, A.out, A.up, fun a ha => (by cases ha), fun h => ⟨(A.dn1 h).1, (A.dn1 h).2.1, fun a ha => (by cases ha)⟩, A.dn2⟩
        refine r_for (r_ilist (c2 vv vv ⟨n, ow, as, s, x, rfl, N5, I, hxl, fun p H6 us e6 np hp pp => ⟨p, rfl, ⟨us, SqL.of hp⟩, for_it walk_list
          (fun j σ H' => ∃ v5 v6 e dn, σ = [some (.ref n), some (.ref D), some (.ref L), some (.bl dn), some (.int (x : Nat)), v5, v6] ∧ Pas s b ks d k e dn i x ((nbs s x).take j) ∧ (∀ a o, H a = some o → a ≠ L → a ≠ D → H' a = some o) ∧ H' D = some (.frz od (.dK kvs)) ∧ H' L = some (.lst (cstV s e)) ∧ H' p = some (.lst us) ∧ Paired (Pt H') us (nbs s x))
          ⟨v5, v6, e, dn, rfl, A0, fun a o q z1 z2 => e6 _ _ (fr4 a o q z1 z2), e6 _ _ hf, e6 _ _ hL4, hp, pp⟩ (fun j σ H' _ ⟨_, _, _, _, _, _, _, _, _, h, _⟩ => SqL.of h) ?hs2 ?hd2⟩⟩))
        case hd2 =>
          rintro σ H7 ⟨v5, v6, e, dn, rfl, A, fr7, hf7, hL7, hp7, pp7⟩
          rw [Paired.length pp7, List.take_length] at A
          exact ⟨_, _, _, e, dn, rfl, A.next I B hx, fr7, hf7, hL7⟩
        case hs2 =>
          rintro j y σ H7 H8 hj ⟨v5, v6, e, dn, rfl, A, fr7, hf7, hL7, hp7, pp7⟩ ⟨rfl, hy⟩
          obtain ⟨ed, hed, t, rfl, ht⟩ := Paired.get pp7 hy
          have tk := take_succ' hed
          have hl : Lv s x ed.2 ed.1 := mem_nbs.mp (List.mem_of_getElem? hed)
          have hyl := on_lt hl.on.2
          have hpL : p ≠ L := (ne_of_none hL4 np).symm
          have skip : ¬ Want e x ed.2 ed.1 → ∃ v5 v6 e' dn', ([some (.ref n), some (.ref D), some (.ref L), some (.bl dn), some (.int (x : Nat)), some (.int (ed.1 : Nat)), some (.int (ed.2 : Nat))] : L2.St) = [some (.ref n), some (.ref D), some (.ref L), some (.bl dn'), some (.int (x : Nat)), v5, v6] ∧ Pas s b ks d k e' dn' i x ((nbs s x).take (j + 1)) ∧ (∀ a o, H a = some o → a ≠ L → a ≠ D → H8 a = some o) ∧ H8 D = some (.frz od (.dK kvs)) ∧ H8 L = some (.lst (cstV s e')) ∧ H8 p = some (.lst us) ∧ Paired (Pt H8) us (nbs s x) := fun hn => by
            refine ⟨_, _, e, dn, rfl, ?_, fr7, hf7, hL7, hp7, pp7⟩
            rw [tk]
            exact A.skip B hxr hl hn
          refine Sw.g2 ht (r_if (r_and (r_test (r_op (go (v_ixL vv vv hL7 (cst_get hyl)) (r_c ⟨rfl, _, rfl, ?_⟩))))))
          cases qy : e ed.2 with
          | none =>
            refine if_n (if_n (r_next (skip fun ⟨u, h1, _⟩ => ?_)))
            rw [qy] at h1
            cases h1
          | some u =>
            have take : Want e x ed.2 ed.1 → ∀ D' : Ends, (∀ σ H', (∃ v5 v6 e' dn', σ = [some (.ref n), some (.ref D), some (.ref L), some (.bl dn'), some (.int (x : Nat)), v5, v6] ∧ Pas s b ks d k e' dn' i x ((nbs s x).take (j + 1)) ∧ (∀ a o, H a = some o → a ≠ L → a ≠ D → H' a = some o) ∧ H' D = some (.frz od (.dK kvs)) ∧ H' L = some (.lst (cstV s e')) ∧ H' p = some (.lst us) ∧ Paired (Pt H') us (nbs s x)) → D'.nx σ H') →
                tSeq (tAsg (tOp (rI0 fun i j => .int (i + j)) (tOp (rIxL K) (tVar 2) (tVar 6)) (tVar 5)) (gSub (tVar 2) (tVar 4) rSetL)) (tAsg (tC (.bl false)) (gName 3)) D' [some (.ref n), some (.ref D), some (.ref L), some (.bl dn), some (.int (x : Nat)), some (.int (ed.1 : Nat)), some (.int (ed.2 : Nat))] H8 := fun hw D' hD' => by
              have hget : (cstV s e)[ed.2]? = some (.int (u : Nat)) := by
                rw [cst_get hyl, qy]
                rfl
              refine r_seq (r_setL (v_add (v_ixL vv vv hL7 hget) vv) vv vv hL7 (by rw [cst_len]; exact hxl) (nx (r_set (r_c (hD' _ _ ⟨_, _, putN e x (u + ed.1), false, rfl, ?_, ?_, ?_, ?_, ?_, ?_⟩)))))
              · rw [tk]
                exact A.take I B hxr hl hw qy
              · intro a o q z1 z2
                rw [upd_ne z1]
                exact fr7 a o q z1 z2
              · rw [upd_ne hDL]
                exact hf7
              · rw [upd_same, ← cst_set]
                rfl
              · rw [upd_ne hpL]
                exact hp7
              · exact Paired.imp (fun _ _ h => h.mono (tup_upd hL7 rfl)) pp7
            refine if_y (r_or (r_test (r_op (go (v_ixL vv vv hL7 (cst_get hxl)) (r_c ⟨rfl, _, rfl, ?_⟩)))))
            cases qx : e x with
            | none => exact if_y (if_y (take ⟨u, qy, fun v hv => by rw [qx] at hv; cases hv⟩ _ fun _ _ h => h))
            | some mx =>
              have hget : (cstV s e)[ed.2]? = some (.int (u : Nat)) := by
                rw [cst_get hyl, qy]
                rfl
              have hget2 : (cstV s e)[x]? = some (.int (mx : Nat)) := by
                rw [cst_get hxl, qx]
                rfl
              refine if_n (r_test (r_op (r_op (go (v_ixL vv vv hL7 hget) (go vv ⟨_, _, rfl, rfl, go (v_ixL vv vv hL7 hget2) ⟨_, _, rfl, rfl, _, rfl, ?_⟩⟩)))))
              by_cases hlt : u + ed.1 < mx
              · rw [decide_eq_true (by omega)]
                refine if_y (take ⟨u, qy, fun v hv => ?_⟩ _ fun _ _ h => h)
                rw [qx] at hv
                rw [← Option.some.inj hv]
                exact hlt
              · rw [decide_eq_false (by omega)]
                refine if_n (r_next (skip fun ⟨u', h1, h2⟩ => ?_))
                rw [qy] at h1
                cases h1
                exact hlt (h2 mx qx)
end
end Sw
namespace Sw
open PySem PySem.Spec PyProof.Rows L2
section
variable {P : Program} {w : World} {K : PySem.W.Frag} {mg : Str → Option Value} {base : Heap}
/-! ### costs_of_net -/
def sp_costs_of_net (K : PySem.W.Frag) : Sp := fun vs H Q _ => ∃ n ow as s, vs = [.ref n] ∧ NetAt K ow as H n s ∧ Inv s ∧ ∀ L H', Same H H' → H L = none → H' L = some (.lst (cstV s (dst s))) → Q (.ref L) H'
theorem sc_costs_of_net : FnScope ["net", "costs", "number", "bridge", "piece"] ["net"] D_costs_of_net.scope := ⟨rfl, rfl, rfl, by decide +kernel, rfl, by decide +kernel, by decide +kernel⟩
-- level 4; slots 0:net 1:costs 2:number 3:bridge 4:piece; captured []
theorem ok_costs_of_net (T : Txt K mg) (G_piece_of : Does P w K mg base 3 "piece_of" ["net", "number"] (sp_piece_of K)) (G_chief_of : Does P w K mg base 2 "chief_of" ["net", "piece"] (sp_chief_of K)) (G_spread_costs : Does P w K mg base 3 "spread_costs" ["net", "piece", "costs"] (sp_spread_costs K)) : Does P w K mg base 4 "costs_of_net" ["net"] (sp_costs_of_net K) := by
  refine does_of T 48 (d := D_costs_of_net) rfl rfl rfl rfl T.g_costs_of_net sc_costs_of_net (fun _ _ _ _ _ _ us hl => match us, hl with | [_], _ => rfl) (fun vs H Q E h => by obtain ⟨_, _, _, _, rfl, _⟩ := h; rfl) (fun cdv A outer s H vs Q E hr h => ⟨_, (pss_cons (ps_setLc (i := 1) (own := [("bridge", 3)]) (tt := tYes) (g := gName 3) rfl sc_costs_of_net.nd rfl rfl (sw_true rfl rfl rfl (by decide +kernel)) (pi_list (pe_fld (pv 0) rfl)) (blkOk_by (own := [("bridge", 3)]) (N := ["net", "costs", "number", "bridge", "piece"]) (sc := D_costs_of_net.scope) (by decide +kernel)) (fun _ _ _ _ _ => (pg_name (i := 3) sc_costs_of_net.nd rfl (.inl rfl))) (fun _ _ _ _ _ => pts_nil) (fun _ _ _ _ _ => pe_non))
      (pss_cons (ps_for PassesOwn.never rfl (pi_enum (by rfl) T.f_enumerate (pa_cons (pe_fld (pv 0) rfl) pa_nil)) (pg_tup (n := 2) rfl (pgs_cons (pg_name (i := 2) sc_costs_of_net.nd rfl (.inl rfl)) (pgs_cons (pg_name (i := 3) sc_costs_of_net.nd rfl (.inl rfl)) pgs_nil))) (pss_one (ps_if (PW.pt (pw_and (pt_val (pe_fld (pv 3) rfl)) (pw_and1 (pt_cmpR op_isN (pe_ix ix_list (pv 1) (pv 2) (fun _ _ => rfl)) pe_non (nomark _))))) (pss_cons (ps_set (i := 4) sc_costs_of_net.nd rfl (.inl rfl) (pe_f G_piece_of (hr.mono (by decide)) (by rfl) (pa_cons (pv 0) (pa_cons (pv 2) pa_nil))))
      (pss_cons (ps_asg pe_int (pg_sub (pv 1) (pe_f G_chief_of (hr.mono (by decide)) (by rfl) (pa_cons (pv 0) (pa_cons (pv 4) pa_nil))) set_list))
      (pss_one (ps_expr (pe_f G_spread_costs (hr.mono (by decide)) (by rfl) (pa_cons (pv 0) (pa_cons (pv 4) (pa_cons (pv 1) pa_nil)))))))) pss_nil)))
      (pss_one (ps_ret (pv 1))))), ?_⟩)
  obtain ⟨n, ow, as, s, rfl, N, I, hQ⟩ := h
  obtain ⟨dn, bl, k1, k2, k3, k4⟩ := N.ex
  have ln : (as.map V.ref).length = s.bridges.length := (List.length_map _).trans N.len
  refine r_seq (r_asg (r_lcL (fun _ => some .non) (val_fld vv k1 T.c_Net T.n_Net_bridges (nF_bridges s bl)) k2 (by rw [ln]; exact Nat.le_trans I.nb (by decide)) (fun i x H1 hi e1 N' M' h1 _ => ⟨rfl, r_yes (iteT (r_c (h1 _ _ (Same.refl _) rfl)))⟩) fun L H1 nL e1 hL => nx ?_))
  have hL1 : H1 L = some (.lst (cstV s fun _ => none)) := by
    rw [hL, ln]
    unfold cstV
    congr 2
    induction (List.range s.bridges.length) with
    | nil => rfl
    | cons a l ih =>
      rw [List.filterMap_cons, List.map_cons, ih]
      rfl
  refine r_seq (r_for (r_enum (r_cons (go (val_fld vv (e1 _ _ k1) T.c_Net T.n_Net_bridges (nF_bridges s bl)) (r_nil ⟨bl, as.map V.ref, rfl, SqL.of (e1 _ _ k2), for_it walk_enum
    (fun i σ H' => ∃ v2 v3 v4 d, σ = [some (.ref n), some (.ref L), v2, v3, v4] ∧ Same H H' ∧ H' L = some (.lst (cstV s d)) ∧ Net0 s i d) ⟨none, none, none, _, rfl, e1, hL1, net0_start⟩ (fun b σ H' _ ⟨_, _, _, _, _, e, _⟩ => SqL.of (e _ _ k2)) ?hs ?hd⟩)))))
  case hd =>
    rintro σ H2 ⟨v2, v3, v4, d, rfl, e2, hL2, A⟩
    rw [ln] at A
    rw [show d = dst s from funext fun x => A.all I x] at hL2
    exact nx (r_ret (go vv (hQ L H2 e2 nL hL2)))
  case hs =>
    rintro b x σ H2 H3 hb ⟨v2, v3, v4, d, rfl, e2, hL2, A⟩ ⟨t, z1, z2, rfl, ht, rfl, y1, y2⟩
    cases y1
    have hb2 : b < s.bridges.length := by
      rw [ln] at hb
      exact hb
    obtain ⟨a, e⟩ := N.addr hb2
    have y3 : (as.map V.ref)[b]? = some z2 := y2
    rw [List.getElem?_map, e] at y3
    cases y3
    have et := same_new (o := .tup [.int (b : Nat), .ref a]) ht
    have e3 := e2.trans et
    have hL3 := et _ _ hL2
    have N3 := N.same e3
    obtain ⟨dx, l, st, ws, kvs, B⟩ := N3.br b a e
    refine g2 upd_same (r_if (r_and (r_tb (go (B.fon T vv) ⟨_, rfl, ?_⟩))))
    generalize (upd H2 t (.tup [.int (b : Nat), .ref a])) = H4 at e3 hL3 N3 B
    cases hon : (Vbcnac.bridgeAt s b).on with
    | false => exact if_n (if_n (r_next ⟨_, _, _, d, rfl, e3, hL3, A.off (by rw [isOn_at hb2, hon])⟩))
    | true =>
      have hon2 : Vbcnac.isOn s b = true := by rw [isOn_at hb2, hon]
      refine if_y (r_test (r_op (go (v_ixL vv vv hL3 (cst_get hb2)) (r_c ⟨rfl, _, rfl, ?_⟩))))
      cases qd : d b with
      | some u => exact if_n (r_next ⟨_, _, _, d, rfl, e3, hL3, A.had qd⟩)
      | none =>
        refine if_y (r_seq (r_set (c2 vv vv ⟨n, ow, as, s, b, rfl, N3, I, hon2, fun D H5 ks e5 nD hk hm _ => nx ?_⟩)))
        have N5 := N3.same e5
        have hL5 := e5 _ _ hL3
        have hne : ks ≠ [] := fun z => by
          have := (hm b).mpr (.refl hon2)
          rw [z] at this
          cases this
        have w0 : ow D = 0 := N3.new nD
        have w1 : ow L = 0 := N.new nL
        refine r_seq (r_asg (r_c (r_sub (go vv (c2 vv vv ⟨n, D, ow, as, s, ks, rfl, N5, hk, w0, hne, fun x hx => on_lt ((hm x).mp hx).on.2, fun c H6 hc hmin e6 => ?_⟩)))))
        have rc := (hm c).mp hc
        have hcl := on_lt rc.on.2
        have hch := chief_least I rc fun z rz => hmin z ((hm z).mpr rz)
        have hL6 := e6 _ _ hL5
        refine ⟨L, _, _, c, rfl, rfl, hL6, ?_, nx ?_⟩
        · unfold ixN
          rw [if_pos (Int.natCast_nonneg c), if_pos (by rw [cst_len]; omega)]
          rfl
        · have hD6 := hk.elim fun kvs h => (⟨kvs, e6 _ _ h.1, h.2⟩ : KsAt H6 D ks)
          obtain ⟨kvs6, hD6a, hD6b⟩ := hD6
          have hDL : D ≠ L := ne_of hD6a hL6 (by intro z; cases z)
          have hL7 : (upd H6 L (.lst ((cstV s d).set c (.int 0)))) L = some (.lst (cstV s (putN d c 0))) := by
            rw [upd_same]
            exact congrArg (fun l => some (HO.lst l)) (cst_set s d c 0)
          have hD7 : KsAt (upd H6 L (.lst ((cstV s d).set c (.int 0)))) D ks := ⟨kvs6, by rw [upd_ne hDL]; exact hD6a, hD6b⟩
          have e7 : Same H (upd H6 L (.lst ((cstV s d).set c (.int 0)))) := same_upd (e3.trans (e5.trans e6)) nL
          generalize (upd H6 L (.lst ((cstV s d).set c (.int 0)))) = H7 at hL7 hD7 e7
          refine r_drop (c3 vv vv vv ⟨n, D, L, ow, as, s, ks, b, c, putN d c 0, rfl, N.same e7, I, hD7, w0, w1, hL7, bas_start I (A.snd1 hch) hm hch rc putN_same, fun d' H8 q1 q2 q3 q4 => ?_⟩)
          refine ⟨_, _, _, d', rfl, fun c o q => ?_, q4, A.piece I rc q1 q2⟩
          exact q3 c o (e7 _ _ q) fun y => by
            rw [y, nL] at q
            cases q
/-! ### root_place -/
theorem v_addN {σ : L2.St} {H : Hp} {ta tb : TE} {x y : Nat} (ha : Val ta σ H (.int (x : Nat))) (hb : Val tb σ H (.int (y : Nat))) : Val (tOp (rI0 fun i j => .int (i + j)) ta tb) σ H (.int ((x + y : Nat) : Int)) := v_add ha hb
theorem evt_4 {σ : L2.St} {H : Hp} {ta tb tc td : TE} {v1 v2 v3 v4 : V} (h1 : ValS ta σ H v1) (h2 : ValS tb σ H v2) (h3 : ValS tc σ H v3) (h4 : ValS td σ H v4) : EvT (tTup (tCons ta (tCons tb (tCons tc (tCons td tNil))))) σ H [v1, v2, v3, v4] := fun H1 e Q q =>
  r_tup (r_cons (h1 H1 e _ (r_cons (h2 H1 e _ (r_cons (h3 H1 e _ (r_cons (h4 H1 e _ (r_nil ⟨by show 4 ≤ sizeLine; decide, fun p hp => q p _ (same_new hp) upd_same⟩)))))))))
theorem evt_name {σ : L2.St} {H : Hp} {te : TE} {ow : Addr → Nat} {i : Nat} {a dx st : Addr} {x : Vbcnac.Bridge} {l : Nat → Addr} {ws : Nat → List V} {kvs : List (Key × V)} (B : BrAt K ow H i a x dx l st ws kvs) (h : ValS te σ H (.ref a)) : EvT (tCall (sp_name_of K) [] E0 (tCons te tNil)) σ H (rowV [x.rank, x.number]) := fun H1 e Q q =>
  c1 (h H1 e) ⟨ow, i, a, x, dx, l, st, ws, kvs, rfl, B.same e, fun p hp => q p _ (same_new hp) upd_same⟩
def BestP (H : Hp) (vb : V) (o : Option (List Nat × Nat)) : Prop := match o with
  | none => vb = .non
  | some c => ∃ t, vb = .ref t ∧ H t = some (.tup (rowV c.1))
theorem BestP.same {H H' : Hp} (e : Same H H') {vb : V} : ∀ {o : Option (List Nat × Nat)}, BestP H vb o → BestP H' vb o
  | none, h => h
  | some _, ⟨t, h1, h2⟩ => ⟨t, h1, e _ _ h2⟩
def sp_root_place (K : PySem.W.Frag) : Sp := fun vs H Q _ => ∃ n L ow as s b, vs = [.ref n, .ref L, .int (b : Nat)] ∧ NetAt K ow as H n s ∧ Inv s ∧ Vbcnac.isOn s b = true ∧ H L = some (.lst (cstV s (dst s))) ∧ ∀ H', Same H H' → Q (parV (Vbcnac.plainRoot s (Vbcnac.costs s) b)) H'
theorem sc_root_place : FnScope ["net", "costs", "number", "bridge", "best", "place", "other", "far", "row"] ["net", "costs", "number"] D_root_place.scope := ⟨rfl, rfl, rfl, by decide +kernel, rfl, by decide +kernel, by decide +kernel⟩
-- level 2; slots 0:net 1:costs 2:number 3:bridge 4:best 5:place 6:other 7:far 8:row; captured []
theorem ok_root_place (T : Txt K mg) (G_live_cable : Does P w K mg base 1 "live_cable" ["net", "number", "place"] (sp_live_cable K)) (G_name_of : Does P w K mg base 1 "name_of" ["bridge"] (sp_name_of K)) : Does P w K mg base 2 "root_place" ["net", "costs", "number"] (sp_root_place K) := by
  refine does_of T 51 (d := D_root_place) rfl rfl rfl rfl T.g_root_place sc_root_place (fun _ _ _ _ _ _ us hl => match us, hl with | [_, _, _], _ => rfl) (fun vs H Q E h => by obtain ⟨_, _, _, _, _, _, rfl, _⟩ := h; rfl) (fun cdv A outer s H vs Q E hr h => ⟨_, (pss_cons (ps_set (i := 3) sc_root_place.nd rfl (.inl rfl) (pe_ix ix_list (pe_fld (pv 0) rfl) (pv 2) (fun _ _ => rfl)))
      (pss_cons (ps_set (i := 4) sc_root_place.nd rfl (.inl rfl) pe_non)
      (pss_cons (ps_for PassesOwn.never rfl (pi_range1 (by rfl) T.f_range (pa_cons (pe_gi T.i_PORTS rfl) pa_nil)) (pg_name (i := 5) sc_root_place.nd rfl (.inl rfl)) (pss_cons (ps_set (i := 6) sc_root_place.nd rfl (.inl rfl) (pe_f G_live_cable (hr.mono (by decide)) (by rfl) (pa_cons (pv 0) (pa_cons (pv 2) (pa_cons (pv 5) pa_nil)))))
      (pss_one (ps_if (PW.pt (pw_and (pt_cmpR op_notN (pv 6) pe_non (nomark _)) (pw_and1 (pt_cmpR op_eq (pe_op op_add (pe_ix ix_list (pv 1) (pe_ix ix_tup (pv 6) pe_int (fun _ _ => rfl)) (fun _ _ => rfl)) (pe_ix ix_list (pe_fld (pv 3) rfl) (pv 5) (fun _ _ => rfl))) (pe_ix ix_list (pv 1) (pv 2) (fun _ _ => rfl)) (nomark _))))) (pss_cons (ps_set (i := 7) sc_root_place.nd rfl (.inl rfl) (pe_ix ix_list (pe_fld (pv 0) rfl) (pe_ix ix_tup (pv 6) pe_int (fun _ _ => rfl)) (fun _ _ => rfl)))
      (pss_cons (ps_set (i := 8) sc_root_place.nd rfl (.inl rfl) (pe_op op_catT (pe_f G_name_of (hr.mono (by decide)) (by rfl) (pa_cons (pv 7) pa_nil)) (pe_tup (pa_cons (pe_ix ix_list (pe_fld (pv 7) rfl) (pe_ix ix_tup (pv 6) pe_int (fun _ _ => rfl)) (fun _ _ => rfl)) (pa_cons (pe_ix ix_tup (pv 6) pe_int (fun _ _ => rfl)) (pa_cons (pe_ix ix_list (pe_fld (pv 3) rfl) (pv 5) (fun _ _ => rfl)) (pa_cons (pv 5) pa_nil)))))))
      (pss_one (ps_if (PW.pt (pw_or (pt_cmpR op_isN (pv 4) pe_non (nomark _)) (pw_or1 (pt_cmpR (op_ltT hr.units0) (pv 8) (pv 4) (nomark _))))) (pss_one (ps_set (i := 4) sc_root_place.nd rfl (.inl rfl) (pv 8))) pss_nil)))) pss_nil))))
      (pss_cons (ps_if (pt_cmpR op_isN (pv 4) pe_non (nomark _)) (pss_one (ps_ret pe_non)) pss_nil)
      (pss_one (ps_ret (pe_ix ix_tup (pv 4) pe_int (fun _ _ => rfl)))))))), ?_⟩)
  obtain ⟨n, L, ow, as, s, b, rfl, N, I, hon, hL, hQ⟩ := h
  have hb := on_lt hon
  obtain ⟨a, e⟩ := N.addr hb
  obtain ⟨dx, l, st, ws, kvs, B⟩ := N.br b a e
  obtain ⟨m, hm⟩ := dst_on I hon
  have hgb : (cstV s (dst s))[b]? = some (.int (m : Nat)) := by
    rw [cst_get hb, hm]
    rfl
  refine r_seq (r_set (go (N.bridge T e vv vv) (nx ?_)))
  refine r_seq (r_set (r_c (nx ?_)))
  refine r_seq (r_for (r_range (r_cons (r_c (r_nil ⟨16, rfl, by decide, by decide, for_range (lo := 0) (n := 16)
    (fun k σ H' => ∃ vb v5 v6 v7 v8, σ = [some (.ref n), some (.ref L), some (.int (b : Nat)), some (.ref a), some vb, v5, v6, v7, v8] ∧ Same H H' ∧ BestP H' vb (Vbcnac.leastOf (waysTo s (Vbcnac.costs s) b k))) ⟨.non, none, none, none, none, rfl, Same.refl _, rfl⟩ ?hs ?hd⟩)))))
  case hd =>
    rintro σ H1 ⟨vb, v5, v6, v7, v8, rfl, e1, hb1⟩
    have hpr : Vbcnac.plainRoot s (Vbcnac.costs s) b = (Vbcnac.leastOf (waysTo s (Vbcnac.costs s) b 16)).map fun x => x.2 := rfl
    refine nx (r_seq (r_if (r_test (r_op (go vv (r_c ⟨rfl, _, rfl, ?_⟩))))))
    cases hm : Vbcnac.leastOf (waysTo s (Vbcnac.costs s) b 16) with
    | none =>
      rw [hm] at hb1 hpr
      cases (show vb = .non from hb1)
      refine if_y (r_ret (r_c ?_))
      have := hQ H1 e1
      rw [hpr] at this
      exact this
    | some c =>
      rw [hm] at hb1 hpr
      obtain ⟨tb, rfl, htb⟩ := hb1
      obtain ⟨c1', c2', _⟩ := waysTo_last hm
      have h5 : (rowV c.1)[5]? = some (.int (c.2 : Nat)) := by
        unfold rowV
        rw [List.getElem?_map, c2']
        rfl
      refine if_n (r_next (nx (r_ret (go (v_ixT (j := 5) vv (SqT.of htb) h5) ?_))))
      have := hQ H1 e1
      rw [hpr] at this
      exact this
  case hs =>
    rintro k σ H1 hk ⟨vb, v5, v6, v7, v8, rfl, e1, hb1⟩
    rw [Int.zero_add]
    have hs := waysTo_succ (s := s) (Vbcnac.costs s) b k
    have N1 := N.same e1
    have B1 := B.same e1
    have hL1 := e1 _ _ hL
    refine r_seq (r_set (c3 vv vv vv ⟨n, ow, as, s, b, k, rfl, N1, I, hb, hk, fun v hv => nx ?_⟩))
    refine r_if (r_and (r_test (r_op (go vv (r_c ⟨rfl, _, rfl, ?_⟩)))))
    cases hx : Vbcnac.across s b k with
    | none =>
      rw [hx] at hv
      rw [wayAt_none hx] at hs
      cases (show v = .non from hv)
      refine if_n (if_n (r_next ⟨vb, _, _, _, _, rfl, e1, ?_⟩))
      rw [hs]
      exact hb1
    | some x =>
      rw [hx] at hv
      obtain ⟨t, rfl, ht⟩ := hv
      obtain ⟨z1, z2, z3⟩ := across_iff.mp hx
      have hxl := on_lt z3
      obtain ⟨_, _, _, hx2⟩ := I.peer (c := x.1) (q := x.2) z2
      obtain ⟨m2, hm2⟩ := dst_on I z3
      have hgx : (cstV s (dst s))[x.1]? = some (.int (m2 : Nat)) := by
        rw [cst_get hxl, hm2]
        rfl
      obtain ⟨cv, hcv, pv⟩ := B1.get (k := 0) (p := k) (by decide) (by rw [I.np b hb]; exact hk)
      cases (show cv = .int (Vbcnac.portAt s b k).cost from pv)
      obtain ⟨rv, hrv, prv⟩ := B1.get (k := 1) (p := k) (by decide) (by rw [I.np b hb]; exact hk)
      cases (show rv = .int (Vbcnac.portAt s b k).rank from prv)
      rw [wayAt_some hx hm hm2] at hs
      refine if_y (r_test (r_op (go (v_addN (v_ixL (j := x.1) vv (v_ixT (j := 0) (xs := [.int (x.1 : Nat), .int (x.2 : Nat)]) vv (SqT.of ht) rfl) hL1 hgx) (v_ixL (B1.fcosts T vv) vv (B1.lst 0 (by decide)) hcv)) (go (v_ixL vv vv hL1 hgb) ⟨rfl, _, rfl, ?_⟩))))
      rw [dec_int]
      by_cases heq : m2 + (Vbcnac.portAt s b k).cost = m
      · rw [if_pos heq] at hs
        rw [beq_iff_eq.mpr heq]
        obtain ⟨a2, ea2⟩ := N1.addr hxl
        obtain ⟨dx2, l2, st2, ws2, kv2, B2⟩ := N1.br x.1 a2 ea2
        obtain ⟨r2, hr2, pr2⟩ := B2.get (k := 1) (p := x.2) (by decide) (by rw [I.np x.1 hxl]; exact hx2)
        cases (show r2 = .int (Vbcnac.portAt s x.1 x.2).rank from pr2)
        refine if_y (r_seq (r_set (go (N1.bridge T ea2 vv (v_ixT (j := 0) (xs := [.int (x.1 : Nat), .int (x.2 : Nat)]) vv (SqT.of ht) rfl)) (nx (r_seq (r_set ?_))))))
        refine evt_cat (evt_name B2 vs_var) (evt_4 (vs_ixL (j := x.2) (vs_fld vs_var B2.self T.c_Bridge T.n_Bridge_ranks (bF_ranks _ l2 st2)) (vs_ixT (j := 1) (xs := [.int (x.1 : Nat), .int (x.2 : Nat)]) vs_var ht rfl) (B2.lst 1 (by decide)) hr2) (vs_ixT (j := 1) (xs := [.int (x.1 : Nat), .int (x.2 : Nat)]) vs_var ht rfl) (vs_ixL (j := k) (vs_fld vs_var B1.self T.c_Bridge T.n_Bridge_ranks (bF_ranks _ l st)) vs_var (B1.lst 1 (by decide)) hrv) vs_var) (fun z => by cases z) (fun z => by cases z) (by show 6 ≤ 1000; decide) H1 (Same.refl _) _ fun r H2 e2 hr => nx ?_
        have hr' : H2 r = some (.tup (rowV (prow s b k x))) := hr
        have hb2 := hb1.same e2
        have take : ∀ D : Ends, (∀ σ H', (∃ vb v5 v6 v7 v8, σ = [some (.ref n), some (.ref L), some (.int (b : Nat)), some (.ref a), some vb, v5, v6, v7, v8] ∧ Same H H' ∧ BestP H' vb (Vbcnac.leastOf (waysTo s (Vbcnac.costs s) b (k + 1)))) → D.nx σ H') → Vbcnac.leastOf (waysTo s (Vbcnac.costs s) b (k + 1)) = some (prow s b k x, k) → ∀ vb, tAsg (tVar 8) (gName 4) D [some (.ref n), some (.ref L), some (.int (b : Nat)), some (.ref a), some vb, some (.int (k : Nat)), some (.ref t), some (.ref a2), some (.ref r)] H2 := fun D hD hl vb => by
          refine r_set (go vv (hD _ _ ⟨.ref r, _, _, _, _, rfl, e1.trans e2, ?_⟩))
          rw [hl]
          exact ⟨r, rfl, hr'⟩
        cases hmm : Vbcnac.leastOf (waysTo s (Vbcnac.costs s) b k) with
        | none =>
          rw [hmm] at hb2
          cases (show vb = .non from hb2)
          refine r_if (r_or (r_test (r_op (go vv (r_c ⟨rfl, _, rfl, if_y (if_y (take _ (fun _ _ h => h) ?_ _))⟩)))))
          rw [hs, leastOf_snoc, hmm]
        | some c =>
          rw [hmm] at hb2
          obtain ⟨tb, rfl, htb⟩ := hb2
          refine r_if (r_or (r_test (r_op (go vv (r_c ⟨rfl, _, rfl, if_n (r_test (r_op (go vv (go vv (v_ltR hr' htb ⟨_, rfl, ?_⟩)))))⟩)))))
          cases hlt : Vbcnac.less (prow s b k x) c.1 with
          | true =>
            refine if_y (take _ (fun _ _ h => h) ?_ _)
            rw [hs, leastOf_snoc, hmm]
            exact if_pos hlt
          | false =>
            refine if_n (r_next ⟨.ref tb, _, _, _, _, rfl, e1.trans e2, ?_⟩)
            rw [hs, leastOf_snoc, hmm]
            show BestP H2 (.ref tb) (if Vbcnac.less (prow s b k x) c.1 = true then _ else some c)
            rw [if_neg (by rw [hlt]; decide)]
            exact ⟨tb, rfl, htb⟩
      · rw [if_neg heq] at hs
        rw [beq_eq_false_iff_ne.mpr heq]
        refine if_n (r_next ⟨vb, _, _, _, _, rfl, e1, ?_⟩)
        rw [hs]
        exact hb1
end
end Sw
namespace Sw
open PySem PySem.Spec PyProof.Rows L2
/-! ### the plain tree in the heap -/
def rtV (s : Vbcnac.State) (b : Nat) : Option V := if Vbcnac.isOn s b = true then (Vbcnac.plainRoot s (Vbcnac.costs s) b).map fun p => V.int (p : Nat) else none
def PlAt (K : PySem.W.Frag) (H : Hp) (s : Vbcnac.State) (p : Addr) : Prop := ∃ dx L r kk, H p = some (.ins (He.ga K "Plain") dx (plainF L r)) ∧ H L = some (.lst (cstV s (dst s))) ∧ H r = some (.dK kk) ∧ ∀ b, b < s.bridges.length → valV kk (.inl (b : Int)) = rtV s b
theorem PlAt.same {K : PySem.W.Frag} {H H' : Hp} {s : Vbcnac.State} {p : Addr} (h : PlAt K H s p) (e : Same H H') : PlAt K H' s p := by
  obtain ⟨dx, L, r, kk, h1, h2, h3, h4⟩ := h
  exact ⟨dx, L, r, kk, e _ _ h1, e _ _ h2, e _ _ h3, h4⟩
section
variable {P : Program} {w : World} {K : PySem.W.Frag} {mg : Str → Option Value} {base : Heap}
/-! ### plain_tree -/
def sp_plain_tree (K : PySem.W.Frag) : Sp := fun vs H Q _ => ∃ n ow as s, vs = [.ref n] ∧ NetAt K ow as H n s ∧ Inv s ∧ ∀ p H', Same H H' → H p = none → PlAt K H' s p → Q (.ref p) H'
theorem sc_plain_tree : FnScope ["net", "plain", "number", "bridge", "place"] ["net"] D_plain_tree.scope := ⟨rfl, rfl, rfl, by decide +kernel, rfl, by decide +kernel, by decide +kernel⟩
-- level 5; slots 0:net 1:plain 2:number 3:bridge 4:place; captured []
theorem ok_plain_tree (T : Txt K mg) (G_Plain : DoesC P w K mg base 1 "Plain" ["self", "costs"] (sp_Plain K)) (G_costs_of_net : Does P w K mg base 4 "costs_of_net" ["net"] (sp_costs_of_net K)) (G_root_place : Does P w K mg base 2 "root_place" ["net", "costs", "number"] (sp_root_place K)) : Does P w K mg base 5 "plain_tree" ["net"] (sp_plain_tree K) := by
  refine does_of T 50 (d := D_plain_tree) rfl rfl rfl rfl T.g_plain_tree sc_plain_tree (fun _ _ _ _ _ _ us hl => match us, hl with | [_], _ => rfl) (fun vs H Q E h => by obtain ⟨_, _, _, _, rfl, _⟩ := h; rfl) (fun cdv A outer s H vs Q E hr h => ⟨_, (pss_cons (ps_set (i := 1) sc_plain_tree.nd rfl (.inl rfl) (pe_c T.m_Plain T.g_Plain G_Plain.ex (hr.mono (by decide)) (by rfl) (pa_cons (pe_f G_costs_of_net (hr.mono (by decide)) (by rfl) (pa_cons (pv 0) pa_nil)) pa_nil)))
      (pss_cons (ps_for PassesOwn.never rfl (pi_enum (by rfl) T.f_enumerate (pa_cons (pe_fld (pv 0) rfl) pa_nil)) (pg_tup (n := 2) rfl (pgs_cons (pg_name (i := 2) sc_plain_tree.nd rfl (.inl rfl)) (pgs_cons (pg_name (i := 3) sc_plain_tree.nd rfl (.inl rfl)) pgs_nil))) (pss_one (ps_if (pt_val (pe_fld (pv 3) rfl)) (pss_cons (ps_set (i := 4) sc_plain_tree.nd rfl (.inl rfl) (pe_f G_root_place (hr.mono (by decide)) (by rfl) (pa_cons (pv 0) (pa_cons (pe_fld (pv 1) rfl) (pa_cons (pv 2) pa_nil)))))
      (pss_one (ps_if (pt_cmpR op_notN (pv 4) pe_non (nomark _)) (pss_one (ps_dput (hu_of hr) (pe_fld (pv 1) rfl) (pv 2) (pv 4) rfl)) pss_nil))) pss_nil)))
      (pss_one (ps_ret (pv 1))))), ?_⟩)
  obtain ⟨n, ow, as, s, rfl, N, I, hQ⟩ := h
  obtain ⟨dn, bl, k1, k2, k3, k4⟩ := N.ex
  have ln : (as.map V.ref).length = s.bridges.length := (List.length_map _).trans N.len
  refine r_seq (r_set (r_make (r_cons (c1 vv ⟨n, ow, as, s, rfl, N, I, fun L H1 e1 nL hL => r_nil fun p dx np nd hne => ?_⟩))))
  refine ⟨p, dx, L, rfl, upd_same, fun H2 r h1 h2 h3 h4 => ⟨rfl, nx ?_⟩⟩
  have e4 : Same H1 (upd (upd H1 dx (.own p)) p (.ins (He.ga K "Plain") dx [])) := fun b o h => by
    rw [upd_ne (ne_of_none h np), upd_ne (ne_of_none h nd)]
    exact h
  have e5 : Same H1 H2 := fun b o h => h4 b o (e4 _ _ h) (ne_of_none h np)
  have nr1 : H1 r = none := e4.free h2
  have nr : H r = none := e1.free nr1
  have npH : H p = none := e1.free np
  have hL2 := e5 _ _ hL
  have e2 : Same H H2 := e1.trans e5
  have rp : r ≠ p := ne_of h3 h1 (by intro z; cases z)
  have rL : r ≠ L := ne_of h3 hL2 (by intro z; cases z)
  refine r_seq (r_for (r_enum (r_cons (go (val_fld vv (e2 _ _ k1) T.c_Net T.n_Net_bridges (nF_bridges s bl)) (r_nil ⟨bl, as.map V.ref, rfl, SqL.of (e2 _ _ k2), for_it walk_enum
    (fun i σ H' => ∃ v2 v3 v4 kk, σ = [some (.ref n), some (.ref p), v2, v3, v4] ∧ Same H H' ∧ H' p = some (.ins (He.ga K "Plain") dx (plainF L r)) ∧ H' L = some (.lst (cstV s (dst s))) ∧ H' r = some (.dK kk) ∧ kk.length ≤ i ∧ (∀ b : Nat, b < i → valV kk (.inl (b : Int)) = rtV s b) ∧ ∀ b : Nat, i ≤ b → valV kk (.inl (b : Int)) = none)
    ⟨none, none, none, [], rfl, e2, h1, hL2, h3, Nat.le_refl _, fun b h => absurd h (Nat.not_lt_zero _), fun _ _ => rfl⟩ (fun b σ H' _ ⟨_, _, _, _, _, e, _⟩ => SqL.of (e _ _ k2)) ?hs ?hd⟩)))))
  case hd =>
    rintro σ H3 ⟨v2, v3, v4, kk, rfl, e3, hp3, hL3, hr3, _, hv, _⟩
    rw [ln] at hv
    exact nx (r_ret (go vv (hQ p H3 e3 npH ⟨dx, L, r, kk, hp3, hL3, hr3, hv⟩)))
  case hs =>
    rintro b x σ H3 H4 hb ⟨v2, v3, v4, kk, rfl, e3, hp3, hL3, hr3, hlen, hv, hz⟩ ⟨t, z1, z2, rfl, ht, rfl, y1, y2⟩
    cases y1
    have hb2 : b < s.bridges.length := by
      rw [ln] at hb
      exact hb
    obtain ⟨a, e⟩ := N.addr hb2
    have y3 : (as.map V.ref)[b]? = some z2 := y2
    rw [List.getElem?_map, e] at y3
    cases y3
    have et := same_new (o := .tup [.int (b : Nat), .ref a]) ht
    have e6 := e3.trans et
    have hp4 := et _ _ hp3
    have hL4 := et _ _ hL3
    have hr4 := et _ _ hr3
    have N3 := N.same e6
    obtain ⟨dx2, l, st, ws, kvs, B⟩ := N3.br b a e
    refine g2 upd_same (r_if (r_tb (go (B.fon T vv) ⟨_, rfl, ?_⟩)))
    generalize (upd H3 t (.tup [.int (b : Nat), .ref a])) = H5 at e6 hp4 hL4 hr4 N3 B
    have low : rtV s b = none → (∀ b' : Nat, b' < b + 1 → valV kk (.inl (b' : Int)) = rtV s b') ∧ ∀ b' : Nat, b + 1 ≤ b' → valV kk (.inl (b' : Int)) = none := fun hn => by
      refine ⟨fun b' hb' => ?_, fun b' hb' => hz b' (by omega)⟩
      by_cases q : b' = b
      · rw [q, hn]
        exact hz b (Nat.le_refl _)
      · exact hv b' (by omega)
    cases hon : (Vbcnac.bridgeAt s b).on with
    | false =>
      obtain ⟨q1, q2⟩ := low (if_neg (by rw [isOn_at hb2, hon]; decide))
      exact if_n (r_next ⟨_, _, _, kk, rfl, e6, hp4, hL4, hr4, by omega, q1, q2⟩)
    | true =>
      have hon2 : Vbcnac.isOn s b = true := by rw [isOn_at hb2, hon]
      have hrt : rtV s b = (Vbcnac.plainRoot s (Vbcnac.costs s) b).map fun p => V.int (p : Nat) := if_pos hon2
      refine if_y (r_seq (r_set (c3 vv (val_fld (fs := plainF L r) (v := .ref L) vv hp4 T.c_Plain T.n_Plain_costs rfl) vv ⟨n, L, ow, as, s, b, rfl, N3, I, hon2, hL4, fun H6 e7 => nx ?_⟩)))
      have hr6 := e7 _ _ hr4
      have hp6 := e7 _ _ hp4
      have hL6 := e7 _ _ hL4
      have e8 := e6.trans e7
      refine r_if (r_test (r_op (go vv (r_c ⟨rfl, _, rfl, ?_⟩))))
      cases hpr : Vbcnac.plainRoot s (Vbcnac.costs s) b with
      | none =>
        rw [hpr] at hrt
        obtain ⟨q1, q2⟩ := low hrt
        exact if_n (r_next ⟨_, _, _, kk, rfl, e8, hp6, hL6, hr6, by omega, q1, q2⟩)
      | some q =>
        rw [hpr] at hrt
        have hn : valV kk (.inl (b : Int)) = none := hz b (Nat.le_refl _)
        have hbn := I.nb
        refine if_y (r_dput (go vv (go (val_fld (fs := plainF L r) (v := .ref r) vv hp6 T.c_Plain T.n_Plain_root_places rfl) (go vv ⟨r, _, rfl, DPut.k (k := .inl (b : Int)) hr6 (Nat.lt_of_le_of_lt (show kk.length ≤ 32 by omega) (by decide)), _, _, _, putK kk (.inl (b : Int)) (.int (q : Nat)), rfl, same_upd e8 nr, by rw [upd_ne rp.symm]; exact hp6, by rw [upd_ne rL.symm]; exact hL6, upd_same, ?_, fun b' hb' => ?_, fun b' hb' => ?_⟩))))
        · rw [putK_new _ hn, List.length_append, List.length_singleton]
          omega
        · rw [valV_put]
          by_cases z : b' = b
          · rw [if_pos (by rw [z]), z, hrt]
            rfl
          · rw [if_neg (fun y => z (by have := Sum.inl.inj y; omega))]
            exact hv b' (by omega)
        · rw [valV_put, if_neg (fun y => (by have := Sum.inl.inj y; omega))]
          exact hz b' (by omega)
/-! ### row_of_port -/
def sp_row_of_port (K : PySem.W.Frag) : Sp := fun vs H Q _ => ∃ n p t ow as s x, vs = [.ref n, .ref p, .ref t] ∧ NetAt K ow as H n s ∧ Inv s ∧ PlAt K H s p ∧ H t = some (.tup [.int (x : Nat × Nat).1, .int x.2]) ∧ Vbcnac.isOn s x.1 = true ∧ x.2 < 16 ∧
  ∀ u H', Same H H' → H' u = some (.tup (rowV (Vbcnac.endRow s (Vbcnac.costs s) x))) → Q (.ref u) H'
theorem sc_row_of_port : FnScope ["net", "plain", "port", "bridge"] ["net", "plain", "port"] D_row_of_port.scope := ⟨rfl, rfl, rfl, by decide +kernel, rfl, by decide +kernel, by decide +kernel⟩
-- level 2; slots 0:net 1:plain 2:port 3:bridge; captured []
theorem ok_row_of_port (T : Txt K mg) (G_name_of : Does P w K mg base 1 "name_of" ["bridge"] (sp_name_of K)) : Does P w K mg base 2 "row_of_port" ["net", "plain", "port"] (sp_row_of_port K) := by
  refine does_of T 52 (d := D_row_of_port) rfl rfl rfl rfl T.g_row_of_port sc_row_of_port (fun _ _ _ _ _ _ us hl => match us, hl with | [_, _, _], _ => rfl) (fun vs H Q E h => by obtain ⟨_, _, _, _, _, _, _, rfl, _⟩ := h; rfl) (fun cdv A outer s H vs Q E hr h => ⟨_, (pss_cons (ps_set (i := 3) sc_row_of_port.nd rfl (.inl rfl) (pe_ix ix_list (pe_fld (pv 0) rfl) (pe_ix ix_tup (pv 2) pe_int (fun _ _ => rfl)) (fun _ _ => rfl)))
      (pss_one (ps_ret (pe_op op_catT (pe_op op_catT (pe_tup (pa_cons (pe_ix ix_list (pe_fld (pv 1) rfl) (pe_ix ix_tup (pv 2) pe_int (fun _ _ => rfl)) (fun _ _ => rfl)) pa_nil)) (pe_f G_name_of (hr.mono (by decide)) (by rfl) (pa_cons (pv 3) pa_nil))) (pe_tup (pa_cons (pe_ix ix_list (pe_fld (pv 3) rfl) (pe_ix ix_tup (pv 2) pe_int (fun _ _ => rfl)) (fun _ _ => rfl)) (pa_cons (pe_ix ix_tup (pv 2) pe_int (fun _ _ => rfl)) pa_nil))))))), ?_⟩)
  obtain ⟨n, p, t, ow, as, s, x, rfl, N, I, ⟨dp, L, r, kk, h1, h2, h3, h4⟩, ht, hon, hx, hQ⟩ := h
  have hb := on_lt hon
  obtain ⟨a, e⟩ := N.addr hb
  obtain ⟨dx, l, st, ws, kvs, B⟩ := N.br x.1 a e
  obtain ⟨m, hm⟩ := dst_on I hon
  have hgb : (cstV s (dst s))[x.1]? = some (.int (m : Nat)) := by
    rw [cst_get hb, hm]
    rfl
  obtain ⟨rv, hrv, prv⟩ := B.get (k := 1) (p := x.2) (by decide) (by rw [I.np x.1 hb]; exact hx)
  cases (show rv = .int (Vbcnac.portAt s x.1 x.2).rank from prv)
  have hrow : Vbcnac.endRow s (Vbcnac.costs s) x = [m, (Vbcnac.nameAt s x.1).1, (Vbcnac.nameAt s x.1).2, (Vbcnac.portAt s x.1 x.2).rank, x.2] := by
    have hm2 : (Vbcnac.costs s).getD x.1 none = some m := hm
    unfold Vbcnac.endRow
    rw [hm2]
    rfl
  rw [hrow] at hQ
  refine r_seq (r_set (go (N.bridge T e vv (v_ixT (j := 0) (xs := [.int (x.1 : Nat), .int (x.2 : Nat)]) vv (SqT.of ht) rfl)) (nx (r_ret ?_))))
  exact evt_cat (evt_cat (evt_1 (vs_ixL (j := x.1) (vs_fld (fs := plainF L r) (v := .ref L) vs_var h1 T.c_Plain T.n_Plain_costs rfl) (vs_ixT (j := 0) (xs := [.int (x.1 : Nat), .int (x.2 : Nat)]) vs_var ht rfl) h2 hgb)) (evt_name B vs_var) (fun z => by cases z) (fun z => by cases z) (by show 3 ≤ 1000; decide))
    (evt_2 (vs_ixL (j := x.2) (vs_fld vs_var B.self T.c_Bridge T.n_Bridge_ranks (bF_ranks _ l st)) (vs_ixT (j := 1) (xs := [.int (x.1 : Nat), .int (x.2 : Nat)]) vs_var ht rfl) (B.lst 1 (by decide)) hrv) (vs_ixT (j := 1) (xs := [.int (x.1 : Nat), .int (x.2 : Nat)]) vs_var ht rfl)) (fun z => by cases z) (fun z => by cases z) (by show 5 ≤ 1000; decide) H (Same.refl _) _ fun u H' e hu => hQ u H' e hu
/-! ### is_plainly_blocked -/
theorem r_dget1 {td ty : TE} {σ : L2.St} {H : Hp} {Q : VK} (h : td σ H fun x H1 => ∃ a, x = .ref a ∧ IsD H1 a ∧ ty σ H1 fun y H2 => ∃ o, DGet H2 a y o ∧ Q (o.getD .non) H2) : tDGet1 td ty σ H Q := h
def sp_is_plainly_blocked (K : PySem.W.Frag) : Sp := fun vs H Q _ => ∃ n p t ow as s x, vs = [.ref n, .ref p, .ref t] ∧ NetAt K ow as H n s ∧ Inv s ∧ PlAt K H s p ∧ H t = some (.tup [.int (x : Nat × Nat).1, .int x.2]) ∧ Vbcnac.isOn s x.1 = true ∧ x.2 < 16 ∧
  ∀ H', Same H H' → Q (.bl (blk s x)) H'
theorem sc_is_plainly_blocked : FnScope ["net", "plain", "port", "other"] ["net", "plain", "port"] D_is_plainly_blocked.scope := ⟨rfl, rfl, rfl, by decide +kernel, rfl, by decide +kernel, by decide +kernel⟩
-- level 3; slots 0:net 1:plain 2:port 3:other; captured []
theorem ok_is_plainly_blocked (T : Txt K mg) (G_live_cable : Does P w K mg base 1 "live_cable" ["net", "number", "place"] (sp_live_cable K)) (G_row_of_port : Does P w K mg base 2 "row_of_port" ["net", "plain", "port"] (sp_row_of_port K)) : Does P w K mg base 3 "is_plainly_blocked" ["net", "plain", "port"] (sp_is_plainly_blocked K) := by
  refine does_of T 53 (d := D_is_plainly_blocked) rfl rfl rfl rfl T.g_is_plainly_blocked sc_is_plainly_blocked (fun _ _ _ _ _ _ us hl => match us, hl with | [_, _, _], _ => rfl) (fun vs H Q E h => by obtain ⟨_, _, _, _, _, _, _, rfl, _⟩ := h; rfl) (fun cdv A outer s H vs Q E hr h => ⟨_, (pss_cons (ps_if (pt_cmpR op_eq (pe_dget1 (hu_of hr) (pe_fld (pv 1) rfl) (pe_ix ix_tup (pv 2) pe_int (fun _ _ => rfl)) ⟨rfl, rfl, rfl, rfl⟩) (pe_ix ix_tup (pv 2) pe_int (fun _ _ => rfl)) (nomark _)) (pss_one (ps_ret pe_bl)) pss_nil)
      (pss_cons (ps_set (i := 3) sc_is_plainly_blocked.nd rfl (.inl rfl) (pe_f G_live_cable (hr.mono (by decide)) (by rfl) (pa_cons (pv 0) (pa_cons (pe_ix ix_tup (pv 2) pe_int (fun _ _ => rfl)) (pa_cons (pe_ix ix_tup (pv 2) pe_int (fun _ _ => rfl)) pa_nil)))))
      (pss_one (ps_ret (pe_and (pe_cmpR op_notN (pv 3) pe_non (nomark _)) (pe_one (pe_cmpR (op_geT hr.units0) (pe_f G_row_of_port (hr.mono (by decide)) (by rfl) (pa_cons (pv 0) (pa_cons (pv 1) (pa_cons (pv 2) pa_nil)))) (pe_f G_row_of_port (hr.mono (by decide)) (by rfl) (pa_cons (pv 0) (pa_cons (pv 1) (pa_cons (pv 3) pa_nil)))) (nomark _)))))))), ?_⟩)
  obtain ⟨n, p, t, ow, as, s, x, rfl, N, I, PL, ht, hon, hx, hQ⟩ := h
  obtain ⟨dp, L, r, kk, h1, h2, h3, h4⟩ := PL
  have PL : PlAt K H s p := ⟨dp, L, r, kk, h1, h2, h3, h4⟩
  have hb := on_lt hon
  have hv := h4 x.1 hb
  have hrt : rtV s x.1 = (Vbcnac.plainRoot s (Vbcnac.costs s) x.1).map fun p => V.int (p : Nat) := if_pos hon
  rw [hrt] at hv
  have hblk : blk s x = (!decide (Vbcnac.plainRoot s (Vbcnac.costs s) x.1 = some x.2) && match Vbcnac.across s x.1 x.2 with
      | none => false
      | some y => !Vbcnac.less (Vbcnac.endRow s (Vbcnac.costs s) x) (Vbcnac.endRow s (Vbcnac.costs s) y)) := by
    unfold blk
    rw [hon]
    rfl
  have dg := DGet.k (k := .inl (x.1 : Int)) h3
  refine r_seq (r_if (r_test (r_op (r_dget1 (go (val_fld (fs := plainF L r) (v := .ref r) vv h1 T.c_Plain T.n_Plain_root_places rfl) ⟨r, rfl, .inl ⟨kk, .inl h3⟩, go (v_ixT (j := 0) (xs := [.int (x.1 : Nat), .int (x.2 : Nat)]) vv (SqT.of ht) rfl) ⟨_, dg, ?_⟩⟩)))))
  rw [hv]
  have rest : Vbcnac.plainRoot s (Vbcnac.costs s) x.1 ≠ some x.2 → ∀ σ' : L2.St, σ' = [some (.ref n), some (.ref p), some (.ref t), none] →
      tSeq (tAsg (tCall (sp_live_cable K) [] E0 (tCons (tVar 0) (tCons (tOp (rIxT K) (tVar 2) (tC (.int 0))) (tCons (tOp (rIxT K) (tVar 2) (tC (.int 1))) tNil)))) (gName 3)) (tRet (tAndV (tOp rNotN (tVar 3) (tC .non)) (tOp (rGeT K) (tCall (sp_row_of_port K) [] E0 (tCons (tVar 0) (tCons (tVar 1) (tCons (tVar 2) tNil)))) (tCall (sp_row_of_port K) [] E0 (tCons (tVar 0) (tCons (tVar 1) (tCons (tVar 3) tNil))))))) { nx := fun _ H' => Q .non H', rt := Q } σ' H := fun hne σ' hσ => by
    subst hσ
    rw [decide_eq_false hne] at hblk
    refine r_seq (r_set (c3 vv (v_ixT (j := 0) (xs := [.int (x.1 : Nat), .int (x.2 : Nat)]) vv (SqT.of ht) rfl) (v_ixT (j := 1) (xs := [.int (x.1 : Nat), .int (x.2 : Nat)]) vv (SqT.of ht) rfl) ⟨n, ow, as, s, x.1, x.2, rfl, N, I, hb, hx, fun v hv => nx ?_⟩))
    refine r_ret (r_andV (r_op (go vv (r_c ⟨rfl, _, rfl, ?_⟩))))
    cases hxa : Vbcnac.across s x.1 x.2 with
    | none =>
      rw [hxa] at hv hblk
      cases (show v = .non from hv)
      have := hQ H (Same.refl _)
      rw [hblk] at this
      exact if_n this
    | some y =>
      rw [hxa] at hv hblk
      obtain ⟨u, rfl, hu⟩ := hv
      obtain ⟨z1, z2, z3⟩ := across_iff.mp hxa
      obtain ⟨_, _, _, hy2⟩ := I.peer (c := y.1) (q := y.2) z2
      refine if_y (r_op (c3 vv vv vv ⟨n, p, t, ow, as, s, x, rfl, N, I, PL, ht, hon, hx, fun u1 H1 e1 hu1 => c3 vv vv vv ⟨n, p, u, ow, as, s, y, rfl, N.same e1, I, PL.same e1, e1 _ _ hu, z3, hy2, fun u2 H2 e2 hu2 => v_geR (e2 _ _ hu1) hu2 rfl ?_⟩⟩))
      have := hQ H2 (e1.trans e2)
      rw [hblk] at this
      exact this
  cases hpr : Vbcnac.plainRoot s (Vbcnac.costs s) x.1 with
  | none =>
    refine go (v_ixT (j := 1) (xs := [.int (x.1 : Nat), .int (x.2 : Nat)]) vv (SqT.of ht) rfl) ⟨rfl, _, rfl, ?_⟩
    rw [show decide ((((none : Option Nat).map fun p => V.int (p : Nat)).getD .non) = V.int (x.2 : Nat)) = false from decide_eq_false (by intro z; cases z)]
    exact if_n (r_next (nx (rest (by rw [hpr]; intro z; cases z) _ rfl)))
  | some q =>
    refine go (v_ixT (j := 1) (xs := [.int (x.1 : Nat), .int (x.2 : Nat)]) vv (SqT.of ht) rfl) ⟨rfl, _, rfl, ?_⟩
    show if decide (V.int (q : Nat) = V.int (x.2 : Nat)) = true then _ else _
    rw [dec_int]
    by_cases hq : q = x.2
    · rw [beq_iff_eq.mpr hq]
      refine if_y (r_ret (r_c ?_))
      have := hQ H (Same.refl _)
      rw [hblk, hpr, hq, decide_eq_true rfl] at this
      exact this
    · rw [beq_eq_false_iff_ne.mpr hq]
      exact if_n (r_next (nx (rest (by rw [hpr]; intro z; exact hq (Option.some.inj z)) _ rfl)))
end
end Sw
namespace Sw
open PySem PySem.Spec PyProof.Rows L2
def pl2 (s : Vbcnac.State) (x : Cb) : Bool := (Vbcnac.across s x.1.1 x.1.2).isSome && (!blk s x.1 && !blk s x.2)
/-- cables of the plain tree -/
def pcabs (s : Vbcnac.State) : List Cb := (cabs s).filter (pl2 s)
theorem plain_rows (s : Vbcnac.State) : Vbcnac.plainRows s = (pcabs s).map row4 := by
  unfold Vbcnac.plainRows pcabs cabs cabsTo Vbcnac.places
  have key : ∀ (b : Nat) (l : List Nat), ((l.map fun p => (b, p)).filterMap fun x => match Vbcnac.across s x.1 x.2 with
      | none => none
      | some y => if Vbcnac.less [x.1, x.2] [y.1, y.2] = true ∧ Vbcnac.plainRole s (Vbcnac.costs s) x.1 x.2 ≠ .blocked ∧ Vbcnac.plainRole s (Vbcnac.costs s) y.1 y.2 ≠ .blocked then some [x.1, x.2, y.1, y.2] else none) = ((l.filterMap fun p => cab s b p).filter (pl2 s)).map row4 := by
    intro b l
    induction l with
    | nil => rfl
    | cons p l ih =>
      rw [List.map_cons, List.filterMap_cons, List.filterMap_cons, ih]
      unfold cab
      cases hx : Vbcnac.across s b p with
      | none =>
        cases hy : (Vbcnac.portAt s b p).peer with
        | none => rfl
        | some y =>
          by_cases h1 : Vbcnac.less [b, p] [y.1, y.2] = true
          · have h3 : pl2 s ((b, p), y) = false := by
              unfold pl2
              rw [show Vbcnac.across s ((b, p), y).1.1 ((b, p), y).1.2 = none from hx]
              rfl
            simp [h1, h3]
          · simp [h1]
      | some y =>
        rw [(across_iff.mp hx).2.1]
        by_cases h1 : Vbcnac.less [b, p] [y.1, y.2] = true
        · by_cases h2 : blk s (b, p) = false ∧ blk s y = false
          · have h3 : pl2 s ((b, p), y) = true := by
              unfold pl2
              rw [show Vbcnac.across s ((b, p), y).1.1 ((b, p), y).1.2 = some y from hx, h2.1, h2.2]
              rfl
            have h4 := (role_blk (s := s) (b, p)).mpr h2.1
            have h5 := (role_blk (s := s) y).mpr h2.2
            simp [h1, h3, h4, h5, row4]
          · have h3 : pl2 s ((b, p), y) = false := by
              unfold pl2
              rw [Bool.eq_false_iff]
              intro z
              rw [Bool.and_eq_true, Bool.and_eq_true] at z
              exact h2 ⟨by simpa using z.2.1, by simpa using z.2.2⟩
            have h4 : ¬ (Vbcnac.plainRole s (Vbcnac.costs s) b p ≠ .blocked ∧ Vbcnac.plainRole s (Vbcnac.costs s) y.1 y.2 ≠ .blocked) := fun z => h2 ⟨(role_blk (s := s) (b, p)).mp z.1, (role_blk (s := s) y).mp z.2⟩
            have h5 : ¬ (Vbcnac.less [b, p] [y.1, y.2] = true ∧ Vbcnac.plainRole s (Vbcnac.costs s) b p ≠ .blocked ∧ Vbcnac.plainRole s (Vbcnac.costs s) y.1 y.2 ≠ .blocked) := fun z => h4 z.2
            simp only [if_neg h5, if_pos h1, List.filter_cons, h3]
            rfl
        · simp [h1]
  generalize List.range s.bridges.length = bs
  induction bs with
  | nil => rfl
  | cons b bs ih =>
    rw [List.flatMap_cons, List.flatMap_cons, List.filterMap_append, List.filter_append, List.map_append, ih]
    exact congrArg (· ++ _) (key b (List.range 16))
section
variable {P : Program} {w : World} {K : PySem.W.Frag} {mg : Str → Option Value} {base : Heap}
/-! ### plain_cables -/
def sp_plain_cables (K : PySem.W.Frag) : Sp := fun vs H Q _ => ∃ n ow as s, vs = [.ref n] ∧ NetAt K ow as H n s ∧ Inv s ∧ ∀ p H' us, Same H H' → H p = none → H' p = some (.lst us) → Paired (PP H') us (pcabs s) → Q (.ref p) H'
theorem sc_plain_cables : FnScope ["net", "plain", "cables", "port", "other"] ["net"] D_plain_cables.scope := ⟨rfl, rfl, rfl, by decide +kernel, rfl, by decide +kernel, by decide +kernel⟩
-- level 6; slots 0:net 1:plain 2:cables 3:port 4:other; captured []
theorem ok_plain_cables (T : Txt K mg) (G_plain_tree : Does P w K mg base 5 "plain_tree" ["net"] (sp_plain_tree K)) (G_cables_of : Does P w K mg base 1 "cables_of" ["net"] (sp_cables_of K)) (G_live_cable : Does P w K mg base 1 "live_cable" ["net", "number", "place"] (sp_live_cable K)) (G_is_plainly_blocked : Does P w K mg base 3 "is_plainly_blocked" ["net", "plain", "port"] (sp_is_plainly_blocked K)) : Does P w K mg base 6 "plain_cables" ["net"] (sp_plain_cables K) := by
  refine does_of T 54 (d := D_plain_cables) rfl rfl rfl rfl T.g_plain_cables sc_plain_cables (fun _ _ _ _ _ _ us hl => match us, hl with | [_], _ => rfl) (fun vs H Q E h => by obtain ⟨_, _, _, _, rfl, _⟩ := h; rfl) (fun cdv A outer s H vs Q E hr h => ⟨_, (pss_cons (ps_set (i := 1) sc_plain_cables.nd rfl (.inl rfl) (pe_f G_plain_tree (hr.mono (by decide)) (by rfl) (pa_cons (pv 0) pa_nil)))
      (pss_cons (ps_set (i := 2) sc_plain_cables.nd rfl (.inl rfl) (pe_lst pa_nil))
      (pss_cons (ps_for PassesOwn.never rfl (pi_list (pe_f G_cables_of (hr.mono (by decide)) (by rfl) (pa_cons (pv 0) pa_nil))) (pg_tup (n := 2) rfl (pgs_cons (pg_name (i := 3) sc_plain_cables.nd rfl (.inl rfl)) (pgs_cons (pg_name (i := 4) sc_plain_cables.nd rfl (.inl rfl)) pgs_nil))) (pss_one (ps_if (pt_cmpR op_notN (pe_f G_live_cable (hr.mono (by decide)) (by rfl) (pa_cons (pv 0) (pa_cons (pe_ix ix_tup (pv 3) pe_int (fun _ _ => rfl)) (pa_cons (pe_ix ix_tup (pv 3) pe_int (fun _ _ => rfl)) pa_nil)))) pe_non (nomark _)) (pss_one (ps_if (PW.pt (pw_and (pt_not (pt_val (pe_f G_is_plainly_blocked (hr.mono (by decide)) (by rfl) (pa_cons (pv 0) (pa_cons (pv 1) (pa_cons (pv 3) pa_nil)))))) (pw_and1 (pt_not (pt_val (pe_f G_is_plainly_blocked (hr.mono (by decide)) (by rfl) (pa_cons (pv 0) (pa_cons (pv 1) (pa_cons (pv 4) pa_nil))))))))) (pss_one (ps_expr (pe_bm PySem.F.plainAttrs_list PySem.F.slot_list_append PySem.F.type_list_append mt_append (pv 2) (pa_cons (pe_tup (pa_cons (pv 3) (pa_cons (pv 4) pa_nil))) pa_nil)))) pss_nil)) pss_nil)))
      (pss_one (ps_ret (pv 2)))))), ?_⟩)
  obtain ⟨n, ow, as, s, rfl, N, I, hQ⟩ := h
  refine r_seq (r_set (c1 vv ⟨n, ow, as, s, rfl, N, I, fun pl H1 e1 npl PL => nx ?_⟩))
  refine r_seq (r_set (r_lst (r_nil ⟨by show 0 ≤ sizeLine; decide, fun C nC => nx ?_⟩)))
  have eC : Same H1 (upd H1 C (.lst [])) := same_new nC
  have nCH : H C = none := e1.free nC
  have hC0 : (upd H1 C (.lst [])) C = some (.lst []) := upd_same
  generalize (upd H1 C (.lst [])) = H2 at eC hC0
  have e2 := e1.trans eC
  refine r_seq (r_for (r_ilist (c1 vv ⟨ow, as, n, s, rfl, N.same e2, I.np, I.nb, fun H3 p us e3 np hl pp => ⟨p, rfl, ⟨_, SqL.of hl⟩, for_it walk_list
    (fun i σ H' => ∃ v3 v4 out, σ = [some (.ref n), some (.ref pl), some (.ref C), v3, v4] ∧ Same H1 H' ∧ H' C = some (.lst out) ∧ Paired (PP H') out (((cabs s).take i).filter (pl2 s)) ∧ H' p = some (.lst us) ∧ Paired (PP H') us (cabs s))
    ⟨none, none, [], rfl, eC.trans e3, e3 _ _ hC0, .nil, hl, pp⟩ (fun i σ H' _ ⟨_, _, _, _, _, _, _, h, _⟩ => SqL.of h) ?hs ?hd⟩⟩)))
  case hd =>
    rintro σ H4 ⟨v3, v4, out, rfl, e4, hC4, po, hp4, pp4⟩
    rw [Paired.length pp4, List.take_length] at po
    exact nx (r_ret (go vv (hQ C H4 out (e1.trans e4) nCH hC4 po)))
  case hs =>
    rintro i y σ H4 H5 hi ⟨v3, v4, out, rfl, e4, hC4, po, hp4, pp4⟩ ⟨rfl, hy⟩
    obtain ⟨c, hc, ta, u1, u2, rfl, hta, ⟨t1, rfl, ht1⟩, t2, rfl, ht2⟩ := Paired.get pp4 hy
    obtain ⟨g1, g2', g3⟩ := cab_mem (List.mem_of_getElem? hc)
    have tk := take_succ' hc
    have hpC : p ≠ C := (ne_of_none hC0 np).symm
    have N5 := N.same (e1.trans e4)
    have PL5 := PL.same e4
    have hlen : out.length ≤ 512 := by
      have h1 := Paired.length po
      have h2 : (((cabs s).take i).filter (pl2 s)).length ≤ ((cabs s).take i).length := List.length_filter_le _ _
      have h3 : ((cabs s).take i).length ≤ (cabs s).length := by
        rw [List.length_take]
        omega
      have h4 : (cabs s).length ≤ 16 * s.bridges.length := cabsTo_len s s.bridges.length
      have h5 := I.nb
      omega
    have skip : pl2 s c = false → ∀ H6, Same H5 H6 → ∃ v3 v4 out', ([some (.ref n), some (.ref pl), some (.ref C), some (.ref t1), some (.ref t2)] : L2.St) = [some (.ref n), some (.ref pl), some (.ref C), v3, v4] ∧ Same H1 H6 ∧ H6 C = some (.lst out') ∧ Paired (PP H6) out' (((cabs s).take (i + 1)).filter (pl2 s)) ∧ H6 p = some (.lst us) ∧ Paired (PP H6) us (cabs s) := fun hf H6 e6 => by
      refine ⟨_, _, out, rfl, e4.trans e6, e6 _ _ hC4, ?_, e6 _ _ hp4, Paired.imp (fun _ _ => PP.mono (Tup.of_same e6)) pp4⟩
      rw [tk, List.filter_append, List.filter_cons, hf]
      rw [show (if false = true then c :: List.filter (pl2 s) [] else List.filter (pl2 s) []) = [] from rfl, List.append_nil]
      exact Paired.imp (fun _ _ => PP.mono (Tup.of_same e6)) po
    have hpl : pl2 s c = ((Vbcnac.across s c.1.1 c.1.2).isSome && (!blk s c.1 && !blk s c.2)) := rfl
    refine Sw.g2 hta (r_if (r_test (r_op (c3 vv (v_ixT (j := 0) (xs := [.int (c.1.1 : Nat), .int (c.1.2 : Nat)]) vv (SqT.of ht1) rfl) (v_ixT (j := 1) (xs := [.int (c.1.1 : Nat), .int (c.1.2 : Nat)]) vv (SqT.of ht1) rfl) ⟨n, ow, as, s, c.1.1, c.1.2, rfl, N5, I, g1, g2', fun v hv => r_c ⟨rfl, _, rfl, ?_⟩⟩))))
    cases hx : Vbcnac.across s c.1.1 c.1.2 with
    | none =>
      rw [hx] at hv hpl
      cases (show v = .non from hv)
      exact if_n (r_next (skip hpl _ (Same.refl _)))
    | some y =>
      rw [hx] at hv hpl
      obtain ⟨u, rfl, hu⟩ := hv
      obtain ⟨z1, z2, z3⟩ := across_iff.mp hx
      have hyc : y = c.2 := by
        rw [g3] at z2
        exact (Option.some.inj z2).symm
      rw [hyc] at z3
      obtain ⟨_, _, _, g4⟩ := I.peer (c := c.2.1) (q := c.2.2) g3
      refine if_y (r_if (r_and (r_not (r_tb (c3 vv vv vv ⟨n, pl, t1, ow, as, s, c.1, rfl, N5, I, PL5, ht1, z1, g2', fun H6 e6 => ⟨_, rfl, ?_⟩⟩)))))
      cases hb1 : blk s c.1 with
      | true =>
        rw [hb1] at hpl
        exact if_n (if_n (r_next (skip hpl _ e6)))
      | false =>
        rw [hb1] at hpl
        refine if_y (r_not (r_tb (c3 vv vv vv ⟨n, pl, t2, ow, as, s, c.2, rfl, N5.same e6, I, PL5.same e6, e6 _ _ ht2, z3, g4, fun H7 e7 => ⟨_, rfl, ?_⟩⟩)))
        have e67 := e6.trans e7
        cases hb2 : blk s c.2 with
        | true =>
          rw [hb2] at hpl
          exact if_n (r_next (skip hpl _ e67))
        | false =>
          rw [hb2] at hpl
          have hpl2 : pl2 s c = true := hpl
          have hC7 := e67 _ _ hC4
          refine if_y (r_drop (r_bm (go vv ⟨ty_list hC7, r_cons (r_tup (r_cons (go vv (r_cons (go vv (r_nil ⟨by show 2 ≤ sizeLine; decide, fun t3 n3 => r_nil ?_⟩))))))⟩)))
          have e8 := same_new (o := .tup [.ref t1, .ref t2]) n3
          have e58 := e67.trans e8
          have hC8 := e8 _ _ hC7
          have tt := tup_upd (u := .lst (out ++ [.ref t3])) hC8 rfl
          refine ⟨C, out, .ref t3, rfl, rfl, hC8, Nat.lt_of_le_of_lt hlen (by decide), _, _, out ++ [.ref t3], rfl, same_upd (e4.trans e58) nC, upd_same, ?_, by rw [upd_ne hpC]; exact e58 _ _ hp4, Paired.imp (fun _ _ h => (h.mono (Tup.of_same e58)).mono tt) pp4⟩
          rw [tk, List.filter_append, List.filter_cons, hpl2]
          exact Paired.snoc ⟨t3, .ref t1, .ref t2, rfl, tt _ _ upd_same, ⟨t1, rfl, tt _ _ (e58 _ _ ht1)⟩, ⟨t2, rfl, tt _ _ (e58 _ _ ht2)⟩⟩ (Paired.imp (fun _ _ h => (h.mono (Tup.of_same e58)).mono tt) po)
/-! ### plain_call -/
def sp_plain_call (K : PySem.W.Frag) : Sp := fun vs H Q _ => ∃ v ow as s, vs = [v] ∧ SesAt K ow as H v s ∧ Ans K v ow H (Vbcnac.step s .plain) Q
theorem sc_plain_call : FnScope ["net", "refusal", "port", "other"] ["net"] D_plain_call.scope := ⟨rfl, rfl, rfl, by decide +kernel, rfl, by decide +kernel, by decide +kernel⟩
-- level 7; slots 0:net 1:refusal 2:port 3:other; captured []
theorem ok_plain_call (T : Txt K mg) (G_refusal_of : Does P w K mg base 1 "refusal_of" ["net", "numbers", "ranges", "bridges"] (sp_refusal_of K)) (G_rows_of : Does P w K mg base 1 "rows_of" ["rows"] (sp_rows_of K)) (G_plain_cables : Does P w K mg base 6 "plain_cables" ["net"] (sp_plain_cables K)) : Does P w K mg base 7 "plain_call" ["net"] (sp_plain_call K) := by
  refine does_of T 61 (d := D_plain_call) rfl rfl rfl rfl T.g_plain_call sc_plain_call (fun _ _ _ _ _ _ us hl => match us, hl with | [_], _ => rfl) (fun vs H Q E h => by obtain ⟨_, _, _, _, rfl, _⟩ := h; rfl) (fun cdv A outer s H vs Q E hr h => ⟨_, (pss_cons (ps_set (i := 1) sc_plain_call.nd rfl (.inl rfl) (pe_f G_refusal_of (hr.mono (by decide)) (by rfl) (pa_cons (pv 0) (pa_cons (pe_tup pa_nil) (pa_cons (pe_tup pa_nil) (pa_cons (pe_tup pa_nil) pa_nil))))))
      (pss_cons (ps_if (pt_cmpR op_ne (pv 1) pe_int (nomark _)) (pss_one (ps_ret (pe_lst (pa_cons (pv 1) pa_nil)))) pss_nil)
      (pss_one (ps_ret (pe_f G_rows_of (hr.mono (by decide)) (by rfl) (pa_cons (pe_lc (own := [("port", 2), ("other", 3)]) (tt := tYes) (g := gTup K 2 (gCons (gName 2) (gCons (gName 3) gNil))) rfl sc_plain_call.nd (pi_list (pe_f G_plain_cables (hr.mono (by decide)) (by rfl) (pa_cons (pv 0) pa_nil))) (blkOk_by (own := [("port", 2), ("other", 3)]) (N := ["net", "refusal", "port", "other"]) (sc := D_plain_call.scope) (by decide +kernel)) (fun _ _ _ _ _ => (pg_tup (n := 2) rfl (pgs_cons (pg_name (i := 2) sc_plain_call.nd rfl (.inl rfl)) (pgs_cons (pg_name (i := 3) sc_plain_call.nd rfl (.inl rfl)) pgs_nil)))) (fun _ _ _ _ _ => pts_nil) (fun _ _ _ _ _ => (pe_op (op_catK (K := K) rfl) (pv 2) (pv 3)))) pa_nil)))))), ?_⟩)
  obtain ⟨v, ow, as, s, rfl, S, A⟩ := h
  refine r_refusal (c := .plain) (ns := []) (rs := []) (bs := []) 1 S A rfl rfl rfl rfl rfl (by show 1 < 4; decide) args_0 fun n H1 hv N e hbeg I z A1 => ?_
  subst hv
  have ed : Vbcnac.does s .plain = (s, Vbcnac.rowsOf (Vbcnac.plainRows s)) := rfl
  rw [plain_rows] at ed
  refine r_ret (r_call (r_cons ?_))
  have flen : (pcabs s).length ≤ 512 := by
    have h1 := cabsTo_len s s.bridges.length
    have h2 : (pcabs s).length ≤ (cabs s).length := List.length_filter_le _ _
    have h3 := I.nb
    have h4 : (cabs s).length ≤ 16 * s.bridges.length := h1
    omega
  refine c1 vv ⟨n, ow, as, s, rfl, N, I, fun p H2 us e2 np hl pp => ⟨p, rfl, ⟨_, SqL.of hl⟩, lc_rows rfl hl pp (by rw [Paired.length pp]; omega) fun D H3 us' e3 hD hD3 pr => r_nil ⟨D, us', _, rfl, hD3, pr, by rw [flat4]; omega, fun q H4 e4 nq hq => ?_⟩⟩⟩
  have ee := e2.trans e3
  exact (A1.eq ed).look (.inr ⟨n, rfl, N, hbeg, I⟩) (ee.trans e4) (ee.free nq) hq
end
end Sw
/-! sorted of a dict's keys, numbers, any number of them -/
namespace Sw
open PySem PySem.Spec PyProof.Rows L2
def rSortDN : List V → Hp → VK → Prop := fun vs H Q => ∃ (c : Addr) (kk : List (Key × V)) (ns : List Int), vs = [.ref c] ∧ H c = some (.dK kk) ∧ kk.map (·.1) = ns.map Sum.inl ∧
  ∀ (ms : List Int) (r : Addr), ms.Perm ns → ms.Pairwise (· ≤ ·) → H r = none → Q (.ref r) (upd H r (.lst (ms.map V.int)))
theorem cr_sortedDN {X : Cx} (hcalm : X.calm = true) : CallR X (.builtin "sorted") rSortDN := by
  intro pins s σ H vs us Q I rv h
  obtain ⟨c, kk, ns, rfl, hc, hkk, q⟩ := h
  obtain ⟨u, rfl, ru⟩ := vals1 rv
  cases ru
  obtain ⟨z, low, ws, rel, dd⟩ := dk_rd I.hok (.inl hc)
  obtain ⟨ep, hat⟩ := dd.dictAt
  have hws : ws.map (·.1) = ns.map Sum.inl := rel.keys.symm.trans hkk
  have hlen : ws.length = ns.length := by
    have e := congrArg List.length hws
    rw [List.length_map, List.length_map] at e
    exact e
  have hline : ws.length ≤ sizeLine := by
    rw [← rel.length]
    exact z
  refine Calls.call_function_entry PyProof.Rows.kind_sorted PyProof.Rows.plain_sorted PyProof.Rows.entry_sorted (PyProof.Rows.args_sorted1 _) ?_
  unfold Builtin.«sorted»
  refine wpAny_bind (m := checkCount "sorted" 1 1 _) (wpAny_pure ?_)
  refine wpAny_bind (PySem.W.kdu_collect (A := X.A.in1) (PySem.W.kdl_dict (knd := mixKind X.prog X.w) (kvs := ws) (ep := ep) low) (I.ok.hd hcalm) hat hline fun g tk acc hk hacc => ?_)
  have hal : acc.toList.length = ns.length := by
    rw [Array.length_toList, hacc.1, hlen]
  have hI : IntsAre acc.toList ns := ints_each hal fun j v e => by
    obtain ⟨k, x, e1, e2⟩ := hacc.2 j v (by rw [← Array.getElem?_toList]; exact e)
    have e3 : (ws.map (·.1))[j]? = some k := by
      rw [List.getElem?_map, e1]
      rfl
    rw [hws, List.getElem?_map] at e3
    cases e4 : ns[j]? with
    | none =>
      rw [e4] at e3
      cases e3
    | some y =>
      rw [e4] at e3
      cases Option.some.inj e3
      rcases keyIs_shape (show keyIs (Sum.inl y) v = true from e2) with ⟨i, t, ek, ev⟩ | ⟨z, t, ek, ev⟩
      · cases ek
        exact ⟨y, t, rfl, ev⟩
      · cases ek
  have I1 : L2.Inv X pins σ H { s with heap := g, toks := tk } := I.kept hk
  have hacl : acc.toList.length ≤ sizeLine := by rw [hal, ← hlen]; exact hline
  refine wpAny_bind (wpAny_newList ?_ hacl)
  have hob : (g.push (seqObj "list" acc.toList.toArray 0)).get? g.objs.size = some (seqObj "list" acc.toList.toArray 0) := Heap.get?_push_size _ rfl
  show wpAny _ _ _ _ _ { s with heap := g.push (seqObj "list" acc.toList.toArray 0), toks := tk }
  refine wpAny_bind (wpAny_holding (wpAny_call_entry PyProof.Rows.slot_list_sort ⟨_, hob, rfl⟩ PyProof.Rows.entry_list_sort
    (SrtO.list_sort_ord (s := { s with heap := g.push (seqObj "list" acc.toList.toArray 0), toks := tk }) SrtO.swo_int hob hacl (fun h2 => SrtO.ints_sortable hI h2) fun out h1 h2 => ⟨_, rfl, ?_⟩) (PyProof.Rows.args_list_sort _)))
  obtain ⟨k1, k2, k3⟩ := SrtO.ints_out hI h1 h2
  obtain ⟨e', he'⟩ := PyProof.Rows.sortedHeap_at (vs := acc.toList) (out := out.toArray) hob
  have hfin : ((out.map SrtO.iv).map V.int).length ≤ sizeLine := by
    rw [List.length_map, k2.length_eq, ← hlen]
    exact hline
  refine wpAny_pure ⟨_, rfl, .ref g.objs.size, upd H g.objs.size (.lst ((out.map SrtO.iv).map V.int)), I1.laid (t' := tk) (fun b u e => ?_) (Nat.le_refl _)
    (show ObjOk X.prog X.w _ _ _ (.lst ((out.map SrtO.iv).map V.int)) from ⟨hfin, out, e', vals_of_ints k1, he'⟩), rfl, q _ _ k2 k3 (I1.hok.fresh (Nat.le_refl _))⟩
  have hlt : b < g.objs.size := Heap.lt_size e
  rw [PyProof.Rows.sortedHeap_old (Nat.ne_of_lt hlt) (by rw [size_push']; exact Nat.lt_succ_of_lt hlt)]
  exact Heap.get?_push_of_some _ e
/-! ### stations_call -/
theorem num_sorted {l : List Vbcnac.Station} (h : SortedS l) : (l.map fun x => (x.number : Int)).Pairwise (· ≤ ·) := by
  rw [List.pairwise_map]
  exact h.imp fun h => by omega
theorem find_own {l : List Vbcnac.Station} (h : SortedS l) {x : Vbcnac.Station} (hx : x ∈ l) : l.find? (fun y => y.number == x.number) = some x := by
  cases q : l.find? (fun y => y.number == x.number) with
  | none =>
    rw [List.find?_eq_none] at q
    exact absurd (by simp) (q x hx)
  | some z =>
    have h4 := List.mem_of_find?_eq_some q
    have h5 := List.find?_some q
    have e2 : z.number = x.number := by simpa using h5
    obtain ⟨i, hi, rfl⟩ := List.getElem_of_mem hx
    obtain ⟨j, hj, rfl⟩ := List.getElem_of_mem h4
    have := List.pairwise_iff_getElem.mp h
    rcases Nat.lt_trichotomy i j with g | g | g
    · have := this i j hi hj g
      omega
    · subst g
      rfl
    · have := this j i hj hi g
      omega
theorem flat3 : ∀ L : List Vbcnac.Station, (L.map fun x => [x.number, x.port, x.age]).flatten.length = 3 * L.length
  | [] => rfl
  | x :: L => by
    rw [List.map_cons, List.flatten_cons, List.length_append, flat3 L]
    show 3 + 3 * L.length = 3 * (L.length + 1)
    omega
theorem ent_keys {H : Hp} : ∀ {kvs : List (Key × V)} {m : List Vbcnac.Station}, Paired (Ent H) kvs m → kvs.map (·.1) = (m.map fun x => (x.number : Int)).map Sum.inl
  | _, _, .nil => rfl
  | kv :: kvs, x :: m, .cons h t => by
    rw [List.map_cons, List.map_cons, List.map_cons, ent_keys t, h.1]
section
variable {P : Program} {w : World} {K : PySem.W.Frag} {mg : Str → Option Value} {base : Heap}
def sp_stations_call (K : PySem.W.Frag) : Sp := fun vs H Q _ => ∃ v b ow as s, vs = [v, .int b] ∧ SesAt K ow as H v s ∧ Ans K v ow H (Vbcnac.step s (.stations b)) Q
theorem sc_stations_call : FnScope ["net", "number", "refusal", "stations", "station"] ["net", "number"] D_stations_call.scope := ⟨rfl, rfl, rfl, by decide +kernel, rfl, by decide +kernel, by decide +kernel⟩
-- level 2; slots 0:net 1:number 2:refusal 3:stations 4:station; captured ['stations']
theorem ok_stations_call (T : Txt K mg) (G_refusal_of : Does P w K mg base 1 "refusal_of" ["net", "numbers", "ranges", "bridges"] (sp_refusal_of K)) (G_rows_of : Does P w K mg base 1 "rows_of" ["rows"] (sp_rows_of K)) : Does P w K mg base 2 "stations_call" ["net", "number"] (sp_stations_call K) := by
  refine does_of T 63 (d := D_stations_call) rfl rfl rfl rfl T.g_stations_call sc_stations_call (fun _ _ _ _ _ _ us hl => match us, hl with | [_, _], _ => rfl) (fun vs H Q E h => by obtain ⟨_, _, _, _, _, rfl, _⟩ := h; rfl) (fun cdv A outer s H vs Q E hr h => ⟨_, (pss_cons (ps_set (i := 2) sc_stations_call.nd rfl (.inl rfl) (pe_f G_refusal_of (hr.mono (by decide)) (by rfl) (pa_cons (pv 0) (pa_cons (pe_tup (pa_cons (pv 1) pa_nil)) (pa_cons (pe_tup (pa_cons (pe_gr T.g_BRIDGE rfl) pa_nil)) (pa_cons (pe_tup (pa_cons (pv 1) pa_nil)) pa_nil))))))
      (pss_cons (ps_if (pt_cmpR op_ne (pv 2) pe_int (nomark _)) (pss_one (ps_ret (pe_lst (pa_cons (pv 2) pa_nil)))) pss_nil)
      (pss_cons (ps_set (i := 3) sc_stations_call.nd rfl (.inr rfl) (pe_fld (pe_ix ix_list (pe_fld (pv 0) rfl) (pv 1) (fun _ _ => rfl)) rfl))
      (pss_one (ps_ret (pe_f G_rows_of (hr.mono (by decide)) (by rfl) (pa_cons (pe_lc (own := [("station", 4)]) (tt := tYes) (g := gName 4) rfl sc_stations_call.nd (pi_list (pe_callB (cr_sortedDN rfl) (by rfl) T.f_sorted (by decide +kernel) (pa_cons (pv 3) pa_nil))) (blkOk_by (own := [("station", 4)]) (N := ["net", "number", "refusal", "stations", "station"]) (sc := D_stations_call.scope) (by decide +kernel)) (fun _ _ _ _ _ => (pg_name (i := 4) sc_stations_call.nd rfl (.inl rfl))) (fun _ _ _ _ _ => pts_nil) (fun _ _ _ _ _ => (pe_op (op_catK (K := K) rfl) (pe_tup (pa_cons (pv 4) pa_nil)) (pe_dget (hu_of hr) (pv 3) (pv 4) (fun _ _ => rfl))))) pa_nil))))))), ?_⟩)
  obtain ⟨v, b, ow, as, s, rfl, S, A⟩ := h
  refine r_refusal (c := .stations b) (ns := [b]) (rs := [(0, 31)]) (bs := [b]) 2 S A rfl ?_ rfl rfl rfl (by show 2 < 5; decide) (args_b T rfl) fun n H1 hv N e hbeg I z A1 => ?_
  · show Vbcnac.isB b = (inSpan b (0, 31) && true)
    rw [Bool.and_true]
    rfl
  · subst hv
    obtain ⟨hr, hb⟩ := ref3_zero z
    have hb1 : 0 ≤ b ∧ b ≤ 31 := hr (b, (0, 31)) (by simp)
    have hb2 := hb b (by simp)
    obtain ⟨b, rfl⟩ := nat_of hb1.1
    have hb3 : b < s.bridges.length := by omega
    obtain ⟨a, ea⟩ := N.addr hb3
    obtain ⟨dx, l, st, ws, kvs, B⟩ := N.br b a ea
    have bk : SesAt K ow as H1 (.ref n) s := .inr ⟨n, rfl, N, hbeg, I⟩
    have ed : Vbcnac.does s (.stations (b : Int)) = (s, Vbcnac.rowsOf ((Vbcnac.bridgeAt s b).stations.map fun x => [x.number, x.port, x.age])) := rfl
    have hS : SortedS (Vbcnac.bridgeAt s b).stations := I.stS b
    have hlen : (Vbcnac.bridgeAt s b).stations.length ≤ 1024 := Nat.le_trans (I.stL b) I.rm
    obtain ⟨m, pm, pe⟩ := B.sta
    refine r_seq (r_set (go (B.fstations T (N.bridge T ea vv vv)) (nx ?_)))
    refine r_ret (r_call (r_cons ?_))
    refine r_ilist (r_cb (r_cons (go vv (r_nil ⟨st, kvs, _, rfl, B.dct, ent_keys pe, fun ms p hms hso np => ?_⟩))))
    have hms2 : ms = (Vbcnac.bridgeAt s b).stations.map fun x => (x.number : Int) := List.Perm.eq_of_pairwise (fun x y _ _ h1 h2 => Int.le_antisymm h1 h2) hso (num_sorted hS) (hms.trans (pm.map _))
    subst hms2
    have ep := same_new (o := .lst (((Vbcnac.bridgeAt s b).stations.map fun x => (x.number : Int)).map V.int)) np
    have hrl : (((Vbcnac.bridgeAt s b).stations.map fun x => (x.number : Int)).map V.int).length = (Vbcnac.bridgeAt s b).stations.length := by
      rw [List.length_map, List.length_map]
    refine ⟨p, rfl, ⟨_, SqL.of upd_same⟩, lc_mkL (fun i => (fun x : Vbcnac.Station => [x.number, x.port, x.age]) ((Vbcnac.bridgeAt s b).stations.getD i ⟨0, 0, 0⟩)) upd_same (by rw [hrl]; omega) (fun i x H3 hx e3 N' hN => ?_) fun D H3 us' e3 hD hD3 pr => r_nil ⟨D, us', (Vbcnac.bridgeAt s b).stations.map fun x => [x.number, x.port, x.age], rfl, hD3, ?_, by rw [flat3]; omega, fun q H4 e4 nq hq => ?_⟩⟩
    · rw [List.getElem?_map, List.getElem?_map] at hx
      cases hwi : (Vbcnac.bridgeAt s b).stations[i]? with
      | none =>
        rw [hwi] at hx
        cases hx
      | some y =>
        rw [hwi] at hx
        cases (show V.int (y.number : Nat) = x from Option.some.inj hx)
        have hg : (Vbcnac.bridgeAt s b).stations.getD i ⟨0, 0, 0⟩ = y := by
          rw [List.getD_eq_getElem?_getD, hwi]
          rfl
        rw [hg] at hN
        have hf := sta_find (k := y.number) (⟨m, pm, pe⟩ : Sta H1 kvs (Vbcnac.bridgeAt s b).stations) hS
        rw [find_own hS (List.mem_of_getElem? hwi)] at hf
        obtain ⟨ta, hv, hta⟩ := hf
        have ee := ep.trans e3
        refine r_op (r_tup (r_cons (go vv (r_nil ⟨by show 1 ≤ sizeLine; decide, fun t1 n1 => ?_⟩))))
        have e1 := same_new (o := .tup [.int (y.number : Nat)]) n1
        have dg := DGet.k (k := .inl (y.number : Int)) (e1 _ _ (ee _ _ B.dct))
        rw [hv] at dg
        refine r_dget (go vv (go vv ⟨st, .ref ta, rfl, dg, t1, ta, [.int (y.number : Nat)], [.int (y.port : Nat), .int (y.age : Nat)], rfl, rfl, SqT.of upd_same, SqT.of (e1 _ _ (ee _ _ hta)), by simp, by show 3 ≤ sizeLine; decide, fun y => (by cases y), fun _ t2 n2 => ?_⟩))
        exact hN t2 _ (e1.trans (same_new n2)) upd_same
    · rw [hrl, range_rows (Vbcnac.bridgeAt s b).stations ⟨0, 0, 0⟩ fun x => [x.number, x.port, x.age]] at pr
      exact pr
    · have ee := ep.trans (e3.trans e4)
      exact (A1.eq ed).look bk ee (ep.free (e3.free nq)) hq
end
end Sw
namespace Sw
open PySem PySem.Spec PyProof.Rows L2
/-! ### a call as a list of numbers -/
inductive Form : List Int → Vbcnac.Call → Prop
  | k_begin_ (a w k r : Int) : Form [0, a, w, k, r] (.begin_ a w k r)
  | k_bridge (r m : Int) : Form [1, r, m] (.bridge r m)
  | k_cable (b p c q : Int) : Form [2, b, p, c, q] (.cable b p c q)
  | k_cut (b p : Int) : Form [3, b, p] (.cut b p)
  | k_off (b : Int) : Form [4, b] (.off b)
  | k_on_ (b : Int) : Form [5, b] (.on_ b)
  | k_rank (b r : Int) : Form [6, b, r] (.rank b r)
  | k_cost (b p c : Int) : Form [7, b, p, c] (.cost b p c)
  | k_order (b p r : Int) : Form [8, b, p, r] (.order b p r)
  | k_rounds (m : Int) : Form [9, m] (.rounds m)
  | k_port (b p : Int) : Form [10, b, p] (.port b p)
  | k_view (b : Int) : Form [11, b] (.view b)
  | k_tree : Form [12] .tree
  | k_plain : Form [13] .plain
  | k_frame (b p x y : Int) : Form [14, b, p, x, y] (.frame b p x y)
  | k_stations (b : Int) : Form [15, b] (.stations b)
  | k_way (b c : Int) : Form [16, b, c] (.way b c)
  | k_quiet : Form [17] .quiet
def isChg : Vbcnac.Call → Bool
  | .bridge _ _ => true
  | .cable _ _ _ _ => true
  | .cut _ _ => true
  | .off _ => true
  | .on_ _ => true
  | _ => false
def isAsk : Vbcnac.Call → Bool
  | .port _ _ => true
  | .view _ => true
  | .tree => true
  | .plain => true
  | .frame _ _ _ _ => true
  | .stations _ => true
  | .way _ _ => true
  | .quiet => true
  | _ => false
theorem Form.of {l : List Int} {c : Vbcnac.Call} (h : Form l c) : VbcnacNeutral.callOf l = some c := by
  cases h <;> rfl
section
variable {K : PySem.W.Frag} {σ : L2.St} {H : Hp} {v : V} {L : Addr} {xs : List V} {i j : Nat}
theorem v_cl (h : σ[i]? = some (some (.ref L))) (hL : H L = some (.lst xs)) (hj : xs[j]? = some v) : Val (tOp (rIxL K) (tVar i) (tC (.int (j : Int)))) σ H v := v_ixL (vv h) val_c hL hj
end
section
variable {P : Program} {w : World} {K : PySem.W.Frag} {mg : Str → Option Value} {base : Heap}
/-! ### changing_answer -/
def sp_changing_answer (K : PySem.W.Frag) : Sp := fun vs H Q _ => ∃ v L l c ow as s, vs = [v, .ref L] ∧ H L = some (.lst ((l : List Int).map V.int)) ∧ Form l c ∧ isChg c = true ∧ SesAt K ow as H v s ∧ Ans K v ow H (Vbcnac.step s c) Q
theorem sc_changing_answer : FnScope ["net", "call", "number"] ["net", "call"] D_changing_answer.scope := ⟨rfl, rfl, rfl, by decide +kernel, rfl, by decide +kernel, by decide +kernel⟩
-- level 6; slots 0:net 1:call 2:number; captured []
theorem ok_changing_answer (T : Txt K mg) (G_add_bridge : Does P w K mg base 3 "add_bridge" ["net", "rank", "number"] (sp_add_bridge K)) (G_cable_call : Does P w K mg base 4 "cable_call" ["net", "port", "other"] (sp_cable_call K)) (G_cut_call : Does P w K mg base 4 "cut_call" ["net", "port"] (sp_cut_call K)) (G_off_call : Does P w K mg base 5 "off_call" ["net", "number"] (sp_off_call K)) (G_on_call : Does P w K mg base 5 "on_call" ["net", "number"] (sp_on_call K)) : Does P w K mg base 6 "changing_answer" ["net", "call"] (sp_changing_answer K) := by
  refine does_of T 68 (d := D_changing_answer) rfl rfl rfl rfl T.g_changing_answer sc_changing_answer (fun _ _ _ _ _ _ us hl => match us, hl with | [_, _], _ => rfl) (fun vs H Q E h => by obtain ⟨_, _, _, _, _, _, _, rfl, _⟩ := h; rfl) (fun cdv A outer s H vs Q E hr h => ⟨_, (pss_cons (ps_set (i := 2) sc_changing_answer.nd rfl (.inl rfl) (pe_ix ix_list (pv 1) pe_int (fun _ _ => rfl)))
      (pss_cons (ps_if (pt_cmpR op_eq (pv 2) pe_int (nomark _)) (pss_one (ps_ret (pe_f G_add_bridge (hr.mono (by decide)) (by rfl) (pa_cons (pv 0) (pa_cons (pe_ix ix_list (pv 1) pe_int (fun _ _ => rfl)) (pa_cons (pe_ix ix_list (pv 1) pe_int (fun _ _ => rfl)) pa_nil)))))) pss_nil)
      (pss_cons (ps_if (pt_cmpR op_eq (pv 2) pe_int (nomark _)) (pss_one (ps_ret (pe_f G_cable_call (hr.mono (by decide)) (by rfl) (pa_cons (pv 0) (pa_cons (pe_tup (pa_cons (pe_ix ix_list (pv 1) pe_int (fun _ _ => rfl)) (pa_cons (pe_ix ix_list (pv 1) pe_int (fun _ _ => rfl)) pa_nil))) (pa_cons (pe_tup (pa_cons (pe_ix ix_list (pv 1) pe_int (fun _ _ => rfl)) (pa_cons (pe_ix ix_list (pv 1) pe_int (fun _ _ => rfl)) pa_nil))) pa_nil)))))) pss_nil)
      (pss_cons (ps_if (pt_cmpR op_eq (pv 2) pe_int (nomark _)) (pss_one (ps_ret (pe_f G_cut_call (hr.mono (by decide)) (by rfl) (pa_cons (pv 0) (pa_cons (pe_tup (pa_cons (pe_ix ix_list (pv 1) pe_int (fun _ _ => rfl)) (pa_cons (pe_ix ix_list (pv 1) pe_int (fun _ _ => rfl)) pa_nil))) pa_nil))))) pss_nil)
      (pss_cons (ps_if (pt_cmpR op_eq (pv 2) pe_int (nomark _)) (pss_one (ps_ret (pe_f G_off_call (hr.mono (by decide)) (by rfl) (pa_cons (pv 0) (pa_cons (pe_ix ix_list (pv 1) pe_int (fun _ _ => rfl)) pa_nil))))) pss_nil)
      (pss_one (ps_ret (pe_f G_on_call (hr.mono (by decide)) (by rfl) (pa_cons (pv 0) (pa_cons (pe_ix ix_list (pv 1) pe_int (fun _ _ => rfl)) pa_nil)))))))))), ?_⟩)
  obtain ⟨v, L, l, c, ow, as, s, rfl, hL, hF, hc, S, A⟩ := h
  cases hF with
  | k_begin_ => cases hc
  | k_bridge r m =>
    refine r_seq (r_set (go (v_cl (j := 0) rfl hL rfl) (nx ?_)))
    refine r_seq (r_if (r_test (r_op (go vv (r_c ⟨rfl, _, rfl, if_y ?_⟩)))))
    refine r_ret (c3 vv (v_cl (j := 1) rfl hL rfl) (v_cl (j := 2) rfl hL rfl) ⟨v, r, m, ow, as, s, rfl, S, A⟩)
  | k_cable b p c q =>
    refine r_seq (r_set (go (v_cl (j := 0) rfl hL rfl) (nx ?_)))
    refine r_seq (r_if (r_test (r_op (go vv (r_c ⟨rfl, _, rfl, if_n (r_next (nx ?_))⟩)))))
    refine r_seq (r_if (r_test (r_op (go vv (r_c ⟨rfl, _, rfl, if_y ?_⟩)))))
    refine r_ret (r_call (r_cons (go vv (r_cons (r_tup (r_cons (go (v_cl (j := 1) rfl hL rfl) (r_cons (go (v_cl (j := 2) rfl hL rfl) (r_nil ⟨by show 2 ≤ sizeLine; decide, fun t1 n1 => ?_⟩))))))))))
    have e1 := same_new (o := .tup [.int b, .int p]) n1
    have hL1 := e1 _ _ hL
    refine (r_cons (r_tup (r_cons (go (v_cl (j := 3) rfl hL1 rfl) (r_cons (go (v_cl (j := 4) rfl hL1 rfl) (r_nil ⟨by show 2 ≤ sizeLine; decide, fun t2 n2 => ?_⟩)))))))
    have e2 := same_new (o := .tup [.int c, .int q]) n2
    have hL2 := e2 _ _ hL1
    exact r_nil ⟨v, t1, t2, b, p, c, q, ow, as, s, rfl, (e2 _ _ upd_same), upd_same, S.same (e1.trans e2), A.later (e1.trans e2)⟩
  | k_cut b p =>
    refine r_seq (r_set (go (v_cl (j := 0) rfl hL rfl) (nx ?_)))
    refine r_seq (r_if (r_test (r_op (go vv (r_c ⟨rfl, _, rfl, if_n (r_next (nx ?_))⟩)))))
    refine r_seq (r_if (r_test (r_op (go vv (r_c ⟨rfl, _, rfl, if_n (r_next (nx ?_))⟩)))))
    refine r_seq (r_if (r_test (r_op (go vv (r_c ⟨rfl, _, rfl, if_y ?_⟩)))))
    refine r_ret (r_call (r_cons (go vv (r_cons (r_tup (r_cons (go (v_cl (j := 1) rfl hL rfl) (r_cons (go (v_cl (j := 2) rfl hL rfl) (r_nil ⟨by show 2 ≤ sizeLine; decide, fun t1 n1 => ?_⟩))))))))))
    have e1 := same_new (o := .tup [.int b, .int p]) n1
    have hL1 := e1 _ _ hL
    exact r_nil ⟨v, t1, b, p, ow, as, s, rfl, upd_same, S.same e1, A.later e1⟩
  | k_off b =>
    refine r_seq (r_set (go (v_cl (j := 0) rfl hL rfl) (nx ?_)))
    refine r_seq (r_if (r_test (r_op (go vv (r_c ⟨rfl, _, rfl, if_n (r_next (nx ?_))⟩)))))
    refine r_seq (r_if (r_test (r_op (go vv (r_c ⟨rfl, _, rfl, if_n (r_next (nx ?_))⟩)))))
    refine r_seq (r_if (r_test (r_op (go vv (r_c ⟨rfl, _, rfl, if_n (r_next (nx ?_))⟩)))))
    refine r_seq (r_if (r_test (r_op (go vv (r_c ⟨rfl, _, rfl, if_y ?_⟩)))))
    refine r_ret (c2 vv (v_cl (j := 1) rfl hL rfl) ⟨v, b, ow, as, s, rfl, S, A⟩)
  | k_on_ b =>
    refine r_seq (r_set (go (v_cl (j := 0) rfl hL rfl) (nx ?_)))
    refine r_seq (r_if (r_test (r_op (go vv (r_c ⟨rfl, _, rfl, if_n (r_next (nx ?_))⟩)))))
    refine r_seq (r_if (r_test (r_op (go vv (r_c ⟨rfl, _, rfl, if_n (r_next (nx ?_))⟩)))))
    refine r_seq (r_if (r_test (r_op (go vv (r_c ⟨rfl, _, rfl, if_n (r_next (nx ?_))⟩)))))
    refine r_seq (r_if (r_test (r_op (go vv (r_c ⟨rfl, _, rfl, if_n (r_next (nx ?_))⟩)))))
    refine r_ret (c2 vv (v_cl (j := 1) rfl hL rfl) ⟨v, b, ow, as, s, rfl, S, A⟩)
  | k_rank => cases hc
  | k_cost => cases hc
  | k_order => cases hc
  | k_rounds => cases hc
  | k_port => cases hc
  | k_view => cases hc
  | k_tree => cases hc
  | k_plain => cases hc
  | k_frame => cases hc
  | k_stations => cases hc
  | k_way => cases hc
  | k_quiet => cases hc
/-! ### asking_answer -/
def sp_asking_answer (K : PySem.W.Frag) : Sp := fun vs H Q _ => ∃ v L l c ow as s, vs = [v, .ref L] ∧ H L = some (.lst ((l : List Int).map V.int)) ∧ Form l c ∧ isAsk c = true ∧ SesAt K ow as H v s ∧ Ans K v ow H (Vbcnac.step s c) Q
theorem sc_asking_answer : FnScope ["net", "call", "number"] ["net", "call"] D_asking_answer.scope := ⟨rfl, rfl, rfl, by decide +kernel, rfl, by decide +kernel, by decide +kernel⟩
-- level 8; slots 0:net 1:call 2:number; captured []
theorem ok_asking_answer (T : Txt K mg) (G_port_call : Does P w K mg base 4 "port_call" ["net", "port"] (sp_port_call K)) (G_view_call : Does P w K mg base 4 "view_call" ["net", "number"] (sp_view_call K)) (G_tree_call : Does P w K mg base 3 "tree_call" ["net"] (sp_tree_call K)) (G_plain_call : Does P w K mg base 7 "plain_call" ["net"] (sp_plain_call K)) (G_frame_call : Does P w K mg base 4 "frame_call" ["net", "port", "source", "target"] (sp_frame_call K)) (G_stations_call : Does P w K mg base 2 "stations_call" ["net", "number"] (sp_stations_call K)) (G_way_call : Does P w K mg base 4 "way_call" ["net", "number", "goal"] (sp_way_call K)) (G_quiet_call : Does P w K mg base 2 "quiet_call" ["net"] (sp_quiet_call K)) : Does P w K mg base 8 "asking_answer" ["net", "call"] (sp_asking_answer K) := by
  refine does_of T 69 (d := D_asking_answer) rfl rfl rfl rfl T.g_asking_answer sc_asking_answer (fun _ _ _ _ _ _ us hl => match us, hl with | [_, _], _ => rfl) (fun vs H Q E h => by obtain ⟨_, _, _, _, _, _, _, rfl, _⟩ := h; rfl) (fun cdv A outer s H vs Q E hr h => ⟨_, (pss_cons (ps_set (i := 2) sc_asking_answer.nd rfl (.inl rfl) (pe_ix ix_list (pv 1) pe_int (fun _ _ => rfl)))
      (pss_cons (ps_if (pt_cmpR op_eq (pv 2) pe_int (nomark _)) (pss_one (ps_ret (pe_f G_port_call (hr.mono (by decide)) (by rfl) (pa_cons (pv 0) (pa_cons (pe_tup (pa_cons (pe_ix ix_list (pv 1) pe_int (fun _ _ => rfl)) (pa_cons (pe_ix ix_list (pv 1) pe_int (fun _ _ => rfl)) pa_nil))) pa_nil))))) pss_nil)
      (pss_cons (ps_if (pt_cmpR op_eq (pv 2) pe_int (nomark _)) (pss_one (ps_ret (pe_f G_view_call (hr.mono (by decide)) (by rfl) (pa_cons (pv 0) (pa_cons (pe_ix ix_list (pv 1) pe_int (fun _ _ => rfl)) pa_nil))))) pss_nil)
      (pss_cons (ps_if (pt_cmpR op_eq (pv 2) pe_int (nomark _)) (pss_one (ps_ret (pe_f G_tree_call (hr.mono (by decide)) (by rfl) (pa_cons (pv 0) pa_nil)))) pss_nil)
      (pss_cons (ps_if (pt_cmpR op_eq (pv 2) pe_int (nomark _)) (pss_one (ps_ret (pe_f G_plain_call (hr.mono (by decide)) (by rfl) (pa_cons (pv 0) pa_nil)))) pss_nil)
      (pss_cons (ps_if (pt_cmpR op_eq (pv 2) pe_int (nomark _)) (pss_one (ps_ret (pe_f G_frame_call (hr.mono (by decide)) (by rfl) (pa_cons (pv 0) (pa_cons (pe_tup (pa_cons (pe_ix ix_list (pv 1) pe_int (fun _ _ => rfl)) (pa_cons (pe_ix ix_list (pv 1) pe_int (fun _ _ => rfl)) pa_nil))) (pa_cons (pe_ix ix_list (pv 1) pe_int (fun _ _ => rfl)) (pa_cons (pe_ix ix_list (pv 1) pe_int (fun _ _ => rfl)) pa_nil))))))) pss_nil)
      (pss_cons (ps_if (pt_cmpR op_eq (pv 2) pe_int (nomark _)) (pss_one (ps_ret (pe_f G_stations_call (hr.mono (by decide)) (by rfl) (pa_cons (pv 0) (pa_cons (pe_ix ix_list (pv 1) pe_int (fun _ _ => rfl)) pa_nil))))) pss_nil)
      (pss_cons (ps_if (pt_cmpR op_eq (pv 2) pe_int (nomark _)) (pss_one (ps_ret (pe_f G_way_call (hr.mono (by decide)) (by rfl) (pa_cons (pv 0) (pa_cons (pe_ix ix_list (pv 1) pe_int (fun _ _ => rfl)) (pa_cons (pe_ix ix_list (pv 1) pe_int (fun _ _ => rfl)) pa_nil)))))) pss_nil)
      (pss_one (ps_ret (pe_f G_quiet_call (hr.mono (by decide)) (by rfl) (pa_cons (pv 0) pa_nil)))))))))))), ?_⟩)
  obtain ⟨v, L, l, c, ow, as, s, rfl, hL, hF, hc, S, A⟩ := h
  cases hF with
  | k_begin_ => cases hc
  | k_bridge => cases hc
  | k_cable => cases hc
  | k_cut => cases hc
  | k_off => cases hc
  | k_on_ => cases hc
  | k_rank => cases hc
  | k_cost => cases hc
  | k_order => cases hc
  | k_rounds => cases hc
  | k_port b p =>
    refine r_seq (r_set (go (v_cl (j := 0) rfl hL rfl) (nx ?_)))
    refine r_seq (r_if (r_test (r_op (go vv (r_c ⟨rfl, _, rfl, if_y ?_⟩)))))
    refine r_ret (r_call (r_cons (go vv (r_cons (r_tup (r_cons (go (v_cl (j := 1) rfl hL rfl) (r_cons (go (v_cl (j := 2) rfl hL rfl) (r_nil ⟨by show 2 ≤ sizeLine; decide, fun t1 n1 => ?_⟩))))))))))
    have e1 := same_new (o := .tup [.int b, .int p]) n1
    have hL1 := e1 _ _ hL
    exact r_nil ⟨v, t1, b, p, ow, as, s, rfl, upd_same, S.same e1, A.later e1⟩
  | k_view b =>
    refine r_seq (r_set (go (v_cl (j := 0) rfl hL rfl) (nx ?_)))
    refine r_seq (r_if (r_test (r_op (go vv (r_c ⟨rfl, _, rfl, if_n (r_next (nx ?_))⟩)))))
    refine r_seq (r_if (r_test (r_op (go vv (r_c ⟨rfl, _, rfl, if_y ?_⟩)))))
    refine r_ret (c2 vv (v_cl (j := 1) rfl hL rfl) ⟨v, b, ow, as, s, rfl, S, A⟩)
  | k_tree =>
    refine r_seq (r_set (go (v_cl (j := 0) rfl hL rfl) (nx ?_)))
    refine r_seq (r_if (r_test (r_op (go vv (r_c ⟨rfl, _, rfl, if_n (r_next (nx ?_))⟩)))))
    refine r_seq (r_if (r_test (r_op (go vv (r_c ⟨rfl, _, rfl, if_n (r_next (nx ?_))⟩)))))
    refine r_seq (r_if (r_test (r_op (go vv (r_c ⟨rfl, _, rfl, if_y ?_⟩)))))
    refine r_ret (c1 vv ⟨v, ow, as, s, rfl, S, A⟩)
  | k_plain =>
    refine r_seq (r_set (go (v_cl (j := 0) rfl hL rfl) (nx ?_)))
    refine r_seq (r_if (r_test (r_op (go vv (r_c ⟨rfl, _, rfl, if_n (r_next (nx ?_))⟩)))))
    refine r_seq (r_if (r_test (r_op (go vv (r_c ⟨rfl, _, rfl, if_n (r_next (nx ?_))⟩)))))
    refine r_seq (r_if (r_test (r_op (go vv (r_c ⟨rfl, _, rfl, if_n (r_next (nx ?_))⟩)))))
    refine r_seq (r_if (r_test (r_op (go vv (r_c ⟨rfl, _, rfl, if_y ?_⟩)))))
    refine r_ret (c1 vv ⟨v, ow, as, s, rfl, S, A⟩)
  | k_frame b p x y =>
    refine r_seq (r_set (go (v_cl (j := 0) rfl hL rfl) (nx ?_)))
    refine r_seq (r_if (r_test (r_op (go vv (r_c ⟨rfl, _, rfl, if_n (r_next (nx ?_))⟩)))))
    refine r_seq (r_if (r_test (r_op (go vv (r_c ⟨rfl, _, rfl, if_n (r_next (nx ?_))⟩)))))
    refine r_seq (r_if (r_test (r_op (go vv (r_c ⟨rfl, _, rfl, if_n (r_next (nx ?_))⟩)))))
    refine r_seq (r_if (r_test (r_op (go vv (r_c ⟨rfl, _, rfl, if_n (r_next (nx ?_))⟩)))))
    refine r_seq (r_if (r_test (r_op (go vv (r_c ⟨rfl, _, rfl, if_y ?_⟩)))))
    refine r_ret (r_call (r_cons (go vv (r_cons (r_tup (r_cons (go (v_cl (j := 1) rfl hL rfl) (r_cons (go (v_cl (j := 2) rfl hL rfl) (r_nil ⟨by show 2 ≤ sizeLine; decide, fun t1 n1 => ?_⟩))))))))))
    have e1 := same_new (o := .tup [.int b, .int p]) n1
    have hL1 := e1 _ _ hL
    exact r_cons (go (v_cl (j := 3) rfl hL1 rfl) (r_cons (go (v_cl (j := 4) rfl hL1 rfl) (r_nil ⟨v, t1, b, p, x, y, ow, as, s, rfl, upd_same, S.same e1, A.later e1⟩))))
  | k_stations b =>
    refine r_seq (r_set (go (v_cl (j := 0) rfl hL rfl) (nx ?_)))
    refine r_seq (r_if (r_test (r_op (go vv (r_c ⟨rfl, _, rfl, if_n (r_next (nx ?_))⟩)))))
    refine r_seq (r_if (r_test (r_op (go vv (r_c ⟨rfl, _, rfl, if_n (r_next (nx ?_))⟩)))))
    refine r_seq (r_if (r_test (r_op (go vv (r_c ⟨rfl, _, rfl, if_n (r_next (nx ?_))⟩)))))
    refine r_seq (r_if (r_test (r_op (go vv (r_c ⟨rfl, _, rfl, if_n (r_next (nx ?_))⟩)))))
    refine r_seq (r_if (r_test (r_op (go vv (r_c ⟨rfl, _, rfl, if_n (r_next (nx ?_))⟩)))))
    refine r_seq (r_if (r_test (r_op (go vv (r_c ⟨rfl, _, rfl, if_y ?_⟩)))))
    refine r_ret (c2 vv (v_cl (j := 1) rfl hL rfl) ⟨v, b, ow, as, s, rfl, S, A⟩)
  | k_way b c =>
    refine r_seq (r_set (go (v_cl (j := 0) rfl hL rfl) (nx ?_)))
    refine r_seq (r_if (r_test (r_op (go vv (r_c ⟨rfl, _, rfl, if_n (r_next (nx ?_))⟩)))))
    refine r_seq (r_if (r_test (r_op (go vv (r_c ⟨rfl, _, rfl, if_n (r_next (nx ?_))⟩)))))
    refine r_seq (r_if (r_test (r_op (go vv (r_c ⟨rfl, _, rfl, if_n (r_next (nx ?_))⟩)))))
    refine r_seq (r_if (r_test (r_op (go vv (r_c ⟨rfl, _, rfl, if_n (r_next (nx ?_))⟩)))))
    refine r_seq (r_if (r_test (r_op (go vv (r_c ⟨rfl, _, rfl, if_n (r_next (nx ?_))⟩)))))
    refine r_seq (r_if (r_test (r_op (go vv (r_c ⟨rfl, _, rfl, if_n (r_next (nx ?_))⟩)))))
    refine r_seq (r_if (r_test (r_op (go vv (r_c ⟨rfl, _, rfl, if_y ?_⟩)))))
    refine r_ret (c3 vv (v_cl (j := 1) rfl hL rfl) (v_cl (j := 2) rfl hL rfl) ⟨v, b, c, ow, as, s, rfl, S, A⟩)
  | k_quiet =>
    refine r_seq (r_set (go (v_cl (j := 0) rfl hL rfl) (nx ?_)))
    refine r_seq (r_if (r_test (r_op (go vv (r_c ⟨rfl, _, rfl, if_n (r_next (nx ?_))⟩)))))
    refine r_seq (r_if (r_test (r_op (go vv (r_c ⟨rfl, _, rfl, if_n (r_next (nx ?_))⟩)))))
    refine r_seq (r_if (r_test (r_op (go vv (r_c ⟨rfl, _, rfl, if_n (r_next (nx ?_))⟩)))))
    refine r_seq (r_if (r_test (r_op (go vv (r_c ⟨rfl, _, rfl, if_n (r_next (nx ?_))⟩)))))
    refine r_seq (r_if (r_test (r_op (go vv (r_c ⟨rfl, _, rfl, if_n (r_next (nx ?_))⟩)))))
    refine r_seq (r_if (r_test (r_op (go vv (r_c ⟨rfl, _, rfl, if_n (r_next (nx ?_))⟩)))))
    refine r_seq (r_if (r_test (r_op (go vv (r_c ⟨rfl, _, rfl, if_n (r_next (nx ?_))⟩)))))
    refine r_ret (c1 vv ⟨v, ow, as, s, rfl, S, A⟩)
/-! ### answer_of -/
theorem AnsS.ans {ow : Addr → Nat} {H : Hp} {se dx : Addr} {v : V} {x : Vbcnac.State × List Int} {Q : VK} (A : AnsS K se dx ow H x Q) (hs : SesO K H se dx v) (w0 : ow se = 0) : Ans K v ow H x Q := fun H' ow' as' p S F G hp h0 hl => by
  refine A H' ow' as' v p (F _ _ hs w0) ?_ S (fun b o q z _ => F b o q z) G ?_ hp h0 hl
  · apply Decidable.byContradiction
    intro z
    rcases G se z with q | q
    · exact q w0
    · rw [hs] at q
      cases q
  · intro e
    rw [e] at hp
    exact hp _ hs w0
def sp_answer_of (K : PySem.W.Frag) : Sp := fun vs H Q _ => ∃ se L dx v l c ow as s, vs = [.ref se, .ref L] ∧ H L = some (.lst ((l : List Int).map V.int)) ∧ Form l c ∧ SesO K H se dx v ∧ ow se = 0 ∧ SesAt K ow as H v s ∧ AnsS K se dx ow H (Vbcnac.step s c) Q
theorem sc_answer_of : FnScope ["session", "call", "number"] ["session", "call"] D_answer_of.scope := ⟨rfl, rfl, rfl, by decide +kernel, rfl, by decide +kernel, by decide +kernel⟩
-- level 9; slots 0:session 1:call 2:number; captured []
theorem ok_answer_of (T : Txt K mg) (G_begin : Does P w K mg base 3 "begin" ["session", "age", "wait", "keep", "room"] (sp_begin K)) (G_changing_answer : Does P w K mg base 6 "changing_answer" ["net", "call"] (sp_changing_answer K)) (G_set_rank : Does P w K mg base 2 "set_rank" ["net", "number", "rank"] (sp_set_rank K)) (G_set_cost : Does P w K mg base 2 "set_cost" ["net", "port", "cost"] (sp_set_cost K)) (G_set_port_rank : Does P w K mg base 2 "set_port_rank" ["net", "port", "rank"] (sp_set_port_rank K)) (G_rounds_call : Does P w K mg base 7 "rounds_call" ["net", "count"] (sp_rounds_call K)) (G_asking_answer : Does P w K mg base 8 "asking_answer" ["net", "call"] (sp_asking_answer K)) : Does P w K mg base 9 "answer_of" ["session", "call"] (sp_answer_of K) := by
  refine does_of T 67 (d := D_answer_of) rfl rfl rfl rfl T.g_answer_of sc_answer_of (fun _ _ _ _ _ _ us hl => match us, hl with | [_, _], _ => rfl) (fun vs H Q E h => by obtain ⟨_, _, _, _, _, _, _, _, _, rfl, _⟩ := h; rfl) (fun cdv A outer s H vs Q E hr h => ⟨_, (pss_cons (ps_set (i := 2) sc_answer_of.nd rfl (.inl rfl) (pe_ix ix_list (pv 1) pe_int (fun _ _ => rfl)))
      (pss_cons (ps_if (pt_cmpR op_eq (pv 2) pe_int (nomark _)) (pss_one (ps_ret (pe_f G_begin (hr.mono (by decide)) (by rfl) (pa_cons (pv 0) (pa_cons (pe_ix ix_list (pv 1) pe_int (fun _ _ => rfl)) (pa_cons (pe_ix ix_list (pv 1) pe_int (fun _ _ => rfl)) (pa_cons (pe_ix ix_list (pv 1) pe_int (fun _ _ => rfl)) (pa_cons (pe_ix ix_list (pv 1) pe_int (fun _ _ => rfl)) pa_nil)))))))) pss_nil)
      (pss_cons (ps_if (pt_cmpR op_le (pv 2) pe_int (nomark _)) (pss_one (ps_ret (pe_f G_changing_answer (hr.mono (by decide)) (by rfl) (pa_cons (pe_fld (pv 0) rfl) (pa_cons (pv 1) pa_nil))))) pss_nil)
      (pss_cons (ps_if (pt_cmpR op_eq (pv 2) pe_int (nomark _)) (pss_one (ps_ret (pe_f G_set_rank (hr.mono (by decide)) (by rfl) (pa_cons (pe_fld (pv 0) rfl) (pa_cons (pe_ix ix_list (pv 1) pe_int (fun _ _ => rfl)) (pa_cons (pe_ix ix_list (pv 1) pe_int (fun _ _ => rfl)) pa_nil)))))) pss_nil)
      (pss_cons (ps_if (pt_cmpR op_eq (pv 2) pe_int (nomark _)) (pss_one (ps_ret (pe_f G_set_cost (hr.mono (by decide)) (by rfl) (pa_cons (pe_fld (pv 0) rfl) (pa_cons (pe_tup (pa_cons (pe_ix ix_list (pv 1) pe_int (fun _ _ => rfl)) (pa_cons (pe_ix ix_list (pv 1) pe_int (fun _ _ => rfl)) pa_nil))) (pa_cons (pe_ix ix_list (pv 1) pe_int (fun _ _ => rfl)) pa_nil)))))) pss_nil)
      (pss_cons (ps_if (pt_cmpR op_eq (pv 2) pe_int (nomark _)) (pss_one (ps_ret (pe_f G_set_port_rank (hr.mono (by decide)) (by rfl) (pa_cons (pe_fld (pv 0) rfl) (pa_cons (pe_tup (pa_cons (pe_ix ix_list (pv 1) pe_int (fun _ _ => rfl)) (pa_cons (pe_ix ix_list (pv 1) pe_int (fun _ _ => rfl)) pa_nil))) (pa_cons (pe_ix ix_list (pv 1) pe_int (fun _ _ => rfl)) pa_nil)))))) pss_nil)
      (pss_cons (ps_if (pt_cmpR op_eq (pv 2) pe_int (nomark _)) (pss_one (ps_ret (pe_f G_rounds_call (hr.mono (by decide)) (by rfl) (pa_cons (pe_fld (pv 0) rfl) (pa_cons (pe_ix ix_list (pv 1) pe_int (fun _ _ => rfl)) pa_nil))))) pss_nil)
      (pss_one (ps_ret (pe_f G_asking_answer (hr.mono (by decide)) (by rfl) (pa_cons (pe_fld (pv 0) rfl) (pa_cons (pv 1) pa_nil)))))))))))), ?_⟩)
  obtain ⟨se, L, dx, v, l, c, ow, as, s, rfl, hL, hF, hse, w0, S, AS⟩ := h
  have A := AS.ans hse w0
  have hse2 : H se = some (.ins (He.ga K "Session") dx [("net", v)]) := hse
  cases hF with
  | k_begin_ a w k r =>
    refine r_seq (r_set (go (v_cl (j := 0) rfl hL rfl) (nx ?_)))
    refine r_seq (r_if (r_test (r_op (go vv (r_c ⟨rfl, _, rfl, if_y ?_⟩)))))
    exact r_ret (r_call (r_cons (go vv (r_cons (go (v_cl (j := 1) rfl hL rfl) (r_cons (go (v_cl (j := 2) rfl hL rfl) (r_cons (go (v_cl (j := 3) rfl hL rfl) (r_cons (go (v_cl (j := 4) rfl hL rfl) (r_nil ⟨se, dx, v, a, w, k, r, ow, as, s, rfl, hse, w0, S, AS⟩))))))))))))
  | k_bridge r m =>
    refine r_seq (r_set (go (v_cl (j := 0) rfl hL rfl) (nx ?_)))
    refine r_seq (r_if (r_test (r_op (go vv (r_c ⟨rfl, _, rfl, if_n (r_next (nx ?_))⟩)))))
    refine r_seq (r_if (r_test (r_op (go vv (r_c ⟨_, _, rfl, rfl, _, rfl, if_y ?_⟩)))))
    exact r_ret (c2 (val_fld vv hse2 T.c_Session T.n_Session_net rfl) vv ⟨v, L, _, _, ow, as, s, rfl, hL, .k_bridge _ _, rfl, S, A⟩)
  | k_cable b p c q =>
    refine r_seq (r_set (go (v_cl (j := 0) rfl hL rfl) (nx ?_)))
    refine r_seq (r_if (r_test (r_op (go vv (r_c ⟨rfl, _, rfl, if_n (r_next (nx ?_))⟩)))))
    refine r_seq (r_if (r_test (r_op (go vv (r_c ⟨_, _, rfl, rfl, _, rfl, if_y ?_⟩)))))
    exact r_ret (c2 (val_fld vv hse2 T.c_Session T.n_Session_net rfl) vv ⟨v, L, _, _, ow, as, s, rfl, hL, .k_cable _ _ _ _, rfl, S, A⟩)
  | k_cut b p =>
    refine r_seq (r_set (go (v_cl (j := 0) rfl hL rfl) (nx ?_)))
    refine r_seq (r_if (r_test (r_op (go vv (r_c ⟨rfl, _, rfl, if_n (r_next (nx ?_))⟩)))))
    refine r_seq (r_if (r_test (r_op (go vv (r_c ⟨_, _, rfl, rfl, _, rfl, if_y ?_⟩)))))
    exact r_ret (c2 (val_fld vv hse2 T.c_Session T.n_Session_net rfl) vv ⟨v, L, _, _, ow, as, s, rfl, hL, .k_cut _ _, rfl, S, A⟩)
  | k_off b =>
    refine r_seq (r_set (go (v_cl (j := 0) rfl hL rfl) (nx ?_)))
    refine r_seq (r_if (r_test (r_op (go vv (r_c ⟨rfl, _, rfl, if_n (r_next (nx ?_))⟩)))))
    refine r_seq (r_if (r_test (r_op (go vv (r_c ⟨_, _, rfl, rfl, _, rfl, if_y ?_⟩)))))
    exact r_ret (c2 (val_fld vv hse2 T.c_Session T.n_Session_net rfl) vv ⟨v, L, _, _, ow, as, s, rfl, hL, .k_off _, rfl, S, A⟩)
  | k_on_ b =>
    refine r_seq (r_set (go (v_cl (j := 0) rfl hL rfl) (nx ?_)))
    refine r_seq (r_if (r_test (r_op (go vv (r_c ⟨rfl, _, rfl, if_n (r_next (nx ?_))⟩)))))
    refine r_seq (r_if (r_test (r_op (go vv (r_c ⟨_, _, rfl, rfl, _, rfl, if_y ?_⟩)))))
    exact r_ret (c2 (val_fld vv hse2 T.c_Session T.n_Session_net rfl) vv ⟨v, L, _, _, ow, as, s, rfl, hL, .k_on_ _, rfl, S, A⟩)
  | k_rank b r =>
    refine r_seq (r_set (go (v_cl (j := 0) rfl hL rfl) (nx ?_)))
    refine r_seq (r_if (r_test (r_op (go vv (r_c ⟨rfl, _, rfl, if_n (r_next (nx ?_))⟩)))))
    refine r_seq (r_if (r_test (r_op (go vv (r_c ⟨_, _, rfl, rfl, _, rfl, if_n (r_next (nx ?_))⟩)))))
    refine r_seq (r_if (r_test (r_op (go vv (r_c ⟨rfl, _, rfl, if_y ?_⟩)))))
    refine r_ret (c3 (val_fld vv hse2 T.c_Session T.n_Session_net rfl) (v_cl (j := 1) rfl hL rfl) (v_cl (j := 2) rfl hL rfl) ⟨v, b, r, ow, as, s, rfl, S, A⟩)
  | k_cost b p c =>
    refine r_seq (r_set (go (v_cl (j := 0) rfl hL rfl) (nx ?_)))
    refine r_seq (r_if (r_test (r_op (go vv (r_c ⟨rfl, _, rfl, if_n (r_next (nx ?_))⟩)))))
    refine r_seq (r_if (r_test (r_op (go vv (r_c ⟨_, _, rfl, rfl, _, rfl, if_n (r_next (nx ?_))⟩)))))
    refine r_seq (r_if (r_test (r_op (go vv (r_c ⟨rfl, _, rfl, if_n (r_next (nx ?_))⟩)))))
    refine r_seq (r_if (r_test (r_op (go vv (r_c ⟨rfl, _, rfl, if_y ?_⟩)))))
    refine r_ret (r_call (r_cons (go (val_fld vv hse2 T.c_Session T.n_Session_net rfl) (r_cons (r_tup (r_cons (go (v_cl (j := 1) rfl hL rfl) (r_cons (go (v_cl (j := 2) rfl hL rfl) (r_nil ⟨by show 2 ≤ sizeLine; decide, fun t1 n1 => ?_⟩))))))))))
    have e1 := same_new (o := .tup [.int b, .int p]) n1
    have hL1 := e1 _ _ hL
    exact r_cons (go (v_cl (j := 3) rfl hL1 rfl) (r_nil ⟨v, t1, b, p, c, ow, as, s, rfl, upd_same, S.same e1, A.later e1⟩))
  | k_order b p r =>
    refine r_seq (r_set (go (v_cl (j := 0) rfl hL rfl) (nx ?_)))
    refine r_seq (r_if (r_test (r_op (go vv (r_c ⟨rfl, _, rfl, if_n (r_next (nx ?_))⟩)))))
    refine r_seq (r_if (r_test (r_op (go vv (r_c ⟨_, _, rfl, rfl, _, rfl, if_n (r_next (nx ?_))⟩)))))
    refine r_seq (r_if (r_test (r_op (go vv (r_c ⟨rfl, _, rfl, if_n (r_next (nx ?_))⟩)))))
    refine r_seq (r_if (r_test (r_op (go vv (r_c ⟨rfl, _, rfl, if_n (r_next (nx ?_))⟩)))))
    refine r_seq (r_if (r_test (r_op (go vv (r_c ⟨rfl, _, rfl, if_y ?_⟩)))))
    refine r_ret (r_call (r_cons (go (val_fld vv hse2 T.c_Session T.n_Session_net rfl) (r_cons (r_tup (r_cons (go (v_cl (j := 1) rfl hL rfl) (r_cons (go (v_cl (j := 2) rfl hL rfl) (r_nil ⟨by show 2 ≤ sizeLine; decide, fun t1 n1 => ?_⟩))))))))))
    have e1 := same_new (o := .tup [.int b, .int p]) n1
    have hL1 := e1 _ _ hL
    exact r_cons (go (v_cl (j := 3) rfl hL1 rfl) (r_nil ⟨v, t1, b, p, r, ow, as, s, rfl, upd_same, S.same e1, A.later e1⟩))
  | k_rounds m =>
    refine r_seq (r_set (go (v_cl (j := 0) rfl hL rfl) (nx ?_)))
    refine r_seq (r_if (r_test (r_op (go vv (r_c ⟨rfl, _, rfl, if_n (r_next (nx ?_))⟩)))))
    refine r_seq (r_if (r_test (r_op (go vv (r_c ⟨_, _, rfl, rfl, _, rfl, if_n (r_next (nx ?_))⟩)))))
    refine r_seq (r_if (r_test (r_op (go vv (r_c ⟨rfl, _, rfl, if_n (r_next (nx ?_))⟩)))))
    refine r_seq (r_if (r_test (r_op (go vv (r_c ⟨rfl, _, rfl, if_n (r_next (nx ?_))⟩)))))
    refine r_seq (r_if (r_test (r_op (go vv (r_c ⟨rfl, _, rfl, if_n (r_next (nx ?_))⟩)))))
    refine r_seq (r_if (r_test (r_op (go vv (r_c ⟨rfl, _, rfl, if_y ?_⟩)))))
    refine r_ret (c2 (val_fld vv hse2 T.c_Session T.n_Session_net rfl) (v_cl (j := 1) rfl hL rfl) ⟨v, m, ow, as, s, rfl, S, A⟩)
  | k_port b p =>
    refine r_seq (r_set (go (v_cl (j := 0) rfl hL rfl) (nx ?_)))
    refine r_seq (r_if (r_test (r_op (go vv (r_c ⟨rfl, _, rfl, if_n (r_next (nx ?_))⟩)))))
    refine r_seq (r_if (r_test (r_op (go vv (r_c ⟨_, _, rfl, rfl, _, rfl, if_n (r_next (nx ?_))⟩)))))
    refine r_seq (r_if (r_test (r_op (go vv (r_c ⟨rfl, _, rfl, if_n (r_next (nx ?_))⟩)))))
    refine r_seq (r_if (r_test (r_op (go vv (r_c ⟨rfl, _, rfl, if_n (r_next (nx ?_))⟩)))))
    refine r_seq (r_if (r_test (r_op (go vv (r_c ⟨rfl, _, rfl, if_n (r_next (nx ?_))⟩)))))
    refine r_seq (r_if (r_test (r_op (go vv (r_c ⟨rfl, _, rfl, if_n (r_next (nx ?_))⟩)))))
    exact r_ret (c2 (val_fld vv hse2 T.c_Session T.n_Session_net rfl) vv ⟨v, L, _, _, ow, as, s, rfl, hL, .k_port _ _, rfl, S, A⟩)
  | k_view b =>
    refine r_seq (r_set (go (v_cl (j := 0) rfl hL rfl) (nx ?_)))
    refine r_seq (r_if (r_test (r_op (go vv (r_c ⟨rfl, _, rfl, if_n (r_next (nx ?_))⟩)))))
    refine r_seq (r_if (r_test (r_op (go vv (r_c ⟨_, _, rfl, rfl, _, rfl, if_n (r_next (nx ?_))⟩)))))
    refine r_seq (r_if (r_test (r_op (go vv (r_c ⟨rfl, _, rfl, if_n (r_next (nx ?_))⟩)))))
    refine r_seq (r_if (r_test (r_op (go vv (r_c ⟨rfl, _, rfl, if_n (r_next (nx ?_))⟩)))))
    refine r_seq (r_if (r_test (r_op (go vv (r_c ⟨rfl, _, rfl, if_n (r_next (nx ?_))⟩)))))
    refine r_seq (r_if (r_test (r_op (go vv (r_c ⟨rfl, _, rfl, if_n (r_next (nx ?_))⟩)))))
    exact r_ret (c2 (val_fld vv hse2 T.c_Session T.n_Session_net rfl) vv ⟨v, L, _, _, ow, as, s, rfl, hL, .k_view _, rfl, S, A⟩)
  | k_tree =>
    refine r_seq (r_set (go (v_cl (j := 0) rfl hL rfl) (nx ?_)))
    refine r_seq (r_if (r_test (r_op (go vv (r_c ⟨rfl, _, rfl, if_n (r_next (nx ?_))⟩)))))
    refine r_seq (r_if (r_test (r_op (go vv (r_c ⟨_, _, rfl, rfl, _, rfl, if_n (r_next (nx ?_))⟩)))))
    refine r_seq (r_if (r_test (r_op (go vv (r_c ⟨rfl, _, rfl, if_n (r_next (nx ?_))⟩)))))
    refine r_seq (r_if (r_test (r_op (go vv (r_c ⟨rfl, _, rfl, if_n (r_next (nx ?_))⟩)))))
    refine r_seq (r_if (r_test (r_op (go vv (r_c ⟨rfl, _, rfl, if_n (r_next (nx ?_))⟩)))))
    refine r_seq (r_if (r_test (r_op (go vv (r_c ⟨rfl, _, rfl, if_n (r_next (nx ?_))⟩)))))
    exact r_ret (c2 (val_fld vv hse2 T.c_Session T.n_Session_net rfl) vv ⟨v, L, _, _, ow, as, s, rfl, hL, .k_tree, rfl, S, A⟩)
  | k_plain =>
    refine r_seq (r_set (go (v_cl (j := 0) rfl hL rfl) (nx ?_)))
    refine r_seq (r_if (r_test (r_op (go vv (r_c ⟨rfl, _, rfl, if_n (r_next (nx ?_))⟩)))))
    refine r_seq (r_if (r_test (r_op (go vv (r_c ⟨_, _, rfl, rfl, _, rfl, if_n (r_next (nx ?_))⟩)))))
    refine r_seq (r_if (r_test (r_op (go vv (r_c ⟨rfl, _, rfl, if_n (r_next (nx ?_))⟩)))))
    refine r_seq (r_if (r_test (r_op (go vv (r_c ⟨rfl, _, rfl, if_n (r_next (nx ?_))⟩)))))
    refine r_seq (r_if (r_test (r_op (go vv (r_c ⟨rfl, _, rfl, if_n (r_next (nx ?_))⟩)))))
    refine r_seq (r_if (r_test (r_op (go vv (r_c ⟨rfl, _, rfl, if_n (r_next (nx ?_))⟩)))))
    exact r_ret (c2 (val_fld vv hse2 T.c_Session T.n_Session_net rfl) vv ⟨v, L, _, _, ow, as, s, rfl, hL, .k_plain, rfl, S, A⟩)
  | k_frame b p x y =>
    refine r_seq (r_set (go (v_cl (j := 0) rfl hL rfl) (nx ?_)))
    refine r_seq (r_if (r_test (r_op (go vv (r_c ⟨rfl, _, rfl, if_n (r_next (nx ?_))⟩)))))
    refine r_seq (r_if (r_test (r_op (go vv (r_c ⟨_, _, rfl, rfl, _, rfl, if_n (r_next (nx ?_))⟩)))))
    refine r_seq (r_if (r_test (r_op (go vv (r_c ⟨rfl, _, rfl, if_n (r_next (nx ?_))⟩)))))
    refine r_seq (r_if (r_test (r_op (go vv (r_c ⟨rfl, _, rfl, if_n (r_next (nx ?_))⟩)))))
    refine r_seq (r_if (r_test (r_op (go vv (r_c ⟨rfl, _, rfl, if_n (r_next (nx ?_))⟩)))))
    refine r_seq (r_if (r_test (r_op (go vv (r_c ⟨rfl, _, rfl, if_n (r_next (nx ?_))⟩)))))
    exact r_ret (c2 (val_fld vv hse2 T.c_Session T.n_Session_net rfl) vv ⟨v, L, _, _, ow, as, s, rfl, hL, .k_frame _ _ _ _, rfl, S, A⟩)
  | k_stations b =>
    refine r_seq (r_set (go (v_cl (j := 0) rfl hL rfl) (nx ?_)))
    refine r_seq (r_if (r_test (r_op (go vv (r_c ⟨rfl, _, rfl, if_n (r_next (nx ?_))⟩)))))
    refine r_seq (r_if (r_test (r_op (go vv (r_c ⟨_, _, rfl, rfl, _, rfl, if_n (r_next (nx ?_))⟩)))))
    refine r_seq (r_if (r_test (r_op (go vv (r_c ⟨rfl, _, rfl, if_n (r_next (nx ?_))⟩)))))
    refine r_seq (r_if (r_test (r_op (go vv (r_c ⟨rfl, _, rfl, if_n (r_next (nx ?_))⟩)))))
    refine r_seq (r_if (r_test (r_op (go vv (r_c ⟨rfl, _, rfl, if_n (r_next (nx ?_))⟩)))))
    refine r_seq (r_if (r_test (r_op (go vv (r_c ⟨rfl, _, rfl, if_n (r_next (nx ?_))⟩)))))
    exact r_ret (c2 (val_fld vv hse2 T.c_Session T.n_Session_net rfl) vv ⟨v, L, _, _, ow, as, s, rfl, hL, .k_stations _, rfl, S, A⟩)
  | k_way b c =>
    refine r_seq (r_set (go (v_cl (j := 0) rfl hL rfl) (nx ?_)))
    refine r_seq (r_if (r_test (r_op (go vv (r_c ⟨rfl, _, rfl, if_n (r_next (nx ?_))⟩)))))
    refine r_seq (r_if (r_test (r_op (go vv (r_c ⟨_, _, rfl, rfl, _, rfl, if_n (r_next (nx ?_))⟩)))))
    refine r_seq (r_if (r_test (r_op (go vv (r_c ⟨rfl, _, rfl, if_n (r_next (nx ?_))⟩)))))
    refine r_seq (r_if (r_test (r_op (go vv (r_c ⟨rfl, _, rfl, if_n (r_next (nx ?_))⟩)))))
    refine r_seq (r_if (r_test (r_op (go vv (r_c ⟨rfl, _, rfl, if_n (r_next (nx ?_))⟩)))))
    refine r_seq (r_if (r_test (r_op (go vv (r_c ⟨rfl, _, rfl, if_n (r_next (nx ?_))⟩)))))
    exact r_ret (c2 (val_fld vv hse2 T.c_Session T.n_Session_net rfl) vv ⟨v, L, _, _, ow, as, s, rfl, hL, .k_way _ _, rfl, S, A⟩)
  | k_quiet =>
    refine r_seq (r_set (go (v_cl (j := 0) rfl hL rfl) (nx ?_)))
    refine r_seq (r_if (r_test (r_op (go vv (r_c ⟨rfl, _, rfl, if_n (r_next (nx ?_))⟩)))))
    refine r_seq (r_if (r_test (r_op (go vv (r_c ⟨_, _, rfl, rfl, _, rfl, if_n (r_next (nx ?_))⟩)))))
    refine r_seq (r_if (r_test (r_op (go vv (r_c ⟨rfl, _, rfl, if_n (r_next (nx ?_))⟩)))))
    refine r_seq (r_if (r_test (r_op (go vv (r_c ⟨rfl, _, rfl, if_n (r_next (nx ?_))⟩)))))
    refine r_seq (r_if (r_test (r_op (go vv (r_c ⟨rfl, _, rfl, if_n (r_next (nx ?_))⟩)))))
    refine r_seq (r_if (r_test (r_op (go vv (r_c ⟨rfl, _, rfl, if_n (r_next (nx ?_))⟩)))))
    exact r_ret (c2 (val_fld vv hse2 T.c_Session T.n_Session_net rfl) vv ⟨v, L, _, _, ow, as, s, rfl, hL, .k_quiet, rfl, S, A⟩)
end
end Sw
namespace Sw
open PySem PySem.Spec PyProof.Rows L2
/-! ### the list of calls -/
def cntL : List Nat := [4, 2, 4, 2, 1, 1, 2, 3, 3, 1, 2, 1, 0, 0, 4, 1, 2, 0]
theorem shape_form {p : Int} {n k : Nat} (h : PyVbcnac.shape p = some (n, k)) : k = 0 ∧ ∃ j : Nat, p = (j : Int) ∧ cntL[j]? = some n ∧ ∀ a : List Int, a.length = n → ∃ c, Form (p :: a) c := by
  unfold PyVbcnac.shape at h
  by_cases e0 : p = 0
  · rw [if_pos e0] at h
    cases h
    subst e0
    exact ⟨rfl, 0, rfl, rfl, fun a ha => match a, ha with | [x0, x1, x2, x3], _ => ⟨_, .k_begin_ x0 x1 x2 x3⟩⟩
  rw [if_neg e0] at h
  by_cases e1 : p = 1
  · rw [if_pos e1] at h
    cases h
    subst e1
    exact ⟨rfl, 1, rfl, rfl, fun a ha => match a, ha with | [x0, x1], _ => ⟨_, .k_bridge x0 x1⟩⟩
  rw [if_neg e1] at h
  by_cases e2 : p = 2
  · rw [if_pos e2] at h
    cases h
    subst e2
    exact ⟨rfl, 2, rfl, rfl, fun a ha => match a, ha with | [x0, x1, x2, x3], _ => ⟨_, .k_cable x0 x1 x2 x3⟩⟩
  rw [if_neg e2] at h
  by_cases e3 : p = 3
  · rw [if_pos e3] at h
    cases h
    subst e3
    exact ⟨rfl, 3, rfl, rfl, fun a ha => match a, ha with | [x0, x1], _ => ⟨_, .k_cut x0 x1⟩⟩
  rw [if_neg e3] at h
  by_cases e4 : p = 4
  · rw [if_pos e4] at h
    cases h
    subst e4
    exact ⟨rfl, 4, rfl, rfl, fun a ha => match a, ha with | [x0], _ => ⟨_, .k_off x0⟩⟩
  rw [if_neg e4] at h
  by_cases e5 : p = 5
  · rw [if_pos e5] at h
    cases h
    subst e5
    exact ⟨rfl, 5, rfl, rfl, fun a ha => match a, ha with | [x0], _ => ⟨_, .k_on_ x0⟩⟩
  rw [if_neg e5] at h
  by_cases e6 : p = 6
  · rw [if_pos e6] at h
    cases h
    subst e6
    exact ⟨rfl, 6, rfl, rfl, fun a ha => match a, ha with | [x0, x1], _ => ⟨_, .k_rank x0 x1⟩⟩
  rw [if_neg e6] at h
  by_cases e7 : p = 7
  · rw [if_pos e7] at h
    cases h
    subst e7
    exact ⟨rfl, 7, rfl, rfl, fun a ha => match a, ha with | [x0, x1, x2], _ => ⟨_, .k_cost x0 x1 x2⟩⟩
  rw [if_neg e7] at h
  by_cases e8 : p = 8
  · rw [if_pos e8] at h
    cases h
    subst e8
    exact ⟨rfl, 8, rfl, rfl, fun a ha => match a, ha with | [x0, x1, x2], _ => ⟨_, .k_order x0 x1 x2⟩⟩
  rw [if_neg e8] at h
  by_cases e9 : p = 9
  · rw [if_pos e9] at h
    cases h
    subst e9
    exact ⟨rfl, 9, rfl, rfl, fun a ha => match a, ha with | [x0], _ => ⟨_, .k_rounds x0⟩⟩
  rw [if_neg e9] at h
  by_cases e10 : p = 10
  · rw [if_pos e10] at h
    cases h
    subst e10
    exact ⟨rfl, 10, rfl, rfl, fun a ha => match a, ha with | [x0, x1], _ => ⟨_, .k_port x0 x1⟩⟩
  rw [if_neg e10] at h
  by_cases e11 : p = 11
  · rw [if_pos e11] at h
    cases h
    subst e11
    exact ⟨rfl, 11, rfl, rfl, fun a ha => match a, ha with | [x0], _ => ⟨_, .k_view x0⟩⟩
  rw [if_neg e11] at h
  by_cases e12 : p = 12
  · rw [if_pos e12] at h
    cases h
    subst e12
    exact ⟨rfl, 12, rfl, rfl, fun a ha => match a, ha with | [], _ => ⟨_, .k_tree⟩⟩
  rw [if_neg e12] at h
  by_cases e13 : p = 13
  · rw [if_pos e13] at h
    cases h
    subst e13
    exact ⟨rfl, 13, rfl, rfl, fun a ha => match a, ha with | [], _ => ⟨_, .k_plain⟩⟩
  rw [if_neg e13] at h
  by_cases e14 : p = 14
  · rw [if_pos e14] at h
    cases h
    subst e14
    exact ⟨rfl, 14, rfl, rfl, fun a ha => match a, ha with | [x0, x1, x2, x3], _ => ⟨_, .k_frame x0 x1 x2 x3⟩⟩
  rw [if_neg e14] at h
  by_cases e15 : p = 15
  · rw [if_pos e15] at h
    cases h
    subst e15
    exact ⟨rfl, 15, rfl, rfl, fun a ha => match a, ha with | [x0], _ => ⟨_, .k_stations x0⟩⟩
  rw [if_neg e15] at h
  by_cases e16 : p = 16
  · rw [if_pos e16] at h
    cases h
    subst e16
    exact ⟨rfl, 16, rfl, rfl, fun a ha => match a, ha with | [x0, x1], _ => ⟨_, .k_way x0 x1⟩⟩
  rw [if_neg e16] at h
  by_cases e17 : p = 17
  · rw [if_pos e17] at h
    cases h
    subst e17
    exact ⟨rfl, 17, rfl, rfl, fun a ha => match a, ha with | [], _ => ⟨_, .k_quiet⟩⟩
  rw [if_neg e17] at h
  cases h
theorem calls_cons {f : Nat} {p : Int} {r : List Int} {cs : List (List (List Int))} (h : PyFlat.calls PyVbcnac.shape f (p :: r) = some cs) : ∃ (f' j n : Nat) (c : Vbcnac.Call) (cs' : List (List (List Int))), p = (j : Int) ∧ cntL[j]? = some n ∧ n ≤ r.length ∧ Form (p :: r.take n) c ∧ cs = [p :: r.take n] :: cs' ∧ PyFlat.calls PyVbcnac.shape f' (r.drop n) = some cs' := by
  cases f with
  | zero => cases h
  | succ f =>
    have h1 : (match PyFlat.call PyVbcnac.shape (p :: r) with
      | none => none
      | some (c, t) => match PyFlat.calls PyVbcnac.shape f t with
        | none => none
        | some cs => some (c :: cs)) = some cs := h
    cases hs : PyVbcnac.shape p with
    | none =>
      have hc : PyFlat.call PyVbcnac.shape (p :: r) = none := by
        unfold PyFlat.call
        show (match PyVbcnac.shape p with | none => none | some (n, k) => if r.length < n then none else match PyFlat.rows k (r.drop n) with | none => none | some (xs, t) => some ((p :: r.take n) :: xs, t)) = _
        rw [hs]
      rw [hc] at h1
      cases h1
    | some nk =>
      obtain ⟨n, k⟩ := nk
      obtain ⟨rfl, j, hj, hcn, hf⟩ := shape_form hs
      have hcall : PyFlat.call PyVbcnac.shape (p :: r) = if r.length < n then none else some ([p :: r.take n], r.drop n) := by
        unfold PyFlat.call
        show (match PyVbcnac.shape p with | none => none | some (n, k) => if r.length < n then none else match PyFlat.rows k (r.drop n) with | none => none | some (xs, t) => some ((p :: r.take n) :: xs, t)) = _
        rw [hs]
        rfl
      by_cases hl : r.length < n
      · rw [hcall, if_pos hl] at h1
        cases h1
      · rw [hcall, if_neg hl] at h1
        have h2 : (match PyFlat.calls PyVbcnac.shape f (r.drop n) with
          | none => none
          | some cs => some ([p :: r.take n] :: cs)) = some cs := h1
        cases hq : PyFlat.calls PyVbcnac.shape f (r.drop n) with
        | none =>
          rw [hq] at h2
          cases h2
        | some cs' =>
          rw [hq] at h2
          obtain ⟨c, hc⟩ := hf (r.take n) (by rw [List.length_take]; omega)
          exact ⟨f, j, n, c, cs', hj, hcn, by omega, hc, (Option.some.inj h2).symm, hq⟩
/-- what is told from a state on -/
def ansOf (s : Vbcnac.State) (cs : List (List (List Int))) : List Int := PyFlat.told (PyFlat.played VbcnacNeutral.step s (cs.map PyVbcnac.whole))
theorem whole_form {l : List Int} {c : Vbcnac.Call} (h : Form l c) : PyVbcnac.whole [l] = [l] := by
  cases h <;> rfl
theorem ansOf_cons {s : Vbcnac.State} {l : List Int} {c : Vbcnac.Call} {cs : List (List (List Int))} (h : Form l c) : ansOf s ([l] :: cs) = ((Vbcnac.step s c).2.length : Int) :: ((Vbcnac.step s c).2 ++ ansOf (Vbcnac.step s c).1 cs) := by
  have e : VbcnacNeutral.step s [l] = Vbcnac.step s c := by
    unfold VbcnacNeutral.step
    show (match VbcnacNeutral.callOf l with
      | some x => Vbcnac.step s x
      | none => (s, [])) = _
    rw [h.of]
  unfold ansOf
  rw [List.map_cons, whole_form h]
  show PyFlat.told ((VbcnacNeutral.step s [l]).2 :: PyFlat.played VbcnacNeutral.step (VbcnacNeutral.step s [l]).1 (cs.map PyVbcnac.whole)) = _
  rw [e]
  rfl
theorem ansOf_all {ns : List Int} {cs : List (List (List Int))} (h : PyFlat.calls PyVbcnac.shape ns.length ns = some cs) : PyVbcnac.answers ns = ansOf Vbcnac.start cs := by
  unfold PyVbcnac.answers PyVbcnac.calls
  rw [h]
  rfl
/-! ### answers -/
theorem same_sqL {H H' : Hp} {K : PySem.W.Frag} {a : Addr} {xs : List V} (e : Same H H') (h : SqL K H a xs) : SqL K H' a xs := by
  rcases h with (h | ⟨o, h⟩) | h
  · exact .inl (.inl (e _ _ h))
  · exact .inl (.inr ⟨o, e _ _ h⟩)
  · exact .inr h
section
variable {K : PySem.W.Frag} {σ : L2.St} {H H' : Hp} {te tb : TE} {a : Addr} {xs : List V} {v : V} {j : Nat}
theorem v_ixS (h : Val te σ H (.ref a)) (hb : Val tb σ H (.int (j : Int))) (ht : SqL K H a xs) (hj : xs[j]? = some v) : Val (tOp (rIxL K) te tb) σ H v := fun Q q => h _ (hb _ ⟨a, xs, _, v, rfl, rfl, ht, atI_nat hj, q⟩)
theorem v_ixU (h : Val te σ H (.ref a)) (hb : Val tb σ H (.int (j : Int))) (ht : SqT K H a xs) (hj : xs[j]? = some v) : Val (tOp (rIxT K) te tb) σ H v := fun Q q => h _ (hb _ ⟨a, xs, _, v, rfl, rfl, ht, atI_nat hj, q⟩)
theorem cut_map {ns : List Int} {pl m : Nat} : cutV (ns.map V.int) (some (pl : Int)) (some ((pl + m : Nat) : Int)) = ((ns.drop pl).take m).map V.int := by
  unfold cutV
  rw [HT.sIx_nat, HT.sIx_nat, List.length_map, List.map_take, List.map_drop]
  by_cases h : pl ≤ ns.length
  · rw [Nat.min_eq_left h]
    by_cases h2 : pl + m ≤ ns.length
    · rw [Nat.min_eq_left h2, Nat.add_sub_cancel_left]
    · rw [Nat.min_eq_right (by omega), List.take_of_length_le (by rw [List.length_drop, List.length_map]; exact Nat.le_refl _), List.take_of_length_le (by rw [List.length_drop, List.length_map]; omega)]
  · rw [Nat.min_eq_right (show ns.length ≤ pl by omega), List.drop_of_length_le (show (ns.map V.int).length ≤ ns.length by rw [List.length_map]; exact Nat.le_refl _), List.drop_of_length_le (show (ns.map V.int).length ≤ pl by rw [List.length_map]; omega)]
    rw [List.take_nil, List.take_nil]
theorem SesAt.loose {ow : Addr → Nat} {as : List Addr} {c : Addr} {s : Vbcnac.State} {o u : HO} (S : SesAt K ow as H v s) (hc : H c = some o) (ht : isT o = false) (h0 : ow c = 0) : SesAt K ow as (upd H c u) v s := by
  rcases S with h | ⟨n, h1, N, h2, h3⟩
  · exact .inl h
  · exact .inr ⟨n, h1, N.loose hc ht h0, h2, h3⟩
end
theorem big_tell : 10000000 < sizeLine := by decide
section
variable {P : Program} {w : World} {K : PySem.W.Frag} {mg : Str → Option Value} {base : Heap}
def sp_answers (K : PySem.W.Frag) : Sp := fun vs H Q _ => ∃ a ns cs, vs = [.ref a] ∧ SqL K H a ((ns : List Int).map V.int) ∧ PyFlat.calls PyVbcnac.shape ns.length ns = some cs ∧ (ansOf Vbcnac.start cs).length ≤ 10000000 ∧
  ∀ p H', Same H H' → H' p = some (.lst ((ansOf Vbcnac.start cs).map V.int)) → Q (.ref p) H'
theorem sc_answers : FnScope ["calls", "session", "answered", "place", "size", "answer"] ["calls"] D_answers.scope := ⟨rfl, rfl, rfl, by decide +kernel, rfl, by decide +kernel, by decide +kernel⟩
-- level 10; slots 0:calls 1:session 2:answered 3:place 4:size 5:answer; captured []
theorem ok_answers (T : Txt K mg) (G_Session : DoesC P w K mg base 1 "Session" ["self"] (sp_Session K)) (G_answer_of : Does P w K mg base 9 "answer_of" ["session", "call"] (sp_answer_of K)) : Does P w K mg base 10 "answers" ["calls"] (sp_answers K) := by
  refine does_of T 66 (d := D_answers) rfl rfl rfl rfl T.g_answers sc_answers (fun _ _ _ _ _ _ us hl => match us, hl with | [_], _ => rfl) (fun vs H Q E h => by obtain ⟨_, _, _, rfl, _⟩ := h; rfl) (fun cdv A outer s H vs Q E hr h => ⟨_, (pss_cons (ps_set (i := 1) sc_answers.nd rfl (.inl rfl) (pe_c0 T.m_Session T.g_Session G_Session.ex (hr.mono (by decide)) (by rfl)))
      (pss_cons (ps_set (i := 2) sc_answers.nd rfl (.inl rfl) (pe_lst pa_nil))
      (pss_cons (ps_set (i := 3) sc_answers.nd rfl (.inl rfl) pe_int)
      (pss_cons (ps_while PassesOwn.never (pt_cmpR op_lt (pv 3) (pe_callB call_len_seq (by rfl) T.f_len PySem.boot_len (pa_cons (pv 0) pa_nil)) (nomark _)) (pss_cons (ps_set (i := 4) sc_answers.nd rfl (.inl rfl) (pe_op op_add pe_int (pe_ix ix_tup (pe_gr T.g_COUNTS rfl) (pe_ix ix_list (pv 0) (pv 3) (fun _ _ => rfl)) (fun _ _ => rfl))))
      (pss_cons (ps_set (i := 5) sc_answers.nd rfl (.inl rfl) (pe_f G_answer_of (hr.mono (by decide)) (by rfl) (pa_cons (pv 1) (pa_cons (pe_slice sl_list (pv 0) (po_some (pv 3)) (po_some (pe_op op_add (pv 3) (pv 4)))) pa_nil))))
      (pss_cons (ps_set (i := 3) sc_answers.nd rfl (.inl rfl) (pe_op op_add (pv 3) (pv 4)))
      (pss_cons (ps_expr (pe_bm PySem.F.plainAttrs_list PySem.F.slot_list_append PySem.F.type_list_append mt_append (pv 2) (pa_cons (pe_callB call_len_seq (by rfl) T.f_len PySem.boot_len (pa_cons (pv 5) pa_nil)) pa_nil)))
      (pss_one (ps_expr (pe_bm PySem.F.plainAttrs_list PySem.F.slot_list_extend PySem.F.type_list_extend mt_extend (pv 2) (pa_cons (pv 5) pa_nil)))))))))
      (pss_one (ps_ret (pv 2))))))), ?_⟩)
  obtain ⟨a, ns, cs0, rfl, hS, hcs0, hbig, hQ⟩ := h
  refine r_seq (r_set (r_make (r_nil fun se dx nse ndx hne => ⟨se, dx, rfl, upd_same, fun H1 h1 h2 => ⟨rfl, nx ?_⟩⟩)))
  have e1 : Same H H1 := fun b o h => h2 b o (by rw [upd_ne (ne_of_none h nse), upd_ne (ne_of_none h ndx)]; exact h) (ne_of_none h nse)
  refine r_seq (r_set (r_lst (r_nil ⟨by show 0 ≤ sizeLine; decide, fun An nAn => nx ?_⟩)))
  have e2 : Same H1 (upd H1 An (.lst [])) := same_new nAn
  have nAnH : H An = none := e1.free nAn
  have hse0 : SesO K (upd H1 An (.lst [])) se dx .non := e2 _ _ h1
  have hneA : An ≠ se := fun y => by
    rw [y, h1] at nAn
    cases nAn
  refine r_seq (r_set (r_c (nx (r_seq ?_))))
  refine ⟨fun m σ' H' => ∃ v4 v5 pl s ow as v cs f out, m = ns.length - pl ∧ σ' = [some (.ref a), some (.ref se), some (.ref An), some (.int (pl : Nat)), v4, v5] ∧ pl ≤ ns.length ∧ PyFlat.calls PyVbcnac.shape f (ns.drop pl) = some cs ∧ out ++ ansOf s cs = ansOf Vbcnac.start cs0 ∧ SesO K H' se dx v ∧ ow se = 0 ∧ ow An = 0 ∧ SesAt K ow as H' v s ∧ H' An = some (.lst (out.map V.int)) ∧ Same H H' ∧ ∀ b, ow b ≠ 0 → H b = none,
    ⟨_, none, none, 0, Vbcnac.start, fun _ => 0, [], .non, cs0, ns.length, [], rfl, rfl, Nat.zero_le _, by rw [List.drop_zero]; exact hcs0, rfl, hse0, rfl, rfl, .inl ⟨rfl, rfl, fun _ => rfl⟩, upd_same, e1.trans e2, fun b h => absurd rfl h⟩, ?_⟩
  rintro m σ' H3 ⟨v4, v5, pl, s, ow, as, v, cs, f, out, rfl, rfl, hpl, hcs, hout, hse, w0, w1, S, hAn, e3, hnew⟩
  have hS3 := same_sqL e3 hS
  refine r_test (r_op (go vv (r_cb (r_cons (go vv (r_nil ⟨a, _, rfl, .inl hS3, _, _, rfl, rfl, _, rfl, ?_⟩))))))
  have hlm : (ns.map V.int).length = ns.length := List.length_map _
  rw [hlm]
  by_cases hlt : pl < ns.length
  · rw [decide_eq_true (by omega)]
    obtain ⟨p, r, hpr⟩ : ∃ p r, ns.drop pl = p :: r := ⟨_, _, List.drop_eq_getElem_cons hlt⟩
    rw [hpr] at hcs
    obtain ⟨f', j, n, c, cs', hj, hcn, hn, hF, rfl, hcs'⟩ := calls_cons hcs
    rw [ansOf_cons hF] at hout
    have hp : ns[pl]? = some p := by
      have := congrArg (fun l => l[0]?) hpr
      simpa using this
    have hrl : (ns.drop pl).length = r.length + 1 := by
      rw [hpr]
      rfl
    rw [List.length_drop] at hrl
    have hdrop : r.drop n = ns.drop (pl + (1 + n)) := by
      have : (ns.drop pl).drop (1 + n) = r.drop n := by
        rw [hpr, Nat.add_comm 1 n]
        rfl
      rw [← this, List.drop_drop]
    rw [hdrop] at hcs'
    have hcut : cutV (ns.map V.int) (some (pl : Int)) (some ((pl + (1 + n) : Nat) : Int)) = (p :: r.take n).map V.int := by
      rw [cut_map, hpr, Nat.add_comm 1 n]
      rfl
    have tot : out.length + (1 + (Vbcnac.step s c).2.length) ≤ 10000000 := by
      have := congrArg List.length hout
      rw [List.length_append, List.length_cons, List.length_append] at this
      omega
    refine if_y ⟨fun σ' H' => ∃ (v4 v5 : Option V) (pl' : Nat) (s : Vbcnac.State) (ow : Addr → Nat) (as : List Addr) (v : V) (cs : List (List (List Int))) (f : Nat) (out : List Int), pl < pl' ∧ σ' = [some (.ref a), some (.ref se), some (.ref An), some (.int (pl' : Nat)), v4, v5] ∧ pl' ≤ ns.length ∧ PyFlat.calls PyVbcnac.shape f (ns.drop pl') = some cs ∧ out ++ ansOf s cs = ansOf Vbcnac.start cs0 ∧ SesO K H' se dx v ∧ ow se = 0 ∧ ow An = 0 ∧ SesAt K ow as H' v s ∧ H' An = some (.lst (out.map V.int)) ∧ Same H H' ∧ ∀ b, ow b ≠ 0 → H b = none, ?_, ?_⟩
    · rintro σ' H' ⟨v4, v5, pl', s, ow, as, v, cs, f, out, q0, q1, q2, q⟩
      exact ⟨_, by omega, v4, v5, pl', s, ow, as, v, cs, f, out, rfl, q1, q2, q⟩
    · have hpv : (ns.map V.int)[pl]? = some (.int (j : Int)) := by
        rw [List.getElem?_map, hp, hj]
        rfl
      have hcv : (cntL.map fun n : Nat => V.int (n : Int))[j]? = some (.int (n : Int)) := by
        rw [List.getElem?_map, hcn]
        rfl
      refine r_seq (r_set (go (v_addN (x := 1) (y := n) val_c (v_ixU (j := j) (xs := cntL.map fun n : Nat => V.int (n : Int)) val_c (v_ixS vv vv hS3 hpv) (T.t_COUNTS H3) hcv)) (nx ?_)))
      refine r_seq (r_set (r_call (r_cons (go vv (r_cons (r_slice (go vv (r_part (go vv ⟨_, rfl, r_part (go (v_addN vv vv) ⟨_, rfl, a, _, rfl, hS3, fun L nL => r_nil ?_⟩)⟩)))))))))
      rw [hcut]
      have eL := same_new (o := .lst ((p :: r.take n).map V.int)) nL
      have hAnL := eL _ _ hAn
      have hseL : SesO K (upd H3 L (.lst ((p :: r.take n).map V.int))) se dx v := eL _ _ hse
      refine ⟨se, L, dx, v, _, c, ow, as, s, rfl, upd_same, hF, hseL, w0, S.same eL, fun H7 ow' as' v' q hse7 w7 S7 fr G hqse hfree wq hl => nx ?_⟩
      generalize (upd H3 L (.lst ((p :: r.take n).map V.int))) = H4 at eL hAnL hseL fr G hfree
      have e4 := e3.trans eL
      have hqA : q ≠ An := fun y => by
        rw [y] at hfree
        exact hfree _ hAnL w1
      have hAn7 := fr _ _ hAnL w1 hneA
      have wA7 : ow' An = 0 := by
        apply Decidable.byContradiction
        intro z
        rcases G An z with y | y
        · exact y w1
        · rw [hAnL] at y
          cases y
      have e7 : Same H H7 := fun b o h => fr b o (e4 _ _ h) (by
        apply Decidable.byContradiction
        intro z
        rw [hnew b z] at h
        cases h) (ne_of_none h nse)
      have new7 : ∀ b, ow' b ≠ 0 → H b = none := fun b z => by
        rcases G b z with y | y
        · exact hnew b y
        · exact e4.free y
      refine r_seq (r_set (go (v_addN vv vv) (nx ?_)))
      have l1 : (out.map V.int).length < sizeLine := by
        rw [List.length_map]
        exact Nat.lt_of_le_of_lt (by omega) big_tell
      refine r_seq (r_drop (r_bm (go vv ⟨ty_list hAn7, r_cons (r_cb (r_cons (go vv (r_nil ⟨q, _, rfl, .inl (SqL.of hl), r_nil ⟨An, _, _, rfl, rfl, hAn7, l1, nx ?_⟩⟩))))⟩)))
      have hlen : ((Vbcnac.step s c).2.map V.int).length = (Vbcnac.step s c).2.length := List.length_map _
      rw [hlen]
      have hA8 : (upd H7 An (.lst (out.map V.int ++ [.int ((Vbcnac.step s c).2.length : Nat)]))) An = some (.lst ((out ++ [((Vbcnac.step s c).2.length : Int)]).map V.int)) := by
        rw [upd_same, List.map_append]
        rfl
      have hq8 : (upd H7 An (.lst (out.map V.int ++ [.int ((Vbcnac.step s c).2.length : Nat)]))) q = some (.lst ((Vbcnac.step s c).2.map V.int)) := by
        rw [upd_ne hqA]
        exact hl
      have S8 : SesAt K ow' as' (upd H7 An (.lst (out.map V.int ++ [.int ((Vbcnac.step s c).2.length : Nat)]))) v' (Vbcnac.step s c).1 := S7.loose hAn7 rfl wA7
      have hse8 : SesO K (upd H7 An (.lst (out.map V.int ++ [.int ((Vbcnac.step s c).2.length : Nat)]))) se dx v' := by
        show (upd H7 An _) se = _
        rw [upd_ne hneA.symm]
        exact hse7
      have e8 : Same H (upd H7 An (.lst (out.map V.int ++ [.int ((Vbcnac.step s c).2.length : Nat)]))) := same_upd e7 nAnH
      generalize (upd H7 An (.lst (out.map V.int ++ [.int ((Vbcnac.step s c).2.length : Nat)]))) = H8 at hA8 hq8 S8 hse8 e8
      have l2 : ((out ++ [((Vbcnac.step s c).2.length : Int)]).map V.int).length + ((Vbcnac.step s c).2.map V.int).length ≤ sizeLine := by
        rw [List.length_map, List.length_map, List.length_append, List.length_singleton]
        exact Nat.le_of_lt (Nat.lt_of_le_of_lt (by omega) big_tell)
      refine r_drop (r_bm (go vv ⟨ty_list hA8, r_cons (go vv (r_nil ⟨An, q, _, _, rfl, rfl, hA8, hq8, l2, _, _, pl + (1 + n), (Vbcnac.step s c).1, ow', as', v', cs', f', out ++ [((Vbcnac.step s c).2.length : Int)] ++ (Vbcnac.step s c).2, by omega, rfl, by omega, hcs', ?_, ?_, w7, wA7, S8.loose hA8 rfl wA7, ?_, same_upd e8 nAnH, new7⟩))⟩))
      · rw [← hout, List.append_assoc, List.append_assoc]
        rfl
      · show (upd H8 An _) se = _
        rw [upd_ne hneA.symm]
        exact hse8
      · rw [upd_same, List.map_append (l₁ := out ++ [((Vbcnac.step s c).2.length : Int)])]
  · rw [decide_eq_false (by omega)]
    have hd : ns.drop pl = [] := List.drop_of_length_le (by omega)
    rw [hd] at hcs
    have hcs2 : cs = [] := by
      cases f <;> exact (Option.some.inj hcs).symm
    rw [hcs2] at hout
    have ho : out = ansOf Vbcnac.start cs0 := by
      rw [← hout]
      exact (List.append_nil _).symm
    refine if_n (nx (r_ret (go vv (hQ An H3 e3 ?_))))
    rw [← ho]
    exact hAn
end
end Sw
namespace Sw
open PySem PySem.Spec PyProof.Rows L2
theorem ok_all {P : Program} {w : World} {K : PySem.W.Frag} {mg : Str → Option Value} {base : Heap} (T : Txt K mg) : Does P w K mg base 10 "answers" ["calls"] (sp_answers K) := by
  have G_Session : DoesC P w K mg base 1 "Session" ["self"] (sp_Session K) := ok_Session_init T
  have G_Net : DoesC P w K mg base 1 "Net" ["self", "age", "wait", "keep", "room"] (sp_Net K) := ok_Net_init T
  have G_begin : Does P w K mg base 3 "begin" ["session", "age", "wait", "keep", "room"] (sp_begin K) := ok_begin T G_Net
  have G_refusal_of : Does P w K mg base 1 "refusal_of" ["net", "numbers", "ranges", "bridges"] (sp_refusal_of K) := ok_refusal_of T
  have G_Bridge : DoesC P w K mg base 1 "Bridge" ["self", "rank", "number"] (sp_Bridge K) := ok_Bridge_init T
  have G_add_bridge : Does P w K mg base 3 "add_bridge" ["net", "rank", "number"] (sp_add_bridge K) := ok_add_bridge T G_refusal_of G_Bridge
  have G_cable_at : Does P w K mg base 1 "cable_at" ["net", "port"] (sp_cable_at K) := ok_cable_at T
  have G_set_cable : Does P w K mg base 1 "set_cable" ["net", "port", "other"] (sp_set_cable K) := ok_set_cable T
  have G_forwards : Does P w K mg base 1 "forwards" ["net", "port"] (sp_forwards K) := ok_forwards T
  have G_empty_port : Does P w K mg base 1 "empty_port" ["bridge", "place"] (sp_empty_port K) := ok_empty_port T
  have G_begin_anew : Does P w K mg base 2 "begin_anew" ["net", "port"] (sp_begin_anew K) := ok_begin_anew T G_forwards G_empty_port
  have G_lay_cable : Does P w K mg base 3 "lay_cable" ["net", "port", "other"] (sp_lay_cable K) := ok_lay_cable T G_set_cable G_begin_anew
  have G_cable_call : Does P w K mg base 4 "cable_call" ["net", "port", "other"] (sp_cable_call K) := ok_cable_call T G_refusal_of G_cable_at G_lay_cable
  have G_cut_cable : Does P w K mg base 3 "cut_cable" ["net", "port"] (sp_cut_cable K) := ok_cut_cable T G_cable_at G_set_cable G_begin_anew
  have G_cut_call : Does P w K mg base 4 "cut_call" ["net", "port"] (sp_cut_call K) := ok_cut_call T G_refusal_of G_cable_at G_cut_cable
  have G_begin_neighbours_anew : Does P w K mg base 3 "begin_neighbours_anew" ["net", "number"] (sp_begin_neighbours_anew K) := ok_begin_neighbours_anew T G_begin_anew
  have G_turn_off : Does P w K mg base 4 "turn_off" ["net", "number"] (sp_turn_off K) := ok_turn_off T G_empty_port G_begin_neighbours_anew
  have G_off_call : Does P w K mg base 5 "off_call" ["net", "number"] (sp_off_call K) := ok_off_call T G_refusal_of G_turn_off
  have G_turn_on : Does P w K mg base 4 "turn_on" ["net", "number"] (sp_turn_on K) := ok_turn_on T G_begin_neighbours_anew
  have G_on_call : Does P w K mg base 5 "on_call" ["net", "number"] (sp_on_call K) := ok_on_call T G_refusal_of G_turn_on
  have G_changing_answer : Does P w K mg base 6 "changing_answer" ["net", "call"] (sp_changing_answer K) := ok_changing_answer T G_add_bridge G_cable_call G_cut_call G_off_call G_on_call
  have G_set_rank : Does P w K mg base 2 "set_rank" ["net", "number", "rank"] (sp_set_rank K) := ok_set_rank T G_refusal_of
  have G_set_cost : Does P w K mg base 2 "set_cost" ["net", "port", "cost"] (sp_set_cost K) := ok_set_cost T G_refusal_of
  have G_set_port_rank : Does P w K mg base 2 "set_port_rank" ["net", "port", "rank"] (sp_set_port_rank K) := ok_set_port_rank T G_refusal_of
  have G_age_stations : Does P w K mg base 1 "age_stations" ["net", "bridge"] (sp_age_stations K) := ok_age_stations T
  have G_age_all_stations : Does P w K mg base 2 "age_all_stations" ["net"] (sp_age_all_stations K) := ok_age_all_stations T G_age_stations
  have G_Beginning : DoesC P w K mg base 1 "Beginning" ["self"] (sp_Beginning K) := ok_Beginning_init T
  have G_row_of_way : Does P w K mg base 1 "row_of_way" ["bridge", "place", "hello"] (sp_row_of_way K) := ok_row_of_way T
  have G_name_of : Does P w K mg base 1 "name_of" ["bridge"] (sp_name_of K) := ok_name_of T
  have G_Held : DoesC P w K mg base 1 "Held" ["self", "root", "cost", "place", "age"] (sp_Held K) := ok_Held_init T
  have G_held_by : Does P w K mg base 3 "held_by" ["bridge"] (sp_held_by K) := ok_held_by T G_row_of_way G_name_of G_Held
  have G_hello_at : Does P w K mg base 2 "hello_at" ["bridge", "held", "place"] (sp_hello_at K) := ok_hello_at T G_name_of
  have G_roles_of : Does P w K mg base 3 "roles_of" ["bridge", "held"] (sp_roles_of K) := ok_roles_of T G_hello_at
  have G_beginning_of : Does P w K mg base 4 "beginning_of" ["net"] (sp_beginning_of K) := ok_beginning_of T G_Beginning G_held_by G_roles_of G_hello_at G_forwards
  have G_renew_hellos : Does P w K mg base 1 "renew_hellos" ["net", "number", "beginning"] (sp_renew_hellos K) := ok_renew_hellos T
  have G_renew_waits : Does P w K mg base 1 "renew_waits" ["net", "number", "beginning"] (sp_renew_waits K) := ok_renew_waits T
  have G_renew_notices : Does P w K mg base 2 "renew_notices" ["net", "number", "beginning", "changed"] (sp_renew_notices K) := ok_renew_notices T G_age_stations
  have G_make_round : Does P w K mg base 5 "make_round" ["net"] (sp_make_round K) := ok_make_round T G_beginning_of G_renew_hellos G_renew_waits G_renew_notices
  have G_make_rounds : Does P w K mg base 6 "make_rounds" ["net", "count"] (sp_make_rounds K) := ok_make_rounds T G_age_all_stations G_make_round
  have G_rounds_call : Does P w K mg base 7 "rounds_call" ["net", "count"] (sp_rounds_call K) := ok_rounds_call T G_refusal_of G_make_rounds
  have G_port_call : Does P w K mg base 4 "port_call" ["net", "port"] (sp_port_call K) := ok_port_call T G_refusal_of G_roles_of G_held_by G_forwards
  have G_view_call : Does P w K mg base 4 "view_call" ["net", "number"] (sp_view_call K) := ok_view_call T G_refusal_of G_held_by
  have G_rows_of : Does P w K mg base 1 "rows_of" ["rows"] (sp_rows_of K) := ok_rows_of T
  have G_cables_of : Does P w K mg base 1 "cables_of" ["net"] (sp_cables_of K) := ok_cables_of T
  have G_forwarding_cables : Does P w K mg base 2 "forwarding_cables" ["net"] (sp_forwarding_cables K) := ok_forwarding_cables T G_cables_of G_forwards
  have G_tree_call : Does P w K mg base 3 "tree_call" ["net"] (sp_tree_call K) := ok_tree_call T G_refusal_of G_rows_of G_forwarding_cables
  have G_Plain : DoesC P w K mg base 1 "Plain" ["self", "costs"] (sp_Plain K) := ok_Plain_init T
  have G_live_cable : Does P w K mg base 1 "live_cable" ["net", "number", "place"] (sp_live_cable K) := ok_live_cable T
  have G_neighbours_of : Does P w K mg base 2 "neighbours_of" ["net", "number"] (sp_neighbours_of K) := ok_neighbours_of T G_live_cable
  have G_piece_of : Does P w K mg base 3 "piece_of" ["net", "number"] (sp_piece_of K) := ok_piece_of T G_neighbours_of
  have G_chief_of : Does P w K mg base 2 "chief_of" ["net", "piece"] (sp_chief_of K) := ok_chief_of T G_name_of
  have G_spread_costs : Does P w K mg base 3 "spread_costs" ["net", "piece", "costs"] (sp_spread_costs K) := ok_spread_costs T G_neighbours_of
  have G_costs_of_net : Does P w K mg base 4 "costs_of_net" ["net"] (sp_costs_of_net K) := ok_costs_of_net T G_piece_of G_chief_of G_spread_costs
  have G_root_place : Does P w K mg base 2 "root_place" ["net", "costs", "number"] (sp_root_place K) := ok_root_place T G_live_cable G_name_of
  have G_plain_tree : Does P w K mg base 5 "plain_tree" ["net"] (sp_plain_tree K) := ok_plain_tree T G_Plain G_costs_of_net G_root_place
  have G_row_of_port : Does P w K mg base 2 "row_of_port" ["net", "plain", "port"] (sp_row_of_port K) := ok_row_of_port T G_name_of
  have G_is_plainly_blocked : Does P w K mg base 3 "is_plainly_blocked" ["net", "plain", "port"] (sp_is_plainly_blocked K) := ok_is_plainly_blocked T G_live_cable G_row_of_port
  have G_plain_cables : Does P w K mg base 6 "plain_cables" ["net"] (sp_plain_cables K) := ok_plain_cables T G_plain_tree G_cables_of G_live_cable G_is_plainly_blocked
  have G_plain_call : Does P w K mg base 7 "plain_call" ["net"] (sp_plain_call K) := ok_plain_call T G_refusal_of G_rows_of G_plain_cables
  have G_learn : Does P w K mg base 1 "learn" ["net", "bridge", "source", "place"] (sp_learn K) := ok_learn T
  have G_places_to_pass : Does P w K mg base 2 "places_to_pass" ["net", "entry", "target"] (sp_places_to_pass K) := ok_places_to_pass T G_forwards
  have G_ports_left_by : Does P w K mg base 3 "ports_left_by" ["net", "port", "source", "target"] (sp_ports_left_by K) := ok_ports_left_by T G_learn G_places_to_pass G_cable_at G_forwards
  have G_frame_call : Does P w K mg base 4 "frame_call" ["net", "port", "source", "target"] (sp_frame_call K) := ok_frame_call T G_refusal_of G_cable_at G_forwards G_rows_of G_ports_left_by
  have G_stations_call : Does P w K mg base 2 "stations_call" ["net", "number"] (sp_stations_call K) := ok_stations_call T G_refusal_of G_rows_of
  have G_way_between : Does P w K mg base 3 "way_between" ["net", "number", "goal"] (sp_way_between K) := ok_way_between T G_forwarding_cables
  have G_way_call : Does P w K mg base 4 "way_call" ["net", "number", "goal"] (sp_way_call K) := ok_way_call T G_refusal_of G_way_between G_rows_of
  have G_quiet_call : Does P w K mg base 2 "quiet_call" ["net"] (sp_quiet_call K) := ok_quiet_call T G_refusal_of
  have G_asking_answer : Does P w K mg base 8 "asking_answer" ["net", "call"] (sp_asking_answer K) := ok_asking_answer T G_port_call G_view_call G_tree_call G_plain_call G_frame_call G_stations_call G_way_call G_quiet_call
  have G_answer_of : Does P w K mg base 9 "answer_of" ["session", "call"] (sp_answer_of K) := ok_answer_of T G_begin G_changing_answer G_set_rank G_set_cost G_set_port_rank G_rounds_call G_asking_answer
  have G_answers : Does P w K mg base 10 "answers" ["calls"] (sp_answers K) := ok_answers T G_Session G_answer_of
  exact G_answers
end Sw
namespace Sw
open PySem PySem.Spec PyProof.Rows L2
/-! ### the statement, from the promise of answers -/
theorem txt_of {K : PySem.W.Frag} {h : Heap} {mg : Str → Option Value} (X : K.In h) (G : h.Ns mainGlobals mg) (c : He.SaysD fa fn K) (t : tupsB K = true) : Txt K mg :=
  ⟨c, t, fun _ z => He.glo_ok X G z, fun _ z => He.free_ok X G z, fun _ _ z => He.int_ok X G z⟩
/-- what is asked, opened -/
theorem asked_of {ns : List Int} (h : PyVbcnac.answers_asked ns = true) : ∃ cs, PyFlat.calls PyVbcnac.shape ns.length ns = some cs ∧ (ansOf Vbcnac.start cs).length ≤ 10000000 := by
  unfold PyVbcnac.answers_asked at h
  cases q : PyFlat.calls PyVbcnac.shape ns.length ns with
  | none =>
    rw [q] at h
    cases h
  | some cs =>
    rw [q] at h
    refine ⟨cs, rfl, ?_⟩
    have h2 : (!cs.isEmpty && PyFlat.atMost 400 cs && PyInside.calls PyVbcnac.bound cs && VbcnacNeutral.asked (cs.map PyVbcnac.whole) && PyFlat.short 10000000 (PyVbcnac.answers ns)) = true := h
    rw [Bool.and_eq_true] at h2
    rw [← ansOf_all q]
    exact of_decide_eq_true h2.2
theorem due {K : PySem.W.Frag} {H : Hp} {xs : List V} {ns : List Int} (h : PyVbcnac.answers_asked ns = true) (hS : DwAll K H xs [.list (ns.map PySem.W.WData.int)]) : sp_answers K xs H (fun v H' => Dw K H' v (.list ((PyVbcnac.answers ns).map PySem.W.WData.int))) fun _ _ _ => False := by
  obtain ⟨cs, h1, h2⟩ := asked_of h
  cases hS with
  | cons a b =>
    cases b
    cases a with
    | @lst c ys _ hs hd =>
      cases ints_dw ns ys hd
      refine ⟨c, ns, cs, rfl, hs, h1, h2, fun p H' _ hp => ?_⟩
      rw [ansOf_all h1]
      exact .lst (SqL.of hp) (dw_ints _)
theorem walk : PySem.W.WalkOS (PySem.W.view R.prog [108]) loose (PySem.W.XL (PySem.W.view R.prog [108]) []) hk.says R (HandSHeadRun.topDef R.prog 108) [] (fun f vs => PySem.call f vs) := by
  intro w s0 s1 mg mb G Y f o pm cd doc dV kV ho hd hcd hD hmg hg args vals as hpre hlay hrd hwl hlo
  obtain ⟨⟨ns, u⟩, e1, e2⟩ := PySem.W.os_pre_some hpre
  obtain ⟨e3, hwi⟩ := PySem.W.Codec.encAll_of_decAll R.args args (ns, u) e1
  subst e3
  obtain ⟨K, KX, c, ht⟩ := Y
  have T : Txt K mg := txt_of KX G.T.g c ht
  have nm : (HandSHeadRun.topDef R.prog 108).name = ("answers" : Str) := by kernel_rfl
  rw [nm] at hmg
  cases hmg.symm.trans T.g_answers
  obtain ⟨fd, FD⟩ := c.def_ 66 (d := D_answers) rfl
  have hb := FunD.bindsA (ps := ["calls"]) FD (fun _ _ _ _ _ _ us hl => match us, hl with | [_], _ => rfl)
  have hF : ∀ base : Heap, FnOk R.prog w K mg base CX0 10 (He.ga K "answers") fd ["calls"] (sp_answers K) := fun base => by
    obtain ⟨fd2, F2, _, oc2, od2, osl2, lk2⟩ := (ok_all (P := R.prog) (w := w) (base := base) T).ex
    obtain ⟨oc, od, dV, kV, doc, pm, an, cdv, ct, osl, _, lk, _⟩ := FD.ex
    have lk3 : K.lookup (He.ga K "answers") = some ⟨oc, od, .func fd, osl⟩ := lk
    rw [lk2] at lk3
    cases lk3
    exact F2
  refine PySem.W.enter_call (codeAny_mono (spec_call (R := []) (cl := classAt s0.heap) (d0 := .list ((PyVbcnac.answers ns).map PySem.W.WData.int)) KX G.T.g G.T.b G.T.builtins G.T.nolimit hg hwl (pl_encAll R.args (ns, u)) (layable_weight hlay) (show Room 10 callerA from ⟨rfl, by decide, by decide⟩) (fun base _ _ => hF base) hb rfl
    (fun H xs _ hS => due e2 hS) fun _ _ _ z => z) fun r' s' hq => ?_)
  obtain ⟨v, bs, rfl, h1, h2, h3, h4⟩ := hq
  exact ⟨.inl ⟨v, _, bs, rfl, fun _ => rfl, h1, (PySem.W.OpenSpec.post_iff said hwi _ _).mpr rfl, fun z => Bool.noConfusion (show false = true from z)⟩, h2, h3, h4⟩
end Sw
theorem PySem.Challenge.cw_switchtree_s01_answers_holds : PySem.Challenge.rw_switchtree_s01_answers.Holds :=
  Sw.row_of Sw.walk
