import PyProof.Rows.All
import Wide.All
import OpenK.AllK
import Wide.FinOn
import HandS.ForMost
import HandS.ForExc
import HandS.DictComp
import HandS.Defaults
import HandS.Star
import HandS.Property
import HandS.SetKeys
import HandS.TupMul
import HandS.TupAny
import HandS.Deep
import HandS.Flow
import HandS.Style
import HandS.IsInst
import HandS.Strs
import HandS.Conv
import HandS.HeadEnd
import HandS.HeadHook1
import HandS.HeadHook2
import HandS.HeadHook3
import HandS.Head0
import HandS.Head1
import HandS.Head2
import HandS.Walk
import HandS.Small
import KE.KDictSum
import KE.DatumOrd
import KE.SortData
import KE.KRevSl
import KE.KDictKeyed
import KE.KDictDisplayH
import KE.KEqDict
import KE.GoesEnum
import KE.KDictList
import PyProof.ReprRoads
import PyProof.ReprLen
import PySem.Challenge.RW_roomdials_k90_whole_layers
set_option Elab.async false
set_option linter.all false
set_option maxRecDepth 100000
set_option maxHeartbeats 0
/-! the text by places; its written facts -/
namespace Rd
open PySem PySem.Spec PyProof.Rows L2
def top (i : Nat) : Stmt := PySem.Challenge.pw_roomdials_k90_whole_layers.main.body.getD i (.Pass ⟨0, 0, 0, 0⟩)
abbrev s_joined_rooms : Stmt := top 12
abbrev P_joined_rooms : List Str := ["corridors"]
abbrev N_joined_rooms : List Str := ["corridors", "found", "one", "other", "room", "near"]
abbrev s_steps_from : Stmt := top 13
abbrev P_steps_from : List Str := ["start", "corridors", "closed_rooms"]
abbrev N_steps_from : List Str := ["start", "corridors", "closed_rooms", "joined", "found", "waiting", "at", "room", "other"]
abbrev s_reached_from : Stmt := top 14
abbrev P_reached_from : List Str := ["start", "corridors", "closed_rooms"]
abbrev N_reached_from : List Str := ["start", "corridors", "closed_rooms"]
abbrev s_level_corridor : Stmt := top 15
abbrev P_level_corridor : List Str := ["levels", "corridors"]
abbrev N_level_corridor : List Str := ["levels", "corridors", "one", "other"]
abbrev s_sides_of : Stmt := top 16
abbrev P_sides_of : List Str := ["rooms", "corridors"]
abbrev N_sides_of : List Str := ["rooms", "corridors", "levels", "first", "room"]
abbrev s_odd_ring_of : Stmt := top 17
abbrev P_odd_ring_of : List Str := ["rooms", "corridors"]
abbrev N_odd_ring_of : List Str := ["rooms", "corridors", "levels", "corridor", "ahead", "behind"]
abbrev s_on_rings : Stmt := top 18
abbrev P_on_rings : List Str := ["levels", "corridors"]
abbrev N_on_rings : List Str := ["levels", "corridors", "found", "one", "other"]
abbrev s_bridges_of : Stmt := top 19
abbrev P_bridges_of : List Str := ["rooms", "corridors"]
abbrev N_bridges_of : List Str := ["rooms", "corridors", "levels", "ringed", "found", "one", "other", "lower", "upper"]
abbrev s_is_name : Stmt := top 23
abbrev P_is_name : List Str := ["thing"]
abbrev N_is_name : List Str := ["thing", "letter"]
abbrev s_is_integer : Stmt := top 24
abbrev P_is_integer : List Str := ["thing"]
abbrev N_is_integer : List Str := ["thing"]
abbrev s_is_between : Stmt := top 25
abbrev P_is_between : List Str := ["thing", "low", "high"]
abbrev N_is_between : List Str := ["thing", "low", "high"]
abbrev s_need_rooms : Stmt := top 27
abbrev P_need_rooms : List Str := ["building", "rooms"]
abbrev N_need_rooms : List Str := ["building", "rooms", "room"]
abbrev s_check_small : Stmt := top 30
abbrev P_check_small : List Str := ["building"]
abbrev N_check_small : List Str := ["building", "many", "room"]
abbrev s_Going_init : Stmt := inClass (top 31) 0
abbrev P_Going_init : List Str := ["self", "building", "first"]
abbrev N_Going_init : List Str := ["self", "building", "first", "index", "room", "start"]
abbrev s_Going_turned : Stmt := inClass (top 31) 1
abbrev P_Going_turned : List Str := ["self", "dials", "room"]
abbrev N_Going_turned : List Str := ["self", "dials", "room", "spot"]
abbrev s_Going_go_on : Stmt := inClass (top 31) 2
abbrev P_Going_go_on : List Str := ["self"]
abbrev N_Going_go_on : List Str := ["self", "found", "position", "room", "there"]
abbrev s_layers : Stmt := top 32
abbrev P_layers : List Str := ["building", "first"]
abbrev N_layers : List Str := ["building", "first", "going", "layer"]
abbrev s_pair_of : Stmt := top 35
abbrev P_pair_of : List Str := ["one", "other"]
abbrev N_pair_of : List Str := ["one", "other"]
abbrev s_Building_init : Stmt := inClass (top 39) 3
abbrev P_Building_init : List Str := ["self", "sizes", "corridors"]
abbrev N_Building_init : List Str := ["self", "sizes", "corridors", "name", "size", "room", "one", "other"]
abbrev s_Building_prepare : Stmt := inClass (top 39) 4
abbrev P_Building_prepare : List Str := ["self"]
abbrev N_Building_prepare : List Str := ["self", "rooms", "sides", "ring"]
abbrev s_Building_sorted_pairs : Stmt := inClass (top 39) 5
abbrev P_Building_sorted_pairs : List Str := ["self", "corridors"]
abbrev N_Building_sorted_pairs : List Str := ["self", "corridors", "found", "corridor", "is_pair", "room"]
abbrev s_Building_check_connected : Stmt := inClass (top 39) 6
abbrev P_Building_check_connected : List Str := ["self"]
abbrev N_Building_check_connected : List Str := ["self", "reached", "room"]
abbrev s_Building_rooms : Stmt := inClass (top 39) 10
abbrev P_Building_rooms : List Str := ["self"]
abbrev N_Building_rooms : List Str := ["self"]
abbrev s_Building_neighbours : Stmt := inClass (top 39) 16
abbrev P_Building_neighbours : List Str := ["self", "room"]
abbrev N_Building_neighbours : List Str := ["self", "room"]
abbrev s_Building_len : Stmt := inClass (top 39) 20
abbrev P_Building_len : List Str := ["self"]
abbrev N_Building_len : List Str := ["self"]
abbrev s_Building_contains : Stmt := inClass (top 39) 22
abbrev P_Building_contains : List Str := ["self", "thing"]
abbrev N_Building_contains : List Str := ["self", "thing"]
abbrev s_Building_getitem : Stmt := inClass (top 39) 23
abbrev P_Building_getitem : List Str := ["self", "room"]
abbrev N_Building_getitem : List Str := ["self", "room"]
abbrev s_l_begin : Stmt := top 41
abbrev P_l_begin : List Str := ["_law_script"]
abbrev N_l_begin : List Str := ["_law_script"]
abbrev s_l_draw : Stmt := top 42
abbrev P_l_draw : List Str := ["_law_tape", "_law_many"]
abbrev N_l_draw : List Str := ["_law_tape", "_law_many", "_law_place", "_law_count", "_law_cell", "_law_found"]
abbrev s_l_pick : Stmt := top 43
abbrev P_l_pick : List Str := ["_law_tape", "_law_items"]
abbrev N_l_pick : List Str := ["_law_tape", "_law_items"]
abbrev s_l_shuffled : Stmt := top 44
abbrev P_l_shuffled : List Str := ["_law_tape", "_law_items"]
abbrev N_l_shuffled : List Str := ["_law_tape", "_law_items", "_law_rest", "_law_found"]
abbrev s_l_names : Stmt := top 45
abbrev P_l_names : List Str := ["_law_tape", "_law_many"]
abbrev N_l_names : List Str := ["_law_tape", "_law_many", "_law_letters", "_law_base", "_law_k", "_law_at", "_law_first", "_law_step", "_law_found", "_law_letter"]
abbrev s_l_pair : Stmt := top 46
abbrev P_l_pair : List Str := ["_law_one", "_law_other"]
abbrev N_l_pair : List Str := ["_law_one", "_law_other"]
abbrev s_l_drawn : Stmt := top 47
abbrev P_l_drawn : List Str := ["_law_tape", "_law_least", "_law_most", "_law_more", "_law_sizes"]
abbrev N_l_drawn : List Str := ["_law_tape", "_law_least", "_law_most", "_law_more", "_law_sizes", "_law_names_here", "_law_plan", "_law_name", "_law_found", "_law_k", "_law_turn", "_law_one", "_law_other"]
abbrev s_l_built : Stmt := top 48
abbrev P_l_built : List Str := ["_law_plan"]
abbrev N_l_built : List Str := ["_law_plan"]
abbrev s_l_near : Stmt := top 49
abbrev P_l_near : List Str := ["_law_plan", "_law_room"]
abbrev N_l_near : List Str := ["_law_plan", "_law_room", "_law_two"]
abbrev s_l_sides_due : Stmt := top 50
abbrev P_l_sides_due : List Str := ["_law_plan"]
abbrev N_l_sides_due : List Str := ["_law_plan", "_law_rooms", "_law_side", "_law_waiting", "_law_room", "_law_other", "_law_alike", "_law_two"]
abbrev s_l_gcd : Stmt := top 51
abbrev P_l_gcd : List Str := ["_law_one", "_law_other"]
abbrev N_l_gcd : List Str := ["_law_one", "_law_other"]
abbrev s_l_gcd_all : Stmt := top 52
abbrev P_l_gcd_all : List Str := ["_law_numbers"]
abbrev N_l_gcd_all : List Str := ["_law_numbers", "_law_found", "_law_number"]
abbrev s_l_reach : Stmt := top 53
abbrev P_l_reach : List Str := ["_law_plan", "_law_first"]
abbrev N_l_reach : List Str := ["_law_plan", "_law_first", "_law_rooms", "_law_joined", "_law_room", "_law_start", "_law_found", "_law_at", "_law_later", "_law_here", "_law_k", "_law_dials", "_law_there"]
abbrev s_l_all_positions : Stmt := top 54
abbrev P_l_all_positions : List Str := ["_law_plan"]
abbrev N_l_all_positions : List Str := ["_law_plan", "_law_many", "_law_room"]
abbrev s_law : Stmt := top 55
abbrev P_law : List Str := ["_law_script"]
abbrev N_law : List Str := ["_law_script", "_law_tape", "_law_turn", "_law_plan", "_law_first", "_law_building", "_law_found", "_law_steps", "_law_there", "_law_due", "_law_many", "_law_told", "_law_sizes", "_law_names_here", "_law_k"]
theorem sc_joined_rooms : FnScope N_joined_rooms P_joined_rooms (defScope s_joined_rooms) := ⟨rfl, rfl, rfl, by decide +kernel, rfl, by decide +kernel, by decide +kernel⟩
theorem sc_steps_from : FnScope N_steps_from P_steps_from (defScope s_steps_from) := ⟨rfl, rfl, rfl, by decide +kernel, rfl, by decide +kernel, by decide +kernel⟩
theorem sc_reached_from : FnScope N_reached_from P_reached_from (defScope s_reached_from) := ⟨rfl, rfl, rfl, by decide +kernel, rfl, by decide +kernel, by decide +kernel⟩
theorem sc_level_corridor : FnScope N_level_corridor P_level_corridor (defScope s_level_corridor) := ⟨rfl, rfl, rfl, by decide +kernel, rfl, by decide +kernel, by decide +kernel⟩
theorem sc_sides_of : FnScope N_sides_of P_sides_of (defScope s_sides_of) := ⟨rfl, rfl, rfl, by decide +kernel, rfl, by decide +kernel, by decide +kernel⟩
theorem sc_odd_ring_of : FnScope N_odd_ring_of P_odd_ring_of (defScope s_odd_ring_of) := ⟨rfl, rfl, rfl, by decide +kernel, rfl, by decide +kernel, by decide +kernel⟩
theorem sc_on_rings : FnScope N_on_rings P_on_rings (defScope s_on_rings) := ⟨rfl, rfl, rfl, by decide +kernel, rfl, by decide +kernel, by decide +kernel⟩
theorem sc_bridges_of : FnScope N_bridges_of P_bridges_of (defScope s_bridges_of) := ⟨rfl, rfl, rfl, by decide +kernel, rfl, by decide +kernel, by decide +kernel⟩
theorem sc_is_name : FnScope N_is_name P_is_name (defScope s_is_name) := ⟨rfl, rfl, rfl, by decide +kernel, rfl, by decide +kernel, by decide +kernel⟩
theorem sc_is_integer : FnScope N_is_integer P_is_integer (defScope s_is_integer) := ⟨rfl, rfl, rfl, by decide +kernel, rfl, by decide +kernel, by decide +kernel⟩
theorem sc_is_between : FnScope N_is_between P_is_between (defScope s_is_between) := ⟨rfl, rfl, rfl, by decide +kernel, rfl, by decide +kernel, by decide +kernel⟩
theorem sc_need_rooms : FnScope N_need_rooms P_need_rooms (defScope s_need_rooms) := ⟨rfl, rfl, rfl, by decide +kernel, rfl, by decide +kernel, by decide +kernel⟩
theorem sc_check_small : FnScope N_check_small P_check_small (defScope s_check_small) := ⟨rfl, rfl, rfl, by decide +kernel, rfl, by decide +kernel, by decide +kernel⟩
theorem sc_Going_init : FnScope N_Going_init P_Going_init (defScope s_Going_init) := ⟨rfl, rfl, rfl, by decide +kernel, rfl, by decide +kernel, by decide +kernel⟩
theorem sc_Going_turned : FnScope N_Going_turned P_Going_turned (defScope s_Going_turned) := ⟨rfl, rfl, rfl, by decide +kernel, rfl, by decide +kernel, by decide +kernel⟩
theorem sc_Going_go_on : FnScope N_Going_go_on P_Going_go_on (defScope s_Going_go_on) := ⟨rfl, rfl, rfl, by decide +kernel, rfl, by decide +kernel, by decide +kernel⟩
theorem sc_layers : FnScope N_layers P_layers (defScope s_layers) := ⟨rfl, rfl, rfl, by decide +kernel, rfl, by decide +kernel, by decide +kernel⟩
theorem sc_pair_of : FnScope N_pair_of P_pair_of (defScope s_pair_of) := ⟨rfl, rfl, rfl, by decide +kernel, rfl, by decide +kernel, by decide +kernel⟩
theorem sc_Building_init : FnScope N_Building_init P_Building_init (defScope s_Building_init) := ⟨rfl, rfl, rfl, by decide +kernel, rfl, by decide +kernel, by decide +kernel⟩
theorem sc_Building_prepare : FnScope N_Building_prepare P_Building_prepare (defScope s_Building_prepare) := ⟨rfl, rfl, rfl, by decide +kernel, rfl, by decide +kernel, by decide +kernel⟩
theorem sc_Building_sorted_pairs : FnScope N_Building_sorted_pairs P_Building_sorted_pairs (defScope s_Building_sorted_pairs) := ⟨rfl, rfl, rfl, by decide +kernel, rfl, by decide +kernel, by decide +kernel⟩
theorem sc_Building_check_connected : FnScope N_Building_check_connected P_Building_check_connected (defScope s_Building_check_connected) := ⟨rfl, rfl, rfl, by decide +kernel, rfl, by decide +kernel, by decide +kernel⟩
theorem sc_Building_rooms : FnScope N_Building_rooms P_Building_rooms (defScope s_Building_rooms) := ⟨rfl, rfl, rfl, by decide +kernel, rfl, by decide +kernel, by decide +kernel⟩
theorem sc_Building_neighbours : FnScope N_Building_neighbours P_Building_neighbours (defScope s_Building_neighbours) := ⟨rfl, rfl, rfl, by decide +kernel, rfl, by decide +kernel, by decide +kernel⟩
theorem sc_Building_len : FnScope N_Building_len P_Building_len (defScope s_Building_len) := ⟨rfl, rfl, rfl, by decide +kernel, rfl, by decide +kernel, by decide +kernel⟩
theorem sc_Building_contains : FnScope N_Building_contains P_Building_contains (defScope s_Building_contains) := ⟨rfl, rfl, rfl, by decide +kernel, rfl, by decide +kernel, by decide +kernel⟩
theorem sc_Building_getitem : FnScope N_Building_getitem P_Building_getitem (defScope s_Building_getitem) := ⟨rfl, rfl, rfl, by decide +kernel, rfl, by decide +kernel, by decide +kernel⟩
theorem sc_l_begin : FnScope N_l_begin P_l_begin (defScope s_l_begin) := ⟨rfl, rfl, rfl, by decide +kernel, rfl, by decide +kernel, by decide +kernel⟩
theorem sc_l_draw : FnScope N_l_draw P_l_draw (defScope s_l_draw) := ⟨rfl, rfl, rfl, by decide +kernel, rfl, by decide +kernel, by decide +kernel⟩
theorem sc_l_pick : FnScope N_l_pick P_l_pick (defScope s_l_pick) := ⟨rfl, rfl, rfl, by decide +kernel, rfl, by decide +kernel, by decide +kernel⟩
theorem sc_l_shuffled : FnScope N_l_shuffled P_l_shuffled (defScope s_l_shuffled) := ⟨rfl, rfl, rfl, by decide +kernel, rfl, by decide +kernel, by decide +kernel⟩
theorem sc_l_names : FnScope N_l_names P_l_names (defScope s_l_names) := ⟨rfl, rfl, rfl, by decide +kernel, rfl, by decide +kernel, by decide +kernel⟩
theorem sc_l_pair : FnScope N_l_pair P_l_pair (defScope s_l_pair) := ⟨rfl, rfl, rfl, by decide +kernel, rfl, by decide +kernel, by decide +kernel⟩
theorem sc_l_drawn : FnScope N_l_drawn P_l_drawn (defScope s_l_drawn) := ⟨rfl, rfl, rfl, by decide +kernel, rfl, by decide +kernel, by decide +kernel⟩
theorem sc_l_built : FnScope N_l_built P_l_built (defScope s_l_built) := ⟨rfl, rfl, rfl, by decide +kernel, rfl, by decide +kernel, by decide +kernel⟩
theorem sc_l_near : FnScope N_l_near P_l_near (defScope s_l_near) := ⟨rfl, rfl, rfl, by decide +kernel, rfl, by decide +kernel, by decide +kernel⟩
theorem sc_l_sides_due : FnScope N_l_sides_due P_l_sides_due (defScope s_l_sides_due) := ⟨rfl, rfl, rfl, by decide +kernel, rfl, by decide +kernel, by decide +kernel⟩
theorem sc_l_gcd : FnScope N_l_gcd P_l_gcd (defScope s_l_gcd) := ⟨rfl, rfl, rfl, by decide +kernel, rfl, by decide +kernel, by decide +kernel⟩
theorem sc_l_gcd_all : FnScope N_l_gcd_all P_l_gcd_all (defScope s_l_gcd_all) := ⟨rfl, rfl, rfl, by decide +kernel, rfl, by decide +kernel, by decide +kernel⟩
theorem sc_l_reach : FnScope N_l_reach P_l_reach (defScope s_l_reach) := ⟨rfl, rfl, rfl, by decide +kernel, rfl, by decide +kernel, by decide +kernel⟩
theorem sc_l_all_positions : FnScope N_l_all_positions P_l_all_positions (defScope s_l_all_positions) := ⟨rfl, rfl, rfl, by decide +kernel, rfl, by decide +kernel, by decide +kernel⟩
theorem sc_law : FnScope N_law P_law (defScope s_law) := ⟨rfl, rfl, rfl, by decide +kernel, rfl, by decide +kernel, by decide +kernel⟩
/-! ### addresses by names -/
/-- the function object at an address -/
def fdAt (K : PySem.W.Frag) (a : Addr) : FuncData := match K.lookup a with
  | some ⟨_, _, .func fd, _⟩ => fd
  | _ => PySem.W.fnOf "" "" (defArgs (.Pass ⟨0, 0, 0, 0⟩)) [] (defScope (.Pass ⟨0, 0, 0, 0⟩)) .none .none .none .none none .none .none
/-- the property's getter -/
def gtAt (K : PySem.W.Frag) (p : Addr) : Addr := match PySem.W.recIn K p "property" with
  | some (.ref g :: _) => g
  | _ => 0
def a_joined_rooms (K : PySem.W.Frag) : Addr := He.fAd K ("joined_rooms", none)
def d_joined_rooms (K : PySem.W.Frag) : FuncData := fdAt K (a_joined_rooms K)
def a_steps_from (K : PySem.W.Frag) : Addr := He.fAd K ("steps_from", none)
def d_steps_from (K : PySem.W.Frag) : FuncData := fdAt K (a_steps_from K)
def a_reached_from (K : PySem.W.Frag) : Addr := He.fAd K ("reached_from", none)
def d_reached_from (K : PySem.W.Frag) : FuncData := fdAt K (a_reached_from K)
def a_level_corridor (K : PySem.W.Frag) : Addr := He.fAd K ("level_corridor", none)
def d_level_corridor (K : PySem.W.Frag) : FuncData := fdAt K (a_level_corridor K)
def a_sides_of (K : PySem.W.Frag) : Addr := He.fAd K ("sides_of", none)
def d_sides_of (K : PySem.W.Frag) : FuncData := fdAt K (a_sides_of K)
def a_odd_ring_of (K : PySem.W.Frag) : Addr := He.fAd K ("odd_ring_of", none)
def d_odd_ring_of (K : PySem.W.Frag) : FuncData := fdAt K (a_odd_ring_of K)
def a_on_rings (K : PySem.W.Frag) : Addr := He.fAd K ("on_rings", none)
def d_on_rings (K : PySem.W.Frag) : FuncData := fdAt K (a_on_rings K)
def a_bridges_of (K : PySem.W.Frag) : Addr := He.fAd K ("bridges_of", none)
def d_bridges_of (K : PySem.W.Frag) : FuncData := fdAt K (a_bridges_of K)
def a_is_name (K : PySem.W.Frag) : Addr := He.fAd K ("is_name", none)
def d_is_name (K : PySem.W.Frag) : FuncData := fdAt K (a_is_name K)
def a_is_integer (K : PySem.W.Frag) : Addr := He.fAd K ("is_integer", none)
def d_is_integer (K : PySem.W.Frag) : FuncData := fdAt K (a_is_integer K)
def a_is_between (K : PySem.W.Frag) : Addr := He.fAd K ("is_between", none)
def d_is_between (K : PySem.W.Frag) : FuncData := fdAt K (a_is_between K)
def a_need_rooms (K : PySem.W.Frag) : Addr := He.fAd K ("need_rooms", none)
def d_need_rooms (K : PySem.W.Frag) : FuncData := fdAt K (a_need_rooms K)
def a_check_small (K : PySem.W.Frag) : Addr := He.fAd K ("check_small", none)
def d_check_small (K : PySem.W.Frag) : FuncData := fdAt K (a_check_small K)
def a_Going_init (K : PySem.W.Frag) : Addr := He.fAd K ("Going", some "__init__")
def d_Going_init (K : PySem.W.Frag) : FuncData := fdAt K (a_Going_init K)
def a_Going_turned (K : PySem.W.Frag) : Addr := He.fAd K ("Going", some "turned")
def d_Going_turned (K : PySem.W.Frag) : FuncData := fdAt K (a_Going_turned K)
def a_Going_go_on (K : PySem.W.Frag) : Addr := He.fAd K ("Going", some "go_on")
def d_Going_go_on (K : PySem.W.Frag) : FuncData := fdAt K (a_Going_go_on K)
def a_layers (K : PySem.W.Frag) : Addr := He.fAd K ("layers", none)
def d_layers (K : PySem.W.Frag) : FuncData := fdAt K (a_layers K)
def a_pair_of (K : PySem.W.Frag) : Addr := He.fAd K ("pair_of", none)
def d_pair_of (K : PySem.W.Frag) : FuncData := fdAt K (a_pair_of K)
def a_Building_init (K : PySem.W.Frag) : Addr := He.fAd K ("Building", some "__init__")
def d_Building_init (K : PySem.W.Frag) : FuncData := fdAt K (a_Building_init K)
def a_Building_prepare (K : PySem.W.Frag) : Addr := He.fAd K ("Building", some "prepare")
def d_Building_prepare (K : PySem.W.Frag) : FuncData := fdAt K (a_Building_prepare K)
def a_Building_sorted_pairs (K : PySem.W.Frag) : Addr := He.fAd K ("Building", some "sorted_pairs")
def d_Building_sorted_pairs (K : PySem.W.Frag) : FuncData := fdAt K (a_Building_sorted_pairs K)
def a_Building_check_connected (K : PySem.W.Frag) : Addr := He.fAd K ("Building", some "check_connected")
def d_Building_check_connected (K : PySem.W.Frag) : FuncData := fdAt K (a_Building_check_connected K)
def a_Building_rooms (K : PySem.W.Frag) : Addr := gtAt K (He.ma K (He.ga K "Building") "rooms")
def d_Building_rooms (K : PySem.W.Frag) : FuncData := fdAt K (a_Building_rooms K)
def a_Building_neighbours (K : PySem.W.Frag) : Addr := He.fAd K ("Building", some "neighbours")
def d_Building_neighbours (K : PySem.W.Frag) : FuncData := fdAt K (a_Building_neighbours K)
def a_Building_len (K : PySem.W.Frag) : Addr := He.fAd K ("Building", some "__len__")
def d_Building_len (K : PySem.W.Frag) : FuncData := fdAt K (a_Building_len K)
def a_Building_contains (K : PySem.W.Frag) : Addr := He.fAd K ("Building", some "__contains__")
def d_Building_contains (K : PySem.W.Frag) : FuncData := fdAt K (a_Building_contains K)
def a_Building_getitem (K : PySem.W.Frag) : Addr := He.fAd K ("Building", some "__getitem__")
def d_Building_getitem (K : PySem.W.Frag) : FuncData := fdAt K (a_Building_getitem K)
def a_l_begin (K : PySem.W.Frag) : Addr := He.fAd K ("_law_begin", none)
def d_l_begin (K : PySem.W.Frag) : FuncData := fdAt K (a_l_begin K)
def a_l_draw (K : PySem.W.Frag) : Addr := He.fAd K ("_law_draw", none)
def d_l_draw (K : PySem.W.Frag) : FuncData := fdAt K (a_l_draw K)
def a_l_pick (K : PySem.W.Frag) : Addr := He.fAd K ("_law_pick", none)
def d_l_pick (K : PySem.W.Frag) : FuncData := fdAt K (a_l_pick K)
def a_l_shuffled (K : PySem.W.Frag) : Addr := He.fAd K ("_law_shuffled", none)
def d_l_shuffled (K : PySem.W.Frag) : FuncData := fdAt K (a_l_shuffled K)
def a_l_names (K : PySem.W.Frag) : Addr := He.fAd K ("_law_names", none)
def d_l_names (K : PySem.W.Frag) : FuncData := fdAt K (a_l_names K)
def a_l_pair (K : PySem.W.Frag) : Addr := He.fAd K ("_law_pair", none)
def d_l_pair (K : PySem.W.Frag) : FuncData := fdAt K (a_l_pair K)
def a_l_drawn (K : PySem.W.Frag) : Addr := He.fAd K ("_law_drawn", none)
def d_l_drawn (K : PySem.W.Frag) : FuncData := fdAt K (a_l_drawn K)
def a_l_built (K : PySem.W.Frag) : Addr := He.fAd K ("_law_built", none)
def d_l_built (K : PySem.W.Frag) : FuncData := fdAt K (a_l_built K)
def a_l_near (K : PySem.W.Frag) : Addr := He.fAd K ("_law_near", none)
def d_l_near (K : PySem.W.Frag) : FuncData := fdAt K (a_l_near K)
def a_l_sides_due (K : PySem.W.Frag) : Addr := He.fAd K ("_law_sides_due", none)
def d_l_sides_due (K : PySem.W.Frag) : FuncData := fdAt K (a_l_sides_due K)
def a_l_gcd (K : PySem.W.Frag) : Addr := He.fAd K ("_law_gcd", none)
def d_l_gcd (K : PySem.W.Frag) : FuncData := fdAt K (a_l_gcd K)
def a_l_gcd_all (K : PySem.W.Frag) : Addr := He.fAd K ("_law_gcd_all", none)
def d_l_gcd_all (K : PySem.W.Frag) : FuncData := fdAt K (a_l_gcd_all K)
def a_l_reach (K : PySem.W.Frag) : Addr := He.fAd K ("_law_reach", none)
def d_l_reach (K : PySem.W.Frag) : FuncData := fdAt K (a_l_reach K)
def a_l_all_positions (K : PySem.W.Frag) : Addr := He.fAd K ("_law_all_positions", none)
def d_l_all_positions (K : PySem.W.Frag) : FuncData := fdAt K (a_l_all_positions K)
def a_law (K : PySem.W.Frag) : Addr := He.fAd K ("law", none)
def d_law (K : PySem.W.Frag) : FuncData := fdAt K (a_law K)
abbrev cG (K : PySem.W.Frag) : Addr := He.ga K "Going"
abbrev cB (K : PySem.W.Frag) : Addr := He.ga K "Building"
abbrev dfCl (K : PySem.W.Frag) : Addr := He.dflAt ("steps_from", none) 0 K
abbrev dfCr (K : PySem.W.Frag) : Addr := He.dflAt ("reached_from", none) 0 K
/-- what the top has written -/
structure Txt (K : PySem.W.Frag) (mg : Str → Option Value) : Prop where
  f_joined_rooms : FunD K "joined_rooms" "joined_rooms" (defArgs s_joined_rooms) (defBody s_joined_rooms) (defScope s_joined_rooms) [] [] (a_joined_rooms K) (d_joined_rooms K)
  g_joined_rooms : mg "joined_rooms" = some (.ref (a_joined_rooms K))
  f_steps_from : FunD K "steps_from" "steps_from" (defArgs s_steps_from) (defBody s_steps_from) (defScope s_steps_from) [.ref (dfCl K)] [] (a_steps_from K) (d_steps_from K)
  g_steps_from : mg "steps_from" = some (.ref (a_steps_from K))
  f_reached_from : FunD K "reached_from" "reached_from" (defArgs s_reached_from) (defBody s_reached_from) (defScope s_reached_from) [.ref (dfCr K)] [] (a_reached_from K) (d_reached_from K)
  g_reached_from : mg "reached_from" = some (.ref (a_reached_from K))
  f_level_corridor : FunD K "level_corridor" "level_corridor" (defArgs s_level_corridor) (defBody s_level_corridor) (defScope s_level_corridor) [] [] (a_level_corridor K) (d_level_corridor K)
  g_level_corridor : mg "level_corridor" = some (.ref (a_level_corridor K))
  f_sides_of : FunD K "sides_of" "sides_of" (defArgs s_sides_of) (defBody s_sides_of) (defScope s_sides_of) [] [] (a_sides_of K) (d_sides_of K)
  g_sides_of : mg "sides_of" = some (.ref (a_sides_of K))
  f_odd_ring_of : FunD K "odd_ring_of" "odd_ring_of" (defArgs s_odd_ring_of) (defBody s_odd_ring_of) (defScope s_odd_ring_of) [] [] (a_odd_ring_of K) (d_odd_ring_of K)
  g_odd_ring_of : mg "odd_ring_of" = some (.ref (a_odd_ring_of K))
  f_on_rings : FunD K "on_rings" "on_rings" (defArgs s_on_rings) (defBody s_on_rings) (defScope s_on_rings) [] [] (a_on_rings K) (d_on_rings K)
  g_on_rings : mg "on_rings" = some (.ref (a_on_rings K))
  f_bridges_of : FunD K "bridges_of" "bridges_of" (defArgs s_bridges_of) (defBody s_bridges_of) (defScope s_bridges_of) [] [] (a_bridges_of K) (d_bridges_of K)
  g_bridges_of : mg "bridges_of" = some (.ref (a_bridges_of K))
  f_is_name : FunD K "is_name" "is_name" (defArgs s_is_name) (defBody s_is_name) (defScope s_is_name) [] [] (a_is_name K) (d_is_name K)
  g_is_name : mg "is_name" = some (.ref (a_is_name K))
  f_is_integer : FunD K "is_integer" "is_integer" (defArgs s_is_integer) (defBody s_is_integer) (defScope s_is_integer) [] [] (a_is_integer K) (d_is_integer K)
  g_is_integer : mg "is_integer" = some (.ref (a_is_integer K))
  f_is_between : FunD K "is_between" "is_between" (defArgs s_is_between) (defBody s_is_between) (defScope s_is_between) [] [] (a_is_between K) (d_is_between K)
  g_is_between : mg "is_between" = some (.ref (a_is_between K))
  f_need_rooms : FunD K "need_rooms" "need_rooms" (defArgs s_need_rooms) (defBody s_need_rooms) (defScope s_need_rooms) [] [] (a_need_rooms K) (d_need_rooms K)
  g_need_rooms : mg "need_rooms" = some (.ref (a_need_rooms K))
  f_check_small : FunD K "check_small" "check_small" (defArgs s_check_small) (defBody s_check_small) (defScope s_check_small) [] [] (a_check_small K) (d_check_small K)
  g_check_small : mg "check_small" = some (.ref (a_check_small K))
  f_Going_init : FunD K "__init__" "Going.__init__" (defArgs s_Going_init) (defBody s_Going_init) (defScope s_Going_init) [] [] (a_Going_init K) (d_Going_init K)
  f_Going_turned : FunD K "turned" "Going.turned" (defArgs s_Going_turned) (defBody s_Going_turned) (defScope s_Going_turned) [] [] (a_Going_turned K) (d_Going_turned K)
  f_Going_go_on : FunD K "go_on" "Going.go_on" (defArgs s_Going_go_on) (defBody s_Going_go_on) (defScope s_Going_go_on) [] [] (a_Going_go_on K) (d_Going_go_on K)
  f_layers : FunD K "layers" "layers" (defArgs s_layers) (defBody s_layers) (defScope s_layers) [] [] (a_layers K) (d_layers K)
  g_layers : mg "layers" = some (.ref (a_layers K))
  f_pair_of : FunD K "pair_of" "pair_of" (defArgs s_pair_of) (defBody s_pair_of) (defScope s_pair_of) [] [] (a_pair_of K) (d_pair_of K)
  g_pair_of : mg "pair_of" = some (.ref (a_pair_of K))
  f_Building_init : FunD K "__init__" "Building.__init__" (defArgs s_Building_init) (defBody s_Building_init) (defScope s_Building_init) [] [] (a_Building_init K) (d_Building_init K)
  f_Building_prepare : FunD K "prepare" "Building.prepare" (defArgs s_Building_prepare) (defBody s_Building_prepare) (defScope s_Building_prepare) [] [] (a_Building_prepare K) (d_Building_prepare K)
  f_Building_sorted_pairs : FunD K "sorted_pairs" "Building.sorted_pairs" (defArgs s_Building_sorted_pairs) (defBody s_Building_sorted_pairs) (defScope s_Building_sorted_pairs) [] [] (a_Building_sorted_pairs K) (d_Building_sorted_pairs K)
  f_Building_check_connected : FunD K "check_connected" "Building.check_connected" (defArgs s_Building_check_connected) (defBody s_Building_check_connected) (defScope s_Building_check_connected) [] [] (a_Building_check_connected K) (d_Building_check_connected K)
  f_Building_rooms : FunD K "rooms" "Building.rooms" (defArgs s_Building_rooms) (defBody s_Building_rooms) (defScope s_Building_rooms) [] [] (a_Building_rooms K) (d_Building_rooms K)
  f_Building_neighbours : FunD K "neighbours" "Building.neighbours" (defArgs s_Building_neighbours) (defBody s_Building_neighbours) (defScope s_Building_neighbours) [] [] (a_Building_neighbours K) (d_Building_neighbours K)
  f_Building_len : FunD K "__len__" "Building.__len__" (defArgs s_Building_len) (defBody s_Building_len) (defScope s_Building_len) [] [] (a_Building_len K) (d_Building_len K)
  f_Building_contains : FunD K "__contains__" "Building.__contains__" (defArgs s_Building_contains) (defBody s_Building_contains) (defScope s_Building_contains) [] [] (a_Building_contains K) (d_Building_contains K)
  f_Building_getitem : FunD K "__getitem__" "Building.__getitem__" (defArgs s_Building_getitem) (defBody s_Building_getitem) (defScope s_Building_getitem) [] [] (a_Building_getitem K) (d_Building_getitem K)
  f_l_begin : FunD K "_law_begin" "_law_begin" (defArgs s_l_begin) (defBody s_l_begin) (defScope s_l_begin) [] [] (a_l_begin K) (d_l_begin K)
  g_l_begin : mg "_law_begin" = some (.ref (a_l_begin K))
  f_l_draw : FunD K "_law_draw" "_law_draw" (defArgs s_l_draw) (defBody s_l_draw) (defScope s_l_draw) [] [] (a_l_draw K) (d_l_draw K)
  g_l_draw : mg "_law_draw" = some (.ref (a_l_draw K))
  f_l_pick : FunD K "_law_pick" "_law_pick" (defArgs s_l_pick) (defBody s_l_pick) (defScope s_l_pick) [] [] (a_l_pick K) (d_l_pick K)
  g_l_pick : mg "_law_pick" = some (.ref (a_l_pick K))
  f_l_shuffled : FunD K "_law_shuffled" "_law_shuffled" (defArgs s_l_shuffled) (defBody s_l_shuffled) (defScope s_l_shuffled) [] [] (a_l_shuffled K) (d_l_shuffled K)
  g_l_shuffled : mg "_law_shuffled" = some (.ref (a_l_shuffled K))
  f_l_names : FunD K "_law_names" "_law_names" (defArgs s_l_names) (defBody s_l_names) (defScope s_l_names) [] [] (a_l_names K) (d_l_names K)
  g_l_names : mg "_law_names" = some (.ref (a_l_names K))
  f_l_pair : FunD K "_law_pair" "_law_pair" (defArgs s_l_pair) (defBody s_l_pair) (defScope s_l_pair) [] [] (a_l_pair K) (d_l_pair K)
  g_l_pair : mg "_law_pair" = some (.ref (a_l_pair K))
  f_l_drawn : FunD K "_law_drawn" "_law_drawn" (defArgs s_l_drawn) (defBody s_l_drawn) (defScope s_l_drawn) [] [] (a_l_drawn K) (d_l_drawn K)
  g_l_drawn : mg "_law_drawn" = some (.ref (a_l_drawn K))
  f_l_built : FunD K "_law_built" "_law_built" (defArgs s_l_built) (defBody s_l_built) (defScope s_l_built) [] [] (a_l_built K) (d_l_built K)
  g_l_built : mg "_law_built" = some (.ref (a_l_built K))
  f_l_near : FunD K "_law_near" "_law_near" (defArgs s_l_near) (defBody s_l_near) (defScope s_l_near) [] [] (a_l_near K) (d_l_near K)
  g_l_near : mg "_law_near" = some (.ref (a_l_near K))
  f_l_sides_due : FunD K "_law_sides_due" "_law_sides_due" (defArgs s_l_sides_due) (defBody s_l_sides_due) (defScope s_l_sides_due) [] [] (a_l_sides_due K) (d_l_sides_due K)
  g_l_sides_due : mg "_law_sides_due" = some (.ref (a_l_sides_due K))
  f_l_gcd : FunD K "_law_gcd" "_law_gcd" (defArgs s_l_gcd) (defBody s_l_gcd) (defScope s_l_gcd) [] [] (a_l_gcd K) (d_l_gcd K)
  g_l_gcd : mg "_law_gcd" = some (.ref (a_l_gcd K))
  f_l_gcd_all : FunD K "_law_gcd_all" "_law_gcd_all" (defArgs s_l_gcd_all) (defBody s_l_gcd_all) (defScope s_l_gcd_all) [] [] (a_l_gcd_all K) (d_l_gcd_all K)
  g_l_gcd_all : mg "_law_gcd_all" = some (.ref (a_l_gcd_all K))
  f_l_reach : FunD K "_law_reach" "_law_reach" (defArgs s_l_reach) (defBody s_l_reach) (defScope s_l_reach) [] [] (a_l_reach K) (d_l_reach K)
  g_l_reach : mg "_law_reach" = some (.ref (a_l_reach K))
  f_l_all_positions : FunD K "_law_all_positions" "_law_all_positions" (defArgs s_l_all_positions) (defBody s_l_all_positions) (defScope s_l_all_positions) [] [] (a_l_all_positions K) (d_l_all_positions K)
  g_l_all_positions : mg "_law_all_positions" = some (.ref (a_l_all_positions K))
  f_law : FunD K "law" "law" (defArgs s_law) (defBody s_law) (defScope s_law) [] [] (a_law K) (d_law K)
  g_law : mg "law" = some (.ref (a_law K))
  m_turned : Meth K (cG K) "turned" (a_Going_turned K)
  m_go_on : Meth K (cG K) "go_on" (a_Going_go_on K)
  m_prepare : Meth K (cB K) "prepare" (a_Building_prepare K)
  m_sorted_pairs : Meth K (cB K) "sorted_pairs" (a_Building_sorted_pairs K)
  m_check_connected : Meth K (cB K) "check_connected" (a_Building_check_connected K)
  m_neighbours : Meth K (cB K) "neighbours" (a_Building_neighbours K)
  m_len : Meth K (cB K) "__len__" (a_Building_len K)
  m_contains : Meth K (cB K) "__contains__" (a_Building_contains K)
  m_getitem : Meth K (cB K) "__getitem__" (a_Building_getitem K)
  mkG : Mk K (cG K) (a_Going_init K)
  mkB : Mk K (cB K) (a_Building_init K)
  gG : mg "Going" = some (.ref (cG K))
  gB : mg "Building" = some (.ref (cB K))
  clG : Cls K (cG K)
  clB : Cls K (cB K)
  nG_site : NoAttr K (cG K) "site"
  nG_spots : NoAttr K (cG K) "spots"
  nG_before : NoAttr K (cG K) "before"
  nG_layers : NoAttr K (cG K) "layers"
  nB_sizes : NoAttr K (cB K) "sizes"
  nB_pairs : NoAttr K (cB K) "pairs"
  nB_near : NoAttr K (cB K) "near"
  nB_own_sides : NoAttr K (cB K) "own_sides"
  nB_own_ring : NoAttr K (cB K) "own_ring"
  nB_own_bridges : NoAttr K (cB K) "own_bridges"
  cMR : ∃ u, Con K (cB K) "MOST_ROOMS" (.int 24) u
  cMC : ∃ u, Con K (cB K) "MOST_CORRIDORS" (.int 40) u
  pR : PropOf K (cB K) "rooms" (He.ma K (cB K) "rooms") (a_Building_rooms K)
  seqB : PySem.W.noSeq K (cB K) = true
  fnGI : PySem.W.fnIn K (a_Building_getitem K) = true
  clT : ∀ H : Hp, SqT K H (dfCl K) []
  crT : ∀ H : Hp, SqT K H (dfCr K) []
  LET : ∃ t, mg "LETTERS" = some (.str "abcdefghijklmnopqrstuvwxyz" t)
  LON : ∃ t, mg "LONGEST_NAME" = some (.int 8 t)
  MPO : ∃ t, mg "MOST_POSITIONS" = some (.int 10000 t)
  MSZ : ∃ t, mg "MOST_SIZE_buildings" = some (.int 1000000000 t)
  n_len : mg "len" = none
  n_sorted : mg "sorted" = none
  n_min : mg "min" = none
  n_list : mg "list" = none
  n_tuple : mg "tuple" = none
  n_isinstance : mg "isinstance" = none
  n_all : mg "all" = none
  n_str : mg "str" = none
  n_int : mg "int" = none
  n_bool : mg "bool" = none
  n_enumerate : mg "enumerate" = none
  n_range : mg "range" = none
  n_dict : mg "dict" = none
  n_max : mg "max" = none
  n_sum : mg "sum" = none
  n_repr : mg "repr" = none
end Rd
/-! the head: facts by names, the run of the top -/
namespace Rd
open PySem PySem.Spec PyProof.Rows L2
def D_joined_rooms : He.DefD := ⟨("joined_rooms", none), "joined_rooms", "joined_rooms", defArgs s_joined_rooms, defBody s_joined_rooms, defScope s_joined_rooms, [], []⟩
def D_steps_from : He.DefD := ⟨("steps_from", none), "steps_from", "steps_from", defArgs s_steps_from, defBody s_steps_from, defScope s_steps_from, [.adr dfCl], []⟩
def D_reached_from : He.DefD := ⟨("reached_from", none), "reached_from", "reached_from", defArgs s_reached_from, defBody s_reached_from, defScope s_reached_from, [.adr dfCr], []⟩
def D_level_corridor : He.DefD := ⟨("level_corridor", none), "level_corridor", "level_corridor", defArgs s_level_corridor, defBody s_level_corridor, defScope s_level_corridor, [], []⟩
def D_sides_of : He.DefD := ⟨("sides_of", none), "sides_of", "sides_of", defArgs s_sides_of, defBody s_sides_of, defScope s_sides_of, [], []⟩
def D_odd_ring_of : He.DefD := ⟨("odd_ring_of", none), "odd_ring_of", "odd_ring_of", defArgs s_odd_ring_of, defBody s_odd_ring_of, defScope s_odd_ring_of, [], []⟩
def D_on_rings : He.DefD := ⟨("on_rings", none), "on_rings", "on_rings", defArgs s_on_rings, defBody s_on_rings, defScope s_on_rings, [], []⟩
def D_bridges_of : He.DefD := ⟨("bridges_of", none), "bridges_of", "bridges_of", defArgs s_bridges_of, defBody s_bridges_of, defScope s_bridges_of, [], []⟩
def D_is_name : He.DefD := ⟨("is_name", none), "is_name", "is_name", defArgs s_is_name, defBody s_is_name, defScope s_is_name, [], []⟩
def D_is_integer : He.DefD := ⟨("is_integer", none), "is_integer", "is_integer", defArgs s_is_integer, defBody s_is_integer, defScope s_is_integer, [], []⟩
def D_is_between : He.DefD := ⟨("is_between", none), "is_between", "is_between", defArgs s_is_between, defBody s_is_between, defScope s_is_between, [], []⟩
def D_need_rooms : He.DefD := ⟨("need_rooms", none), "need_rooms", "need_rooms", defArgs s_need_rooms, defBody s_need_rooms, defScope s_need_rooms, [], []⟩
def D_check_small : He.DefD := ⟨("check_small", none), "check_small", "check_small", defArgs s_check_small, defBody s_check_small, defScope s_check_small, [], []⟩
def D_Going_init : He.DefD := ⟨("Going", some "__init__"), "__init__", "Going.__init__", defArgs s_Going_init, defBody s_Going_init, defScope s_Going_init, [], []⟩
def D_Going_turned : He.DefD := ⟨("Going", some "turned"), "turned", "Going.turned", defArgs s_Going_turned, defBody s_Going_turned, defScope s_Going_turned, [], []⟩
def D_Going_go_on : He.DefD := ⟨("Going", some "go_on"), "go_on", "Going.go_on", defArgs s_Going_go_on, defBody s_Going_go_on, defScope s_Going_go_on, [], []⟩
def D_layers : He.DefD := ⟨("layers", none), "layers", "layers", defArgs s_layers, defBody s_layers, defScope s_layers, [], []⟩
def D_pair_of : He.DefD := ⟨("pair_of", none), "pair_of", "pair_of", defArgs s_pair_of, defBody s_pair_of, defScope s_pair_of, [], []⟩
def D_Building_init : He.DefD := ⟨("Building", some "__init__"), "__init__", "Building.__init__", defArgs s_Building_init, defBody s_Building_init, defScope s_Building_init, [], []⟩
def D_Building_prepare : He.DefD := ⟨("Building", some "prepare"), "prepare", "Building.prepare", defArgs s_Building_prepare, defBody s_Building_prepare, defScope s_Building_prepare, [], []⟩
def D_Building_sorted_pairs : He.DefD := ⟨("Building", some "sorted_pairs"), "sorted_pairs", "Building.sorted_pairs", defArgs s_Building_sorted_pairs, defBody s_Building_sorted_pairs, defScope s_Building_sorted_pairs, [], []⟩
def D_Building_check_connected : He.DefD := ⟨("Building", some "check_connected"), "check_connected", "Building.check_connected", defArgs s_Building_check_connected, defBody s_Building_check_connected, defScope s_Building_check_connected, [], []⟩
def D_Building_neighbours : He.DefD := ⟨("Building", some "neighbours"), "neighbours", "Building.neighbours", defArgs s_Building_neighbours, defBody s_Building_neighbours, defScope s_Building_neighbours, [], []⟩
def D_Building_len : He.DefD := ⟨("Building", some "__len__"), "__len__", "Building.__len__", defArgs s_Building_len, defBody s_Building_len, defScope s_Building_len, [], []⟩
def D_Building_contains : He.DefD := ⟨("Building", some "__contains__"), "__contains__", "Building.__contains__", defArgs s_Building_contains, defBody s_Building_contains, defScope s_Building_contains, [], []⟩
def D_Building_getitem : He.DefD := ⟨("Building", some "__getitem__"), "__getitem__", "Building.__getitem__", defArgs s_Building_getitem, defBody s_Building_getitem, defScope s_Building_getitem, [], []⟩
def D_l_begin : He.DefD := ⟨("_law_begin", none), "_law_begin", "_law_begin", defArgs s_l_begin, defBody s_l_begin, defScope s_l_begin, [], []⟩
def D_l_draw : He.DefD := ⟨("_law_draw", none), "_law_draw", "_law_draw", defArgs s_l_draw, defBody s_l_draw, defScope s_l_draw, [], []⟩
def D_l_pick : He.DefD := ⟨("_law_pick", none), "_law_pick", "_law_pick", defArgs s_l_pick, defBody s_l_pick, defScope s_l_pick, [], []⟩
def D_l_shuffled : He.DefD := ⟨("_law_shuffled", none), "_law_shuffled", "_law_shuffled", defArgs s_l_shuffled, defBody s_l_shuffled, defScope s_l_shuffled, [], []⟩
def D_l_names : He.DefD := ⟨("_law_names", none), "_law_names", "_law_names", defArgs s_l_names, defBody s_l_names, defScope s_l_names, [], []⟩
def D_l_pair : He.DefD := ⟨("_law_pair", none), "_law_pair", "_law_pair", defArgs s_l_pair, defBody s_l_pair, defScope s_l_pair, [], []⟩
def D_l_drawn : He.DefD := ⟨("_law_drawn", none), "_law_drawn", "_law_drawn", defArgs s_l_drawn, defBody s_l_drawn, defScope s_l_drawn, [], []⟩
def D_l_built : He.DefD := ⟨("_law_built", none), "_law_built", "_law_built", defArgs s_l_built, defBody s_l_built, defScope s_l_built, [], []⟩
def D_l_near : He.DefD := ⟨("_law_near", none), "_law_near", "_law_near", defArgs s_l_near, defBody s_l_near, defScope s_l_near, [], []⟩
def D_l_sides_due : He.DefD := ⟨("_law_sides_due", none), "_law_sides_due", "_law_sides_due", defArgs s_l_sides_due, defBody s_l_sides_due, defScope s_l_sides_due, [], []⟩
def D_l_gcd : He.DefD := ⟨("_law_gcd", none), "_law_gcd", "_law_gcd", defArgs s_l_gcd, defBody s_l_gcd, defScope s_l_gcd, [], []⟩
def D_l_gcd_all : He.DefD := ⟨("_law_gcd_all", none), "_law_gcd_all", "_law_gcd_all", defArgs s_l_gcd_all, defBody s_l_gcd_all, defScope s_l_gcd_all, [], []⟩
def D_l_reach : He.DefD := ⟨("_law_reach", none), "_law_reach", "_law_reach", defArgs s_l_reach, defBody s_l_reach, defScope s_l_reach, [], []⟩
def D_l_all_positions : He.DefD := ⟨("_law_all_positions", none), "_law_all_positions", "_law_all_positions", defArgs s_l_all_positions, defBody s_l_all_positions, defScope s_l_all_positions, [], []⟩
def D_law : He.DefD := ⟨("law", none), "law", "law", defArgs s_law, defBody s_law, defScope s_law, [], []⟩
def fns : List He.DefD := [D_joined_rooms, D_steps_from, D_reached_from, D_level_corridor, D_sides_of, D_odd_ring_of, D_on_rings, D_bridges_of, D_is_name, D_is_integer, D_is_between, D_need_rooms, D_check_small, D_Going_init, D_Going_turned, D_Going_go_on, D_layers, D_pair_of, D_Building_init, D_Building_prepare, D_Building_sorted_pairs, D_Building_check_connected, D_Building_neighbours, D_Building_len, D_Building_contains, D_Building_getitem, D_l_begin, D_l_draw, D_l_pick, D_l_shuffled, D_l_names, D_l_pair, D_l_drawn, D_l_built, D_l_near, D_l_sides_due, D_l_gcd, D_l_gcd_all, D_l_reach, D_l_all_positions, D_law]
def fcs : List He.Fa := [.glo "joined_rooms", .glo "steps_from", .glo "reached_from", .glo "level_corridor", .glo "sides_of", .glo "odd_ring_of", .glo "on_rings", .glo "bridges_of", .glo "is_name", .glo "is_integer", .glo "is_between", .glo "need_rooms", .glo "check_small", .glo "layers", .glo "pair_of", .glo "_law_begin", .glo "_law_draw", .glo "_law_pick", .glo "_law_shuffled", .glo "_law_names", .glo "_law_pair", .glo "_law_drawn", .glo "_law_built", .glo "_law_near", .glo "_law_sides_due", .glo "_law_gcd", .glo "_law_gcd_all", .glo "_law_reach", .glo "_law_all_positions", .glo "law", .meth "Going" "turned", .meth "Going" "go_on", .meth "Building" "prepare", .meth "Building" "sorted_pairs", .meth "Building" "check_connected", .meth "Building" "neighbours", .meth "Building" "__len__", .meth "Building" "__contains__", .meth "Building" "__getitem__", .mkr "Going", .mkr "Building", .glo "Going", .glo "Building", .cls "Going", .cls "Building", .noat "Going" "site", .noat "Going" "spots", .noat "Going" "before", .noat "Going" "layers", .noat "Building" "sizes", .noat "Building" "pairs", .noat "Building" "near", .noat "Building" "own_sides", .noat "Building" "own_ring", .noat "Building" "own_bridges", .str "LETTERS" "abcdefghijklmnopqrstuvwxyz", .int "LONGEST_NAME" 8, .int "MOST_POSITIONS" 10000, .int "MOST_SIZE_buildings" 1000000000, .free "len", .free "sorted", .free "min", .free "list", .free "tuple", .free "isinstance", .free "all", .free "str", .free "int", .free "bool", .free "enumerate", .free "range", .free "dict", .free "max", .free "sum", .free "repr"]
/-! what the facts' own words do not say: constants, the property, the empty default -/
abbrev pRooms (K : PySem.W.Frag) : Addr := He.ma K (cB K) "rooms"
def emptyT (K : PySem.W.Frag) (a : Addr) : Bool := match K.lookup a with
  | some ⟨.type c, _, .seq zs _, _⟩ => decide (c = "tuple") && zs.isEmpty
  | _ => false
def isGt (K : PySem.W.Frag) (p : Addr) : Bool := match PySem.W.recIn K p "property" with
  | some (.ref _ :: _) => true
  | _ => false
def exC (K : PySem.W.Frag) : Bool := He.conB K "Building" "MOST_ROOMS" (.int 24) && (He.conB K "Building" "MOST_CORRIDORS" (.int 40) && (PySem.W.noSeq K (cB K) && (PySem.W.fnIn K (a_Building_getitem K) && ((emptyT K (dfCl K) && emptyT K (dfCr K)) &&
  (He.eqO (PySem.W.findIn K (.ref (cB K)) "rooms") (some (some (.ref (pRooms K)))) && (He.eqO (PySem.W.specialIn K (.ref (pRooms K)) "__get__") (some (some (.builtin "property.__get__"))) && (decide (PySem.W.takesIn K (.ref (pRooms K)) = some true) && (isGt K (pRooms K) &&
  (PySem.W.keepIn K (.ref (a_Building_rooms K)) && PySem.W.codeIn K (d_Building_rooms K).code "Building.rooms")))))))))
/-- the getter, as it is read -/
def getW (K : PySem.W.Frag) : He.FnW × Value := match K.lookup (a_Building_rooms K) with
  | some ⟨_, _, .func g, _⟩ => (some (g.name, g.qualname, g.params, g.body, g.scope, g.globals, g.closure, g.builtins), g.defaults)
  | _ => (none, .none)
abbrev AlR : Type := (Bool × (He.FnW × Value)) × He.AlD
def obsR (K : PySem.W.Frag) : AlR := ((exC K, getW K), He.obsD fcs fns K)
def valR : AlR := ((true, (some ("rooms", "Building.rooms", defArgs s_Building_rooms, .stmts (defBody s_Building_rooms), defScope s_Building_rooms, mainGlobals, [], builtinsNs), .none)), He.valD fns)
def Says (K : PySem.W.Frag) : Prop := obsR K = valR
def obsRG (g : Addr → Option Obj) : AlR := obsR (He.frG g (He.asD g 7))
def hk : PySem.W.Hook where
  α := AlR
  obs := fun s => obsRG s.heap.get?
  val := fun _ => valR
  says := fun _ h => ∃ K : PySem.W.Frag, K.In h ∧ Says K
  of := fun _ _ e => ⟨_, He.frG_in, e⟩
  keeps := fun _ _ _ ⟨K, hK, c⟩ k => ⟨K, PySem.W.Frag.In.keeps hK k, c⟩
abbrev R0 : PySem.W.OpenRow := PySem.W.OpenLaw.row PySem.Challenge.rw_roomdials_k90_whole_layers
def ob (s : PySem.W.SharedT) : AlR := obsRG (HandSHeadRun.getT s)
theorem ob_eq (s : PySem.W.SharedT) : ob s = hk.obs s.abs := by
  show obsRG (HandSHeadRun.getT s) = obsRG s.abs.heap.get?
  rw [show HandSHeadRun.getT s = s.abs.heap.get? from funext (HandSHeadRun.getT_eq s)]
def lo1 : List PySem.Str := ["_wall", "RoomdialsError", "InvalidName", "InvalidSize", "InvalidCorridor", "TooLarge", "NotConnected", "InvalidText", "UnknownRoom", "TooMany", "joined_rooms", "steps_from", "reached_from", "level_corridor", "sides_of", "odd_ring_of", "on_rings", "bridges_of", "LETTERS", "LONGEST_NAME", "is_name", "is_integer", "is_between", "need_rooms", "MOST_POSITIONS", "check_small", "Going", "layers", "MOST_SIZE_buildings", "pair_of"]
def lo2 : List PySem.Str := ["size_in", "is_room_line", "is_corridor_line", "Building", "_law_begin", "_law_draw", "_law_pick", "_law_shuffled", "_law_names", "_law_pair", "_law_drawn", "_law_built", "_law_near", "_law_sides_due", "_law_gcd", "_law_gcd_all", "_law_reach", "_law_all_positions"]
def loose : List PySem.Str := lo1 ++ lo2
theorem run (w : World) : HandSHeadRun.RunEq R0 (PySem.W.view R0.prog [55]) hk ob 6000 loose w := by
  intro os
  kernel_rfl
end Rd
/-! the written facts, from what the head says -/
namespace Rd
open PySem PySem.Spec PyProof.Rows L2
theorem says_f {K : PySem.W.Frag} (c : Says K) : He.SaysD fcs fns K := congrArg (fun z : AlR => z.2) c
theorem says_x {K : PySem.W.Frag} (c : Says K) : exC K = true := congrArg (fun z : AlR => z.1.1) c
theorem says_g {K : PySem.W.Frag} (c : Says K) : getW K = (valR).1.2 := congrArg (fun z : AlR => z.1.2) c
theorem fd_at {K : PySem.W.Frag} {x q : Str} {pa : Arguments} {bd : List Stmt} {sc : Scope} {dv : List V} {kw : List (Str × V)} {f : Addr} {fd : FuncData} (F : FunD K x q pa bd sc dv kw f fd) : FunD K x q pa bd sc dv kw f (fdAt K f) := by
  obtain ⟨oc, od, dV, kV, doc, pm, an, cdv, ct, osl, _, lk, _⟩ := F.ex
  have e : fdAt K f = fd := by
    unfold fdAt
    rw [lk]
  rw [e]
  exact F
theorem empty_ok {K : PySem.W.Frag} {a : Addr} (h : emptyT K a = true) (H : Hp) : SqT K H a [] := by
  unfold emptyT at h
  cases q : K.lookup a with
  | none =>
    rw [q] at h
    cases h
  | some o =>
    obtain ⟨oc, od, dt, osl⟩ := o
    rw [q] at h
    cases oc with
    | type c =>
      cases dt with
      | seq zs n =>
        obtain ⟨h1, h2⟩ := He.ba (show (decide (c = "tuple") && zs.isEmpty) = true from h)
        have e2 : zs = #[] := Array.isEmpty_iff.mp h2
        subst e2
        exact .inr ⟨_, #[], n, q, congrArg Value.type (of_decide_eq_true h1), rfl, Nat.zero_le _, .nil⟩
      | _ => cases h
    | _ => cases dt <;> cases h
theorem gt_ok {K : PySem.W.Frag} {p : Addr} (h : isGt K p = true) : ∃ rest, PySem.W.recIn K p "property" = some (.ref (gtAt K p) :: rest) := by
  unfold isGt at h
  unfold gtAt
  split at h
  · rename_i g r e
    exact ⟨r, by rw [e]⟩
  · cases h
theorem txt_of {K : PySem.W.Frag} {h : Heap} {mg : Str → Option Value} (X : K.In h) (G : h.Ns mainGlobals mg) (c : Says K) : Txt K mg := by
  have C := says_f c
  obtain ⟨x1, y⟩ := He.ba (says_x c)
  obtain ⟨x2, y⟩ := He.ba y
  obtain ⟨x3, y⟩ := He.ba y
  obtain ⟨x4, y⟩ := He.ba y
  obtain ⟨x5, y⟩ := He.ba y
  obtain ⟨x6, y⟩ := He.ba y
  obtain ⟨x7, y⟩ := He.ba y
  obtain ⟨x8, y⟩ := He.ba y
  obtain ⟨x9, y⟩ := He.ba y
  obtain ⟨x10, x11⟩ := He.ba y
  obtain ⟨x5a, x5b⟩ := He.ba x5
  refine {
    f_joined_rooms := let ⟨_, F⟩ := C.def_ 0 (d := D_joined_rooms) rfl; fd_at F
    f_steps_from := let ⟨_, F⟩ := C.def_ 1 (d := D_steps_from) rfl; fd_at F
    f_reached_from := let ⟨_, F⟩ := C.def_ 2 (d := D_reached_from) rfl; fd_at F
    f_level_corridor := let ⟨_, F⟩ := C.def_ 3 (d := D_level_corridor) rfl; fd_at F
    f_sides_of := let ⟨_, F⟩ := C.def_ 4 (d := D_sides_of) rfl; fd_at F
    f_odd_ring_of := let ⟨_, F⟩ := C.def_ 5 (d := D_odd_ring_of) rfl; fd_at F
    f_on_rings := let ⟨_, F⟩ := C.def_ 6 (d := D_on_rings) rfl; fd_at F
    f_bridges_of := let ⟨_, F⟩ := C.def_ 7 (d := D_bridges_of) rfl; fd_at F
    f_is_name := let ⟨_, F⟩ := C.def_ 8 (d := D_is_name) rfl; fd_at F
    f_is_integer := let ⟨_, F⟩ := C.def_ 9 (d := D_is_integer) rfl; fd_at F
    f_is_between := let ⟨_, F⟩ := C.def_ 10 (d := D_is_between) rfl; fd_at F
    f_need_rooms := let ⟨_, F⟩ := C.def_ 11 (d := D_need_rooms) rfl; fd_at F
    f_check_small := let ⟨_, F⟩ := C.def_ 12 (d := D_check_small) rfl; fd_at F
    f_Going_init := let ⟨_, F⟩ := C.def_ 13 (d := D_Going_init) rfl; fd_at F
    f_Going_turned := let ⟨_, F⟩ := C.def_ 14 (d := D_Going_turned) rfl; fd_at F
    f_Going_go_on := let ⟨_, F⟩ := C.def_ 15 (d := D_Going_go_on) rfl; fd_at F
    f_layers := let ⟨_, F⟩ := C.def_ 16 (d := D_layers) rfl; fd_at F
    f_pair_of := let ⟨_, F⟩ := C.def_ 17 (d := D_pair_of) rfl; fd_at F
    f_Building_init := let ⟨_, F⟩ := C.def_ 18 (d := D_Building_init) rfl; fd_at F
    f_Building_prepare := let ⟨_, F⟩ := C.def_ 19 (d := D_Building_prepare) rfl; fd_at F
    f_Building_sorted_pairs := let ⟨_, F⟩ := C.def_ 20 (d := D_Building_sorted_pairs) rfl; fd_at F
    f_Building_check_connected := let ⟨_, F⟩ := C.def_ 21 (d := D_Building_check_connected) rfl; fd_at F
    f_Building_neighbours := let ⟨_, F⟩ := C.def_ 22 (d := D_Building_neighbours) rfl; fd_at F
    f_Building_len := let ⟨_, F⟩ := C.def_ 23 (d := D_Building_len) rfl; fd_at F
    f_Building_contains := let ⟨_, F⟩ := C.def_ 24 (d := D_Building_contains) rfl; fd_at F
    f_Building_getitem := let ⟨_, F⟩ := C.def_ 25 (d := D_Building_getitem) rfl; fd_at F
    f_l_begin := let ⟨_, F⟩ := C.def_ 26 (d := D_l_begin) rfl; fd_at F
    f_l_draw := let ⟨_, F⟩ := C.def_ 27 (d := D_l_draw) rfl; fd_at F
    f_l_pick := let ⟨_, F⟩ := C.def_ 28 (d := D_l_pick) rfl; fd_at F
    f_l_shuffled := let ⟨_, F⟩ := C.def_ 29 (d := D_l_shuffled) rfl; fd_at F
    f_l_names := let ⟨_, F⟩ := C.def_ 30 (d := D_l_names) rfl; fd_at F
    f_l_pair := let ⟨_, F⟩ := C.def_ 31 (d := D_l_pair) rfl; fd_at F
    f_l_drawn := let ⟨_, F⟩ := C.def_ 32 (d := D_l_drawn) rfl; fd_at F
    f_l_built := let ⟨_, F⟩ := C.def_ 33 (d := D_l_built) rfl; fd_at F
    f_l_near := let ⟨_, F⟩ := C.def_ 34 (d := D_l_near) rfl; fd_at F
    f_l_sides_due := let ⟨_, F⟩ := C.def_ 35 (d := D_l_sides_due) rfl; fd_at F
    f_l_gcd := let ⟨_, F⟩ := C.def_ 36 (d := D_l_gcd) rfl; fd_at F
    f_l_gcd_all := let ⟨_, F⟩ := C.def_ 37 (d := D_l_gcd_all) rfl; fd_at F
    f_l_reach := let ⟨_, F⟩ := C.def_ 38 (d := D_l_reach) rfl; fd_at F
    f_l_all_positions := let ⟨_, F⟩ := C.def_ 39 (d := D_l_all_positions) rfl; fd_at F
    f_law := let ⟨_, F⟩ := C.def_ 40 (d := D_law) rfl; fd_at F
    f_Building_rooms := by
      have e := says_g c
      unfold getW at e
      cases q : K.lookup (a_Building_rooms K) with
      | none =>
        rw [q] at e
        exact absurd (congrArg (fun z : He.FnW × Value => z.1.isSome) e) (by intro z; cases z)
      | some o =>
        obtain ⟨oc, od, dt, osl⟩ := o
        rw [q] at e
        cases dt with
        | func g =>
          obtain ⟨n1, n2, n3, n4, n5, n6, n7, n8, n9, n10, n11, n12, n13, n14, n15⟩ := g
          have e1 := congrArg (fun z : He.FnW × Value => z.1) e
          have e2 : n8 = Value.none := congrArg (fun z : He.FnW × Value => z.2) e
          have e3 : (some (n1, n2, n3, n4, n5, n6, n7, n15) : He.FnW) = some (("rooms" : Str), ("Building.rooms" : Str), defArgs s_Building_rooms, FuncBody.stmts (defBody s_Building_rooms), defScope s_Building_rooms, mainGlobals, ([] : List (Str × Addr)), builtinsNs) := e1
          simp only [Option.some.injEq, Prod.mk.injEq] at e3
          obtain ⟨h1, h2, h3, h4, h5, h6, h7, h8⟩ := e3
          subst h1 h2 h3 h4 h5 h6 h7 h8 e2
          have ed : d_Building_rooms K = PySem.W.fnOf "rooms" "Building.rooms" (defArgs s_Building_rooms) (defBody s_Building_rooms) (defScope s_Building_rooms) .none n9 n10 n11 n12 n13 n14 := by
            unfold d_Building_rooms fdAt
            rw [q] <;> rfl
          have x11' : PySem.W.codeIn K n13 "Building.rooms" = true := by
            rw [ed] at x11
            exact x11
          rw [ed]
          exact ⟨⟨oc, od, .none, n9, n10, n11, n12, n13, n14, osl, rfl, q, x11', .inl ⟨rfl, rfl⟩, .inl rfl⟩, x10⟩
        | _ => exact absurd (congrArg (fun z : He.FnW × Value => z.1.isSome) e) (by intro z; cases z)
    g_joined_rooms := He.glo_ok X G (C.fact 0 (f := .glo "joined_rooms") rfl)
    g_steps_from := He.glo_ok X G (C.fact 1 (f := .glo "steps_from") rfl)
    g_reached_from := He.glo_ok X G (C.fact 2 (f := .glo "reached_from") rfl)
    g_level_corridor := He.glo_ok X G (C.fact 3 (f := .glo "level_corridor") rfl)
    g_sides_of := He.glo_ok X G (C.fact 4 (f := .glo "sides_of") rfl)
    g_odd_ring_of := He.glo_ok X G (C.fact 5 (f := .glo "odd_ring_of") rfl)
    g_on_rings := He.glo_ok X G (C.fact 6 (f := .glo "on_rings") rfl)
    g_bridges_of := He.glo_ok X G (C.fact 7 (f := .glo "bridges_of") rfl)
    g_is_name := He.glo_ok X G (C.fact 8 (f := .glo "is_name") rfl)
    g_is_integer := He.glo_ok X G (C.fact 9 (f := .glo "is_integer") rfl)
    g_is_between := He.glo_ok X G (C.fact 10 (f := .glo "is_between") rfl)
    g_need_rooms := He.glo_ok X G (C.fact 11 (f := .glo "need_rooms") rfl)
    g_check_small := He.glo_ok X G (C.fact 12 (f := .glo "check_small") rfl)
    g_layers := He.glo_ok X G (C.fact 13 (f := .glo "layers") rfl)
    g_pair_of := He.glo_ok X G (C.fact 14 (f := .glo "pair_of") rfl)
    g_l_begin := He.glo_ok X G (C.fact 15 (f := .glo "_law_begin") rfl)
    g_l_draw := He.glo_ok X G (C.fact 16 (f := .glo "_law_draw") rfl)
    g_l_pick := He.glo_ok X G (C.fact 17 (f := .glo "_law_pick") rfl)
    g_l_shuffled := He.glo_ok X G (C.fact 18 (f := .glo "_law_shuffled") rfl)
    g_l_names := He.glo_ok X G (C.fact 19 (f := .glo "_law_names") rfl)
    g_l_pair := He.glo_ok X G (C.fact 20 (f := .glo "_law_pair") rfl)
    g_l_drawn := He.glo_ok X G (C.fact 21 (f := .glo "_law_drawn") rfl)
    g_l_built := He.glo_ok X G (C.fact 22 (f := .glo "_law_built") rfl)
    g_l_near := He.glo_ok X G (C.fact 23 (f := .glo "_law_near") rfl)
    g_l_sides_due := He.glo_ok X G (C.fact 24 (f := .glo "_law_sides_due") rfl)
    g_l_gcd := He.glo_ok X G (C.fact 25 (f := .glo "_law_gcd") rfl)
    g_l_gcd_all := He.glo_ok X G (C.fact 26 (f := .glo "_law_gcd_all") rfl)
    g_l_reach := He.glo_ok X G (C.fact 27 (f := .glo "_law_reach") rfl)
    g_l_all_positions := He.glo_ok X G (C.fact 28 (f := .glo "_law_all_positions") rfl)
    g_law := He.glo_ok X G (C.fact 29 (f := .glo "law") rfl)
    m_turned := He.meth_ok (C.fact 30 (f := .meth "Going" "turned") rfl)
    m_go_on := He.meth_ok (C.fact 31 (f := .meth "Going" "go_on") rfl)
    m_prepare := He.meth_ok (C.fact 32 (f := .meth "Building" "prepare") rfl)
    m_sorted_pairs := He.meth_ok (C.fact 33 (f := .meth "Building" "sorted_pairs") rfl)
    m_check_connected := He.meth_ok (C.fact 34 (f := .meth "Building" "check_connected") rfl)
    m_neighbours := He.meth_ok (C.fact 35 (f := .meth "Building" "neighbours") rfl)
    m_len := He.meth_ok (C.fact 36 (f := .meth "Building" "__len__") rfl)
    m_contains := He.meth_ok (C.fact 37 (f := .meth "Building" "__contains__") rfl)
    m_getitem := He.meth_ok (C.fact 38 (f := .meth "Building" "__getitem__") rfl)
    mkG := He.mkr_ok (C.fact 39 (f := .mkr "Going") rfl)
    mkB := He.mkr_ok (C.fact 40 (f := .mkr "Building") rfl)
    gG := He.glo_ok X G (C.fact 41 (f := .glo "Going") rfl)
    gB := He.glo_ok X G (C.fact 42 (f := .glo "Building") rfl)
    clG := He.cls_ok (C.fact 43 (f := .cls "Going") rfl)
    clB := He.cls_ok (C.fact 44 (f := .cls "Building") rfl)
    nG_site := He.noat_ok (C.fact 45 (f := .noat "Going" "site") rfl)
    nG_spots := He.noat_ok (C.fact 46 (f := .noat "Going" "spots") rfl)
    nG_before := He.noat_ok (C.fact 47 (f := .noat "Going" "before") rfl)
    nG_layers := He.noat_ok (C.fact 48 (f := .noat "Going" "layers") rfl)
    nB_sizes := He.noat_ok (C.fact 49 (f := .noat "Building" "sizes") rfl)
    nB_pairs := He.noat_ok (C.fact 50 (f := .noat "Building" "pairs") rfl)
    nB_near := He.noat_ok (C.fact 51 (f := .noat "Building" "near") rfl)
    nB_own_sides := He.noat_ok (C.fact 52 (f := .noat "Building" "own_sides") rfl)
    nB_own_ring := He.noat_ok (C.fact 53 (f := .noat "Building" "own_ring") rfl)
    nB_own_bridges := He.noat_ok (C.fact 54 (f := .noat "Building" "own_bridges") rfl)
    LET := He.str_ok X G (C.fact 55 (f := .str "LETTERS" "abcdefghijklmnopqrstuvwxyz") rfl)
    LON := He.int_ok X G (C.fact 56 (f := .int "LONGEST_NAME" 8) rfl)
    MPO := He.int_ok X G (C.fact 57 (f := .int "MOST_POSITIONS" 10000) rfl)
    MSZ := He.int_ok X G (C.fact 58 (f := .int "MOST_SIZE_buildings" 1000000000) rfl)
    n_len := He.free_ok X G (C.fact 59 (f := .free "len") rfl)
    n_sorted := He.free_ok X G (C.fact 60 (f := .free "sorted") rfl)
    n_min := He.free_ok X G (C.fact 61 (f := .free "min") rfl)
    n_list := He.free_ok X G (C.fact 62 (f := .free "list") rfl)
    n_tuple := He.free_ok X G (C.fact 63 (f := .free "tuple") rfl)
    n_isinstance := He.free_ok X G (C.fact 64 (f := .free "isinstance") rfl)
    n_all := He.free_ok X G (C.fact 65 (f := .free "all") rfl)
    n_str := He.free_ok X G (C.fact 66 (f := .free "str") rfl)
    n_int := He.free_ok X G (C.fact 67 (f := .free "int") rfl)
    n_bool := He.free_ok X G (C.fact 68 (f := .free "bool") rfl)
    n_enumerate := He.free_ok X G (C.fact 69 (f := .free "enumerate") rfl)
    n_range := He.free_ok X G (C.fact 70 (f := .free "range") rfl)
    n_dict := He.free_ok X G (C.fact 71 (f := .free "dict") rfl)
    n_max := He.free_ok X G (C.fact 72 (f := .free "max") rfl)
    n_sum := He.free_ok X G (C.fact 73 (f := .free "sum") rfl)
    n_repr := He.free_ok X G (C.fact 74 (f := .free "repr") rfl)
    cMR := He.conB_ok x1
    cMC := He.conB_ok x2
    pR := ⟨He.eqO_ok x6, He.eqO_ok x7, of_decide_eq_true x8, gt_ok x9⟩
    seqB := x3
    fnGI := x4
    clT := empty_ok x5a
    crT := empty_ok x5b }
end Rd
/-! how arguments come to the defs -/
namespace Rd
open PySem PySem.Spec PyProof.Rows L2
section
variable {K : PySem.W.Frag} {mg : Str → Option Value}
theorem Txt.b_joined_rooms (T : Txt K mg) : Binds K (d_joined_rooms K) P_joined_rooms [] := FunD.bindsN T.f_joined_rooms fun _ _ _ _ _ _ us hl => match us, hl with | [_], _ => rfl
theorem Txt.b_level_corridor (T : Txt K mg) : Binds K (d_level_corridor K) P_level_corridor [] := FunD.bindsN T.f_level_corridor fun _ _ _ _ _ _ us hl => match us, hl with | [_, _], _ => rfl
theorem Txt.b_sides_of (T : Txt K mg) : Binds K (d_sides_of K) P_sides_of [] := FunD.bindsN T.f_sides_of fun _ _ _ _ _ _ us hl => match us, hl with | [_, _], _ => rfl
theorem Txt.b_odd_ring_of (T : Txt K mg) : Binds K (d_odd_ring_of K) P_odd_ring_of [] := FunD.bindsN T.f_odd_ring_of fun _ _ _ _ _ _ us hl => match us, hl with | [_, _], _ => rfl
theorem Txt.b_on_rings (T : Txt K mg) : Binds K (d_on_rings K) P_on_rings [] := FunD.bindsN T.f_on_rings fun _ _ _ _ _ _ us hl => match us, hl with | [_, _], _ => rfl
theorem Txt.b_bridges_of (T : Txt K mg) : Binds K (d_bridges_of K) P_bridges_of [] := FunD.bindsN T.f_bridges_of fun _ _ _ _ _ _ us hl => match us, hl with | [_, _], _ => rfl
theorem Txt.b_is_name (T : Txt K mg) : Binds K (d_is_name K) P_is_name [] := FunD.bindsN T.f_is_name fun _ _ _ _ _ _ us hl => match us, hl with | [_], _ => rfl
theorem Txt.b_is_integer (T : Txt K mg) : Binds K (d_is_integer K) P_is_integer [] := FunD.bindsN T.f_is_integer fun _ _ _ _ _ _ us hl => match us, hl with | [_], _ => rfl
theorem Txt.b_is_between (T : Txt K mg) : Binds K (d_is_between K) P_is_between [] := FunD.bindsN T.f_is_between fun _ _ _ _ _ _ us hl => match us, hl with | [_, _, _], _ => rfl
theorem Txt.b_check_small (T : Txt K mg) : Binds K (d_check_small K) P_check_small [] := FunD.bindsN T.f_check_small fun _ _ _ _ _ _ us hl => match us, hl with | [_], _ => rfl
theorem Txt.b_Going_init (T : Txt K mg) : Binds K (d_Going_init K) P_Going_init [] := FunD.bindsN T.f_Going_init fun _ _ _ _ _ _ us hl => match us, hl with | [_, _, _], _ => rfl
theorem Txt.b_Going_turned (T : Txt K mg) : Binds K (d_Going_turned K) P_Going_turned [] := FunD.bindsN T.f_Going_turned fun _ _ _ _ _ _ us hl => match us, hl with | [_, _, _], _ => rfl
theorem Txt.b_Going_go_on (T : Txt K mg) : Binds K (d_Going_go_on K) P_Going_go_on [] := FunD.bindsN T.f_Going_go_on fun _ _ _ _ _ _ us hl => match us, hl with | [_], _ => rfl
theorem Txt.b_layers (T : Txt K mg) : Binds K (d_layers K) P_layers [] := FunD.bindsN T.f_layers fun _ _ _ _ _ _ us hl => match us, hl with | [_, _], _ => rfl
theorem Txt.b_pair_of (T : Txt K mg) : Binds K (d_pair_of K) P_pair_of [] := FunD.bindsN T.f_pair_of fun _ _ _ _ _ _ us hl => match us, hl with | [_, _], _ => rfl
theorem Txt.b_Building_init (T : Txt K mg) : Binds K (d_Building_init K) P_Building_init [] := FunD.bindsN T.f_Building_init fun _ _ _ _ _ _ us hl => match us, hl with | [_, _, _], _ => rfl
theorem Txt.b_Building_prepare (T : Txt K mg) : Binds K (d_Building_prepare K) P_Building_prepare [] := FunD.bindsN T.f_Building_prepare fun _ _ _ _ _ _ us hl => match us, hl with | [_], _ => rfl
theorem Txt.b_Building_sorted_pairs (T : Txt K mg) : Binds K (d_Building_sorted_pairs K) P_Building_sorted_pairs [] := FunD.bindsN T.f_Building_sorted_pairs fun _ _ _ _ _ _ us hl => match us, hl with | [_, _], _ => rfl
theorem Txt.b_Building_check_connected (T : Txt K mg) : Binds K (d_Building_check_connected K) P_Building_check_connected [] := FunD.bindsN T.f_Building_check_connected fun _ _ _ _ _ _ us hl => match us, hl with | [_], _ => rfl
theorem Txt.b_Building_rooms (T : Txt K mg) : Binds K (d_Building_rooms K) P_Building_rooms [] := FunD.bindsN T.f_Building_rooms fun _ _ _ _ _ _ us hl => match us, hl with | [_], _ => rfl
theorem Txt.b_Building_neighbours (T : Txt K mg) : Binds K (d_Building_neighbours K) P_Building_neighbours [] := FunD.bindsN T.f_Building_neighbours fun _ _ _ _ _ _ us hl => match us, hl with | [_, _], _ => rfl
theorem Txt.b_Building_len (T : Txt K mg) : Binds K (d_Building_len K) P_Building_len [] := FunD.bindsN T.f_Building_len fun _ _ _ _ _ _ us hl => match us, hl with | [_], _ => rfl
theorem Txt.b_Building_contains (T : Txt K mg) : Binds K (d_Building_contains K) P_Building_contains [] := FunD.bindsN T.f_Building_contains fun _ _ _ _ _ _ us hl => match us, hl with | [_, _], _ => rfl
theorem Txt.b_Building_getitem (T : Txt K mg) : Binds K (d_Building_getitem K) P_Building_getitem [] := FunD.bindsN T.f_Building_getitem fun _ _ _ _ _ _ us hl => match us, hl with | [_, _], _ => rfl
theorem Txt.b_l_begin (T : Txt K mg) : Binds K (d_l_begin K) P_l_begin [] := FunD.bindsN T.f_l_begin fun _ _ _ _ _ _ us hl => match us, hl with | [_], _ => rfl
theorem Txt.b_l_draw (T : Txt K mg) : Binds K (d_l_draw K) P_l_draw [] := FunD.bindsN T.f_l_draw fun _ _ _ _ _ _ us hl => match us, hl with | [_, _], _ => rfl
theorem Txt.b_l_pick (T : Txt K mg) : Binds K (d_l_pick K) P_l_pick [] := FunD.bindsN T.f_l_pick fun _ _ _ _ _ _ us hl => match us, hl with | [_, _], _ => rfl
theorem Txt.b_l_shuffled (T : Txt K mg) : Binds K (d_l_shuffled K) P_l_shuffled [] := FunD.bindsN T.f_l_shuffled fun _ _ _ _ _ _ us hl => match us, hl with | [_, _], _ => rfl
theorem Txt.b_l_names (T : Txt K mg) : Binds K (d_l_names K) P_l_names [] := FunD.bindsN T.f_l_names fun _ _ _ _ _ _ us hl => match us, hl with | [_, _], _ => rfl
theorem Txt.b_l_pair (T : Txt K mg) : Binds K (d_l_pair K) P_l_pair [] := FunD.bindsN T.f_l_pair fun _ _ _ _ _ _ us hl => match us, hl with | [_, _], _ => rfl
theorem Txt.b_l_drawn (T : Txt K mg) : Binds K (d_l_drawn K) P_l_drawn [] := FunD.bindsN T.f_l_drawn fun _ _ _ _ _ _ us hl => match us, hl with | [_, _, _, _, _], _ => rfl
theorem Txt.b_l_built (T : Txt K mg) : Binds K (d_l_built K) P_l_built [] := FunD.bindsN T.f_l_built fun _ _ _ _ _ _ us hl => match us, hl with | [_], _ => rfl
theorem Txt.b_l_near (T : Txt K mg) : Binds K (d_l_near K) P_l_near [] := FunD.bindsN T.f_l_near fun _ _ _ _ _ _ us hl => match us, hl with | [_, _], _ => rfl
theorem Txt.b_l_sides_due (T : Txt K mg) : Binds K (d_l_sides_due K) P_l_sides_due [] := FunD.bindsN T.f_l_sides_due fun _ _ _ _ _ _ us hl => match us, hl with | [_], _ => rfl
theorem Txt.b_l_gcd (T : Txt K mg) : Binds K (d_l_gcd K) P_l_gcd [] := FunD.bindsN T.f_l_gcd fun _ _ _ _ _ _ us hl => match us, hl with | [_, _], _ => rfl
theorem Txt.b_l_gcd_all (T : Txt K mg) : Binds K (d_l_gcd_all K) P_l_gcd_all [] := FunD.bindsN T.f_l_gcd_all fun _ _ _ _ _ _ us hl => match us, hl with | [_], _ => rfl
theorem Txt.b_l_reach (T : Txt K mg) : Binds K (d_l_reach K) P_l_reach [] := FunD.bindsN T.f_l_reach fun _ _ _ _ _ _ us hl => match us, hl with | [_, _], _ => rfl
theorem Txt.b_l_all_positions (T : Txt K mg) : Binds K (d_l_all_positions K) P_l_all_positions [] := FunD.bindsN T.f_l_all_positions fun _ _ _ _ _ _ us hl => match us, hl with | [_], _ => rfl
theorem Txt.b_law (T : Txt K mg) : Binds K (d_law K) P_law [] := FunD.bindsN T.f_law fun _ _ _ _ _ _ us hl => match us, hl with | [_], _ => rfl
end
end Rd
/-! words of one's own: a def that lets nothing out; frames; comprehensions over walks; own special methods -/
namespace Rd
open PySem PySem.Spec L2
open PyProof.Rows hiding St
section
variable {P : Program} {w : World} {K : PySem.W.Frag} {mg : Str → Option Value} {base : Heap}
/-- a def with defaults that lets nothing out -/
theorem ok0 {x qual : Str} {pa : Arguments} {bd : List Stmt} {sc : Scope} {dvs : List V} {f : Addr} {fd : FuncData} {N ps : List Str} {k : Nat} {sp : Sp} (F : FunD K x qual pa bd sc dvs [] f fd) (S : FnScope N ps sc) (len : ∀ vs H Q E, sp vs H Q E → vs.length = ps.length)
    (body : ∀ (cdv : Value) (A : Around) (outer : List Env) (s : Shared) (H : Hp) (vs : List V) (Q : VK) (E : XK), Room k (A.deeper (envOfC qual sc s.heap.objs.size f cdv)) → sp vs H Q E →
      ∃ t, PSs (cxOf CX0 P w K mg base N qual sc f cdv A outer s H E).nox bd t ∧ t { nx := fun _ H' => Q .non H', rt := Q } (start N vs) H) : FnOk P w K mg base CX0 (k + 1) f fd ps sp :=
  F.ok S len fun cdv A outer s H vs Q E hr hsp => let ⟨t, h, q⟩ := body cdv A outer s H vs Q E hr hsp; ⟨t, h.nox, q⟩
end
/-- what was new and is written stays apart -/
theorem same_upd {H H' : Hp} {p : Addr} {o : HO} (s : Same H H') (n : H p = none) : Same H (upd H' p o) := fun b u e => by
  rw [upd_ne (ne_of_none e n)]
  exact s b u e
theorem same_new {H : Hp} {p : Addr} {o : HO} (n : H p = none) : Same H (upd H p o) := same_upd (Same.refl H) n
/-! ### tests whose answer is known -/
theorem iteD {p A B : Prop} [Decidable p] (h : p) (a : A) : if decide p = true then A else B := by
  rw [decide_eq_true h]
  exact iteT a
theorem iteDn {p A B : Prop} [Decidable p] (h : ¬ p) (b : B) : if decide p = true then A else B := by
  rw [decide_eq_false h]
  exact iteF b
theorem iteN {p A B : Prop} [Decidable p] (h : ¬ p) (a : A) : if (!decide p) = true then A else B := by
  rw [decide_eq_false h]
  exact iteT a
theorem iteB {c : Bool} {A B : Prop} (h : c = true) (a : A) : if c = true then A else B := by
  rw [h]
  exact iteT a
theorem iteBn {c : Bool} {A B : Prop} (h : c = false) (b : B) : if c = true then A else B := by
  rw [h]
  exact iteF b
theorem sz8 {n : Nat} (h : n ≤ 8) : n ≤ sizeLine := by
  rw [sizeLine_eq]
  omega
theorem szK {n : Nat} (h : n ≤ 100000) : n ≤ sizeLine := by
  rw [sizeLine_eq]
  omega
theorem szL {n : Nat} (h : n < 100000) : n < sizeLine := by
  rw [sizeLine_eq]
  omega
section
variable {X : Cx} {x : Str} {pos : Pos}
/-- a number, a text of the top by its name -/
theorem pe_gint {i : Int} (hg : Gl X x) (hm : ∃ t, X.mg x = some (.int i t)) (hd : (x == ("__debug__" : Str)) = false := by decide) : PE X (.Name x pos) (tC (.int i)) := by
  obtain ⟨t, e⟩ := hm
  exact pe_glob hg e (show ∃ t', Value.int i t = Value.int i t' from ⟨t, rfl⟩) hd
theorem pe_gstr {z : Str} (hg : Gl X x) (hm : ∃ t, X.mg x = some (.str z t)) (hd : (x == ("__debug__" : Str)) = false := by decide) : PE X (.Name x pos) (tC (.str z)) := by
  obtain ⟨t, e⟩ := hm
  exact pe_glob hg e (show ∃ t', Value.str z t = Value.str z t' from ⟨t, rfl⟩) hd
/-- a built-in class as a value -/
theorem pe_ty {n : String} (hg : Gl X x) (hm : X.mg x = none) (hv : bootBuiltins x = some (.type n)) (hn : x ≠ "__name__" := by decide) (hd : (x == ("__debug__" : Str)) = false := by decide) : PE X (.Name x pos) (tC (.ty n)) :=
  pe_bltn hg hm hv rfl hn hd
end
end Rd
namespace Rd
open PySem PySem.Spec L2
open PyProof.Rows hiding St
abbrev LETS : Str := "abcdefghijklmnopqrstuvwxyz"
/-- what a room may be called -/
def IsNm (x : Str) : Prop := 1 ≤ x.length ∧ x.length ≤ 8 ∧ ∀ c ∈ x.cps.toList, c ∈ LETS.cps.toList
def spIsName : Sp := fun vs H Q _ => ∃ x : Str, vs = [.str x] ∧ IsNm x ∧ ∀ H', Same H H' → Q (.bl true) H'
section
variable {P : Program} {w : World} {K : PySem.W.Frag} {mg : Str → Option Value} {base : Heap}
theorem ok_is_name (T : Txt K mg) : FnOk P w K mg base CX0 1 (a_is_name K) (d_is_name K) P_is_name spIsName := by
  refine ok0 T.f_is_name sc_is_name (fun vs H Q E h => ?_) (fun cdv A outer s H vs Q E hr h => ?_)
  · obtain ⟨x, rfl, _⟩ := h
    rfl
  · obtain ⟨x, rfl, ⟨h1, h8, hl⟩, k⟩ := h
    refine ⟨_, pss_one (ps_ret (pe_and (pe_callB call_isi (by rfl) T.n_isinstance (by decide +kernel) (pa_cons (pv 0) (pa_cons (pe_ty (n := "str") (by rfl) T.n_str (by decide +kernel)) pa_nil)))
      (pe_and (pe_chain op_le op_le pe_int (pe_callB call_len (by rfl) T.n_len PySem.boot_len (pa_cons (pv 0) pa_nil)) (pe_gint (by rfl) T.LON))
      (pe_one (pe_callB (cr_all rfl) (by rfl) T.n_all (by decide +kernel) (pa_cons
        (pe_lc (own := [("letter", 1)]) (g := gName 1) (tt := tYes) rfl sc_is_name.nd (pi_str (pv 0)) (blkOk_by (own := [("letter", 1)]) (N := N_is_name) (sc := defScope s_is_name) (by decide +kernel))
          (fun _ _ _ _ _ => pg_name (i := 1) sc_is_name.nd rfl (Or.inl rfl)) (fun _ _ _ _ _ => pts_nil)
          (fun _ _ _ _ _ => pe_cmpR op_in_sign (pv 1) (pe_gstr (by rfl) T.LET) (by rfl))) pa_nil)))))), ?_⟩
    refine ⟨_, rfl, _, _, _, _, true, rfl, .ty "str", .base (.str x), kit_ty (by decide +kernel), true, rfl, iteT ?_⟩
    refine ⟨_, rfl, _, x.length, rfl, ⟨sz8 h8, rfl⟩, _, _, rfl, rfl, _, rfl, iteD (by omega) ?_⟩
    refine ⟨_, _, rfl, rfl, _, rfl, iteD (by omega) ?_⟩
    refine ⟨_, rfl, x, rfl, fun D hD => ?_⟩
    refine lc_it walk_str (fun i H1 => Same H H1 ∧ H1 D = some (.lst ((List.replicate i true).map V.bl))) ⟨same_new hD, upd_same⟩ (fun _ _ _ _ => trivial) ?_ ?_
    · rintro i v H1 H2 hi ⟨s1, e1⟩ ⟨rfl, c, hc, rfl⟩
      have hm : c ∈ LETS.cps.toList := hl c (by rw [← Array.getElem?_toList] at hc; exact List.mem_of_getElem? hc)
      refine ⟨rfl, _, rfl, c, _, rfl, rfl, _, e1, ?_, same_upd s1 hD, ?_⟩
      · rw [List.length_map, List.length_replicate]
        have : x.cps.size ≤ 8 := h8
        exact szL (by omega)
      · have ed : decide (c ∈ (Str.ofString "abcdefghijklmnopqrstuvwxyz").cps.toList) = true := decide_eq_true hm
        rw [upd_same, ed]
        show some (HO.lst _) = _
        rw [List.replicate_succ', List.map_append]
        rfl
    · rintro H1 ⟨s1, e1⟩
      refine ⟨D, _, rfl, SqL.of e1, ?_⟩
      rw [show (List.replicate x.cps.size true).all id = true by simp]
      exact k H1 s1
end
end Rd
/-! tuple(d); min of texts; own special methods -/
namespace Rd
open PySem PySem.Spec L2
open PyProof.Rows hiding St
section
variable {prog : Program} {w : World} {A : Around} {E : Value → Shared → Prop} {s : Shared} {d : Addr} {vs : List (Key × Value)} {ep : Nat}
/-- tuple of a dict: its keys, collected, laid anew -/
theorem call_tupleD {Q : Value → Shared → Prop} (hh : A.handled = none) (lo : (d == sysModules) = false) (hat : s.heap.DictAt (mixKind prog w) d vs ep) (hz : vs.length ≤ sizeLine)
    (hQ : ∀ (h' : Heap) (tk : Nat) (acc : Array Value), (∀ b o, s.heap.get? b = some o → h'.get? b = some o) → Vals (vs.map fun p => kV p.1) acc.toList → Q (.ref h'.objs.size) { s with heap := h'.push { cls := .type "tuple", data := .seq acc }, toks := tk }) :
    wpAny (model prog w) A (call (.type "tuple") [.ref d]) Q E s := by
  have run : codeAny (model prog w) A.in1 (.call (.builtin "tuple.__new__") ⟨[.type "tuple", .ref d], []⟩) (wants (fun obj s₁ => s₁.TypeIs obj "tuple" ∧ Q obj s₁) E) s := by
    refine codeAny_of_tree ?_
    show wpAny _ A.in1.in1 (checkBuiltinCall "tuple.__new__" ⟨[.type "tuple", .ref d], []⟩ >>= fun _ => again (.builtin "tuple.__new__" ⟨[.type "tuple", .ref d], []⟩)) _ _ s
    refine wpAny_bind (wpAny_of_eq (F.newCall_tuple_1 _) (wpAny_pure ⟨plainId_quiet F.plain_tuple_new _, codeAny_builtin F.entry_tuple_new ?_⟩))
    rw [Around.under_plainId F.plain_tuple_new _]
    have hsub := sub_tuple_self
    have hinit := init_tuple_lookup
    have hmh := madeHere_tuple
    have hTI : s.TypeIs (.ref d) "dict" := let ⟨o, _, h1, h2, _⟩ := hat; ⟨o, h1, h2.1⟩
    wp_walk using wpAny_typeOf hTI, PySem.W.kdu_collect (A := A.in1.in1) (PySem.W.kdl_dict (knd := mixKind prog w) (kvs := vs) (ep := ep) lo) hh hat hz
    intro h' tk acc hk hacc
    show wpAny _ _ (Builtin.Tuple.tupleExact acc.toList.toArray >>= fun v => ret v) _ _ _
    unfold Builtin.Tuple.tupleExact
    have e : acc.toList.toArray = acc := by simp
    refine wpAny_bind (wpAny_newObj_type ?_ (by show acc.toList.toArray.size ≤ sizeLine; rw [e, hacc.1]; exact hz))
    refine wpAny_pure ?_
    rw [e]
    refine ⟨⟨_, Heap.get?_push_size _ rfl, rfl⟩, hQ h' tk acc hk (keys_at (by rw [Array.length_toList]; exact hacc.1) fun j v q => hacc.2 j v (by rw [← Array.getElem?_toList]; exact q))⟩
  refine callType_codes (Q₁ := fun obj s₁ => s₁.TypeIs obj "tuple" ∧ Q obj s₁) F.called_tuple (F.typeCall_tuple_1 _) F.entry_object_init run fun obj s₁ h₁ => ?_
  exact ⟨h₁.1, F.args_object_init_2 obj _, object_init_meets F.called_tuple.init.lookup F.called_tuple.made (by decide) prog w A.in1 _ s₁ ⟨h₁.1, rfl, h₁.2⟩⟩
end
section
variable {X : Cx}
theorem cr_tupleD (hc : X.calm = true) : CallR X (.type "tuple") (fun xs H Q => ∃ (a : Addr) (kvs : List (Key × V)), xs = [.ref a] ∧ Rd H a (.dK kvs) ∧ ∀ p, H p = none → Q (.ref p) (upd H p (.tup (kvs.map fun kv => kV kv.1)))) := by
  intro pins s σ H xs us Q I r q
  obtain ⟨a, kvs, rfl, hd, q⟩ := q
  obtain ⟨u, rfl, rx⟩ := vals1 r
  cases rx
  obtain ⟨z, lo, vs, rel, dd⟩ := dk_rd I.hok hd
  obtain ⟨ep, hat⟩ := dd.dictAt
  have ek : (kvs.map fun kv => kV kv.1) = vs.map fun p => kV p.1 := by
    have e := congrArg (List.map kV) rel.keys
    rw [List.map_map, List.map_map] at e
    exact e
  refine call_tupleD (I.ok.hd hc) lo hat (by rw [← rel.length]; exact z) fun h' tk acc hk hv => ?_
  have I1 : Inv X pins σ H { s with heap := h', toks := tk } := I.kept hk
  refine ⟨.ref h'.objs.size, upd H h'.objs.size (.tup (kvs.map fun kv => kV kv.1)), I1.laid (t' := tk) (fun b o e => Heap.get?_push_of_some _ e) (Nat.le_refl _) ?_, rfl, q _ (I1.hok.fresh (Nat.le_refl _))⟩
  exact ⟨by rw [List.length_map]; exact z, acc.toList, by rw [ek]; exact hv, _, Heap.get?_push_size _ rfl, rfl, 0, by simp⟩
end
/-! ### min of texts -/
theorem best_le {bt : Nat → Nat → Bool} : ∀ k : Nat, argBest bt k ≤ k
  | 0 => Nat.le_refl 0
  | k + 1 => by
    have ih := best_le (bt := bt) k
    show (if bt (k + 1) (argBest bt k) then k + 1 else argBest bt k) ≤ k + 1
    by_cases h : bt (k + 1) (argBest bt k) = true
    · rw [if_pos h]
      exact Nat.le_refl _
    · rw [if_neg h]
      omega
theorem cmp_texts {prog : Program} {w : World} {A : Around} {P : Nat → Value → Prop} (hu : A.units < cLine) (val : Nat → Str) (hval : ∀ i v, P i v → ∃ t, v = .str (val i) t) :
    CmpOf prog w A .Lt P (fun i j => PySem.W.dataLt (.str (val i)) (.str (val j))) := by
  intro i j vi vj s Q E hi hj hQ
  obtain ⟨t, rfl⟩ := hval i vi hi
  obtain ⟨t', rfl⟩ := hval j vj hj
  refine PySem.W.rcLt_alike _ _ A s _ _ _ _ (Reads.str _ t) (Reads.str _ t') ?_ (fun z => nomatch z) ?_ prog w E Q hQ
  · simp only [PySem.W.alike]
  · show A.units + min (PyData.str (val i)).depth (PyData.str (val j)).depth < cLine
    rw [show (PyData.str (val i)).depth = 0 by simp only [PyData.depth]]
    omega
section
variable {X : Cx}
theorem cr_minD (hc : X.calm = true) (hu : X.A.units + 1 < cLine) : CallR X (.builtin "min") (fun vs H Q => ∃ (a : Addr) (kvs : List (Key × V)) (ks : List Str), vs = [.ref a] ∧ H a = some (.dK kvs) ∧ kvs.map (·.1) = ks.map Sum.inr ∧ ks ≠ [] ∧ ∀ m ∈ ks, Q (.str m) H) := by
  intro pins s σ H vs us Q I r h
  obtain ⟨a, kvs, ks, rfl, ha, hv, hne, q⟩ := h
  obtain ⟨u, rfl, rx⟩ := vals1 r
  cases rx
  obtain ⟨_, hsys, vs, rel, dof⟩ := dk_of I.hok ha
  obtain ⟨ep, dat⟩ := dof.dictAt
  obtain ⟨ob, es, ho, _⟩ := id dat
  have hlt : a < s.heap.objs.size := Heap.lt_size ho
  have hkeys : vs.map (·.1) = ks.map Sum.inr := (KV.keys rel).symm.trans hv
  have hlv : vs.length = ks.length := by simpa using congrArg List.length hkeys
  have hlen : 0 < vs.length := by
    rw [hlv]
    exact List.length_pos_iff.mpr hne
  have hval : ∀ (i : Nat) (v : Value), (∃ k x, vs[i]? = some (k, x) ∧ (mixKind X.prog X.w).is k v = true) → ∃ t, v = Value.str (ks.getD i "") t := fun i v ⟨k, x, hk, hkey⟩ => by
    have e1 : (vs.map (·.1))[i]? = some k := by rw [List.getElem?_map, hk] <;> rfl
    rw [hkeys, List.getElem?_map] at e1
    obtain ⟨j, hj, e2⟩ := Option.map_eq_some_iff.mp e1
    subst e2
    obtain ⟨t, e3⟩ := Value.isStrOf_shape (x := j) (v := v) hkey
    refine ⟨t, ?_⟩
    rw [e3, List.getD_eq_getElem?_getD, hj] <;> rfl
  refine call_min_walk (wpAny_pyIter_dict (knd := mixKind X.prog X.w) hsys dat ?_)
  refine ⟨_, _, _, _, _, _, _, rfl, Walks.dictKeys (knd := mixKind X.prog X.w) (A := X.A.in1) (I.ok.hd hc) s.heap.objs.size a (Nat.ne_of_lt hlt) vs ep,
    ⟨⟨_, Heap.get?_push_size _ rfl, rfl, rfl⟩, dat.keep fun b u e => Heap.get?_push_of_some _ e⟩, fun b hb => ?_, hlen, cmp_texts (by show X.A.units + 1 < cLine; exact hu) (fun i => ks.getD i "") hval, fun v h' tk hP hk => ?_⟩
  · show b < (s.heap.push _).objs.size
    rw [Heap.size_push]
    rcases List.mem_cons.mp hb with e | hb
    · rw [e]
      exact Nat.lt_succ_self _
    · rw [List.mem_singleton.mp hb]
      exact Nat.lt_succ_of_lt hlt
  · obtain ⟨t, rfl⟩ := hval _ v hP
    have hb := best_le (bt := fun i j => PySem.W.dataLt (.str (ks.getD i "")) (.str (ks.getD j ""))) (vs.length - 1)
    refine ⟨.str _, H, I.kept (t' := tk) fun b u e => hk b u (fun hmem => ?_) (Heap.get?_push_of_some _ e), ⟨t, rfl⟩, q _ ?_⟩
    · have e2 := Heap.lt_size e
      rw [List.mem_singleton.mp hmem] at e2
      exact Nat.lt_irrefl _ e2
    · rw [List.getD_eq_getElem?_getD, List.getElem?_eq_getElem (by omega)]
      exact List.getElem_mem _
theorem cr_minS (hc : X.calm = true) (hu : X.A.units + 1 < cLine) : CallR X (.builtin "min") (fun vs H Q => ∃ (a : Addr) (xs : List Str), vs = [.ref a] ∧ SqL X.K H a (xs.map V.str) ∧ xs ≠ [] ∧ ∀ m ∈ xs, Q (.str m) H) := by
  intro pins s σ H xs us Q I r q
  obtain ⟨a, xs, rfl, hd, hne, q⟩ := q
  obtain ⟨u, rfl, rx⟩ := vals1 r
  cases rx
  obtain ⟨its, rv, pl, hz⟩ := I.list hd
  have hl := rv.length
  rw [List.length_map] at hl
  obtain ⟨ob, n, ho, _⟩ := id pl
  have hlt : a < s.heap.objs.size := Heap.lt_size ho
  have hlen : 0 < its.toArray.size := by
    rw [List.size_toArray, ← hl]
    exact List.length_pos_iff.mpr hne
  have hval : ∀ (i : Nat) (v : Value), its.toArray[i]? = some v → ∃ t, v = Value.str (xs.getD i "") t := fun i v e => by
    have e' : its[i]? = some v := by simpa using e
    cases hx : (xs.map V.str)[i]? with
    | none =>
      rw [Vals.none_of rv hx] at e'
      cases e'
    | some y =>
      obtain ⟨u, h1, h2⟩ := Vals.get rv hx
      rw [e'] at h1
      cases h1
      rw [List.getElem?_map] at hx
      obtain ⟨j, hj, rfl⟩ := Option.map_eq_some_iff.mp hx
      obtain ⟨t, rfl⟩ := h2
      exact ⟨t, by rw [List.getD_eq_getElem?_getD, hj] <;> rfl⟩
  refine call_min_walk (wpAny_pyIter_list pl.isList ?_)
  refine ⟨_, _, _, _, _, _, _, rfl, Walks.list (A := X.A.in1) (I.ok.hd hc) s.heap.objs.size a (Nat.ne_of_lt hlt) its.toArray,
    ⟨⟨_, Heap.get?_push_size _ rfl, rfl, rfl⟩, pl.isList.push _⟩, fun b hb => ?_, hlen, cmp_texts (by show X.A.units + 1 < cLine; exact hu) (fun i => xs.getD i "") hval, fun v h' tk hP hk => ?_⟩
  · show b < (s.heap.push _).objs.size
    rw [Heap.size_push]
    rcases List.mem_cons.mp hb with e | hb
    · rw [e]
      exact Nat.lt_succ_self _
    · rw [List.mem_singleton.mp hb]
      exact Nat.lt_succ_of_lt hlt
  · obtain ⟨t, rfl⟩ := hval _ v hP
    have hb := best_le (bt := fun i j => PySem.W.dataLt (.str (xs.getD i "")) (.str (xs.getD j ""))) (its.toArray.size - 1)
    rw [List.size_toArray] at hb hlen
    refine ⟨.str _, H, I.kept (t' := tk) fun b u e => hk b u (fun hmem => ?_) (Heap.get?_push_of_some _ e), ⟨t, rfl⟩, q _ ?_⟩
    · have e2 := Heap.lt_size e
      rw [List.mem_singleton.mp hmem] at e2
      exact Nat.lt_irrefl _ e2
    · rw [List.getD_eq_getElem?_getD, List.getElem?_eq_getElem (by simp only [List.size_toArray]; omega)]
      exact List.getElem_mem _
end
end Rd
/-! x in o, len(o), o[x] of an object of one's own, by its own special methods -/
namespace Rd
open PySem PySem.Spec L2
open PyProof.Rows hiding St
section
variable {X : Cx} {CX : CXT} {k : Nat} {f C : Addr} {fd : FuncData} {ps : List Str} {sp : Sp} {E : XK}
/-- an own special method by its def's promise -/
def rOwn (C : Addr) (sp : Sp) (E : XK) (args : List V) (a : Addr) (H : Hp) (Q : VK) : Prop := ∃ dx fs, H a = some (.ins C dx fs) ∧ sp (.ref a :: args) H Q E
theorem inst_of {pins : List (Addr × Obj)} {σ : St} {H : Hp} {s : Shared} {a dx : Addr} {fs : List (Str × V)} (I : Inv X pins σ H s) (e : H a = some (.ins C dx fs)) : ∃ od, PySem.W.InstAt s.heap a (PySem.W.instObj C dx) C (some od) := by
  obtain ⟨mA, O, _⟩ := ins_get I.hok e
  obtain ⟨od, J, _⟩ := O.look
  exact ⟨od, J⟩
/-- the callee runs one level deeper -/
theorem run_in1 {pins : List (Addr × Obj)} {σ : St} {H : Hp} {s : Shared} {Q : VK} {us : List Value} {vs : List V} (F : FnOk X.prog X.w X.K X.mg X.base CX k f fd ps sp) (hr : Room (k + 1) X.A) (hb : Binds X.K fd ps []) (hx : Passes CX X E)
    (I : Inv X pins σ H s) (r : Vals vs us) (h : sp vs H Q E) : wpAny (model X.prog X.w) X.A.in1 (call (.ref f) us) (EP X pins σ Q) X.xe s := by
  have hl : (us ++ []).length = ps.length := by
    rw [List.append_nil, ← r.length]
    exact F.len _ _ _ _ h
  have b := hb s us I.kIn hl
  rw [List.append_nil] at b
  refine wpAny_call (codeAny_mono (F.run X.A.in1 X.stack s H ⟨us, []⟩ us vs Q E hr.in1 I.env0.in1 b r h) fun z s' hq => ?_)
  cases z with
  | error e => exact hx pins σ H s e s' I hq
  | ok fl =>
    cases fl with
    | ret u => exact I.after hq
    | next => exact hq.elim
    | brk => exact hq.elim
    | cont => exact hq.elim
theorem op_inOwn (hm : Meth X.K C "__contains__" f) (F : FnOk X.prog X.w X.K X.mg X.base CX k f fd ps sp) (hr : Room k X.A) (hb : Binds X.K fd ps []) (hx : Passes CX X E) :
    OpR X (compareOp .In) (fun x y H Q => ∃ a, y = .ref a ∧ rOwn C sp E [x] a H fun v H' => ∃ b, v = .bl b ∧ Q (.bl b) H') := by
  intro pins s σ H x y v u Q I rx ry h
  obtain ⟨a, rfl, dx, fs, e, q⟩ := h
  cases ry
  obtain ⟨od, J⟩ := inst_of I e
  obtain ⟨m, fr⟩ := I.fr
  refine PySem.W.in_K fr I.ok.mod.kin J hm.at_ hm.fn (wpAny_mono (run_fn (vs := [V.ref a, x]) (dvs := []) F hr hb .nil hx I (.cons rfl (.cons rx .nil)) q) (fun r s' hq => ?_) fun _ _ z => z)
  obtain ⟨z, H', I', rz, b, rfl, q'⟩ := hq
  cases rz
  exact wpAny_truthy_bool ⟨.bl b, H', I', rfl, q'⟩
theorem op_notInOwn (hm : Meth X.K C "__contains__" f) (F : FnOk X.prog X.w X.K X.mg X.base CX k f fd ps sp) (hr : Room k X.A) (hb : Binds X.K fd ps []) (hx : Passes CX X E) :
    OpR X (compareOp .NotIn) (fun x y H Q => ∃ a, y = .ref a ∧ rOwn C sp E [x] a H fun v H' => ∃ b, v = .bl b ∧ Q (.bl (!b)) H') := by
  intro pins s σ H x y v u Q I rx ry h
  obtain ⟨a, rfl, dx, fs, e, q⟩ := h
  cases ry
  obtain ⟨od, J⟩ := inst_of I e
  obtain ⟨m, fr⟩ := I.fr
  refine PySem.W.notIn_K fr I.ok.mod.kin J hm.at_ hm.fn (wpAny_mono (run_fn (vs := [V.ref a, x]) (dvs := []) F hr hb .nil hx I (.cons rfl (.cons rx .nil)) q) (fun r s' hq => ?_) fun _ _ z => z)
  obtain ⟨z, H', I', rz, b, rfl, q'⟩ := hq
  cases rz
  exact wpAny_truthy_bool ⟨.bl (!b), H', I', rfl, q'⟩
/-- len(o) -/
theorem cr_lenOwn (hm : Meth X.K C "__len__" f) (F : FnOk X.prog X.w X.K X.mg X.base CX k f fd ps sp) (hr : Room (k + 1) X.A) (hb : Binds X.K fd ps []) (hx : Passes CX X E) :
    CallR X (.builtin "len") (fun vs H Q => ∃ a, vs = [.ref a] ∧ rOwn C sp E [] a H fun v H' => ∃ n : Nat, v = .int n ∧ n < 2 ^ 62 ∧ Q (.int n) H') := by
  intro pins s σ H vs us Q I r h
  obtain ⟨a, rfl, dx, fs, e, q⟩ := h
  obtain ⟨u, rfl, rx⟩ := vals1 r
  cases rx
  obtain ⟨od, J⟩ := inst_of I e
  obtain ⟨m, fr⟩ := I.fr
  refine PySem.W.len_K fr I.ok.mod.kin J hm.at_ hm.fn (wpAny_mono (run_in1 (vs := [V.ref a]) F hr hb hx I (.cons rfl .nil) q) (fun r s' hq => ?_) fun _ _ z => z)
  obtain ⟨z, H', I', rz, n, rfl, hn, q'⟩ := hq
  obtain ⟨t, rfl⟩ := rz
  exact ⟨⟨Int.natCast_nonneg n, by omega⟩, .int n, H', I'.tok _, ⟨_, rfl⟩, q'⟩
/-- o[x] -/
def tIxOwn (C : Addr) (sp : Sp) (E : XK) (ta tb : TE) : TE := fun σ H Q => ta σ H fun x H1 => tb σ H1 fun y H2 => ∃ a, x = .ref a ∧ rOwn C sp E [y] a H2 Q
theorem pe_ixOwn {a b : Expr} {ta tb : TE} {pos : Pos} (hm : Meth X.K C "__getitem__" f) (hfn : PySem.W.fnIn X.K f = true) (F : FnOk X.prog X.w X.K X.mg X.base CX k f fd ps sp) (hr : Room (k + 1) X.A) (hb : Binds X.K fd ps []) (hx : Passes CX X E)
    (ha : PE X a ta) (hi : PE X b tb) (hs : ∀ o i, subscripted b true o i = runValue (.builtin "lifetime.subscript" ⟨[o, i], []⟩) := by intros; with_unfolding_all rfl) : PE X (.Subscript a b pos) (tIxOwn C sp E ta tb) := by
  refine ⟨fun pins s σ H Q I h => ?_⟩
  refine Subscript_ (binT ha hi I h fun v u s2 x y H2 I2 rx ry q => ?_)
  obtain ⟨o, rfl, dx, fs, e, q⟩ := q
  cases rx
  obtain ⟨od, J⟩ := inst_of I2 e
  obtain ⟨m, fr⟩ := I2.fr
  exact PySem.W.sub_K fr I2.ok.mod.kin J hm.at_ hfn hm.fn (run_in1 (vs := [V.ref o, y]) F hr hb hx I2 (.cons rfl (.cons ry .nil)) q) (hs _ _)
end
end Rd
/-! a tuple once; a list backwards from its last but one; a list of two unpacked; sorted pairs of texts -/
namespace Rd
open PySem PySem.Spec L2
open PyProof.Rows hiding St
/-! ### t * n, n from 1 on -/
theorem tuple_mul1 (l : Addr) (items : Array Value) (n : Nat) (dd : Option Addr) (sl : Array (Option Value)) (u : Tok) :
    Meets (Builtin.«tuple.__mul__» ⟨[.ref l, .int 1 u], []⟩) (fun _ R s => s.heap.get? l = some { cls := .type "tuple", dict := dd, data := .seq items n, slots := sl } ∧ R (.ok (.ret (Value.ref l))) s) :=
  .of_wp fun prog w A R s h => by
    obtain ⟨hp, g, d, tk, os⟩ := s
    obtain ⟨hl, h⟩ := h
    have f1 := AutoSeq1.idx_int
    have c0 : (decide ((1 : Int) < -(2 ^ 63)) || decide ((1 : Int) ≥ 2 ^ 63)) = false := by decide
    have c1 : (items.isEmpty || (1 : Int) == 1) = true := by simp
    have hT : (Shared.mk hp g d tk os).TypeIs (.ref l) "tuple" := ⟨_, hl, rfl⟩
    wp_walk using wpAny_loadPart' hl, wpAny_typeOf hT
    repeat (first
      | (refine wpAny_ite_false (decide_eq_false (by rw [c0]; exact Bool.false_ne_true)) ?_; wp_walk using wpAny_loadPart' hl, wpAny_typeOf hT)
      | (refine wpAny_ite_true (decide_eq_true c1) ?_; wp_walk using wpAny_loadPart' hl, wpAny_typeOf hT))
    exact ⟨_, rfl, h⟩
def rRep1 (K : PySem.W.Frag) : R2 := fun x y H Q => ∃ l xs, x = .ref l ∧ y = .int 1 ∧ SqT K H l xs ∧ Q (.ref l) H
section
variable {X : Cx}
theorem op_rep1 : OpR X (binaryOp .Mult) (rRep1 X.K) := by
  intro pins s σ H x y v u Q I rx ry h
  obtain ⟨l, xs, rfl, rfl, hT, q⟩ := h
  cases rx
  obtain ⟨t, rfl⟩ := ry
  obtain ⟨its, r, ⟨⟨cls, dd, data, sl⟩, ho, hc, n, hd⟩, hs⟩ := I.tuple hT
  simp only at hc hd
  subst hc hd
  exact wpAny_binaryOp_repeat_ref (T := "tuple") (U := "int") (by decide) ⟨_, ho, rfl⟩ (fun s' => typeIs_int s' 1 t) noFill_tuple_mul F.fills_int_mul F.slot_int_rmul repeat_tuple F.slot_int_index.lookup
    (call_meets F.slot_int_rmul (typeIs_int s 1 t) F.entry_int_rmul (F.args_int_rmul_2 _ _) (int_rmul_tuple 1 t l its.toArray n dd sl)
      ⟨ho, rfl, ⟨_, ho, rfl⟩, call_meets F.slot_tuple_mul ⟨_, ho, rfl⟩ F.entry_tuple_mul (F.args_tuple_mul_2 _ _) (tuple_mul1 l its.toArray n dd sl t) ⟨ho, .ref l, H, I, rfl, q⟩⟩)
/-- (x,) * n: a tuple of n of them, whether it is a new one or not -/
def rRepA (K : PySem.W.Frag) : R2 := fun x y H Q => ∃ (l : Addr) (k : Nat) (z : V), x = .ref l ∧ y = .int k ∧ H l = some (.tup [z]) ∧ 1 ≤ k ∧ k ≤ 1000 ∧ ∀ p H', Same H H' → H' p = some (.tup (List.replicate k z)) → Q (.ref p) H'
theorem flat_rep (z : V) : ∀ k : Nat, (List.replicate k [z]).flatten = List.replicate k z
  | 0 => rfl
  | k + 1 => by rw [List.replicate_succ, List.replicate_succ, List.flatten_cons, flat_rep z k] <;> rfl
theorem op_repA : OpR X (binaryOp .Mult) (rRepA X.K) := by
  intro pins s σ H x y v u Q I rx ry h
  obtain ⟨l, k, z, rfl, rfl, hT, h1, h2, q⟩ := h
  by_cases e : k = 1
  · subst e
    exact op_rep1 pins s σ H _ _ v u Q I rx ry ⟨l, [z], rfl, rfl, SqT.of hT, q l H (Same.refl H) hT⟩
  · refine op_repT pins s σ H _ _ v u Q I rx ry ⟨l, k, [z], rfl, rfl, SqT.of hT, by simp, by omega, by omega, by simp, fun p hp => q p _ (same_new hp) ?_⟩
    rw [upd_same, Int.toNat_natCast, flat_rep]
end
/-! ### xs[-2::-1]: a new list, no longer -/
theorem back_len (n : Nat) : (sliceRange (sliceBounds (some (-2)) none (some (-1)) n).1 (sliceBounds (some (-2)) none (some (-1)) n).2.1 (sliceBounds (some (-2)) none (some (-1)) n).2.2).length ≤ n := by
  have e : sliceBounds (some (-2)) none (some (-1)) n = (max (-1) (min (-2 + (n : Int)) ((n : Int) - 1)), -1, -1) := by
    simp [sliceBounds]
  rw [e]
  unfold sliceRange
  simp only [List.length_map, List.length_range]
  have h1 : ¬ ((-1 : Int) > 0) := by decide
  simp only [h1, if_false]
  have a : max (-1) (min (-2 + (n : Int)) ((n : Int) - 1)) ≤ (n : Int) - 1 := by omega
  by_cases h : max (-1) (min (-2 + (n : Int)) ((n : Int) - 1)) > -1
  · simp only [h, if_true]
    rw [show (- -1 : Int) = 1 by decide, Int.ediv_one]
    omega
  · simp only [h, if_false]
    omega
theorem pick_vals {xs : List V} {its : List Value} (r : Vals xs its) : ∀ l : List Nat, ∃ ys : List V, ys.length ≤ l.length ∧ Vals ys (l.filterMap (its.toArray[·]?))
  | [] => ⟨[], Nat.le_refl _, .nil⟩
  | i :: l => by
    obtain ⟨ys, h1, h2⟩ := pick_vals r l
    cases hx : xs[i]? with
    | none =>
      have e : its.toArray[i]? = none := by
        have := Vals.none_of r hx
        simpa using this
      exact ⟨ys, by rw [List.length_cons]; omega, by rw [List.filterMap_cons, e]; exact h2⟩
    | some y =>
      obtain ⟨u, e1, e2⟩ := Vals.get r hx
      have e : its.toArray[i]? = some u := by simpa using e1
      exact ⟨y :: ys, by rw [List.length_cons, List.length_cons]; omega, by rw [List.filterMap_cons, e]; exact .cons e2 h2⟩
section
variable {X : Cx}
def tBack (K : PySem.W.Frag) (te : TE) : TE := fun σ H Q => te σ H fun x H1 => ∃ a xs, x = .ref a ∧ SqL K H1 a xs ∧ ∀ ys p, ys.length ≤ xs.length → H1 p = none → Q (.ref p) (upd H1 p (.lst ys))
theorem pe_back {e : Expr} {te : TE} {k k' : Nat} {p1 p2 p3 p4 p5 pos : Pos} (he : PE X e te) : PE X (.Subscript e (.Slice (some (.UnaryOp .USub (.Constant (.int 2) k' p4) p5)) none (some (.UnaryOp .USub (.Constant (.int 1) k p1) p2)) p3) pos) (tBack X.K te) := by
  refine ⟨fun pins s σ H Q I h => ?_⟩
  refine Subscript_ (thn (he.run pins s σ H _ I h) fun v s1 ⟨x, H1, I1, r1, q1⟩ => ?_)
  obtain ⟨a, xs, rfl, hx, q⟩ := q1
  cases r1
  have h2 : PO X (some (.UnaryOp .USub (.Constant (.int 2) k' p4) p5)) (tPart (tUn (rU fun i => .int (-i)) (tC (.int 2)))) := po_some (pe_un un_neg pe_int)
  have h1 : PO X (some (.UnaryOp .USub (.Constant (.int 1) k p1) p2)) (tPart (tUn (rU fun i => .int (-i)) (tC (.int 1)))) := po_some (pe_un un_neg pe_int)
  refine wpAny_Slice (thn (h2.run pins s1 σ H1 (fun o J => o = some (-2) ∧ J = H1) I1 ⟨2, rfl, -2, rfl, rfl, rfl⟩) fun vl s2 ⟨_, H2, I2, pl, e1, e2⟩ => ?_)
  subst e1 e2
  refine thn (po_none.run pins s2 σ H2 (fun o J => o = none ∧ J = H2) I2 ⟨rfl, rfl⟩) fun vu s3 ⟨_, H3, I3, pu, e3, e4⟩ => ?_
  subst e3 e4
  refine thn (h1.run pins s3 σ H3 (fun o J => o = some (-1) ∧ J = H3) I3 ⟨1, rfl, -1, rfl, rfl, rfl⟩) fun vs s4 ⟨_, H4, I4, ps, e5, e6⟩ => ?_
  subst e5 e6
  have I5 : Inv X pins σ H4 { s4 with heap := s4.heap.push { cls := .type "slice", data := .fields #[vl, vu, vs] } } := I4.kept (t' := s4.toks) fun b ob z => Heap.get?_push_of_some _ z
  obtain ⟨its, r, ht, hz⟩ := I5.list hx
  have hlen := r.length
  show wpAny _ _ (subscriptTail e _ (.ref a) (.ref s4.heap.objs.size)) _ _ { s4 with heap := s4.heap.push { cls := .type "slice", data := .fields #[vl, vu, vs] } }
  refine tail_any (ops := [.ref a, .ref s4.heap.objs.size]) ht.isList.typeIs slot_list_getitem.lookup ?_ (by with_unfolding_all rfl)
  refine wpAny_getItem_list_slice ht.isList (Heap.IsSliceOf.new _ vl vu vs) pl pu ps (by decide) ?_ (by rw [List.size_toArray]; omega)
  unfold slicePick
  obtain ⟨ys, l1, l2⟩ := pick_vals r (sliceRange (sliceBounds (some (-2)) none (some (-1)) its.toArray.size).1 (sliceBounds (some (-2)) none (some (-1)) its.toArray.size).2.1 (sliceBounds (some (-2)) none (some (-1)) its.toArray.size).2.2)
  have hy : ys.length ≤ xs.length := by
    have := back_len its.toArray.size
    rw [List.size_toArray] at this l1
    omega
  refine ⟨.ref _, _, I5.laid (t' := s4.toks) (o := .lst ys) (fun b ob z => Heap.get?_push_of_some _ z) (Nat.le_refl _) ?_, rfl, q ys _ hy (I5.hok.fresh (Nat.le_refl _))⟩
  exact ⟨by omega, _, 0, l2, Heap.get?_push_size _ rfl⟩
end
/-! ### a, b = a list of two -/
section
variable {prog : Program} {w : World} {A : Around} {E : Value → Shared → Prop} {s : Shared}
theorem unpack_two {l : Addr} {x y : Value} {Q : List Value → Shared → Prop} (hh : A.handled = none) (hl : s.heap.IsList l #[x, y])
    (hQ : ∀ h', Heap.ExtBut s.heap.objs.size s.heap h' → Q [x, y] { s with heap := h' }) : wpAny (model prog w) A (unpackItems (.ref l) 2 none) Q E s := by
  have hlt : l ≠ s.heap.objs.size := by obtain ⟨o, ho, _⟩ := hl; exact Nat.ne_of_lt (Heap.lt_size ho)
  unfold unpackItems
  refine wpAny_bind ?_
  unfold notIterableAtAll
  refine wpAny_bind (wpAny_specialOf hl.typeIs slot_list_iter.lookup ?_)
  refine wpAny_pure ?_
  simp only [Bool.false_eq_true, if_false]
  refine wpAny_bind (wpAny_holding (wpAny_pyIter_list hl ?_))
  have l0 := hl.push { cls := .type "list_iterator", data := .fields #[.ref l, .int 0 0] }
  refine wpAny_bind (wpAny_holding ?_)
  show wpAny _ _ (pyNext (.ref s.heap.objs.size) >>= _) _ _ _
  refine wpAny_bind (wpAny_pyNext_list_item (i := 0) ⟨_, Heap.get?_push_size _ rfl, rfl, rfl⟩ l0 rfl fun h₁ i₁ k₁ => ?_)
  have l1 : h₁.IsList l #[x, y] := l0.extBut k₁.extBut hlt
  refine wpAny_bind (wpAny_holding ?_)
  show wpAny _ _ (pyNext (.ref s.heap.objs.size) >>= _) _ _ _
  refine wpAny_bind (wpAny_pyNext_list_item (i := 1) i₁ l1 rfl fun h₂ i₂ k₂ => ?_)
  have l2 : h₂.IsList l #[x, y] := l1.extBut k₂.extBut hlt
  refine wpAny_bind (wpAny_holding (wpAny_pure (wpAny_pure (wpAny_pure ?_))))
  rw [if_neg (by simp)]
  refine wpAny_bind (wpAny_holding (wpAny_pyNext_list_end (i := 2) hh i₂ l2 rfl fun h₃ k₃ => ?_))
  simp only [Option.isSome_none, Bool.false_eq_true, if_false]
  exact wpAny_pure (hQ h₃ fun b o hb e => k₃ b o hb (k₂.extBut b o hb (k₁.extBut b o hb (Heap.get?_push_of_some _ e))))
end
section
variable {X : Cx} {pos : Pos}
def gTwo (K : PySem.W.Frag) (t : TGs) : TG := fun v σ H Q => ∃ a x y, v = .ref a ∧ SqL K H a [x, y] ∧ t [x, y] σ H Q
theorem pg_two {es : List Expr} {k : Nat} {t : TGs} (hc : X.calm = true) (h : PGs X es t) (hn : (assignEach es X.env).length = 2 := by rfl) (hst : (assignEach es X.env).findIdx? (·.1) = none := by rfl) : PG X (.Tuple es k pos) (gTwo X.K t) := by
  refine ⟨fun pins s σ H v u Q I r hw => ?_⟩
  obtain ⟨a, x, y, rfl, hq, hw⟩ := hw
  cases r
  obtain ⟨its, rv, ht, hz⟩ := I.list hq
  obtain ⟨u1, u2, rfl, r1, r2⟩ := vals2 rv
  rw [PyProof.Rows.assign_Tuple]
  refine wpAny_bind (wpAny_standAt ?_)
  unfold unpack
  rw [hn, hst]
  refine wpAny_bind (wpAny_holding (unpack_two (I.ok.hd hc) ht.isList fun h' hx => ?_))
  have I1 : Inv X pins σ H { s with heap := h' } := I.kept (t' := s.toks) fun b o e => hx b o (Nat.ne_of_lt (Heap.lt_size e)) e
  exact h.run pins _ σ H _ _ Q I1 (.cons r1 (.cons r2 .nil)) hw
end
end Rd
/-! sorted of texts and of pairs of texts, as one function -/
namespace Rd
open PySem PySem.Spec L2
open PyProof.Rows hiding St
/-- texts in their order -/
def leS (a b : Str) : Bool := decide (a.cps.toList ≤ b.cps.toList)
def srtS (xs : List Str) : List Str := xs.mergeSort leS
/-- pairs of texts in their order, whatever they are bound to -/
def encP (p : Str × Str) : PyData := .tuple [.str p.1, .str p.2]
def leP : Str × Str → Str × Str → Bool := PySem.W.dataLe false encP
def srtP (ps : List (Str × Str)) : List (Str × Str) := ps.mergeSort leP
def srtA (bs : List (Addr × Str × Str)) : List (Addr × Str × Str) := bs.mergeSort (fun a b => leP a.2 b.2)
theorem le_total (f : α → PyData) : PySem.W.TotalLe (PySem.W.dataLe false f) := by
  unfold PySem.W.dataLe
  exact PySem.W.sortLe_total _ _ _
theorem leS_total : PySem.W.TotalLe leS := by
  have h := le_total PyData.str
  have e : PySem.W.dataLe false PyData.str = leS := PySem.W.dataLe_str (fun b => b)
  rw [e] at h
  exact h
theorem leP_total : PySem.W.TotalLe leP := le_total encP
theorem srtA_snd (bs : List (Addr × Str × Str)) : (srtA bs).map (·.2) = srtP (bs.map (·.2)) := PySem.W.sort_maps (fun p : Addr × Str × Str => p.2) fun _ _ _ _ => rfl
theorem srtA_perm (bs : List (Addr × Str × Str)) : (srtA bs).Perm bs := List.mergeSort_perm _ _
theorem srtS_perm (xs : List Str) : (srtS xs).Perm xs := List.mergeSort_perm _ _
theorem srtP_perm (xs : List (Str × Str)) : (srtP xs).Perm xs := List.mergeSort_perm _ _
theorem srtP_idem (xs : List (Str × Str)) : srtP (srtP xs) = srtP xs := List.mergeSort_of_pairwise (PySem.W.sort_pairwise leP_total xs)
theorem leS_antisymm {a b : Str} (h1 : leS a b = true) (h2 : leS b a = true) : a = b := by
  have e : a.cps.toList = b.cps.toList := List.le_antisymm (of_decide_eq_true h1) (of_decide_eq_true h2)
  cases a
  cases b
  simp only [Str.mk.injEq]
  exact Array.toList_inj.mp e
/-- a sorted arrangement is the one -/
theorem srtS_of {xs ys : List Str} (p : ys.Perm xs) (h : ys.Pairwise fun a b => leS a b = true) : ys = srtS xs := by
  refine List.Perm.eq_of_pairwise (le := fun a b => leS a b = true) ?_ h (PySem.W.sort_pairwise leS_total xs) (p.trans (srtS_perm xs).symm)
  intro a b _ _ h1 h2
  exact leS_antisymm h1 h2
theorem rising_pw : ∀ {x : Str} {xs : List Str}, risingS x xs = true → (x :: xs).Pairwise fun a b => leS a b = true
  | x, [], _ => List.pairwise_cons.mpr ⟨(fun _ h => by simp at h), List.Pairwise.nil⟩
  | x, y :: r, h => by
    obtain ⟨h1, h2⟩ := Bool.and_eq_true_iff.mp (show (!ltCps y.cps.toList x.cps.toList && risingS y r) = true from h)
    have ih := rising_pw h2
    have e : leS x y = true := by
      unfold leS
      rw [← PySem.W.not_lt_str, ← ltCps_eq]
      exact h1
    refine List.pairwise_cons.mpr ⟨fun z hz => ?_, ih⟩
    rcases List.mem_cons.mp hz with q | q
    · rw [q]
      exact e
    · exact leS_total.trans x y z e ((List.pairwise_cons.mp ih).1 z q)
theorem sorted_pw : ∀ {xs : List Str}, sortedS xs = true → xs.Pairwise fun a b => leS a b = true
  | [], _ => List.Pairwise.nil
  | _ :: _, h => rising_pw h
theorem each_strs : ∀ {xs : List Str} {us : List Value}, Vals (xs.map V.str) us → PySem.W.EachIs (fun v b => ∃ t, v = Value.str b t) us xs
  | [], _, .nil => .nil
  | _ :: _, _, .cons r t => .cons r (each_strs t)
theorem strs_each : ∀ {xs : List Str} {us : List Value}, PySem.W.EachIs (fun v b => ∃ t, v = Value.str b t) us xs → Vals (xs.map V.str) us
  | [], _, .nil => .nil
  | _ :: _, _, .cons r t => .cons r (strs_each t)
theorem each_refs : ∀ {bs : List (Addr × Str × Str)} {us : List Value}, Vals (bs.map fun b => V.ref b.1) us → PySem.W.EachIs (fun v b => v = Value.ref b.1) us bs
  | [], _, .nil => .nil
  | _ :: _, _, .cons r t => .cons r (each_refs t)
theorem refs_each : ∀ {bs : List (Addr × Str × Str)} {us : List Value}, PySem.W.EachIs (fun v b => v = Value.ref b.1) us bs → Vals (bs.map fun b => V.ref b.1) us
  | [], _, .nil => .nil
  | _ :: _, _, .cons r t => .cons r (refs_each t)
theorem each_and {α β : Type} {R S : α → β → Prop} : ∀ {as : List α} {bs : List β}, PySem.W.EachIs R as bs → (∀ a b, b ∈ bs → R a b → S a b) → PySem.W.EachIs S as bs
  | _, _, .nil, _ => .nil
  | _, _, .cons r t, f => .cons (f _ _ List.mem_cons_self r) (each_and t fun a b hb => f a b (List.mem_cons_of_mem _ hb))
theorem alike_strs (xs : List Str) : PySem.W.AllAlike (xs.map PyData.str) := by
  intro d hd d' hd'
  obtain ⟨x, _, rfl⟩ := List.mem_map.mp hd
  obtain ⟨y, _, rfl⟩ := List.mem_map.mp hd'
  simp only [PySem.W.alike]
theorem alike_pairs (bs : List (Addr × Str × Str)) : PySem.W.AllAlike (bs.map fun b => encP b.2) := by
  intro d hd d' hd'
  obtain ⟨x, _, rfl⟩ := List.mem_map.mp hd
  obtain ⟨y, _, rfl⟩ := List.mem_map.mp hd'
  simp [encP, PySem.W.alike, PySem.W.alikeAll]
section
variable {X : Cx}
/-- sorted(texts) -/
theorem cr_srtS (hu : X.A.units + 64 < cLine) : CallR X (.builtin "sorted") (fun vs H Q => ∃ (a : Addr) (xs : List Str), vs = [.ref a] ∧ SqL X.K H a (xs.map V.str) ∧ ∀ p, H p = none → Q (.ref p) (upd H p (.lst ((srtS xs).map V.str)))) := by
  intro pins s σ H vs us Q I r q
  obtain ⟨a, xs, rfl, hd, q⟩ := q
  obtain ⟨u, rfl, rx⟩ := vals1 r
  cases rx
  obtain ⟨its, rv, pl, hz⟩ := I.list hd
  have hz' : xs.length ≤ sizeLine := by rw [List.length_map] at hz; exact hz
  refine PySem.W.sorted_data (enc := PyData.str) (bs := xs) (vs := its) pl.isList (each_strs rv) (each_and (each_strs rv) fun v b _ e => ?_) (alike_strs xs) (.inr ?_) hz' (fun b _ => ?_) fun out ho hq => ?_
  · obtain ⟨t, rfl⟩ := e
    exact ⟨_, Reads.str b t⟩
  · intro d hd
    obtain ⟨x, _, rfl⟩ := List.mem_map.mp hd
    exact ⟨(fun z => by cases z), (fun _ z => by cases z)⟩
  · rw [show (PyData.str b).depth = 0 by simp only [PyData.depth]]
    omega
  · have e0 : PySem.W.dataLe false PyData.str = leS := PySem.W.dataLe_str (fun b => b)
    rw [e0] at hq
    obtain ⟨ep, he⟩ := PyProof.Rows.sortedAll_at s.heap its out.toArray
    refine ⟨.ref _, upd H (s.heap.objs.size + 1) (.lst ((srtS xs).map V.str)), I.laid (t' := s.toks) (fun _ _ => PyProof.Rows.sortedAll_old) (Nat.le_succ _) ⟨?_, out, ep, strs_each hq, he⟩, rfl, q _ (I.hok.fresh (Nat.le_succ _))⟩
    rw [List.length_map, (srtS_perm xs).length_eq]
    exact hz'
/-- sorted(pairs of texts): their own tuples, in order -/
theorem cr_srtP (hu : X.A.units + 64 < cLine) : CallR X (.builtin "sorted") (fun vs H Q => ∃ (a : Addr) (bs : List (Addr × Str × Str)), vs = [.ref a] ∧ SqL X.K H a (bs.map fun b => V.ref b.1) ∧ (∀ b ∈ bs, SqT X.K H b.1 [.str b.2.1, .str b.2.2]) ∧
    ∀ p, H p = none → Q (.ref p) (upd H p (.lst ((srtA bs).map fun b => V.ref b.1)))) := by
  intro pins s σ H vs us Q I r q
  obtain ⟨a, bs, rfl, hd, ht, q⟩ := q
  obtain ⟨u, rfl, rx⟩ := vals1 r
  cases rx
  obtain ⟨its, rv, pl, hz⟩ := I.list hd
  have hz' : bs.length ≤ sizeLine := by rw [List.length_map] at hz; exact hz
  refine PySem.W.sorted_data (enc := fun b : Addr × Str × Str => encP b.2) (bs := bs) (vs := its) pl.isList (each_refs rv) (each_and (each_refs rv) fun v b hb e => ?_) (alike_pairs bs) (.inl ?_) hz' (fun b _ => ?_) fun out ho hq => ?_
  · subst e
    exact Dp.reads I (encP b.2) (.ref b.1) _ (.tup (ht b hb) (.cons (.str _) (.cons (.str _) .nil))) rfl
  · intro d hd
    obtain ⟨x, _, rfl⟩ := List.mem_map.mp hd
    exact ⟨_, _, rfl⟩
  · rw [show (encP b.2).depth = 1 by simp [encP, PyData.depth, PyData.depthAll]]
    omega
  · obtain ⟨ep, he⟩ := PyProof.Rows.sortedAll_at s.heap its out.toArray
    refine ⟨.ref _, upd H (s.heap.objs.size + 1) (.lst ((srtA bs).map fun b => V.ref b.1)), I.laid (t' := s.toks) (fun _ _ => PyProof.Rows.sortedAll_old) (Nat.le_succ _) ⟨?_, out, ep, refs_each hq, he⟩, rfl, q _ (I.hok.fresh (Nat.le_succ _))⟩
    rw [List.length_map, (srtA_perm bs).length_eq]
    exact hz'
/-- sorted(d) of a dict with text keys -/
theorem cr_srtD (hc : X.calm = true) : CallR X (.builtin "sorted") (fun vs H Q => ∃ (a : Addr) (kvs : List (Key × V)) (ks : List Str), vs = [.ref a] ∧ Rd H a (.dK kvs) ∧ kvs.map (·.1) = ks.map Sum.inr ∧ ks.length < 64 ∧ ∀ p, H p = none → Q (.ref p) (upd H p (.lst ((srtS ks).map V.str)))) := by
  intro pins s σ H vs us Q I r q
  obtain ⟨a, kvs, ks, e1, e2, e3, e4, q⟩ := q
  refine call_sortedD hc pins s σ H vs us Q I r ⟨a, kvs, ks, e1, e2, e3, e4, fun ys p hp hs hn => ?_⟩
  rw [srtS_of hp ?_]
  · exact q p hn
  · exact sorted_pw hs
end
end Rd
/-! a dict whose keys are positions: (text, tuple of ints) -/
namespace Rd
open PySem PySem.Spec L2
open PyProof.Rows hiding St
abbrev Pt := Str × List Int
def kP (p : Pt) : NestedKey := .tup [.text p.1, .tup (p.2.map NestedKey.num)]
theorem num_inj : ∀ {a b : List Int}, a.map NestedKey.num = b.map NestedKey.num → a = b
  | [], [], _ => rfl
  | [], _ :: _, e => by simp at e
  | _ :: _, [], e => by simp at e
  | x :: xs, y :: ys, e => by
    rw [List.map_cons, List.map_cons] at e
    injection e with e1 e2
    injection e1 with e1
    rw [e1, num_inj e2]
theorem kP_inj {a b : Pt} (e : kP a = kP b) : a = b := by
  unfold kP at e
  injection e with e
  injection e with e1 e2
  injection e1 with e1
  injection e2 with e2 _
  injection e2 with e2
  exact Prod.ext e1 (num_inj e2)
/-- an entry: the position, its tuple's address, the value -/
abbrev Ent := Pt × Addr × V
/-- at t stands the position p -/
def PtAt (H : Hp) (t : Addr) (p : Pt) : Prop := ∃ td, H t = some (.tup [.str p.1, .ref td]) ∧ H td = some (.tup (p.2.map V.int))
theorem PtAt.same {H H' : Hp} {t : Addr} {p : Pt} (s : Same H H') (h : PtAt H t p) : PtAt H' t p := let ⟨td, h1, h2⟩ := h; ⟨td, s _ _ h1, s _ _ h2⟩
theorem PtAt.inj {H : Hp} {t : Addr} {p q : Pt} (h : PtAt H t p) (h' : PtAt H t q) : p = q := by
  obtain ⟨td, h1, h2⟩ := h
  obtain ⟨te, h3, h4⟩ := h'
  rw [h1] at h3
  injection h3 with h3
  injection h3 with h3
  injection h3 with a b
  injection a with a
  injection b with b _
  injection b with b
  subst b
  rw [h2] at h4
  injection h4 with h4
  injection h4 with h4
  refine Prod.ext a ?_
  have inj : ∀ {xs ys : List Int}, xs.map V.int = ys.map V.int → xs = ys := by
    intro xs
    induction xs with
    | nil =>
      intro ys e
      cases ys with
      | nil => rfl
      | cons _ _ => simp at e
    | cons x xs ih =>
      intro ys e
      cases ys with
      | nil => simp at e
      | cons y ys =>
        rw [List.map_cons, List.map_cons] at e
        injection e with e1 e2
        injection e1 with e1
        rw [e1, ih e2]
  exact inj h4
abbrev EntR : Ent → NestedKey × Addr × Value → Prop := fun p q => kP p.1 = q.1 ∧ p.2.1 = q.2.1 ∧ RelV p.2.2 q.2.2
def NdPhi (P : Program) (w : World) (a : Addr) (xs : List Ent) (h : Heap) : Prop := xs.length ≤ sizeLine ∧ (a == sysModules) = false ∧
  ∃ (us : List (NestedKey × Addr × Value)) (o : Obj) (es : Array DictEntry) (ep : Nat), Paired EntR xs us ∧ h.get? a = some o ∧ o.ExactDict ∧ o.data = .dict es ep ∧ es.toList = us.map (entryOfKey (nestedKind P w)) ∧ (us.map (·.1)).Nodup
def NdO (P : Program) (w : World) (a : Addr) (xs : List Ent) : HO := .ext (NdPhi P w a xs)
theorem nd_obj {P : Program} {w : World} {H : Hp} {h : Heap} {a : Addr} {xs : List Ent} (p : NdPhi P w a xs h) : ObjOk P w H h a (NdO P w a xs) := by
  refine ⟨p, ?_, fun h1 h2 q k => ?_⟩
  · obtain ⟨_, _, us, o, es, ep, _, e, _⟩ := p
    exact ⟨o, e⟩
  · obtain ⟨z, y, us, o, es, ep, r, e, c⟩ := q
    exact ⟨z, y, us, o, es, ep, r, k o e, c⟩
/-- the dict at a, its keys' tuples there -/
structure NdAt (P : Program) (w : World) (H : Hp) (a : Addr) (xs : List Ent) : Prop where
  rd : Rd H a (NdO P w a xs)
  keys : ∀ x ∈ xs, PtAt H x.2.1 x.1
def ndGet (xs : List Ent) (p : Pt) : Option V := (xs.find? fun x => decide (x.1 = p)).map (·.2.2)
section
variable {P : Program} {w : World} {H : Hp} {h : Heap} {a t : Addr} {p : Pt} {xs : List Ent}
theorem all_nums : ∀ {ds : List Int} {us : List Value}, Vals (ds.map V.int) us → NestedAll h (ds.map NestedKey.num) us
  | [], _, .nil => .nil
  | _ :: _, _, .cons r q => by
    obtain ⟨t, rfl⟩ := r
    exact .cons (.int _ t) (all_nums q)
theorem nums_depth : ∀ ds : List Int, NestedKey.depthAll (ds.map NestedKey.num) = 0
  | [] => by simp [NestedKey.depthAll]
  | d :: ds => by simp [NestedKey.depthAll, NestedKey.depth, nums_depth ds]
theorem pt_is (ok : HOk P w H h) (e : PtAt H t p) : (nestedKind P w).is h (kP p) t := by
  obtain ⟨td, h1, h2⟩ := e
  obtain ⟨_, its, r, o, g1, g2, n, g3⟩ := (show ObjOk P w H h t (.tup [.str p.1, .ref td]) from ok t _ h1)
  obtain ⟨_, its2, r2, o2, k1, k2, n2, k3⟩ := (show ObjOk P w H h td (.tup (p.2.map V.int)) from ok td _ h2)
  obtain ⟨u1, u2, rfl, ⟨tk, rfl⟩, q2⟩ := vals2 r
  cases q2
  refine ⟨.tup g1 g2 g3 (.cons (.text _ tk) (.cons (.tup k1 k2 k3 (all_nums r2)) .nil)), ?_⟩
  unfold kP
  simp [NestedKey.depth, NestedKey.depthAll, nums_depth]
theorem ent_get (p : Pt) : ∀ {xs : List Ent} {us : List (NestedKey × Addr × Value)}, Paired EntR xs us → RelO (ndGet xs p) ((atKey us (kP p)).map (·.2))
  | _, _, .nil => True.intro
  | x :: xs, u :: us, .cons r q => by
    obtain ⟨r1, r2, r3⟩ := r
    have ih := ent_get p q
    by_cases e : x.1 = p
    · have e' : u.1 = kP p := by rw [← r1, e]
      have a1 : ndGet (x :: xs) p = some x.2.2 := by simp [ndGet, List.find?_cons, e]
      have a2 : atKey (u :: us) (kP p) = some u.2 := by simp [atKey, List.find?_cons, e']
      rw [a1, a2]
      exact r3
    · have e' : ¬ u.1 = kP p := fun z => e (kP_inj (r1.trans z))
      have a1 : ndGet (x :: xs) p = ndGet xs p := by simp [ndGet, List.find?_cons, e]
      have a2 : atKey (u :: us) (kP p) = atKey us (kP p) := by simp [atKey, List.find?_cons, e']
      rw [a1, a2]
      exact ih
theorem ent_is (ok : HOk P w H h) : ∀ {xs : List Ent} {us : List (NestedKey × Addr × Value)}, Paired EntR xs us → (∀ x ∈ xs, PtAt H x.2.1 x.1) → ∀ u ∈ us, (nestedKind P w).is h u.1 u.2.1
  | _, _, .nil, _, u, hu => by simp at hu
  | x :: xs, v :: us, .cons r q, hk, u, hu => by
    rcases List.mem_cons.mp hu with e | hu
    · subst e
      rw [← r.1, ← r.2.1]
      exact pt_is ok (hk x List.mem_cons_self)
    · exact ent_is ok q (fun y hy => hk y (List.mem_cons_of_mem _ hy)) u hu
theorem nd_of (ok : HOk P w H h) (n : NdAt P w H a xs) : xs.length ≤ sizeLine ∧ (a == sysModules) = false ∧ ∃ us, Paired EntR xs us ∧ h.DictOfH (nestedKind P w) a us := by
  obtain ⟨⟨z, y, us, o, es, ep, r, e, c, d, l, nd⟩, _⟩ := (show ObjOk P w H h a (NdO P w a xs) from n.rd.ok ok)
  exact ⟨z, y, us, r, o, es, ep, e, c, d, l, ent_is ok r n.keys, nd⟩
end
section
variable {X : Cx}
def rNdNot (P : Program) (w : World) : R2 := fun x y H Q => ∃ t p a xs, x = .ref t ∧ y = .ref a ∧ PtAt H t p ∧ NdAt P w H a xs ∧ Q (.bl (!(ndGet xs p).isSome)) H
theorem op_ndNot (hu : X.A.units + 64 < cLine) : OpR X (compareOp .NotIn) (rNdNot X.prog X.w) := by
  intro pins s σ H x y v u Q I rx ry h
  obtain ⟨t, p, a, xs, rfl, rfl, hp, hn, q⟩ := h
  cases rx
  cases ry
  obtain ⟨z, lo, us, r, dd⟩ := nd_of I.hok hn
  refine wpAny_notIn_heap (knd := nestedKind X.prog X.w) (by show X.A.units + 1 + 8 < cLine; omega) (pt_is I.hok hp) lo dd ?_
  have e := (ent_get p r).isSome_eq
  rw [Option.isSome_map] at e
  rw [← e]
  exact ⟨.bl _, H, I.tok _, rfl, q⟩
def rNdIx (P : Program) (w : World) : R2 := fun x y H Q => ∃ a xs t p v, x = .ref a ∧ y = .ref t ∧ PtAt H t p ∧ NdAt P w H a xs ∧ ndGet xs p = some v ∧ Q v H
theorem ix_nd (hu : X.A.units + 64 < cLine) : IxR X (rNdIx X.prog X.w) := by
  intro value slice pins s σ H x y v u Q I rx ry h hs
  obtain ⟨a, xs, t, p, z, rfl, rfl, hp, hn, hv, q⟩ := h
  cases rx
  cases ry
  obtain ⟨_, lo, us, r, dd⟩ := nd_of I.hok hn
  obtain ⟨w', hw, rw'⟩ := RelO.some_of (v := z) (o := (atKey us (kP p)).map (·.2)) (by rw [← hv]; exact ent_get p r)
  obtain ⟨e, he, he2⟩ := Option.map_eq_some_iff.mp hw
  refine tail_any (ops := [.ref a, .ref t]) dd.typeIs F.slot_dict_getitem.lookup (wpAny_getItem_heap (knd := nestedKind X.prog X.w) (by show X.A.units + 1 + 8 < cLine; omega) (pt_is I.hok hp) dd he ?_) hs
  rw [he2]
  exact ⟨z, H, I.tok _, rw', q⟩
def rNdSet (P : Program) (w : World) : TSet := fun o i v H Q => ∃ a xs t p, o = .ref a ∧ i = .ref t ∧ PtAt H t p ∧ H a = some (NdO P w a xs) ∧ (∀ x ∈ xs, PtAt H x.2.1 x.1) ∧ ndGet xs p = none ∧ xs.length < sizeLine ∧ Q (upd H a (NdO P w a (xs ++ [(p, t, v)])))
theorem set_nd (hu : X.A.units + 64 < cLine) : PSet X (rNdSet X.prog X.w) := by
  intro pins s σ H o i v ov iv u Q I ro ri rv h
  obtain ⟨a, xs, t, p, rfl, rfl, hp, ha, hk, hg, hz, q⟩ := h
  cases ro
  cases ri
  obtain ⟨_, lo, us, r, dd⟩ := nd_of I.hok ⟨.inl ha, hk⟩
  have hl : xs.length = us.length := Paired.length r
  have hn : atKey us (kP p) = none := by
    have e := (ent_get p r).isSome_eq
    rw [hg, Option.isSome_map] at e
    cases q : atKey us (kP p) with
    | none => rfl
    | some _ =>
      rw [q] at e
      cases e
  refine wpAny_setItem_heap (knd := nestedKind X.prog X.w) (hsz := by omega) (by show X.A.units + 1 + 8 < cLine; omega) (pt_is I.hok hp) dd fun h' dd' hs => ?_
  rw [storedH_new hn] at dd'
  obtain ⟨ob, es, ep, g1, g2, g3, g4, _, g5⟩ := dd'
  refine ⟨_, I.write (x := a) (e := a) (by rw [ha]; exact True.intro) (.inl rfl) (fun b z hb e => (hs.2 b hb).trans e) ⟨ob, g1⟩ (nd_obj ⟨?_, lo, _, ob, es, ep, Paired.snoc r ⟨rfl, rfl, rv⟩, g1, g2, g3, g4, g5⟩), q⟩
  rw [List.length_append, List.length_singleton]
  omega
/-! ### for k in d -/
def ItN (P : Program) (w : World) (d : Addr) (o : Obj) (xs : List Ent) : It := ⟨fun i H => H d = some (.frz o (NdO P w d xs)) ∧ i < xs.length, fun i H x H' => H' = H ∧ ∃ e, xs[i]? = some e ∧ x = .ref e.2.1, fun i H => H d = some (.frz o (NdO P w d xs)) ∧ xs.length ≤ i⟩
theorem walk_nd {P : Program} {w : World} {d : Addr} {o : Obj} {xs : List Ent} : Walk (ItN P w d o xs) xs.length (fun H => H d = some (.frz o (NdO P w d xs))) (fun i H x H' => H' = H ∧ ∃ e, xs[i]? = some e ∧ x = .ref e.2.1) :=
  ⟨fun _ _ hi q => ⟨q, hi⟩, fun _ q => ⟨q, Nat.le_refl _⟩, fun _ _ _ _ _ _ y => y⟩
theorem nd_frz {pins : List (Addr × Obj)} {σ : St} {H : Hp} {s : Shared} {d : Addr} {o : Obj} {xs : List Ent} (I : Inv X pins σ H s) (h : H d = some (.frz o (NdO X.prog X.w d xs))) :
    (d == sysModules) = false ∧ s.heap.get? d = some o ∧ o.ExactDict ∧ ∃ (es : Array DictEntry) (ep : Nat), o.data = .dict es ep ∧ es.size = xs.length ∧ ∀ (i : Nat) (e : Ent), xs[i]? = some e → ∃ en : DictEntry, es[i]? = some en ∧ en.key = .ref e.2.1 := by
  obtain ⟨hd, ⟨z, y, us, o', es, ep, r, e, c, dt, l, nd⟩, _⟩ := (show ObjOk X.prog X.w H s.heap d (.frz o (NdO X.prog X.w d xs)) from I.hok d _ h)
  rw [hd] at e
  cases e
  have hl : xs.length = us.length := Paired.length r
  refine ⟨y, hd, c, es, ep, dt, by rw [size_of_entries l, hl], fun i e he => ?_⟩
  obtain ⟨b, hb, e1, e2, _⟩ := paired_get r he
  have q := entry_at l i
  rw [hb] at q
  exact ⟨_, q, by rw [e2] <;> rfl⟩
theorem turn_nd {P : Program} {w : World} {K : PySem.W.Frag} {tg : Expr} {d : Addr} {o : Obj} {es : Array DictEntry} {ep : Nat} {xs : List Ent} (it : Addr) (hod : o.data = .dict es ep) :
    Turn P w K tg (ItN P w d o xs) [it] it (fun i h => h.IsKeyIter it d i xs.length ep) where
  mem := List.mem_singleton.mpr rfl
  obj := fun i h st b hb => by
    obtain rfl := List.mem_singleton.mp hb
    obtain ⟨oi, e, c, dd⟩ := st
    exact ⟨oi, e, fun v z => by rw [dd] at z; cases z⟩
  keep := fun i h h' st k => st.at fun oi e => k it (List.mem_singleton.mpr rfl) oi e
  item := by
    intro X hP hw hK hc i pins s σ H E I hf st hg
    subst hP hw hK
    obtain ⟨hd, hi⟩ := hg
    obtain ⟨f0, f1, f2, f3, f4, f5⟩ := hf it (List.mem_singleton.mpr rfl)
    obtain ⟨lo, hgd, hx, es', ep', hdt, hsz, ent⟩ := nd_frz I hd
    obtain ⟨rfl, rfl⟩ := dict_ep hod hdt
    obtain ⟨e, he⟩ : ∃ e, xs[i]? = some e := ⟨xs[i], List.getElem?_eq_getElem hi⟩
    obtain ⟨en, hen, hkey⟩ := ent i e he
    refine next_key_item st hgd hdt hsz hen fun h' st' sb => ?_
    have I1 : Inv X pins σ H { s with heap := h' } := I.turned (t' := s.toks) (fun b ob hb z => (sb.2 b hb).trans z) f0 f1 f3 f4 f5
    obtain ⟨oi, g, c, dd⟩ := id st'
    exact ⟨en.key, rfl, go_of (s := { s with heap := h' }) g c dd (by decide) ⟨.ref e.2.1, H, I1, hkey, ⟨rfl, e, he, rfl⟩, st', fun b hb => (hf b hb).1⟩⟩
  done := by
    intro X hP hw hK hc i pins s σ H E I hf st hg
    subst hP hw hK
    obtain ⟨hd, hi⟩ := hg
    obtain ⟨f0, f1, f2, f3, f4, f5⟩ := hf it (List.mem_singleton.mpr rfl)
    obtain ⟨lo, hgd, hx, es', ep', hdt, hsz, ent⟩ := nd_frz I hd
    obtain ⟨rfl, rfl⟩ := dict_ep hod hdt
    exact next_key_end (I.ok.hd hc) st hgd hdt hsz hi fun h' eb => ⟨rfl, I.turned (t' := s.toks) (fun b ob hb e => eb b ob hb e) f0 f1 f3 f4 f5⟩
  self := fun A i s Q E st h => by
    refine wpAny_pyIter_slot st.typeIs F.slot_dict_keyiterator_iter (wpAny_call_entry F.slot_dict_keyiterator_iter st.typeIs F.entry_dict_keyiterator_iter ?_ (F.args_dict_keyiterator_iter_1 _))
    show wpAny _ _ (ret (.ref it)) _ _ s
    exact wpAny_pure ⟨_, rfl, "dict_keyiterator", _, st.typeIs, F.slot_dict_keyiterator_next.lookup, h⟩
def iNd (P : Program) (w : World) (td : TE) : TI := fun σ H R => td σ H fun x H1 => ∃ d o xs, x = .ref d ∧ H1 d = some (.frz o (NdO P w d xs)) ∧ R (ItN P w d o xs) H1
theorem pi_nd {tg e : Expr} {td : TE} (he : PE X e td) : PI X tg e (iNd X.prog X.w td) := by
  refine ⟨fun pins s σ H R I h => ?_⟩
  refine thn (he.run pins s σ H _ I h) fun u s1 ⟨x, H1, I1, rx, d, o, xs, ex, hd, q⟩ => ?_
  subst ex
  obtain rfl : u = Value.ref d := rx
  obtain ⟨lo, hgd, hx, es, ep, hdt, hsz, ent⟩ := nd_frz I1 hd
  refine iter_keys lo hgd hx hdt (pi_one (tk := s1.toks) I1 _ (turn_nd _ hdt) ⟨_, Heap.get?_push_size _ rfl, rfl, ?_⟩ q)
  rw [hsz] <;> rfl
/-! ### {k: v} -/
theorem nd_empty {P : Program} {w : World} {H : Hp} (h : Heap) (hb : sysModules < h.objs.size) : ObjOk P w H (h.push { cls := .type "dict", data := .dict #[] }) h.objs.size (NdO P w h.objs.size []) := by
  obtain ⟨o, es, ep, g1, g2, g3, g4, _⟩ := Heap.DictOfH.new (knd := nestedKind P w) h
  exact nd_obj ⟨Nat.zero_le _, beq_eq_false_iff_ne.mpr (Nat.ne_of_gt hb), [], o, es, ep, .nil, g1, g2, g3, g4, List.nodup_nil⟩
def tNd1 (P : Program) (w : World) (tk tv : TE) : TE := fun σ H Q => ∀ d, H d = none → tk σ (upd H d (NdO P w d [])) fun x H1 => tv σ H1 fun y H2 =>
  ∃ t p, x = .ref t ∧ PtAt H2 t p ∧ H2 d = some (NdO P w d []) ∧ Q (.ref d) (upd H2 d (NdO P w d [(p, t, y)]))
theorem pe_nd1 {k v : Expr} {tk tv : TE} {pos : Pos} (hu : X.A.units + 64 < cLine) (hk : PE X k tk) (hv : PE X v tv) : PE X (.Dict [some k] [v] pos) (tNd1 X.prog X.w tk tv) := by
  refine ⟨fun pins s σ H Q I q => ?_⟩
  have hn := I.hok.fresh (Nat.le_refl s.heap.objs.size)
  have I1 := I.laid (a := s.heap.objs.size) (o := NdO X.prog X.w s.heap.objs.size []) (h' := s.heap.push { cls := .type "dict", data := .dict #[] }) (t' := s.toks) (fun _ _ q => Heap.get?_push_of_some _ q) (Nat.le_refl _) (nd_empty s.heap I.big)
  have hshape : (evalEachOpt [some k] X.env).zip ((evalEach [v] X.env).map fun v => do let x ← v; standAt pos; pure x) = (pairTrees [some k] [v] X.env pos).map fun p => (some p.1, p.2) := by rfl
  rw [arm_eval_Dict, hshape, dictDisplay_pairs (pairTrees [some k] [v] X.env pos) (by intro z; cases z) (by show 1 < 17; decide)]
  refine wpAny_bind (wpAny_standAt (wpAny_bind (wpAny_subDictH (knd := nestedKind X.prog X.w) (Q := fun d s' => wpAny (model X.prog X.w) X.A (pure (Value.ref d)) (EP X pins σ Q) X.xe s') (by show X.A.units + 8 < cLine; omega) (by show 1 ≤ 15; decide) ?_)))
  refine pairTrees_cons_walk (thn (hk.run pins _ σ _ _ I1 (q _ hn)) fun u s1 ⟨x, H1, I2, rx, q1⟩ => thn (hv.run pins s1 σ H1 _ I2 q1) fun w2 s2 ⟨y, H2, I3, ry, q2⟩ => pairTrees_nil_walk ?_)
  obtain ⟨t, p, rfl, hp, hd, q3⟩ := q2
  cases rx
  obtain ⟨_, lo, us, r, dd⟩ := nd_of I3.hok ⟨.inl hd, fun x hx => by simp at hx⟩
  cases r
  refine ⟨[(kP p, t, w2)], ⟨rfl, rfl, pt_is I3.hok hp, trivial⟩, dd, fun h' tk dm hs => wpAny_pure ?_⟩
  have e : storedAllH ([] : List (NestedKey × Addr × Value)) [(kP p, t, w2)] = [(kP p, t, w2)] := by rfl
  rw [e] at dm
  obtain ⟨o, es, ep, g1, g2, g3, g4, _, g5⟩ := dm
  refine ⟨.ref s.heap.objs.size, _, I3.write (t' := tk) (x := s.heap.objs.size) (e := s.heap.objs.size) (by rw [hd]; exact True.intro) (.inl rfl) (fun b z hb e => (hs.2 b hb).trans e) ⟨o, g1⟩ (nd_obj ⟨?_, lo, _, o, es, ep, .cons ⟨rfl, rfl, ry⟩ .nil, g1, g2, g3, g4, g5⟩), rfl, q3⟩
  show 1 ≤ sizeLine
  decide
end
end Rd
/-! what stands in the heap: names, sizes, corridors; dict comprehensions over walks; binds -/
namespace Rd
open PySem PySem.Spec L2
open PyProof.Rows hiding St
/-- a dict comprehension over a walk -/
theorem dc_it {J : It} {n : Nat} {G : Hp → Prop} {Y : Nat → Hp → V → Hp → Prop} (wk : Walk J n G Y) {g : TG} {tt : TT} {tk tv : TE} {vs : List Nat} {σ : L2.St} {H1 : Hp} {D : Addr} {Qd : Hp → Prop} (Pv : Nat → Hp → Prop)
    (h0 : Pv 0 (upd H1 D (.dK []))) (hG : ∀ i H, i ≤ n → Pv i H → G H)
    (hs : ∀ i x H H', i < n → Pv i H → Y i H x H' → g x (wipe σ vs) H' fun σ2 H2 => wipe σ2 vs = wipe σ vs ∧ tt σ2 H2 fun b H3 =>
      if b = true then tk σ2 H3 fun y H4 => tv σ2 H4 fun z H5 => ∃ kvs k, y = kV k ∧ H5 D = some (.dK kvs) ∧ kvs.length < sizeLine ∧ Pv (i + 1) (upd H5 D (.dK (putK kvs k z))) else Pv (i + 1) H3)
    (hd : ∀ H, Pv n H → Qd H) :
    ∃ W : Nat → Nat → Hp → Prop, (∃ m, W 0 m (upd H1 D (.dK []))) ∧ ∀ i m H, W i m H →
      (J.stop i H ∧ Qd H) ∨ (J.go i H ∧ ∃ Nx : Hp → Prop, (∀ H', Nx H' → ∃ m', m' < m ∧ W (i + 1) m' H') ∧ ∀ x H', J.yld i H x H' → g x (wipe σ vs) H' fun σ2 H2 => wipe σ2 vs = wipe σ vs ∧ tt σ2 H2 fun b H3 =>
        if b = true then tk σ2 H3 fun y H4 => tv σ2 H4 fun z H5 => ∃ kvs k, y = kV k ∧ H5 D = some (.dK kvs) ∧ kvs.length < sizeLine ∧ Nx (upd H5 D (.dK (putK kvs k z))) else Nx H3) := by
  refine ⟨fun i m H => m = n - i ∧ i ≤ n ∧ Pv i H, ⟨n, by simp, Nat.zero_le _, h0⟩, ?_⟩
  rintro i m H ⟨rfl, hi, p⟩
  have q := hG i H hi p
  by_cases hlt : i < n
  · exact .inr ⟨wk.goes i H hlt q, Pv (i + 1), fun H' p' => ⟨n - (i + 1), by omega, rfl, hlt, p'⟩, fun x H' y => hs i x H H' hlt p (wk.yields i H x H' hlt q y)⟩
  · have e : i = n := by omega
    subst e
    exact .inl ⟨wk.stops H q, hd H p⟩
/-! ### texts -/
def ltS (a b : Str) : Prop := a.cps.toList < b.cps.toList
instance (a b : Str) : Decidable (ltS a b) := by unfold ltS; infer_instance
/-- a corridor as it is written -/
def pr (a b : Str) : Str × Str := if ltS a b then (a, b) else (b, a)
def pvs (p : Str × Str) : List V := [.str p.1, .str p.2]
/-- the rooms joined to r, in the corridors' order -/
def nbl (ps : List (Str × Str)) (r : Str) : List Str := ps.filterMap fun p => if p.1 = r then some p.2 else if p.2 = r then some p.1 else none
/-- at l a list of corridors, each a tuple of its own -/
structure PrsAt (K : PySem.W.Frag) (H : Hp) (l : Addr) (bs : List (Addr × Str × Str)) : Prop where
  lst : H l = some (.lst (bs.map fun b => V.ref b.1))
  tup : ∀ b ∈ bs, H b.1 = some (.tup (pvs b.2))
theorem PrsAt.same {K : PySem.W.Frag} {H H' : Hp} {l : Addr} {bs : List (Addr × Str × Str)} (s : Same H H') (p : PrsAt K H l bs) : PrsAt K H' l bs := ⟨s _ _ p.lst, fun b hb => s _ _ (p.tup b hb)⟩
/-! ### dicts by lookup -/
section
variable {α : Type} {f : α → V} {k : α → Str}
theorem val_map {xs : List α} {x : α} (nd : (xs.map k).Nodup) (hx : x ∈ xs) : valV (xs.map fun y => ((Sum.inr (k y) : Key), f y)) (Sum.inr (k x)) = some (f x) := by
  induction xs with
  | nil => simp at hx
  | cons y ys ih =>
    rw [List.map_cons] at nd
    obtain ⟨h1, h2⟩ := List.nodup_cons.mp nd
    rw [List.map_cons]
    by_cases e : k y = k x
    · have e' : y = x := by
        rcases List.mem_cons.mp hx with q | q
        · exact q.symm
        · exact absurd (List.mem_map.mpr ⟨x, q, e.symm⟩) h1
      subst e'
      exact valV_pos rfl
    · have hx' : x ∈ ys := by
        rcases List.mem_cons.mp hx with q | q
        · exact absurd (by rw [q]) e
        · exact q
      rw [valV_neg (by intro z; injection z with z; exact e z)]
      exact ih h2 hx'
theorem val_map_none {xs : List α} {z : Str} (h : ¬ z ∈ xs.map k) : valV (xs.map fun y => ((Sum.inr (k y) : Key), f y)) (Sum.inr z) = none := by
  induction xs with
  | nil => rfl
  | cons y ys ih =>
    rw [List.map_cons] at h ⊢
    rw [valV_neg (by intro q; injection q with q; exact h (by rw [← q]; exact List.mem_cons_self))]
    exact ih fun q => h (List.mem_cons_of_mem _ q)
end
end Rd
/-! a building's small parts -/
namespace Rd
open PySem PySem.Spec L2
open PyProof.Rows hiding St
/-- what a plan is: rooms in order, their sizes, corridors in order -/
structure Pln where
  R : List Str
  z : Str → Nat
  ps : List (Str × Str)
def szKv (R : List Str) (z : Str → Nat) : List (Key × V) := R.map fun r => (Sum.inr r, V.int (z r))
/-- a building with its sizes -/
def SzAt (K : PySem.W.Frag) (H : Hp) (b : Addr) (R : List Str) (z : Str → Nat) : Prop := ∃ dx fs d, H b = some (.ins (cB K) dx fs) ∧ fs.lookup ("sizes" : Str) = some (V.ref d) ∧ H d = some (.dK (szKv R z))
theorem SzAt.same {K : PySem.W.Frag} {H H' : Hp} {b : Addr} {R : List Str} {z : Str → Nat} (s : Same H H') (h : SzAt K H b R z) : SzAt K H' b R z :=
  let ⟨dx, fs, d, h1, h2, h3⟩ := h; ⟨dx, fs, d, s _ _ h1, h2, s _ _ h3⟩
/-- a whole building -/
def BAt (K : PySem.W.Frag) (H : Hp) (b : Addr) (p : Pln) : Prop := ∃ dx fs d dn, ∃ na : Str → Addr, H b = some (.ins (cB K) dx fs) ∧ fs.lookup ("sizes" : Str) = some (V.ref d) ∧ H d = some (.dK (szKv p.R p.z)) ∧
  fs.lookup ("near" : Str) = some (V.ref dn) ∧ H dn = some (.dK (p.R.map fun r => (Sum.inr r, V.ref (na r)))) ∧ (∀ r ∈ p.R, H (na r) = some (.lst ((nbl p.ps r).map V.str))) ∧ fs.lookup ("neighbours" : Str) = none
theorem BAt.same {K : PySem.W.Frag} {H H' : Hp} {b : Addr} {p : Pln} (s : Same H H') (h : BAt K H b p) : BAt K H' b p :=
  let ⟨dx, fs, d, dn, na, h1, h2, h3, h4, h5, h6, h7⟩ := h; ⟨dx, fs, d, dn, na, s _ _ h1, h2, s _ _ h3, h4, s _ _ h5, fun r hr => s _ _ (h6 r hr), h7⟩
theorem BAt.sz {K : PySem.W.Frag} {H : Hp} {b : Addr} {p : Pln} (h : BAt K H b p) : SzAt K H b p.R p.z := let ⟨dx, fs, d, dn, na, h1, h2, h3, _⟩ := h; ⟨dx, fs, d, h1, h2, h3⟩
theorem sz_keys (R : List Str) (z : Str → Nat) : (szKv R z).map (·.1) = R.map Sum.inr := by simp [szKv]
theorem sz_get {R : List Str} (z : Str → Nat) (nd : R.Nodup) {r : Str} (h : r ∈ R) : valV (szKv R z) (Sum.inr r) = some (.int (z r)) := val_map (k := fun r => r) (f := fun r => V.int (z r)) (by simpa using nd) h
theorem sz_none {R : List Str} (z : Str → Nat) {r : Str} (h : ¬ r ∈ R) : valV (szKv R z) (Sum.inr r) = none := val_map_none (k := fun r => r) (f := fun r => V.int (z r)) (by simpa using h)
theorem sz_is {R : List Str} (z : Str → Nat) {r : Str} : (valV (szKv R z) (Sum.inr r)).isSome = decide (r ∈ R) := by
  induction R with
  | nil => rfl
  | cons a R ih =>
    by_cases e : a = r
    · subst e
      rw [show szKv (a :: R) z = (Sum.inr a, V.int (z a)) :: szKv R z from rfl, valV_pos rfl]
      simp
    · rw [show szKv (a :: R) z = (Sum.inr a, V.int (z a)) :: szKv R z from rfl, valV_neg (by intro q; injection q with q; exact e q), ih]
      simp [Ne.symm e]
def spIsInt : Sp := fun vs H Q _ => ∃ i : Int, vs = [.int i] ∧ Q (.bl true) H
def spBetween : Sp := fun vs H Q _ => ∃ i a b : Int, vs = [.int i, .int a, .int b] ∧ a ≤ i ∧ i ≤ b ∧ Q (.bl true) H
def spPair : Sp := fun vs H Q _ => ∃ a b : Str, vs = [.str a, .str b] ∧ ∀ t, H t = none → Q (.ref t) (upd H t (.tup (pvs (pr a b))))
def spLen (K : PySem.W.Frag) : Sp := fun vs H Q _ => ∃ b R z, vs = [.ref b] ∧ SzAt K H b R z ∧ Q (.int (R.length : Nat)) H
def spHas (K : PySem.W.Frag) : Sp := fun vs H Q _ => ∃ b R z x, vs = [.ref b, .str x] ∧ SzAt K H b R z ∧ IsNm x ∧ ∀ H', Same H H' → Q (.bl (decide (x ∈ R))) H'
def spGet (K : PySem.W.Frag) : Sp := fun vs H Q _ => ∃ b R z x, vs = [.ref b, .str x] ∧ SzAt K H b R z ∧ R.Nodup ∧ IsNm x ∧ x ∈ R ∧ ∀ H', Same H H' → Q (.int (z x : Nat)) H'
def spRooms (K : PySem.W.Frag) : Sp := fun vs H Q _ => ∃ b R z, vs = [.ref b] ∧ SzAt K H b R z ∧ ∀ p, H p = none → Q (.ref p) (upd H p (.tup (R.map V.str)))
def spNeigh (K : PySem.W.Frag) : Sp := fun vs H Q _ => ∃ b p x, vs = [.ref b, .str x] ∧ BAt K H b p ∧ p.R.Nodup ∧ IsNm x ∧ x ∈ p.R ∧ ∀ H' t, Same H H' → H t = none → H' t = some (.tup ((srtS (nbl p.ps x)).map V.str)) → Q (.ref t) H'
section
variable {P : Program} {w : World} {K : PySem.W.Frag} {mg : Str → Option Value} {base : Heap}
theorem ok_is_integer (T : Txt K mg) : FnOk P w K mg base CX0 1 (a_is_integer K) (d_is_integer K) P_is_integer spIsInt := by
  refine ok0 T.f_is_integer sc_is_integer (fun vs H Q E h => ?_) (fun cdv A outer s H vs Q E hr h => ?_)
  · obtain ⟨x, rfl, _⟩ := h
    rfl
  · obtain ⟨i, rfl, k⟩ := h
    refine ⟨_, pss_one (ps_ret (pe_and (pe_callB call_isi (by rfl) T.n_isinstance (by decide +kernel) (pa_cons (pv 0) (pa_cons (pe_ty (n := "int") (by rfl) T.n_int (by decide +kernel)) pa_nil)))
      (pe_one (pe_not (pe_callB call_isi (by rfl) T.n_isinstance (by decide +kernel) (pa_cons (pv 0) (pa_cons (pe_ty (n := "bool") (by rfl) T.n_bool (by decide +kernel)) pa_nil))))))), ?_⟩
    refine ⟨_, rfl, _, _, _, _, true, rfl, .ty "int", .base (.int i), kit_ty (by decide +kernel), true, rfl, iteT ?_⟩
    exact ⟨_, rfl, _, _, _, _, false, rfl, .ty "bool", .base (.int i), kit_ty (by decide +kernel), false, rfl, k⟩
theorem ok_is_between (T : Txt K mg) : FnOk P w K mg base CX0 2 (a_is_between K) (d_is_between K) P_is_between spBetween := by
  refine ok0 T.f_is_between sc_is_between (fun vs H Q E h => ?_) (fun cdv A outer s H vs Q E hr h => ?_)
  · obtain ⟨i, a, b, rfl, _⟩ := h
    rfl
  · obtain ⟨i, a, b, rfl, h1, h2, k⟩ := h
    refine ⟨_, pss_one (ps_ret (pe_and (pe_call (ok_is_integer T) hr (by rfl) T.g_is_integer T.f_is_integer.kp T.b_is_integer .nil pass0 (pa_cons (pv 0) pa_nil)) (pe_one (pe_chain op_le op_le (pv 1) (pv 0) (pv 2))))), ?_⟩
    refine ⟨_, rfl, i, rfl, true, rfl, iteT ?_⟩
    refine ⟨_, rfl, _, rfl, _, _, rfl, rfl, _, rfl, iteD h1 ?_⟩
    refine ⟨_, rfl, _, _, rfl, rfl, ?_⟩
    show Q (.bl (decide (i ≤ b))) H
    rw [decide_eq_true h2]
    exact k
theorem ok_pair_of (T : Txt K mg) : FnOk P w K mg base CX0 1 (a_pair_of K) (d_pair_of K) P_pair_of spPair := by
  refine ok0 T.f_pair_of sc_pair_of (fun vs H Q E h => ?_) (fun cdv A outer s H vs Q E hr h => ?_)
  · obtain ⟨a, b, rfl, _⟩ := h
    rfl
  · obtain ⟨a, b, rfl, k⟩ := h
    refine ⟨_, pss_one (ps_ret (pe_ifExp (pt_cmpR op_lt_str (pv 0) (pv 1) (nomark _)) (pe_tup (pa_cons (pv 0) (pa_cons (pv 1) pa_nil))) (pe_tup (pa_cons (pv 1) (pa_cons (pv 0) pa_nil))))), ?_⟩
    refine ⟨_, rfl, _, rfl, _, _, rfl, rfl, _, rfl, ?_⟩
    by_cases h : ltS a b
    · refine iteD h ?_
      refine ⟨_, rfl, _, rfl, by show 2 ≤ sizeLine; decide, fun t ht => ?_⟩
      have := k t ht
      rw [show pr a b = (a, b) by unfold pr; rw [if_pos h]] at this
      exact this
    · refine iteDn h ?_
      refine ⟨_, rfl, _, rfl, by show 2 ≤ sizeLine; decide, fun t ht => ?_⟩
      have := k t ht
      rw [show pr a b = (b, a) by unfold pr; rw [if_neg h]] at this
      exact this
theorem ok_len (T : Txt K mg) : FnOk P w K mg base CX0 1 (a_Building_len K) (d_Building_len K) P_Building_len (spLen K) := by
  refine ok0 T.f_Building_len sc_Building_len (fun vs H Q E h => ?_) (fun cdv A outer s H vs Q E hr h => ?_)
  · obtain ⟨b, R, z, rfl, _⟩ := h
    rfl
  · obtain ⟨b, R, z, rfl, ⟨dx, fs, d, h1, h2, h3⟩, k⟩ := h
    refine ⟨_, pss_one (ps_ret (pe_callB call_lenD (by rfl) T.n_len PySem.boot_len (pa_cons (pe_fld (pv 0) rfl) pa_nil))), ?_⟩
    refine ⟨_, rfl, _, _, _, _, _, rfl, h1, T.clB, T.nB_sizes, h2, d, _, rfl, h3, ?_⟩
    rw [show (szKv R z).length = R.length by simp [szKv]]
    exact k
theorem ok_has (T : Txt K mg) : FnOk P w K mg base CX0 2 (a_Building_contains K) (d_Building_contains K) P_Building_contains (spHas K) := by
  refine ok0 T.f_Building_contains sc_Building_contains (fun vs H Q E h => ?_) (fun cdv A outer s H vs Q E hr h => ?_)
  · obtain ⟨b, R, z, x, rfl, _⟩ := h
    rfl
  · obtain ⟨b, R, z, x, rfl, hs, hn, k⟩ := h
    have hu := hu_of hr
    refine ⟨_, pss_one (ps_ret (pe_and (pe_call (ok_is_name T) hr (by rfl) T.g_is_name T.f_is_name.kp T.b_is_name .nil pass0 (pa_cons (pv 1) pa_nil)) (pe_one (pe_cmp (pc_din hu (pv 1) (pe_fld (pv 0) rfl)) rfl)))), ?_⟩
    refine ⟨_, rfl, x, rfl, hn, fun H' s' => ⟨true, rfl, iteT ?_⟩⟩
    obtain ⟨dx, fs, d, h1, h2, h3⟩ := hs.same s'
    refine ⟨_, rfl, _, rfl, _, _, _, _, _, rfl, h1, T.clB, T.nB_sizes, h2, d, _, rfl, DGet.k (k := Sum.inr x) h3, ?_⟩
    rw [sz_is]
    exact k H' s'
theorem ok_get (T : Txt K mg) : FnOk P w K mg base CX0 3 (a_Building_getitem K) (d_Building_getitem K) P_Building_getitem (spGet K) := by
  refine ok0 T.f_Building_getitem sc_Building_getitem (fun vs H Q E h => ?_) (fun cdv A outer s H vs Q E hr h => ?_)
  · obtain ⟨b, R, z, x, rfl, _⟩ := h
    rfl
  · obtain ⟨b, R, z, x, rfl, hs, nd, hn, hx, k⟩ := h
    have hu := hu_of hr
    refine ⟨_, pss_cons (ps_if (pt_cmpR (op_notInOwn T.m_contains (ok_has T) hr T.b_Building_contains pass0) (pv 1) (pv 0) (by rfl)) pss_never pss_nil)
      (pss_one (ps_ret (pe_dget hu (pe_fld (pv 0) rfl) (pv 1) (fun _ _ => rfl)))), ?_⟩
    obtain ⟨dx, fs, d, h1, h2, h3⟩ := id hs
    refine ⟨_, rfl, _, rfl, b, rfl, dx, fs, h1, b, R, z, x, rfl, hs, hn, fun H' s' => ⟨_, rfl, _, rfl, iteNS hx ?_⟩⟩
    exact ⟨_, rfl, _, _, _, _, _, rfl, s' _ _ h1, T.clB, T.nB_sizes, h2, _, rfl, d, _, rfl, by rw [← sz_get z nd hx]; exact DGet.k (k := Sum.inr x) (s' _ _ h3), k H' s'⟩
theorem ok_rooms (T : Txt K mg) : FnOk P w K mg base CX0 1 (a_Building_rooms K) (d_Building_rooms K) P_Building_rooms (spRooms K) := by
  refine ok0 T.f_Building_rooms sc_Building_rooms (fun vs H Q E h => ?_) (fun cdv A outer s H vs Q E hr h => ?_)
  · obtain ⟨b, R, z, rfl, _⟩ := h
    rfl
  · obtain ⟨b, R, z, rfl, ⟨dx, fs, d, h1, h2, h3⟩, k⟩ := h
    refine ⟨_, pss_one (ps_ret (pe_callTy (cr_tupleD rfl) (by rfl) T.n_tuple (by decide +kernel) (pa_cons (pe_fld (pv 0) rfl) pa_nil))), ?_⟩
    refine ⟨_, rfl, _, _, _, _, _, rfl, h1, T.clB, T.nB_sizes, h2, d, _, rfl, .inl h3, fun p hp => ?_⟩
    have := k p hp
    rw [show ((szKv R z).map fun kv => kV kv.1) = R.map V.str by simp [szKv, kV]]
    exact this
theorem ok_neighbours (T : Txt K mg) : FnOk P w K mg base CX0 3 (a_Building_neighbours K) (d_Building_neighbours K) P_Building_neighbours (spNeigh K) := by
  refine ok0 T.f_Building_neighbours sc_Building_neighbours (fun vs H Q E h => ?_) (fun cdv A outer s H vs Q E hr h => ?_)
  · obtain ⟨b, p, x, rfl, _⟩ := h
    rfl
  · obtain ⟨b, p, x, rfl, hb, nd, hn, hx, k⟩ := h
    have hu := hu_of hr
    refine ⟨_, (pss_cons (ps_if (pt_cmpR (op_notInOwn T.m_contains (ok_has T) hr T.b_Building_contains pass0) (pv 1) (pv 0) (by rfl)) pss_never pss_nil) (pss_one (ps_ret (pe_callTy call_tuple_of (by rfl) T.n_tuple (by decide +kernel) (pa_cons (pe_callB (cr_srtS hr.units) (by rfl) T.n_sorted (by decide +kernel) (pa_cons (pe_dget hu (pe_fld (pv 0) rfl) (pv 1) (fun _ _ => rfl)) pa_nil)) pa_nil))))), ?_⟩
    obtain ⟨dx, fs, d, dn, na, h1, h2, h3, h4, h5, h6, h7⟩ := id hb
    refine ⟨_, rfl, _, rfl, b, rfl, dx, fs, h1, b, p.R, p.z, x, rfl, hb.sz, hn, fun H' s' => ⟨_, rfl, _, rfl, iteNS hx ?_⟩⟩
    refine ⟨_, rfl, _, _, _, _, _, rfl, s' _ _ h1, T.clB, T.nB_near, h4, _, rfl, dn, V.ref (na x), rfl, ?_, ?_⟩
    · rw [← val_map (k := fun r => r) (f := fun r => V.ref (na r)) (by simpa using nd) hx]
      exact DGet.k (k := Sum.inr x) (s' _ _ h5)
    · refine ⟨_, _, rfl, SqL.of (s' _ _ (h6 x hx)), fun q hq => ⟨q, _, rfl, .inl ⟨SqL.of upd_same, fun t ht => ?_⟩⟩⟩
      refine k _ t ((s'.trans (same_new hq)).trans (same_new ht)) ?_ upd_same
      exact s'.free ((same_new hq).free ht)
end
end Rd
/-! rules whose reading names the written part itself: for use within comprehensions -/
namespace Rd
open PySem PySem.Spec L2
open PyProof.Rows hiding St
section
variable {X : Cx}
theorem ix_tupK (K : PySem.W.Frag) (h : X.K = K := by rfl) : IxR X (rIxT K) := by
  subst h
  exact ix_tup
theorem ix_listK (K : PySem.W.Frag) (h : X.K = K := by rfl) : IxR X (rIxL K) := by
  subst h
  exact ix_list
theorem cr_srtSK (K : PySem.W.Frag) (hu : X.A.units + 64 < cLine) (h : X.K = K := by rfl) : CallR X (.builtin "sorted") (fun vs H Q => ∃ (a : Addr) (xs : List Str), vs = [.ref a] ∧ SqL K H a (xs.map V.str) ∧ ∀ p, H p = none → Q (.ref p) (upd H p (.lst ((srtS xs).map V.str)))) := by
  subst h
  exact cr_srtS hu
theorem call_lenK (K : PySem.W.Frag) (h : X.K = K := by rfl) : CallR X (.builtin "len") (fun xs H Q => ∃ x n, xs = [x] ∧ LenV K x H n ∧ Q (.int n) H) := by
  subst h
  exact call_len
theorem ix_ndK (P : Program) (w : World) (hu : X.A.units + 64 < cLine) (h : X.prog = P := by rfl) (h' : X.w = w := by rfl) : IxR X (rNdIx P w) := by
  subst h h'
  exact ix_nd hu
theorem mt_tup_indexK (K : PySem.W.Frag) (h : X.K = K := by rfl) : MtR X "tuple.index" (fun x xs H Q => ∃ p, ∃ ys : List Str, ∃ z j, x = .ref p ∧ xs = [.str z] ∧ SqT K H p (ys.map V.str) ∧ ys[j]? = some z ∧ (∀ m, m < j → ys[m]? ≠ some z) ∧ Q (.int (j : Nat)) H) := by
  subst h
  exact mt_tup_index
theorem pe_bmK {o e : Expr} {es : List Expr} {to : TE} {t : TA} {name : Str} {apos cpos : Pos} {T id : String} {r : V → List V → Hp → VK → Prop} (K : PySem.W.Frag) (pa : PlainAttrs T) (slot : Slot T name id) (hty : typeOf (.builtin id) = pure (.type "method_descriptor")) (hm : MtR X id r) (ho : PE X o to) (ha : PA X (e :: es) t)
    (h : PE X (.Call (.Attribute o name apos) (e :: es) [] cpos) (tBM X.K T r to t)) (hK : X.K = K := by rfl) : PE X (.Call (.Attribute o name apos) (e :: es) [] cpos) (tBM K T r to t) := by
  subst hK
  exact h
theorem pe_nd1K {k v : Expr} {tk tv : TE} {pos : Pos} (P : Program) (w : World) (hu : X.A.units + 64 < cLine) (hk : PE X k tk) (hv : PE X v tv) (h : X.prog = P := by rfl) (h' : X.w = w := by rfl) : PE X (.Dict [some k] [v] pos) (tNd1 P w tk tv) := by
  subst h h'
  exact pe_nd1 hu hk hv
theorem set_ndK (P : Program) (w : World) (hu : X.A.units + 64 < cLine) (h : X.prog = P := by rfl) (h' : X.w = w := by rfl) : PSet X (rNdSet P w) := by
  subst h h'
  exact set_nd hu
theorem op_ndNotK (P : Program) (w : World) (hu : X.A.units + 64 < cLine) (h : X.prog = P := by rfl) (h' : X.w = w := by rfl) : OpR X (compareOp .NotIn) (rNdNot P w) := by
  subst h h'
  exact op_ndNot hu
theorem pi_ndK {tg e : Expr} {td : TE} (P : Program) (w : World) (he : PE X e td) (h : X.prog = P := by rfl) (h' : X.w = w := by rfl) : PI X tg e (iNd P w td) := by
  subst h h'
  exact pi_nd he
/-- a statement and its rest, with a word between -/
def tMid (t u : TS) : TS := fun D σ H => ∃ M : L2.St → Hp → Prop, t { D with nx := M } σ H ∧ ∀ σ' H', M σ' H' → u D σ' H'
theorem pss_mid {st : Stmt} {rest : List Stmt} {t u : TS} (h : PS X st t) (r : PSs X rest u) : PSs X (st :: rest) (tMid t u) := by
  refine ⟨fun pins s σ H D I q => ?_⟩
  obtain ⟨M, q1, q2⟩ := q
  refine wpAny_execs_cons (thn (h.run pins s σ H { D with nx := M } I q1) fun f s1 z => ?_)
  cases f with
  | next =>
    obtain ⟨σ1, H1, J, z⟩ := z
    exact r.run pins s1 σ1 H1 D J (q2 σ1 H1 z)
  | ret _ => exact z
  | brk => exact z
  | cont => exact z
end
end Rd
/-! need_rooms, check_small -/
namespace Rd
open PySem PySem.Spec L2
open PyProof.Rows hiding St
section
variable {X : Cx} {CX : CXT} {k : Nat} {f : Addr} {sp : Sp} {E : XK} {x : Str} {e : Expr} {es : List Expr} {p pos : Pos} {t : TA}
theorem pe_callR (F : FnR X.prog X.w X.K X.mg X.base CX k f sp) (hr : Room k X.A) (hg : Gl X x) (hm : X.mg x = some (.ref f)) (hk : PySem.W.keepIn X.K (.ref f) = true) (hx : Passes CX X E)
    (ha : PA X (e :: es) t) (hdb : (x == ("__debug__" : Str)) = false := by decide) (he : starEach (e :: es) X.env = (false, eval e X.env) :: starEach es X.env := by rfl) (hpl : (backTo pos (starEach es X.env)).any (·.1) = false := by rfl) :
    PE X (.Call (.Name x p) (e :: es) [] pos) (fun σ H Q => t σ H fun vs H1 => sp vs H1 Q E) := by
  refine ⟨fun pins s σ H Q I h => ?_⟩
  refine wpAny_Call_Name_kw (ld_glob I hg hm ?_ hdb)
  refine PySem.W.callWith_K (h₀ := X.base) I.ok.mod.kin hk (thn (ha.run pos pins s σ H _ I h) fun us s1 ⟨vs, H1, I1, r, q⟩ => ⟨I1.kIn, ?_⟩) he hpl
  exact wpAny_call (run_fnR F hr hx I1 r q)
end
def prd (z : Str → Nat) : List Str → Nat
  | [] => 1
  | r :: l => z r * prd z l
theorem prd_pos {z : Str → Nat} : ∀ {l : List Str}, (∀ r ∈ l, 1 ≤ z r) → 1 ≤ prd z l
  | [], _ => Nat.le_refl _
  | r :: l, h => Nat.mul_pos (h r List.mem_cons_self) (prd_pos fun q hq => h q (List.mem_cons_of_mem _ hq))
def spNeedIn (K : PySem.W.Frag) : Sp := fun vs H Q _ => ∃ b q R z x, vs = [.ref b, .ref q] ∧ SzAt K H b R z ∧ H q = some (.tup [.str x]) ∧ IsNm x ∧ x ∈ R ∧ ∀ H', Same H H' → Q .non H'
def spNeed (K : PySem.W.Frag) : Sp := fun vs H Q _ => ∃ b R z x, vs = [.ref b, .str x] ∧ SzAt K H b R z ∧ IsNm x ∧ x ∈ R ∧ ∀ H', Same H H' → Q .non H'
def spSmall (K : PySem.W.Frag) : Sp := fun vs H Q _ => ∃ b R z, vs = [.ref b] ∧ SzAt K H b R z ∧ R.Nodup ∧ (∀ r ∈ R, IsNm r) ∧ (∀ r ∈ R, 1 ≤ z r) ∧ R.length * prd z R ≤ 10000 ∧ ∀ H', Same H H' → Q .non H'
section
variable {P : Program} {w : World} {K : PySem.W.Frag} {mg : Str → Option Value} {base : Heap}
theorem ok_need_rooms (T : Txt K mg) : FnR P w K mg base CX0 3 (a_need_rooms K) (spNeed K) := by
  have nd := sc_need_rooms.nd
  obtain ⟨oc, od, dV, kV, doc, pm, an, cdv, ct, osl, e1, lk, hcd, hD, _⟩ := T.f_need_rooms.ex
  rw [e1] at lk
  obtain rfl : dV = .none := by
    rcases hD with ⟨_, h⟩ | ⟨h, _⟩
    · exact h
    · exact absurd rfl h
  have key := StX.fn_star (P := P) (w := w) (mg := mg) (base := base) (CX := CX0) (ps := ["building"]) (pv := "rooms") (k := 2) (sp := spNeedIn K) lk hcd sc_need_rooms StX.cxUp_none (fun us rest hl => ?_) (fun A outer s H vs Q E hr h => ?_)
  · refine key.imp fun vs H Q E h => ?_
    obtain ⟨b, R, z, x, rfl, hs, hn, hx, k⟩ := h
    refine ⟨[.ref b], [.str x], rfl, rfl, by show 1 ≤ sizeLine; decide, fun p hp => ?_⟩
    exact ⟨b, p, R, z, x, rfl, hs.same (same_new hp), upd_same, hn, hx, fun H' s' => k H' ((same_new hp).trans s')⟩
  · match us, rest, hl with
    | [u], [], _ => rfl
    | [u], _ :: _, _ => rfl
  · obtain ⟨b, q, R, z, x, rfl, hs, hq, hn, hx, k⟩ := h
    refine ⟨_, PSs.nox (pss_one (ps_for PassesOwn.never rfl (pi_tup (pv 1)) (pg_name (i := 2) nd rfl (Or.inl rfl)) (pss_one (ps_if (pt_cmpR (op_notInOwn T.m_contains (ok_has T) hr T.b_Building_contains pass0) (pv 2) (pv 0) (by rfl)) pss_never pss_nil)))), ?_⟩
    refine ⟨_, rfl, q, rfl, ⟨_, SqT.of hq⟩, ?_⟩
    refine for_it (walk_tup (xs := [.str x])) (fun i σ H1 => Same H H1 ∧ ∃ v, σ = [some (.ref b), some (.ref q), v]) ⟨Same.refl H, _, rfl⟩ (fun i σ H1 _ h => SqT.of (h.1 _ _ hq)) ?_ (fun σ H1 h => k H1 h.1)
    rintro i y σ H1 H2 hi ⟨s1, v, rfl⟩ ⟨rfl, hy⟩
    obtain rfl : i = 0 := by
      have : i < 1 := hi
      omega
    obtain rfl : V.str x = y := by simpa using hy
    obtain ⟨dx, fs, d, h1, h2, h3⟩ := hs.same s1
    refine ⟨_, rfl, _, rfl, b, rfl, dx, fs, h1, b, R, z, x, rfl, hs.same s1, hn, fun H3 s3 => ⟨_, rfl, _, rfl, iteNS hx ?_⟩⟩
    exact ⟨s1.trans s3, _, rfl⟩
theorem ok_check_small (T : Txt K mg) : FnOk P w K mg base CX0 5 (a_check_small K) (d_check_small K) P_check_small (spSmall K) := by
  have nd := sc_check_small.nd
  refine ok0 T.f_check_small sc_check_small (fun vs H Q E h => ?_) (fun cdv A outer s H vs Q E hr h => ?_)
  · obtain ⟨b, R, z, rfl, _⟩ := h
    rfl
  · obtain ⟨b, R, z, rfl, hs, ndR, hn, h1, hb, k⟩ := h
    have hu := hu_of hr
    refine ⟨_, (pss_cons (ps_set (i := 1) nd rfl (Or.inl rfl) (pe_callB (cr_lenOwn T.m_len (ok_len T) (hr.mono (by decide)) T.b_Building_len pass0) (by rfl) T.n_len PySem.boot_len (pa_cons (pv 0) pa_nil))) (pss_one (ps_for PassesOwn.never rfl (pi_tup (pe_prop (pv 0) T.clB T.pR (ok_rooms T) (hr.mono (by decide)) T.b_Building_rooms .nil pass0 rfl)) (pg_name (i := 2) nd rfl (Or.inl rfl)) (pss_cons (ps_aug (i := 1) nd rfl (Or.inl rfl) (pe_ixOwn T.m_getitem T.fnGI (ok_get T) (hr.mono (by decide)) T.b_Building_getitem pass0 (pv 0) (pv 2)) iop_mul) (pss_one (ps_if (pt_cmpR op_gt (pv 1) (pe_gint (by rfl) T.MPO) (nomark _)) pss_never pss_nil)))))), ?_⟩
    obtain ⟨dx, fs, d, e1, e2, e3⟩ := id hs
    have hlen : R.length ≤ 10000 := Nat.le_trans (Nat.le_mul_of_pos_right _ (prd_pos h1)) hb
    refine ⟨_, rfl, b, rfl, dx, fs, e1, b, R, z, rfl, hs, R.length, rfl, by omega, ?_⟩
    refine ⟨_, rfl, b, dx, fs, rfl, e1, b, R, z, rfl, hs, fun p hp => ?_⟩
    refine ⟨p, rfl, ⟨_, SqT.of upd_same⟩, ?_⟩
    refine for_it (walk_tup (xs := R.map V.str)) (fun i σ H1 => Same (upd H p (.tup (R.map V.str))) H1 ∧ ∃ m : Nat, m * prd z (R.drop i) = R.length * prd z R ∧ ∃ v, σ = [some (.ref b), some (.int m), v]) ⟨Same.refl _, R.length, by rw [List.drop_zero], _, rfl⟩ (fun i σ H1 _ h => SqT.of (h.1 _ _ upd_same)) ?_ (fun σ H1 h => k H1 ((same_new hp).trans h.1))
    rintro i y σ H1 H2 hi ⟨s1, m, hm, v, rfl⟩ ⟨rfl, hy⟩
    rw [List.length_map] at hi
    obtain rfl : V.str R[i] = y := by simpa [hi] using hy
    have hR : R[i] ∈ R := List.getElem_mem hi
    have hs1 := hs.same ((same_new hp).trans s1)
    obtain ⟨dx, fs, d, e1, e2, e3⟩ := id hs1
    have hd : R.drop i = R[i] :: R.drop (i + 1) := List.drop_eq_getElem_cons hi
    have hm' : m * z R[i] * prd z (R.drop (i + 1)) = R.length * prd z R := by rw [← hm, hd, Nat.mul_assoc] <;> rfl
    have hp1 : 1 ≤ prd z (R.drop (i + 1)) := prd_pos fun r hr => h1 r (List.mem_of_mem_drop hr)
    have hp0 : 1 ≤ prd z (R.drop i) := prd_pos fun r hr => h1 r (List.mem_of_mem_drop hr)
    have hle : m * z R[i] ≤ 10000 := Nat.le_trans (Nat.le_mul_of_pos_right _ hp1) (by rw [hm']; exact hb)
    have hle0 : m ≤ 10000 := Nat.le_trans (Nat.le_mul_of_pos_right _ hp0) (by rw [hm]; exact hb)
    refine ⟨_, rfl, _, rfl, _, rfl, b, rfl, dx, fs, e1, b, R, z, R[i], rfl, hs1, ndR, hn _ hR, hR, fun H3 s3 => ?_⟩
    refine ⟨_, _, rfl, rfl, .inl ⟨by omega, by omega⟩, ?_⟩
    refine ⟨_, rfl, _, _, rfl, rfl, _, rfl, iteDn (by rw [← Int.natCast_mul]; omega) ?_⟩
    exact ⟨s1.trans s3, m * z R[i], hm', _, by rw [Int.natCast_mul] <;> rfl⟩
end
end Rd
/-! joined_rooms -/
namespace Rd
open PySem PySem.Spec L2
open PyProof.Rows hiding St
theorem len_put {κ : Type} [DecidableEq κ] (c : List (κ × V)) (k : κ) (x : V) : (putK c k x).length ≤ c.length + 1 := by
  unfold putK
  split
  · rw [List.length_map]
    omega
  · rw [List.length_append, List.length_singleton]
    omega
/-- the rooms joined to r, as they were met -/
def adj2 (ps : List (Str × Str)) (r : Str) : List Str := ps.flatMap fun p => (if p.1 = r then [p.2] else []) ++ (if p.2 = r then [p.1] else [])
theorem mem_adj2 {ps : List (Str × Str)} {r s : Str} : s ∈ adj2 ps r ↔ (r, s) ∈ ps ∨ (s, r) ∈ ps := by
  unfold adj2
  simp only [List.mem_flatMap, List.mem_append]
  constructor
  · rintro ⟨p, hp, h | h⟩
    · by_cases e : p.1 = r
      · simp [e] at h
        subst h
        subst e
        exact .inl hp
      · simp [e] at h
    · by_cases e : p.2 = r
      · simp [e] at h
        subst h
        subst e
        exact .inr hp
      · simp [e] at h
  · rintro (h | h)
    · exact ⟨_, h, .inl (by simp)⟩
    · exact ⟨_, h, .inr (by simp)⟩
theorem mem_nbl {ps : List (Str × Str)} {r s : Str} (ne : ∀ p ∈ ps, p.1 ≠ p.2) : s ∈ nbl ps r ↔ (r, s) ∈ ps ∨ (s, r) ∈ ps := by
  unfold nbl
  simp only [List.mem_filterMap]
  constructor
  · rintro ⟨p, hp, h⟩
    by_cases e : p.1 = r
    · simp [e] at h
      subst h
      subst e
      exact .inl hp
    · by_cases e' : p.2 = r
      · simp [e, e'] at h
        subst h
        subst e'
        exact .inr hp
      · simp [e, e'] at h
  · rintro (h | h)
    · exact ⟨_, h, by simp⟩
    · refine ⟨_, h, ?_⟩
      have := ne _ h
      simp at this
      simp [this]
theorem adj2_len (ps : List (Str × Str)) (r : Str) : (adj2 ps r).length ≤ 2 * ps.length := by
  induction ps with
  | nil => simp [adj2]
  | cons p ps ih =>
    have : adj2 (p :: ps) r = ((if p.1 = r then [p.2] else []) ++ (if p.2 = r then [p.1] else [])) ++ adj2 ps r := by simp [adj2]
    rw [this, List.length_append, List.length_append, List.length_cons]
    have a : (if p.1 = r then [p.2] else []).length ≤ 1 := by split <;> simp
    have b : (if p.2 = r then [p.1] else []).length ≤ 1 := by split <;> simp
    omega
theorem adj2_snoc (ps : List (Str × Str)) (p : Str × Str) (r : Str) : adj2 (ps ++ [p]) r = (adj2 ps r ++ (if p.1 = r then [p.2] else [])) ++ (if p.2 = r then [p.1] else []) := by simp [adj2]
/-- the dict of lists while it is made -/
def JI (H0 H : Hp) (d : Addr) (nb : Str → List Str) (m : Nat) : Prop := H0 d = none ∧ Same H0 H ∧ ∃ kvs, H d = some (.dK kvs) ∧ kvs.length ≤ m ∧ (∀ r, (nb r).length ≤ m) ∧
  (∀ r, (valV kvs (Sum.inr r) = none ∧ nb r = []) ∨ ∃ a, valV kvs (Sum.inr r) = some (.ref a) ∧ H0 a = none ∧ H a = some (.lst ((nb r).map V.str))) ∧
  (∀ r r' a, valV kvs (Sum.inr r) = some (.ref a) → valV kvs (Sum.inr r') = some (.ref a) → r = r') ∧ ∀ kv ∈ kvs, ∃ r, kv.1 = Sum.inr r ∧ valV kvs (Sum.inr r) = some kv.2
theorem JI.step {H0 H : Hp} {d : Addr} {nb : Str → List Str} {m : Nat} (h : JI H0 H d nb m) (hm : m < 1000) {x y : Str} {z : Addr} (hz : H z = none) {Q : V → Hp → Prop}
    (k : ∀ H', JI H0 H' d (fun r => nb r ++ if x = r then [y] else []) (m + 1) → Q .non H') :
    ∃ (kvs : List (Key × V)) (kk : Key), upd H z (.lst []) d = some (.dK kvs) ∧ (V.str x) = kV kk ∧ kvs.length < sizeLine ∧
      (∀ v, valV kvs kk = some v → ∃ l xs, v = .ref l ∧ (upd H z (.lst [])) l = some (.lst xs) ∧ xs.length < sizeLine ∧ Q .non (upd (upd H z (.lst [])) l (.lst (xs ++ [V.str y])))) ∧
      (valV kvs kk = none → ∃ l xs, (V.ref z) = .ref l ∧ (upd (upd H z (.lst [])) d (.dK (putK kvs kk (.ref z)))) l = some (.lst xs) ∧ xs.length < sizeLine ∧ Q .non (upd (upd (upd H z (.lst [])) d (.dK (putK kvs kk (.ref z)))) l (.lst (xs ++ [V.str y])))) := by
  obtain ⟨h0, s0, kvs, e1, e2, e3, e4, e5, e6⟩ := h
  have zd : d ≠ z := ne_of_none e1 hz
  have s1 : Same H0 (upd H z (.lst [])) := s0.trans (same_new hz)
  have z0 : H0 z = none := s0.free hz
  refine ⟨kvs, Sum.inr x, by rw [upd_ne zd]; exact e1, rfl, szL (by omega), fun v hv => ?_, fun hv => ?_⟩
  · rcases e4 x with ⟨q, _⟩ | ⟨a, q, a0, ha⟩
    · rw [hv] at q
      cases q
    · rw [hv] at q
      cases q
      have az : a ≠ z := ne_of_none ha hz
      have ad : d ≠ a := ne_of e1 ha (by intro z; cases z)
      refine ⟨a, _, rfl, by rw [upd_ne az]; exact ha, szL (by rw [List.length_map]; have := e3 x; omega), k _ ⟨h0, same_upd s1 a0, kvs, by rw [upd_ne ad, upd_ne zd]; exact e1, by omega, fun r => ?_, fun r => ?_, e5, e6⟩⟩
      · dsimp only
        rw [List.length_append]
        have := e3 r
        have b : (if x = r then [y] else []).length ≤ 1 := by split <;> simp
        omega
      · by_cases e : x = r
        · subst e
          refine .inr ⟨a, hv, a0, ?_⟩
          dsimp only
          rw [upd_same, if_pos rfl, List.map_append]
          rfl
        · dsimp only
          rw [if_neg e, List.append_nil]
          rcases e4 r with q | ⟨b, q, b0, hb⟩
          · exact .inl q
          · refine .inr ⟨b, q, b0, ?_⟩
            have ba : b ≠ a := fun z => e (e5 x r a hv (by rw [← z]; exact q))
            have bz : b ≠ z := ne_of_none hb hz
            rw [upd_ne ba, upd_ne bz]
            exact hb
  · refine ⟨z, [], rfl, by rw [upd_ne zd.symm, upd_same], szL (by simp), k _ ⟨h0, same_upd (same_upd s1 h0) z0, putK kvs (Sum.inr x) (.ref z), by rw [upd_ne zd, upd_same], ?_, fun r => ?_, fun r => ?_, fun r r' a h1 h2 => ?_, fun kv hkv => ?_⟩⟩
    · exact Nat.le_trans (len_put _ _ _) (by omega)
    · dsimp only
      rw [List.length_append]
      have := e3 r
      have b : (if x = r then [y] else []).length ≤ 1 := by split <;> simp
      omega
    · rw [valV_put]
      by_cases e : x = r
      · subst e
        refine .inr ⟨z, by rw [if_pos rfl], z0, ?_⟩
        rcases e4 x with ⟨_, q⟩ | ⟨a, q, _⟩
        · dsimp only
          rw [upd_same, if_pos rfl, q]
          rfl
        · rw [hv] at q
          cases q
      · dsimp only
        rw [if_neg (by intro w; injection w with w; exact e w.symm), if_neg e, List.append_nil]
        rcases e4 r with q | ⟨b, q, b0, hb⟩
        · exact .inl q
        · refine .inr ⟨b, q, b0, ?_⟩
          rw [upd_ne (ne_of_none hb hz), upd_ne (ne_of hb e1 (by intro z; cases z)), upd_ne (ne_of_none hb hz)]
          exact hb
    · rw [valV_put] at h1 h2
      have key : ∀ r, valV kvs (Sum.inr r) = some (.ref z) → False := fun r h => by
        rcases e4 r with ⟨q, _⟩ | ⟨b, q, b0, hb⟩
        · rw [h] at q; cases q
        · rw [h] at q
          cases q
          rw [hz] at hb
          cases hb
      by_cases c1 : (Sum.inr r : Key) = Sum.inr x
      · rw [if_pos c1] at h1
        cases h1
        by_cases c2 : (Sum.inr r' : Key) = Sum.inr x
        · have := c1.trans c2.symm
          injection this
        · rw [if_neg c2] at h2
          exact absurd h2 (key r')
      · rw [if_neg c1] at h1
        by_cases c2 : (Sum.inr r' : Key) = Sum.inr x
        · rw [if_pos c2] at h2
          cases h2
          exact absurd h1 (key r)
        · rw [if_neg c2] at h2
          exact e5 r r' a h1 h2
    · rw [putK_new _ hv] at hkv
      rcases List.mem_append.mp hkv with q | q
      · obtain ⟨r, g1, g2⟩ := e6 kv q
        refine ⟨r, g1, ?_⟩
        rw [valV_put, if_neg]
        · exact g2
        · intro w
          rw [w, hv] at g2
          cases g2
      · rw [List.mem_singleton.mp q]
        exact ⟨x, rfl, by rw [valV_put, if_pos rfl]⟩
theorem JI.go {K : PySem.W.Frag} {H0 H : Hp} {d : Addr} {nb : Str → List Str} {m : Nat} {σ : L2.St} {j : Nat} {NX : Hp → Prop} (h : JI H0 H d nb m) {x y : Str} (hσ : σ[j]? = some (some (V.str y))) (hm : m < 1000) {z : Addr} (hz : H z = none)
    (k : ∀ H', JI H0 H' d (fun r => nb r ++ if x = r then [y] else []) (m + 1) → NX H') :
    ∃ (kvs : List (Key × V)) (kk : Key), upd H z (.lst []) d = some (.dK kvs) ∧ (V.str x) = kV kk ∧ kvs.length < sizeLine ∧
      (∀ v, valV kvs kk = some v → tyV K "list" v (upd H z (.lst [])) ∧ ∃ u, σ[j]? = some (some u) ∧ ∃ l xs y, v = .ref l ∧ [u] = [y] ∧ (upd H z (.lst [])) l = some (.lst xs) ∧ xs.length < sizeLine ∧ NX (upd (upd H z (.lst [])) l (.lst (xs ++ [y])))) ∧
      (valV kvs kk = none → tyV K "list" (V.ref z) (upd (upd H z (.lst [])) d (.dK (putK kvs kk (.ref z)))) ∧ ∃ u, σ[j]? = some (some u) ∧ ∃ l xs y, (V.ref z) = .ref l ∧ [u] = [y] ∧ (upd (upd H z (.lst [])) d (.dK (putK kvs kk (.ref z)))) l = some (.lst xs) ∧ xs.length < sizeLine ∧ NX (upd (upd (upd H z (.lst [])) d (.dK (putK kvs kk (.ref z)))) l (.lst (xs ++ [y])))) := by
  obtain ⟨kvs, kk, q1, q2, q3, q4, q5⟩ := h.step (x := x) (y := y) hm hz (Q := fun _ H' => NX H') k
  refine ⟨kvs, kk, q1, q2, q3, fun v hv => ?_, fun hv => ?_⟩
  · obtain ⟨l, xs, rfl, g1, g2, g3⟩ := q4 v hv
    exact ⟨.inl ⟨rfl, _, SqL.of g1⟩, _, hσ, l, xs, _, rfl, rfl, g1, g2, g3⟩
  · obtain ⟨l, xs, e, g1, g2, g3⟩ := q5 hv
    cases e
    exact ⟨.inl ⟨rfl, _, SqL.of g1⟩, _, hσ, z, xs, _, rfl, rfl, g1, g2, g3⟩
/-- joined_rooms's answer -/
def JAt (H : Hp) (d : Addr) (ps : List (Str × Str)) : Prop := ∃ kvs, H d = some (.dK kvs) ∧ ∀ r, (valV kvs (Sum.inr r) = none ∧ adj2 ps r = []) ∨ ∃ a, valV kvs (Sum.inr r) = some (.ref a) ∧ H a = some (.lst ((srtS (adj2 ps r)).map V.str))
theorem JAt.same {H H' : Hp} {d : Addr} {ps : List (Str × Str)} (s : Same H H') (h : JAt H d ps) : JAt H' d ps := by
  obtain ⟨kvs, h1, h2⟩ := h
  refine ⟨kvs, s _ _ h1, fun r => ?_⟩
  rcases h2 r with q | ⟨a, q1, q2⟩
  · exact .inl q
  · exact .inr ⟨a, q1, s _ _ q2⟩
def spJoined (K : PySem.W.Frag) : Sp := fun vs H Q _ => ∃ l bs, vs = [.ref l] ∧ PrsAt K H l bs ∧ bs.length ≤ 40 ∧ ∀ H' d, Same H H' → H d = none → JAt H' d (bs.map (·.2)) → Q (.ref d) H'
section
variable {P : Program} {w : World} {K : PySem.W.Frag} {mg : Str → Option Value} {base : Heap}
theorem ok_joined_rooms (T : Txt K mg) : FnOk P w K mg base CX0 1 (a_joined_rooms K) (d_joined_rooms K) P_joined_rooms (spJoined K) := by
  have nd := sc_joined_rooms.nd
  refine ok0 T.f_joined_rooms sc_joined_rooms (fun vs H Q E h => ?_) (fun cdv A outer s H vs Q E hr h => ?_)
  · obtain ⟨l, bs, rfl, _⟩ := h
    rfl
  · obtain ⟨l, bs, rfl, hp, hb, k⟩ := h
    have hu := hu_of hr
    refine ⟨_, (pss_cons (ps_set (i := 1) nd rfl (Or.inl rfl) pe_dnewK) (pss_cons (ps_for PassesOwn.never rfl (pi_list (pv 0)) (pg_tup (by rfl) (pgs_cons (pg_name (i := 2) nd rfl (Or.inl rfl)) (pgs_cons (pg_name (i := 3) nd rfl (Or.inl rfl)) pgs_nil))) (pss_cons (ps_expr (pe_bm PySem.F.plainAttrs_list PySem.F.slot_list_append PySem.F.type_list_append mt_append (pe_dsetd (pv 1) (pv 2) (pe_lst pa_nil) ⟨rfl, rfl, rfl, rfl⟩) (pa_cons (pv 3) pa_nil))) (pss_one (ps_expr (pe_bm PySem.F.plainAttrs_list PySem.F.slot_list_append PySem.F.type_list_append mt_append (pe_dsetd (pv 1) (pv 3) (pe_lst pa_nil) ⟨rfl, rfl, rfl, rfl⟩) (pa_cons (pv 2) pa_nil)))))) (pss_one (ps_ret (pe_lock (pe_dc (own := [("room", 4), ("near", 5)]) (g := (gTup K 2 (gCons (gName 4) (gCons (gName 5) gNil)))) (tt := tYes) rfl nd (pi_items (pv 1)) (blkOk_by (own := [("room", 4), ("near", 5)]) (N := N_joined_rooms) (sc := defScope s_joined_rooms) (by decide +kernel)) (fun _ _ _ _ _ => (pg_tup (by rfl) (pgs_cons (pg_name (i := 4) nd rfl (Or.inl rfl)) (pgs_cons (pg_name (i := 5) nd rfl (Or.inl rfl)) pgs_nil)))) (fun _ _ _ _ _ => pts_nil) (fun _ _ _ _ _ => (pv 4)) (fun _ _ _ _ _ => (pe_callB (cr_srtSK K hr.units) (by rfl) T.n_sorted (by decide +kernel) (pa_cons (pv 5) pa_nil))))))))), ?_⟩
    intro d hd
    refine ⟨_, rfl, l, rfl, ⟨_, SqL.of ((same_new hd) _ _ hp.lst)⟩, ?_⟩
    refine for_it (walk_list (xs := bs.map fun b => V.ref b.1)) (fun i σ H1 => (∃ u v u' v', σ = [some (.ref l), some (.ref d), u, v, u', v']) ∧ JI H H1 d (adj2 ((bs.map (·.2)).take i)) (2 * i)) ?_ (fun i σ H1 _ h => SqL.of (h.2.2.1 _ _ hp.lst)) ?_ ?_
    · exact ⟨⟨_, _, _, _, rfl⟩, hd, same_new hd, [], upd_same, by simp, fun r => by simp [adj2], fun r => .inl ⟨rfl, by simp [adj2]⟩, (fun r r' a h => by cases h), (fun kv h => by simp at h)⟩
    · rintro i x σ H1 H2 hi ⟨⟨u, v, u', v', rfl⟩, hj⟩ ⟨rfl, hx⟩
      rw [List.length_map] at hi
      obtain rfl : V.ref bs[i].1 = x := by simpa [hi] using hx
      have ht : H2 bs[i].1 = some (.tup (pvs bs[i].2)) := hj.2.1 _ _ (hp.tup _ (List.getElem_mem hi))
      refine ⟨_, _, rfl, SqT.of ht, rfl, _, _, rfl, _, _, rfl, rfl, ?_⟩
      obtain ⟨h0, s0, kvs, e1, e⟩ := id hj
      refine ⟨_, rfl, d, rfl, .inl ⟨kvs, .inl e1⟩, _, rfl, by show 0 ≤ sizeLine; omega, fun z hz => ?_⟩
      refine hj.go (x := bs[i].2.1) (y := bs[i].2.2) rfl (by omega) hz fun H3 hj3 => ?_
      obtain ⟨h0, s0, kvs, e1, e⟩ := id hj3
      refine ⟨_, rfl, d, rfl, .inl ⟨kvs, .inl e1⟩, _, rfl, by show 0 ≤ sizeLine; omega, fun z hz => ?_⟩
      refine hj3.go (x := bs[i].2.2) (y := bs[i].2.1) rfl (by omega) hz fun H4 hj4 => ?_
      refine ⟨⟨_, _, _, _, rfl⟩, ?_⟩
      have e : (bs.map (·.2)).take (i + 1) = (bs.map (·.2)).take i ++ [bs[i].2] := by
        rw [List.take_add_one]
        simp [hi]
      rw [e, show (adj2 ((bs.map (·.2)).take i ++ [bs[i].2])) = fun r => (adj2 ((bs.map (·.2)).take i) r ++ if bs[i].2.1 = r then [bs[i].2.2] else []) ++ if bs[i].2.2 = r then [bs[i].2.1] else [] from funext fun r => adj2_snoc _ _ r]
      exact hj4
    · rintro σ H1 ⟨⟨u, v, u', v', rfl⟩, hj⟩
      rw [List.length_map, List.take_of_length_le (by simp)] at hj
      obtain ⟨h0, s0, kvs, e1, e2, e3, e4, e5, e6⟩ := hj
      refine ⟨d, _, e1, trivial, fun od => ?_⟩
      refine ⟨_, rfl, d, od, kvs, rfl, upd_same, fun D hD => ?_⟩
      have dD : d ≠ D := ne_of_none upd_same hD
      have D1 : H1 D = none := by rw [upd_ne dD.symm] at hD; exact hD
      refine dc_it walk_items (fun i H2 => H2 d = some (.frz od (.dK kvs)) ∧ (∀ b o, b ≠ d → H1 b = some o → H2 b = some o) ∧ ∃ acc, H2 D = some (.dK acc) ∧ acc.length ≤ i ∧
        ∀ r, (Sum.inr r ∉ (kvs.take i).map (·.1) ∧ valV acc (Sum.inr r) = none) ∨ (Sum.inr r ∈ (kvs.take i).map (·.1) ∧ ∃ a, valV acc (Sum.inr r) = some (.ref a) ∧ H2 a = some (.lst ((srtS (adj2 (bs.map (·.2)) r)).map V.str)))) ?_ (fun i H2 _ h => h.1) ?_ ?_
      · refine ⟨by rw [upd_ne dD, upd_same], fun b o bd hb => ?_, [], upd_same, Nat.le_refl _, fun r => .inl ⟨by simp, rfl⟩⟩
        rw [upd_ne (ne_of_none hb D1), upd_ne bd]
        exact hb
      · rintro i x H2 H3 hi ⟨g1, g2, acc, g3, g4, g5⟩ ⟨T0, x1, x2, rfl, hT, rfl, hx1, hx2⟩
        have hT' : upd H2 T0 (.tup [x1, x2]) T0 = some (.tup [x1, x2]) := upd_same
        simp only [List.getElem?_eq_getElem hi, Option.map_some, Option.some.injEq] at hx1 hx2
        subst hx1 hx2
        obtain ⟨r, hr, hv⟩ := e6 _ (List.getElem_mem hi)
        refine ⟨_, _, rfl, SqT.of hT', rfl, _, _, rfl, _, _, rfl, rfl, rfl, _, rfl, ?_⟩
        have TD : D ≠ T0 := ne_of_none g3 hT
        have Td : d ≠ T0 := ne_of_none g1 hT
        have hval : ∃ a, kvs[i].2 = .ref a ∧ H1 a = some (.lst ((adj2 (bs.map (·.2)) r).map V.str)) := by
          rcases e4 r with ⟨q, _⟩ | ⟨a, q, _, q2⟩
          · rw [hv] at q
            cases q
          · rw [hv] at q
            exact ⟨a, Option.some.inj q, q2⟩
        obtain ⟨a, ha, hl⟩ := hval
        have ad : a ≠ d := ne_of hl e1 (by intro z; cases z)
        have hl2 : H2 a = some (.lst ((adj2 (bs.map (·.2)) r).map V.str)) := g2 _ _ ad hl
        rw [ha]
        refine ⟨_, rfl, a, _, rfl, SqL.of (by rw [upd_ne (ne_of_none hl2 hT)]; exact hl2), fun p hp => ?_⟩
        have pD : D ≠ p := ne_of_none (by rw [upd_ne TD]; exact g3) hp
        have pd : d ≠ p := ne_of_none (by rw [upd_ne Td]; exact g1) hp
        have pT : T0 ≠ p := ne_of_none upd_same hp
        have p2 : H2 p = none := by rw [upd_ne pT.symm] at hp; exact hp
        refine ⟨acc, Sum.inr r, by rw [hr], by rw [upd_ne pD, upd_ne TD]; exact g3, szL (by omega), ?_⟩
        have fr : ∀ b o, b ≠ d → b ≠ D → H2 b = some o → upd (upd (upd H2 T0 (.tup [kV kvs[i].1, .ref a])) p (.lst ((srtS (adj2 (bs.map (·.2)) r)).map V.str))) D (.dK (putK acc (Sum.inr r) (.ref p))) b = some o := fun b o bd bD hb => by
          rw [upd_ne bD, upd_ne (ne_of_none (by rw [upd_ne (ne_of_none hb hT)]; exact hb) hp), upd_ne (ne_of_none hb hT)]
          exact hb
        have ek : (kvs.take (i + 1)).map (·.1) = (kvs.take i).map (·.1) ++ [Sum.inr r] := by
          rw [List.take_add_one, List.getElem?_eq_getElem hi, List.map_append, ← hr]
          rfl
        refine ⟨?_, fun b o bd hb => ?_, _, upd_same, Nat.le_trans (len_put _ _ _) (by omega), fun r' => ?_⟩
        · rw [upd_ne dD, upd_ne pd, upd_ne Td]
          exact g1
        · exact fr b o bd (ne_of_none hb D1) (g2 b o bd hb)
        · rw [ek, valV_put]
          by_cases er : r' = r
          · subst er
            refine .inr ⟨by simp, p, by rw [if_pos rfl], ?_⟩
            rw [upd_ne pD.symm, upd_same]
          · rw [if_neg (by intro z; injection z with z; exact er z)]
            rcases g5 r' with ⟨q1, q2⟩ | ⟨q1, b, q2, q3⟩
            · refine .inl ⟨fun z => ?_, q2⟩
              rcases List.mem_append.mp z with z | z
              · exact q1 z
              · rw [List.mem_singleton] at z
                injection z with z
                exact er z
            · have bd : b ≠ d := ne_of q3 g1 (by intro z; cases z)
              have bD : b ≠ D := ne_of q3 g3 (by intro z; cases z)
              exact .inr ⟨List.mem_append.mpr (.inl q1), b, q2, fr b _ bd bD q3⟩
      · rintro H2 ⟨g1, g2, acc, g3, g4, g5⟩
        refine ⟨g1, k _ D (fun b o hb => ?_) (s0.free D1) ⟨acc, by rw [upd_ne dD.symm]; exact g3, fun r => ?_⟩⟩
        · have bd : b ≠ d := ne_of_none hb h0
          rw [upd_ne bd]
          exact g2 b o bd (s0 b o hb)
        · rw [List.take_of_length_le (Nat.le_refl _)] at g5
          rcases g5 r with ⟨q1, q2⟩ | ⟨q1, b, q2, q3⟩
          · refine .inl ⟨q2, ?_⟩
            rcases e4 r with ⟨_, q⟩ | ⟨a, q, _⟩
            · exact q
            · exact absurd (valV_in q) q1
          · refine .inr ⟨b, q2, ?_⟩
            rw [upd_ne (ne_of q3 g1 (by intro z; cases z))]
            exact q3
end
end Rd
/-! steps_from, reached_from -/
namespace Rd
open PySem PySem.Spec L2
open PyProof.Rows hiding St
/-- an entry: room, its tuple's address, how many steps, the room before -/
abbrev Lv := Str × Addr × Int × V
def lvKv (es : List Lv) : List (Key × V) := es.map fun e => (Sum.inr e.1, V.ref e.2.1)
structure LvOk (start : Str) (R : List Str) (es : List Lv) : Prop where
  nd : (es.map (·.1)).Nodup
  sub : ∀ e ∈ es, e.1 ∈ R
  st : start ∈ es.map (·.1)
  par : ∀ e ∈ es, (e.2.2.1 = 0 ∧ e.1 = start ∧ e.2.2.2 = .non) ∨ ∃ q ∈ es, e.2.2.2 = .str q.1 ∧ e.2.2.1 = q.2.2.1 + 1 ∧ 0 ≤ q.2.2.1
theorem LvOk.add {start : Str} {R : List Str} {es : List Lv} (h : LvOk start R es) {e : Lv} (he : e ∈ es) {x : Str} (hx : x ∈ R) (nx : x ∉ es.map (·.1)) (t : Addr) : LvOk start R (es ++ [(x, t, e.2.2.1 + 1, .str e.1)]) := by
  refine ⟨?_, fun q hq => ?_, ?_, fun q hq => ?_⟩
  · rw [List.map_append]
    refine List.nodup_append.mpr ⟨h.nd, by simp, fun a ha b hb => ?_⟩
    simp at hb
    subst hb
    intro e
    subst e
    exact nx ha
  · rcases List.mem_append.mp hq with q' | q'
    · exact h.sub q q'
    · rw [List.mem_singleton.mp q']
      exact hx
  · rw [List.map_append]
    exact List.mem_append.mpr (.inl h.st)
  · have h0 : 0 ≤ e.2.2.1 := by
      rcases h.par e he with ⟨q, _⟩ | ⟨q, _, _, q1, q2⟩ <;> omega
    rcases List.mem_append.mp hq with q' | q'
    · rcases h.par q q' with w | ⟨w, w1, w2⟩
      · exact .inl w
      · exact .inr ⟨w, List.mem_append.mpr (.inl w1), w2⟩
    · rw [List.mem_singleton.mp q']
      exact .inr ⟨e, List.mem_append.mpr (.inl he), rfl, rfl, h0⟩
theorem lv_get {es : List Lv} {e : Lv} (nd : (es.map (·.1)).Nodup) (he : e ∈ es) : valV (lvKv es) (Sum.inr e.1) = some (.ref e.2.1) := val_map (k := fun e : Lv => e.1) (f := fun e : Lv => V.ref e.2.1) nd he
theorem lv_none {es : List Lv} {x : Str} (h : x ∉ es.map (·.1)) : valV (lvKv es) (Sum.inr x) = none := val_map_none (k := fun e : Lv => e.1) (f := fun e : Lv => V.ref e.2.1) h
theorem lv_is {es : List Lv} (nd : (es.map (·.1)).Nodup) (x : Str) : (valV (lvKv es) (Sum.inr x)).isSome = decide (x ∈ es.map (·.1)) := by
  by_cases h : x ∈ es.map (·.1)
  · obtain ⟨e, he, rfl⟩ := List.mem_map.mp h
    rw [lv_get nd he, decide_eq_true h]
    rfl
  · rw [lv_none h, decide_eq_false h]
    rfl
def lvTup (e : Lv) : HO := .tup [.int e.2.2.1, e.2.2.2]
structure SI (H0 H : Hp) (d W : Addr) (R : List Str) (start : Str) (es : List Lv) : Prop where
  s0 : Same H0 H
  d0 : H0 d = none
  w0 : H0 W = none
  hd : H d = some (.dK (lvKv es))
  hw : H W = some (.lst (es.map fun e => V.str e.1))
  ok : LvOk start R es
  tup : ∀ e ∈ es, H e.2.1 = some (lvTup e)
theorem SI.same {H0 H H' : Hp} {d W : Addr} {R : List Str} {start : Str} {es : List Lv} (h : SI H0 H d W R start es) (s : Same H H') : SI H0 H' d W R start es :=
  ⟨h.s0.trans s, h.d0, h.w0, s _ _ h.hd, s _ _ h.hw, h.ok, fun e he => s _ _ (h.tup e he)⟩
theorem nodup_le {α : Type} [DecidableEq α] {xs ys : List α} (nd : xs.Nodup) (sub : ∀ x ∈ xs, x ∈ ys) : xs.length ≤ ys.length := nd.length_le_of_subset sub
theorem SI.len {H0 H : Hp} {d W : Addr} {R : List Str} {start : Str} {es : List Lv} (h : SI H0 H d W R start es) : es.length ≤ R.length := by
  have := nodup_le h.ok.nd (ys := R) (fun x hx => by
    obtain ⟨e, he, rfl⟩ := List.mem_map.mp hx
    exact h.ok.sub e he)
  rw [List.length_map] at this
  exact this
theorem SI.add {H0 H : Hp} {d W : Addr} {R : List Str} {start : Str} {es : List Lv} (h : SI H0 H d W R start es) {e : Lv} (he : e ∈ es) {x : Str} (hx : x ∈ R) (nx : x ∉ es.map (·.1)) {t : Addr} (ht : H t = none) :
    SI H0 (upd (upd (upd H t (.tup [.int (e.2.2.1 + 1), .str e.1])) d (.dK (putK (lvKv es) (Sum.inr x) (.ref t)))) W (.lst ((es.map fun e => V.str e.1) ++ [.str x]))) d W R start (es ++ [(x, t, e.2.2.1 + 1, .str e.1)]) := by
  have wd : W ≠ d := ne_of h.hw h.hd (by intro z; cases z)
  refine ⟨same_upd (same_upd (h.s0.trans (same_new ht)) h.d0) h.w0, h.d0, h.w0, ?_, ?_, h.ok.add he hx nx t, fun q hq => ?_⟩
  · rw [upd_ne wd.symm, upd_same, putK_new _ (lv_none nx)]
    simp [lvKv]
  · rw [upd_same, List.map_append]
    rfl
  · rcases List.mem_append.mp hq with q' | q'
    · have g := h.tup q q'
      rw [upd_ne (ne_of g h.hw (by intro z; cases z)), upd_ne (ne_of g h.hd (by intro z; cases z)), upd_ne (ne_of_none g ht)]
      exact g
    · rw [List.mem_singleton.mp q']
      have tW : t ≠ W := (ne_of_none h.hw ht).symm
      have td : t ≠ d := (ne_of_none h.hd ht).symm
      rw [upd_ne tW, upd_ne td, upd_same]
      rfl
/-- steps_from's answer -/
structure LvAt (H : Hp) (d : Addr) (ps : List (Str × Str)) (R : List Str) (start : Str) (es : List Lv) : Prop where
  hd : H d = some (.dK (lvKv es))
  tup : ∀ e ∈ es, H e.2.1 = some (lvTup e)
  ok : LvOk start R es
  cl : ∀ e ∈ es, ∀ s ∈ adj2 ps e.1, s ∈ es.map (·.1)
theorem LvAt.same {H H' : Hp} {d : Addr} {ps : List (Str × Str)} {R : List Str} {start : Str} {es : List Lv} (h : LvAt H d ps R start es) (s : Same H H') : LvAt H' d ps R start es :=
  ⟨s _ _ h.hd, fun e he => s _ _ (h.tup e he), h.ok, h.cl⟩
def EdgeIn (R : List Str) (ps : List (Str × Str)) : Prop := ∀ p ∈ ps, p.1 ∈ R ∧ p.2 ∈ R
theorem EdgeIn.adj {R : List Str} {ps : List (Str × Str)} (h : EdgeIn R ps) {r s : Str} (e : s ∈ adj2 ps r) : s ∈ R := by
  rcases mem_adj2.mp e with q | q
  · exact (h _ q).2
  · exact (h _ q).1
def spSteps (K : PySem.W.Frag) : Sp := fun vs H Q _ => ∃ start l c bs R, vs = [.str start, .ref l, .ref c] ∧ PrsAt K H l bs ∧ bs.length ≤ 40 ∧ EdgeIn R (bs.map (·.2)) ∧ R.length ≤ 30 ∧ start ∈ R ∧ (∀ H, SqT K H c []) ∧
  ∀ H' d es, Same H H' → H d = none → LvAt H' d (bs.map (·.2)) R start es → Q (.ref d) H'
def spReached (K : PySem.W.Frag) : Sp := fun vs H Q _ => ∃ start l c bs R, vs = [.str start, .ref l, .ref c] ∧ PrsAt K H l bs ∧ bs.length ≤ 40 ∧ EdgeIn R (bs.map (·.2)) ∧ R.length ≤ 30 ∧ start ∈ R ∧ (∀ H, SqT K H c []) ∧
  ∀ H' d (ks : List Str), Same H H' → H d = none → H' d = some (.lst (ks.map V.str)) → start ∈ ks → (∀ k ∈ ks, ∀ s ∈ adj2 (bs.map (·.2)) k, s ∈ ks) → Q (.ref d) H'
section
variable {P : Program} {w : World} {K : PySem.W.Frag} {mg : Str → Option Value} {base : Heap}
theorem Txt.b_steps_from (T : Txt K mg) : Binds K (d_steps_from K) P_steps_from [] := by
  obtain ⟨ds, v, b⟩ := T.f_steps_from.binds1 (ps := P_steps_from) 3 1 (by simp) rfl (fun T kV doc pm an cdv ct us its hl hi => match us, its, hl, hi with | [_, _, _], [_], _, _ => ⟨_, rfl, rfl⟩)
  cases v
  exact b
theorem Txt.b_steps_from2 (T : Txt K mg) : ∃ ds, Vals [V.ref (dfCl K)] ds ∧ Binds K (d_steps_from K) P_steps_from ds :=
  T.f_steps_from.binds1 (ps := P_steps_from) 2 0 (by simp) rfl (fun T kV doc pm an cdv ct us its hl hi => match us, its, hl, hi with | [_, _], [_], _, _ => ⟨_, rfl, rfl⟩)
theorem ok_steps_from (T : Txt K mg) : FnOk P w K mg base CX0 2 (a_steps_from K) (d_steps_from K) P_steps_from (spSteps K) := by
  have nd := sc_steps_from.nd
  refine T.f_steps_from.ok sc_steps_from (fun vs H Q E h => ?_) (fun cdv A outer s H vs Q E hr h => ?_)
  · obtain ⟨start, l, c, bs, R, rfl, _⟩ := h
    rfl
  · obtain ⟨start, l, c, bs, R, rfl, hp, hb, hE, hR, hst, hc, k⟩ := h
    have hu := hu_of hr
    refine ⟨_, PSs.nox (pss_cons (ps_set (i := 3) nd rfl (Or.inl rfl) (pe_call (ok_joined_rooms T) (hr.mono (by decide)) (by rfl) T.g_joined_rooms T.f_joined_rooms.kp T.b_joined_rooms .nil pass0 (pa_cons (pv 1) pa_nil))) (pss_cons (ps_set (i := 4) nd rfl (Or.inl rfl) (pe_disp (pps_cons (pv 0) (pe_tup (pa_cons pe_int (pa_cons pe_non pa_nil))) pps_nil) (by rfl) (by rfl) (fun z => by cases z) (by decide))) (pss_cons (ps_set (i := 5) nd rfl (Or.inl rfl) (pe_lst (pa_cons (pv 0) pa_nil))) (pss_cons (ps_set (i := 6) nd rfl (Or.inl rfl) pe_int) (pss_cons (ps_while PassesOwn.never (pt_cmpR op_lt (pv 6) (pe_callB call_len_seq (by rfl) T.n_len PySem.boot_len (pa_cons (pv 5) pa_nil)) (nomark _)) (pss_cons (ps_set (i := 7) nd rfl (Or.inl rfl) (pe_ix ix_list (pv 5) (pv 6) (fun _ _ => rfl))) (pss_cons (ps_for PassesOwn.never rfl (pi_list (pe_dget2 hu (pv 3) (pv 7) (pe_lst pa_nil) ⟨rfl, rfl, rfl, rfl⟩)) (pg_name (i := 8) nd rfl (Or.inl rfl)) (pss_one (ps_if (PW.pt (pw_and (pt_cmp (pc_dnotin hu (pv 8) (pv 4))) (pw_and1 (pt_cmpR op_notIn_seq (pv 8) (pv 2) (by rfl))))) (pss_cons (ps_dput hu (pv 4) (pv 8) (pe_tup (pa_cons (pe_op op_add (pe_ix ix_tup (pe_dget hu (pv 4) (pv 7) (fun _ _ => rfl)) pe_int (fun _ _ => rfl)) pe_int) (pa_cons (pv 7) pa_nil))) rfl) (pss_one (ps_expr (pe_bm PySem.F.plainAttrs_list PySem.F.slot_list_append PySem.F.type_list_append mt_append (pv 5) (pa_cons (pv 8) pa_nil))))) pss_nil))) (pss_one (ps_aug (i := 6) nd rfl (Or.inl rfl) pe_int ip_add))))) (pss_one (ps_ret (pv 4)))))))), ?_⟩
    refine ⟨_, rfl, l, bs, rfl, hp, hb, fun Ha dj sa nj hj => ?_⟩
    refine fun d hd => ⟨_, rfl, by show 2 ≤ sizeLine; decide, fun t0 ht0 => ?_⟩
    have td : d ≠ t0 := ne_of_none upd_same ht0
    refine ⟨by rw [upd_ne td]; exact upd_same, [(Sum.inr start, .ref t0)], rfl, by show 1 ≤ 15; decide, ?_⟩
    refine ⟨_, rfl, by show 1 ≤ sizeLine; decide, fun W hW => ?_⟩
    have Wd : d ≠ W := ne_of_none upd_same hW
    have Wt : t0 ≠ W := ne_of_none (by rw [upd_ne td.symm]; exact upd_same) hW
    have W0 : Ha W = none := by
      rw [upd_ne Wd.symm, upd_ne Wt.symm, upd_ne Wd.symm] at hW
      exact hW
    have t00 : Ha t0 = none := by
      rw [upd_ne td.symm] at ht0
      exact ht0
    refine ⟨fun m σ H1 => ∃ es i v7 v8, σ = [some (.str start), some (.ref l), some (.ref c), some (.ref dj), some (.ref d), some (.ref W), some (.int ((i : Nat) : Int)), v7, v8] ∧ SI Ha H1 d W R start es ∧ i ≤ es.length ∧
      (∀ e ∈ es.take i, ∀ s ∈ adj2 (bs.map (·.2)) e.1, s ∈ es.map (·.1)) ∧ m = R.length + 1 - i, ⟨_, [(start, t0, 0, .non)], 0, none, none, rfl, ⟨?_, hd, W0, ?_, upd_same, ⟨by simp, fun e he => ?_, by simp, fun e he => ?_⟩, fun e he => ?_⟩, Nat.zero_le _, (fun e he => by simp at he), rfl⟩, ?_⟩
    · exact same_upd (same_upd (same_upd (same_new hd) t00) hd) W0
    · rw [upd_ne Wd, upd_same]
      rfl
    · rw [List.mem_singleton.mp he]
      exact hst
    · rw [List.mem_singleton.mp he]
      exact .inl ⟨rfl, rfl, rfl⟩
    · rw [List.mem_singleton.mp he]
      rw [upd_ne Wt, upd_ne td.symm, upd_same]
      rfl
    · rintro m σ H1 ⟨es, i, v7, v8, rfl, hS, hi, hcl, rfl⟩
      refine ⟨_, rfl, _, rfl, W, _, rfl, .inl (SqL.of hS.hw), _, _, rfl, rfl, _, rfl, ?_⟩
      by_cases hlt : i < es.length
      · refine iteD (by rw [List.length_map]; omega) ?_
        have hle := hS.len
        obtain ⟨kvs, hk1, hk2⟩ := hj.same hS.s0
        have he : es[i] ∈ es := List.getElem_mem hlt
        refine ⟨fun σ' H' => _, fun σ' H' h => ⟨R.length + 1 - (i + 1), by omega, h⟩, ?_⟩
        refine ⟨_, rfl, _, rfl, W, _, _, V.str es[i].1, rfl, rfl, SqL.of hS.hw, atI_nat (by simp [hlt]), ?_⟩
        refine ⟨_, rfl, dj, rfl, .inl ⟨kvs, .inl hk1⟩, _, rfl, by show 0 ≤ sizeLine; omega, fun z hz => ?_⟩
        have zd : d ≠ z := ne_of_none hS.hd hz
        have zW : W ≠ z := ne_of_none hS.hw hz
        have zj : dj ≠ z := ne_of_none hk1 hz
        have key : ∃ la, (valV kvs (Sum.inr es[i].1)).getD (.ref z) = .ref la ∧ upd H1 z (.lst []) la = some (.lst ((srtS (adj2 (bs.map (·.2)) es[i].1)).map V.str)) ∧ la ≠ W ∧ la ≠ d := by
          rcases hk2 es[i].1 with ⟨q1, q2⟩ | ⟨a, q1, q2⟩
          · refine ⟨z, by rw [q1]; rfl, by rw [upd_same, q2, show srtS [] = [] from List.mergeSort_nil]; rfl, zW.symm, zd.symm⟩
          · have az : a ≠ z := ne_of_none q2 hz
            refine ⟨a, by rw [q1]; rfl, by rw [upd_ne az]; exact q2, ?_, ne_of q2 hS.hd (by intro z; cases z)⟩
            rcases hj with ⟨kvs0, g1, g2⟩
            have e0 : kvs0 = kvs := by
              have := hS.s0 _ _ g1
              rw [hk1] at this
              cases this
              rfl
            subst e0
            rcases g2 es[i].1 with ⟨g3, _⟩ | ⟨b, g3, g4⟩
            · rw [q1] at g3; cases g3
            · rw [q1] at g3
              cases g3
              exact ne_of_none g4 hS.w0
        obtain ⟨la, hla, hll, laW, lad⟩ := key
        refine ⟨_, DGet.k (k := Sum.inr es[i].1) (by rw [upd_ne zj]; exact hk1), la, hla, ⟨_, SqL.of hll⟩, ?_⟩
        refine for_it (walk_list (xs := (srtS (adj2 (bs.map (·.2)) es[i].1)).map V.str)) (fun j σ H2 => ∃ es' v8, σ = [some (.str start), some (.ref l), some (.ref c), some (.ref dj), some (.ref d), some (.ref W), some (.int ((i : Nat) : Int)), some (.str es[i].1), v8] ∧
          SI Ha H2 d W R start es' ∧ (∃ tl, es' = es ++ tl) ∧ (∀ s ∈ (srtS (adj2 (bs.map (·.2)) es[i].1)).take j, s ∈ es'.map (·.1)) ∧ H2 la = some (.lst ((srtS (adj2 (bs.map (·.2)) es[i].1)).map V.str))) ?_ (fun j σ H2 _ ⟨_, _, _, _, _, _, h⟩ => SqL.of h) ?_ ?_
        · exact ⟨es, v8, rfl, hS.same (same_new hz), ⟨[], by simp⟩, by simp, hll⟩
        · rintro j x σ H2 H3 hj2 ⟨es', v8', rfl, hS', ⟨tl, rfl⟩, hq, hl2⟩ ⟨rfl, hx⟩
          rw [List.length_map] at hj2
          obtain rfl : V.str (srtS (adj2 (bs.map (·.2)) es[i].1))[j] = x := by simpa [hj2] using hx
          generalize hs : (srtS (adj2 (bs.map (·.2)) es[i].1))[j] = s
          have htk : (srtS (adj2 (bs.map (·.2)) es[i].1)).take (j + 1) = (srtS (adj2 (bs.map (·.2)) es[i].1)).take j ++ [s] := by
            rw [List.take_add_one, List.getElem?_eq_getElem hj2, hs]
            rfl
          have hsR : s ∈ R := by
            have : s ∈ adj2 (bs.map (·.2)) es[i].1 := (srtS_perm _).mem_iff.mp (by rw [← hs]; exact List.getElem_mem hj2)
            exact hE.adj this
          refine ⟨_, rfl, _, rfl, d, _, rfl, DGet.k (k := Sum.inr s) hS'.hd, _, rfl, ?_⟩
          rw [lv_is hS'.ok.nd]
          by_cases hin : s ∈ (es ++ tl).map (·.1)
          · refine iteNS hin ?_
            refine ⟨es ++ tl, _, rfl, hS', ⟨tl, rfl⟩, fun q hq2 => ?_, hl2⟩
            rw [htk] at hq2
            rcases List.mem_append.mp hq2 with w | w
            · exact hq q w
            · rw [List.mem_singleton.mp w]
              exact hin
          · refine iteN hin ?_
            refine ⟨_, rfl, _, rfl, c, _, rfl, .inr (hc H3), rfl, rfl, _, rfl, iteT ?_⟩
            have he' : es[i] ∈ es ++ tl := List.mem_append.mpr (.inl he)
            have hlen := hS'.len
            refine ⟨_, rfl, _, rfl, d, _, rfl, by rw [← lv_get hS'.ok.nd he']; exact DGet.k (k := Sum.inr es[i].1) hS'.hd, ?_⟩
            refine ⟨es[i].2.1, _, _, V.int es[i].2.2.1, rfl, rfl, SqT.of (hS'.tup _ he'), rfl, ?_⟩
            refine ⟨_, _, rfl, rfl, _, rfl, by show 2 ≤ sizeLine; decide, fun t ht => ?_⟩
            refine ⟨_, rfl, _, rfl, d, _, rfl, DPut.k (k := Sum.inr s) (by rw [upd_ne (ne_of_none hS'.hd ht)]; exact hS'.hd) (szL (by simp only [lvKv, List.length_map]; omega)), ?_⟩
            have Wd' : W ≠ d := Wd.symm
            have hw' : upd (upd H3 t (.tup [.int (es[i].2.2.1 + 1), .str es[i].1])) d (.dK (putK (lvKv (es ++ tl)) (Sum.inr s) (.ref t))) W = some (.lst ((es ++ tl).map fun e => V.str e.1)) := by
              rw [upd_ne Wd', upd_ne (ne_of_none hS'.hw ht)]
              exact hS'.hw
            refine ⟨_, rfl, .inl ⟨rfl, _, SqL.of hw'⟩, _, rfl, W, _, _, rfl, rfl, hw', szL (by rw [List.length_map]; omega), ?_⟩
            refine ⟨es ++ (tl ++ [(s, t, es[i].2.2.1 + 1, .str es[i].1)]), _, rfl, by rw [← List.append_assoc]; exact hS'.add he' hsR hin ht, ⟨_, rfl⟩, fun q hq2 => ?_, ?_⟩
            · rw [htk] at hq2
              rw [← List.append_assoc, List.map_append]
              rcases List.mem_append.mp hq2 with w | w
              · exact List.mem_append.mpr (.inl (hq q w))
              · rw [List.mem_singleton.mp w]
                exact List.mem_append.mpr (.inr (by simp))
            · rw [upd_ne laW, upd_ne lad, upd_ne (ne_of_none hl2 ht)]
              exact hl2
        · rintro σ H2 ⟨es', v8', rfl, hS', ⟨tl, rfl⟩, hq, hl2⟩
          rw [List.length_map, List.take_of_length_le (Nat.le_refl _)] at hq
          refine ⟨_, rfl, _, _, rfl, rfl, ?_⟩
          refine ⟨es ++ tl, i + 1, _, _, rfl, hS', by rw [List.length_append]; omega, fun e he2 s hs => ?_, rfl⟩
          rw [List.take_append_of_le_length (by omega), List.take_add_one, List.getElem?_eq_getElem hlt] at he2
          rcases List.mem_append.mp he2 with w | w
          · rw [List.map_append]
            exact List.mem_append.mpr (.inl (hcl e w s hs))
          · have : e = es[i] := by simpa using w
            subst this
            exact hq s ((srtS_perm _).mem_iff.mpr hs)
      · refine iteDn (by rw [List.length_map]; omega) ?_
        have ei : i = es.length := by omega
        refine ⟨_, rfl, k H1 d es (sa.trans hS.s0) (sa.free hS.d0) ⟨hS.hd, hS.tup, hS.ok, ?_⟩⟩
        rw [ei, List.take_of_length_le (Nat.le_refl _)] at hcl
        exact hcl
theorem ok_reached_from (T : Txt K mg) : FnOk P w K mg base CX0 3 (a_reached_from K) (d_reached_from K) P_reached_from (spReached K) := by
  have nd := sc_reached_from.nd
  refine T.f_reached_from.ok sc_reached_from (fun vs H Q E h => ?_) (fun cdv A outer s H vs Q E hr h => ?_)
  · obtain ⟨start, l, c, bs, R, rfl, _⟩ := h
    rfl
  · obtain ⟨start, l, c, bs, R, rfl, hp, hb, hE, hR, hst, hc, k⟩ := h
    refine ⟨_, PSs.nox (pss_one (ps_ret (pe_callTy (call_listD rfl) (by rfl) T.n_list (by decide +kernel) (pa_cons (pe_call (ok_steps_from T) (hr.mono (by decide)) (by rfl) T.g_steps_from T.f_steps_from.kp T.b_steps_from .nil pass0 (pa_cons (pv 0) (pa_cons (pv 1) (pa_cons (pv 2) pa_nil)))) pa_nil)))), ?_⟩
    refine ⟨_, rfl, _, rfl, _, rfl, start, l, c, bs, R, rfl, hp, hb, hE, hR, hst, hc, fun H' d es s' nd' hl => ?_⟩
    refine ⟨d, _, rfl, .inl hl.hd, fun p hp2 => k _ p (es.map (·.1)) (s'.trans (same_new hp2)) (s'.free hp2) ?_ hl.ok.st ?_⟩
    · rw [upd_same]
      simp [lvKv, kV]
    · intro k hk s hs
      obtain ⟨e, he, rfl⟩ := List.mem_map.mp hk
      exact hl.cl e he s hs
theorem Txt.b_reached_from2 (T : Txt K mg) : ∃ ds, Vals [V.ref (dfCr K)] ds ∧ Binds K (d_reached_from K) P_reached_from ds :=
  T.f_reached_from.binds1 (ps := P_reached_from) 2 0 (by simp) rfl (fun T kV doc pm an cdv ct us its hl hi => match us, its, hl, hi with | [_, _], [_], _, _ => ⟨_, rfl, rfl⟩)
end
end Rd
/-! level_corridor, sides_of, odd_ring_of -/
namespace Rd
open PySem PySem.Spec L2
open PyProof.Rows hiding St
theorem LvAt.get {H : Hp} {d : Addr} {ps : List (Str × Str)} {R : List Str} {start : Str} {es : List Lv} (h : LvAt H d ps R start es) {r : Str} (hr : r ∈ es.map (·.1)) :
    ∃ e ∈ es, e.1 = r ∧ DGet H d (.str r) (some (.ref e.2.1)) ∧ H e.2.1 = some (lvTup e) := by
  obtain ⟨e, he, rfl⟩ := List.mem_map.mp hr
  refine ⟨e, he, rfl, ?_, h.tup e he⟩
  rw [← lv_get h.ok.nd he]
  exact DGet.k (k := Sum.inr e.1) h.hd
/-- in a connected plan every room is found -/
def Conn (R : List Str) (ps : List (Str × Str)) : Prop := ∀ S : Str → Prop, (∃ r ∈ R, S r) → (∀ p ∈ ps, S p.1 ↔ S p.2) → ∀ r ∈ R, S r
theorem Conn.all {R : List Str} {ps : List (Str × Str)} (h : Conn R ps) {ks : List Str} {st : Str} (hs : st ∈ R) (hk : st ∈ ks) (cl : ∀ k ∈ ks, ∀ s ∈ adj2 ps k, s ∈ ks) : ∀ r ∈ R, r ∈ ks :=
  h (· ∈ ks) ⟨st, hs, hk⟩ fun p hp => ⟨fun a => cl _ a _ (mem_adj2.mpr (.inl hp)), fun a => cl _ a _ (mem_adj2.mpr (.inr hp))⟩
theorem LvAt.full {H : Hp} {d : Addr} {ps : List (Str × Str)} {R : List Str} {start : Str} {es : List Lv} (h : LvAt H d ps R start es) (hc : Conn R ps) : ∀ r ∈ R, r ∈ es.map (·.1) := by
  obtain ⟨e, he, hse⟩ := List.mem_map.mp h.ok.st
  refine hc.all (st := start) (by rw [← hse]; exact h.ok.sub e he) h.ok.st fun k hk s hs => ?_
  obtain ⟨e, he, rfl⟩ := List.mem_map.mp hk
  exact h.cl e he s hs
theorem LvOk.nn {start : Str} {R : List Str} {es : List Lv} (h : LvOk start R es) {e : Lv} (he : e ∈ es) : 0 ≤ e.2.2.1 := by
  rcases h.par e he with ⟨q, _⟩ | ⟨q, _, _, q1, q2⟩ <;> omega
theorem LvOk.below {start : Str} {R : List Str} {es : List Lv} (h : LvOk start R es) : ∀ (n : Nat) {e : Lv}, e ∈ es → e.2.2.1 = (n : Int) → ∀ k : Nat, k ≤ n → ((k : Nat) : Int) ∈ es.map (·.2.2.1)
  | 0, e, he, hn, k, hk => by
    obtain rfl : k = 0 := by omega
    rw [← hn]
    exact List.mem_map.mpr ⟨e, he, rfl⟩
  | n + 1, e, he, hn, k, hk => by
    by_cases e' : k = n + 1
    · rw [e', ← hn]
      exact List.mem_map.mpr ⟨e, he, rfl⟩
    · rcases h.par e he with ⟨q, _⟩ | ⟨q, hq, _, q1, q2⟩
      · omega
      · exact h.below n hq (by omega) k (by omega)
theorem LvOk.lt {start : Str} {R : List Str} {es : List Lv} (h : LvOk start R es) {e : Lv} (he : e ∈ es) : e.2.2.1 < R.length := by
  have h0 := h.nn he
  have h1 := h.below e.2.2.1.toNat he (by omega)
  have h2 : ((List.range (e.2.2.1.toNat + 1)).map fun k : Nat => (k : Int)).length ≤ (es.map (·.2.2.1)).length := by
    refine nodup_le ?_ fun x hx => ?_
    · exact List.Pairwise.map _ (fun a b (q : a ≠ b) => by omega) List.nodup_range
    · obtain ⟨k, hk, rfl⟩ := List.mem_map.mp hx
      exact h1 k (by have := List.mem_range.mp hk; omega)
  have h3 := nodup_le h.nd (ys := R) fun x hx => by
    obtain ⟨q, hq, rfl⟩ := List.mem_map.mp hx
    exact h.sub q hq
  rw [List.length_map, List.length_range, List.length_map] at h2
  rw [List.length_map] at h3
  omega
def spLevel (K : PySem.W.Frag) : Sp := fun vs H Q _ => ∃ d l bs R start es, vs = [.ref d, .ref l] ∧ LvAt H d (bs.map (·.2)) R start es ∧ PrsAt K H l bs ∧ (∀ r ∈ R, r ∈ es.map (·.1)) ∧ EdgeIn R (bs.map (·.2)) ∧
  Q .non H ∧ ∀ t p eo eu, H t = none → eo ∈ es → eu ∈ es → eo.1 = p.1 → eu.1 = p.2 → eo.2.2.1 = eu.2.2.1 → Q (.ref t) (upd H t (.tup (pvs p)))
section
variable {P : Program} {w : World} {K : PySem.W.Frag} {mg : Str → Option Value} {base : Heap}
theorem ok_level_corridor (T : Txt K mg) : FnOk P w K mg base CX0 1 (a_level_corridor K) (d_level_corridor K) P_level_corridor (spLevel K) := by
  have nd := sc_level_corridor.nd
  refine ok0 T.f_level_corridor sc_level_corridor (fun vs H Q E h => ?_) (fun cdv A outer s H vs Q E hr h => ?_)
  · obtain ⟨d, l, bs, R, start, es, rfl, _⟩ := h
    rfl
  · obtain ⟨d, l, bs, R, start, es, rfl, hl, hp, hf, hE, k0, k1⟩ := h
    have hu := hu_of hr
    refine ⟨_, (pss_cons (ps_for PassesOwn.never rfl (pi_list (pv 1)) (pg_tup (by rfl) (pgs_cons (pg_name (i := 2) nd rfl (Or.inl rfl)) (pgs_cons (pg_name (i := 3) nd rfl (Or.inl rfl)) pgs_nil))) (pss_one (ps_if (pt_cmpR op_eq (pe_ix ix_tup (pe_dget hu (pv 0) (pv 2) (fun _ _ => rfl)) pe_int (fun _ _ => rfl)) (pe_ix ix_tup (pe_dget hu (pv 0) (pv 3) (fun _ _ => rfl)) pe_int (fun _ _ => rfl)) (nomark _)) (pss_one (ps_ret (pe_tup (pa_cons (pv 2) (pa_cons (pv 3) pa_nil))))) pss_nil))) (pss_one (ps_ret pe_non))), ?_⟩
    refine ⟨_, rfl, l, rfl, ⟨_, SqL.of hp.lst⟩, ?_⟩
    refine for_it (walk_list (xs := bs.map fun b => V.ref b.1)) (fun i σ H1 => (∃ u v, σ = [some (.ref d), some (.ref l), u, v]) ∧ H1 = H) ⟨⟨_, _, rfl⟩, rfl⟩ (fun i σ H1 _ h => by rw [h.2]; exact SqL.of hp.lst) ?_ ?_
    · rintro i x σ H1 H2 hi ⟨⟨u, v, rfl⟩, rfl⟩ ⟨rfl, hx⟩
      rw [List.length_map] at hi
      obtain rfl : V.ref bs[i].1 = x := by simpa [hi] using hx
      have hb : bs[i] ∈ bs := List.getElem_mem hi
      have hbm : bs[i].2 ∈ bs.map (·.2) := List.mem_map.mpr ⟨_, hb, rfl⟩
      refine ⟨_, _, rfl, SqT.of (hp.tup _ hb), rfl, _, _, rfl, _, _, rfl, rfl, ?_⟩
      obtain ⟨eo, ho1, ho2, ho3, ho4⟩ := hl.get (hf _ (hE _ hbm).1)
      obtain ⟨eu, hu1, hu2, hu3, hu4⟩ := hl.get (hf _ (hE _ hbm).2)
      refine ⟨_, rfl, _, rfl, d, _, rfl, ho3, ?_⟩
      refine ⟨_, _, _, V.int eo.2.2.1, rfl, rfl, SqT.of ho4, rfl, ?_⟩
      refine ⟨_, rfl, _, rfl, d, _, rfl, hu3, ?_⟩
      refine ⟨_, _, _, V.int eu.2.2.1, rfl, rfl, SqT.of hu4, rfl, ?_⟩
      refine ⟨rfl, _, rfl, ?_⟩
      by_cases e : eo.2.2.1 = eu.2.2.1
      · refine iteD (by rw [e]) ?_
        refine ⟨_, rfl, _, rfl, by show 2 ≤ sizeLine; decide, fun t ht => ?_⟩
        exact k1 t bs[i].2 eo eu ht ho1 hu1 ho2 hu2 e
      · refine iteDn (fun z => e (by injection z)) ?_
        exact ⟨⟨_, _, rfl⟩, rfl⟩
    · rintro σ H1 ⟨_, rfl⟩
      exact k0
def spSides (K : PySem.W.Frag) : Sp := fun vs H Q _ => ∃ lr l bs R, vs = [.ref lr, .ref l] ∧ H lr = some (.lst (R.map V.str)) ∧ PrsAt K H l bs ∧ bs.length ≤ 40 ∧ EdgeIn R (bs.map (·.2)) ∧ R.length ≤ 30 ∧ R ≠ [] ∧ Conn R (bs.map (·.2)) ∧
  ∀ H' v, Same H H' → (v = .non ∨ ∃ t a b xs ys, v = .ref t ∧ H' t = some (.tup [.ref a, .ref b]) ∧ H' a = some (.lst xs) ∧ H' b = some (.lst ys)) → Q v H'
theorem ok_sides_of (T : Txt K mg) : FnOk P w K mg base CX0 3 (a_sides_of K) (d_sides_of K) P_sides_of (spSides K) := by
  have nd := sc_sides_of.nd
  refine ok0 T.f_sides_of sc_sides_of (fun vs H Q E h => ?_) (fun cdv A outer s H vs Q E hr h => ?_)
  · obtain ⟨lr, l, bs, R, rfl, _⟩ := h
    rfl
  · obtain ⟨lr, l, bs, R, rfl, hlr, hp, hb, hE, hR, hne, hC, k⟩ := h
    have hu := hu_of hr
    obtain ⟨ds, hds, hbd⟩ := T.b_steps_from2
    refine ⟨_, (pss_cons (ps_set (i := 2) nd rfl (Or.inr rfl) (pe_call (ok_steps_from T) (hr.mono (by decide)) (by rfl) T.g_steps_from T.f_steps_from.kp hbd hds pass0 (pa_cons (pe_callB (cr_minS rfl hu) (by rfl) T.n_min (by decide +kernel) (pa_cons (pv 0) pa_nil)) (pa_cons (pv 1) pa_nil)))) (pss_cons (ps_if (pt_cmpR op_notN (pe_call (ok_level_corridor T) (hr.mono (by decide)) (by rfl) T.g_level_corridor T.f_level_corridor.kp T.b_level_corridor .nil pass0 (pa_cons (pv 2) (pa_cons (pv 1) pa_nil))) pe_non (nomark _)) (pss_one (ps_ret pe_non)) pss_nil) (pss_cons (ps_setLc (i := 3) (own := [("room", 4)]) (g := (gName 4)) rfl nd rfl rfl (sw_true rfl rfl rfl (by decide +kernel)) (pi_list (pe_callB (cr_srtS hr.units) (by rfl) T.n_sorted (by decide +kernel) (pa_cons (pv 0) pa_nil))) (blkOk_by (own := [("room", 4)]) (N := N_sides_of) (sc := defScope s_sides_of) (by decide +kernel)) (fun _ _ _ _ _ => (pg_name (i := 4) nd rfl (Or.inl rfl))) (fun _ _ _ _ _ => (pts_one (pt_cmpR op_eq (pe_op op_mod (pe_ix (ix_tupK K) (pe_dget hu (pv 2) (pv 4) (fun _ _ => rfl)) pe_int (fun _ _ => rfl)) pe_int) pe_int (nomark _)))) (fun _ _ _ _ _ => (pv 4))) (pss_one (ps_ret (pe_tup (pa_cons (pv 3) (pa_cons (pe_lc (own := [("room", 4)]) (g := (gName 4)) rfl nd (pi_list (pe_callB (cr_srtS hr.units) (by rfl) T.n_sorted (by decide +kernel) (pa_cons (pv 0) pa_nil))) (blkOk_by (own := [("room", 4)]) (N := N_sides_of) (sc := defScope s_sides_of) (by decide +kernel)) (fun _ _ _ _ _ => (pg_name (i := 4) nd rfl (Or.inl rfl))) (fun _ _ _ _ _ => (pts_one (pt_cmpR op_eq (pe_op op_mod (pe_ix (ix_tupK K) (pe_dget hu (pv 2) (pv 4) (fun _ _ => rfl)) pe_int (fun _ _ => rfl)) pe_int) pe_int (nomark _)))) (fun _ _ _ _ _ => (pv 4))) pa_nil)))))))), ?_⟩
    refine ⟨_, rfl, lr, R, rfl, SqL.of hlr, hne, fun m hm => ?_⟩
    refine ⟨_, rfl, m, l, dfCl K, bs, R, rfl, hp, hb, hE, hR, hm, T.clT, fun H1 d es s1 n1 hl => ?_⟩
    have hf := hl.full hC
    refine ⟨_, rfl, _, rfl, d, l, bs, R, m, es, rfl, hl, hp.same s1, hf, hE, ?_, ?_⟩
    · refine ⟨rfl, _, rfl, iteNS rfl ?_⟩
      refine ⟨_, rfl, lr, R, rfl, SqL.of (s1 _ _ hlr), fun q hq => ?_⟩
      refine ⟨q, rfl, ⟨_, SqL.of upd_same⟩, fun D hD => ?_⟩
      refine lc_it (walk_list (xs := (srtS R).map V.str)) (fun i H2 => Same (upd H1 q (.lst ((srtS R).map V.str))) H2 ∧ ∃ acc, H2 D = some (.lst acc) ∧ acc.length ≤ i) ⟨same_new hD, [], upd_same, Nat.le_refl _⟩ (fun i H2 _ h => SqL.of (h.1 _ _ upd_same)) ?_ ?_
      · rintro i x H2 H3 hi ⟨s2, acc, a1, a2⟩ ⟨rfl, hx⟩
        rw [List.length_map] at hi
        obtain rfl : V.str (srtS R)[i] = x := by simpa [hi] using hx
        have hmR : (srtS R)[i] ∈ R := (srtS_perm R).mem_iff.mp (List.getElem_mem hi)
        have hi' : i < R.length := by rw [← (srtS_perm R).length_eq]; exact hi
        obtain ⟨e, he1, he2, he3, he4⟩ := (hl.same ((same_new hq).trans s2)).get (hf _ hmR)
        refine ⟨rfl, _, rfl, _, rfl, d, _, rfl, he3, ?_⟩
        refine ⟨_, _, _, V.int e.2.2.1, rfl, rfl, SqT.of he4, rfl, ?_⟩
        refine ⟨_, _, rfl, rfl, (by show (0 : Int) < 2; decide), rfl, _, rfl, ?_⟩
        by_cases c : (V.int (e.2.2.1 % 2) = V.int 0)
        · refine iteD c ?_
          exact ⟨_, rfl, acc, a1, szL (by omega), same_upd s2 hD, _, upd_same, by rw [List.length_append, List.length_singleton]; omega⟩
        · refine iteDn c ?_
          exact ⟨s2, acc, a1, by omega⟩
      · rintro H2 ⟨s2, acc, a1, a2⟩
        have lr2 : H2 lr = some (.lst (R.map V.str)) := s2 _ _ (same_new hq _ _ (s1 _ _ hlr))
        refine ⟨_, rfl, _, rfl, lr, R, rfl, SqL.of lr2, fun q' hq' => ?_⟩
        refine ⟨q', rfl, ⟨_, SqL.of upd_same⟩, fun D' hD' => ?_⟩
        refine lc_it (walk_list (xs := (srtS R).map V.str)) (fun i H3 => Same (upd H2 q' (.lst ((srtS R).map V.str))) H3 ∧ ∃ acc, H3 D' = some (.lst acc) ∧ acc.length ≤ i) ⟨same_new hD', [], upd_same, Nat.le_refl _⟩ (fun i H2 _ h => SqL.of (h.1 _ _ upd_same)) ?_ ?_
        · rintro i x H3 H4 hi ⟨s3, acc', a1', a2'⟩ ⟨rfl, hx⟩
          rw [List.length_map] at hi
          obtain rfl : V.str (srtS R)[i] = x := by simpa [hi] using hx
          have hmR : (srtS R)[i] ∈ R := (srtS_perm R).mem_iff.mp (List.getElem_mem hi)
          have hi' : i < R.length := by rw [← (srtS_perm R).length_eq]; exact hi
          obtain ⟨e, he1, he2, he3, he4⟩ := (((hl.same ((same_new hq).trans s2)).same (same_new hq')).same s3).get (hf _ hmR)
          refine ⟨rfl, _, rfl, _, rfl, d, _, rfl, he3, ?_⟩
          refine ⟨_, _, _, V.int e.2.2.1, rfl, rfl, SqT.of he4, rfl, ?_⟩
          refine ⟨_, _, rfl, rfl, (by show (0 : Int) < 2; decide), rfl, _, rfl, ?_⟩
          by_cases c : (V.int (e.2.2.1 % 2) = V.int 1)
          · refine iteD c ?_
            exact ⟨_, rfl, acc', a1', szL (by omega), same_upd s3 hD', _, upd_same, by rw [List.length_append, List.length_singleton]; omega⟩
          · refine iteDn c ?_
            exact ⟨s3, acc', a1', by omega⟩
        · rintro H3 ⟨s3, acc', a1', a2'⟩
          refine ⟨by show 2 ≤ sizeLine; decide, fun t ht => ?_⟩
          have s4 : Same H2 H3 := (same_new hq').trans s3
          refine k _ _ (s1.trans ((same_new hq).trans (s2.trans (s4.trans (same_new ht))))) (.inr ⟨t, D, D', acc, acc', rfl, upd_same, ?_, ?_⟩)
          · exact same_new ht _ _ (s4 _ _ a1)
          · exact same_new ht _ _ a1'
    · intro t p eo eu ht _ _ _ _ _
      refine ⟨rfl, _, rfl, iteN (by intro z; cases z) ?_⟩
      exact k _ _ (s1.trans (same_new ht)) (.inl rfl)
end
end Rd
/-! odd_ring_of, on_rings, bridges_of -/
namespace Rd
open PySem PySem.Spec L2
open PyProof.Rows hiding St
def spRing (K : PySem.W.Frag) : Sp := fun vs H Q _ => ∃ lr l bs R, vs = [.ref lr, .ref l] ∧ H lr = some (.lst (R.map V.str)) ∧ PrsAt K H l bs ∧ bs.length ≤ 40 ∧ EdgeIn R (bs.map (·.2)) ∧ R.length ≤ 30 ∧ R ≠ [] ∧ Conn R (bs.map (·.2)) ∧
  ∀ H' v, Same H H' → (v = .non ∨ ∃ t xs, v = .ref t ∧ H' t = some (.tup xs)) → Q v H'
def spOn (K : PySem.W.Frag) : Sp := fun vs H Q _ => ∃ d l bs R start es, vs = [.ref d, .ref l] ∧ LvAt H d (bs.map (·.2)) R start es ∧ PrsAt K H l bs ∧ (∀ r ∈ R, r ∈ es.map (·.1)) ∧ EdgeIn R (bs.map (·.2)) ∧ bs.length ≤ 40 ∧ R.length ≤ 30 ∧
  ∀ H' p kvs, Same H H' → H p = none → H' p = some (.dK kvs) → Q (.ref p) H'
def spBridges (K : PySem.W.Frag) : Sp := fun vs H Q _ => ∃ lr l bs R, vs = [.ref lr, .ref l] ∧ H lr = some (.lst (R.map V.str)) ∧ PrsAt K H l bs ∧ bs.length ≤ 40 ∧ EdgeIn R (bs.map (·.2)) ∧ R.length ≤ 30 ∧ R ≠ [] ∧ Conn R (bs.map (·.2)) ∧
  ∀ H' p xs, Same H H' → H p = none → H' p = some (.lst xs) → Q (.ref p) H'
theorem LvOk.uniq {start : Str} {R : List Str} {es : List Lv} (h : LvOk start R es) {e u : Lv} (he : e ∈ es) (hu : u ∈ es) (q : e.1 = u.1) : e = u := by
  have := lv_get h.nd he
  have h2 : ∀ (l : List Lv), (l.map (·.1)).Nodup → e ∈ l → u ∈ l → e = u := by
    intro l
    induction l with
    | nil => intro _ h; simp at h
    | cons a l ih =>
      intro nd h1 h2
      rw [List.map_cons, List.nodup_cons] at nd
      rcases List.mem_cons.mp h1 with a1 | a1
      · rcases List.mem_cons.mp h2 with a2 | a2
        · rw [a1, a2]
        · exact absurd (List.mem_map.mpr ⟨u, a2, by rw [← a1, q]⟩) nd.1
      · rcases List.mem_cons.mp h2 with a2 | a2
        · exact absurd (List.mem_map.mpr ⟨e, a1, by rw [← a2, q]⟩) nd.1
        · exact ih nd.2 a1 a2
  exact h2 es h.nd he hu
section
variable {P : Program} {w : World} {K : PySem.W.Frag} {mg : Str → Option Value} {base : Heap}
theorem ok_odd_ring_of (T : Txt K mg) : FnOk P w K mg base CX0 3 (a_odd_ring_of K) (d_odd_ring_of K) P_odd_ring_of (spRing K) := by
  have nd := sc_odd_ring_of.nd
  refine ok0 T.f_odd_ring_of sc_odd_ring_of (fun vs H Q E h => ?_) (fun cdv A outer s H vs Q E hr h => ?_)
  · obtain ⟨lr, l, bs, R, rfl, _⟩ := h
    rfl
  · obtain ⟨lr, l, bs, R, rfl, hlr, hp, hb, hE, hR, hne, hC, k⟩ := h
    have hu := hu_of hr
    obtain ⟨ds, hds, hbd⟩ := T.b_steps_from2
    refine ⟨_, (pss_cons (ps_set (i := 2) nd rfl (Or.inl rfl) (pe_call (ok_steps_from T) (hr.mono (by decide)) (by rfl) T.g_steps_from T.f_steps_from.kp hbd hds pass0 (pa_cons (pe_callB (cr_minS rfl hu) (by rfl) T.n_min (by decide +kernel) (pa_cons (pv 0) pa_nil)) (pa_cons (pv 1) pa_nil)))) (pss_cons (ps_set (i := 3) nd rfl (Or.inl rfl) (pe_call (ok_level_corridor T) (hr.mono (by decide)) (by rfl) T.g_level_corridor T.f_level_corridor.kp T.b_level_corridor .nil pass0 (pa_cons (pv 2) (pa_cons (pv 1) pa_nil)))) (pss_cons (ps_if (pt_cmpR op_isN (pv 3) pe_non (nomark _)) (pss_one (ps_ret pe_non)) pss_nil) (pss_cons (ps_par (i := 4) (j := 5) (by rfl) nd rfl rfl (by decide) rfl rfl (pa_cons (pe_lst (pa_cons (pe_ix ix_tup (pv 3) pe_int (fun _ _ => rfl)) pa_nil)) (pa_cons (pe_lst (pa_cons (pe_ix ix_tup (pv 3) pe_int (fun _ _ => rfl)) pa_nil)) pa_nil)) (by rfl)) (pss_cons (ps_while PassesOwn.never (pt_cmpR op_ne (pe_ix ix_list (pv 4) (pe_un un_neg pe_int) (fun _ _ => rfl)) (pe_ix ix_list (pv 5) (pe_un un_neg pe_int) (fun _ _ => rfl)) (nomark _)) (pss_cons (ps_expr (pe_bm PySem.F.plainAttrs_list PySem.F.slot_list_append PySem.F.type_list_append mt_append (pv 4) (pa_cons (pe_ix ix_tup (pe_dget hu (pv 2) (pe_ix ix_list (pv 4) (pe_un un_neg pe_int) (fun _ _ => rfl)) (fun _ _ => rfl)) pe_int (fun _ _ => rfl)) pa_nil))) (pss_one (ps_expr (pe_bm PySem.F.plainAttrs_list PySem.F.slot_list_append PySem.F.type_list_append mt_append (pv 5) (pa_cons (pe_ix ix_tup (pe_dget hu (pv 2) (pe_ix ix_list (pv 5) (pe_un un_neg pe_int) (fun _ _ => rfl)) (fun _ _ => rfl)) pe_int (fun _ _ => rfl)) pa_nil)))))) (pss_one (ps_ret (pe_callTy call_tuple_of (by rfl) T.n_tuple (by decide +kernel) (pa_cons (pe_op op_cat (pv 4) (pe_back (pv 5))) pa_nil))))))))), ?_⟩
    refine ⟨_, rfl, lr, R, rfl, SqL.of hlr, hne, fun m hm => ?_⟩
    refine ⟨_, rfl, m, l, dfCl K, bs, R, rfl, hp, hb, hE, hR, hm, T.clT, fun H1 d es s1 n1 hl => ?_⟩
    have hf := hl.full hC
    refine ⟨_, rfl, _, rfl, d, l, bs, R, m, es, rfl, hl, hp.same s1, hf, hE, ?_, ?_⟩
    · refine ⟨_, rfl, rfl, _, rfl, iteD rfl ?_⟩
      exact k _ _ s1 (.inl rfl)
    · intro t p eo eu ht ho1 hu1 ho2 hu2 hle
      refine ⟨_, rfl, rfl, _, rfl, iteDn (by intro z; cases z) ?_⟩
      have ht' : upd H1 t (.tup (pvs p)) t = some (.tup (pvs p)) := upd_same
      refine ⟨_, rfl, t, _, _, V.str p.1, rfl, rfl, SqT.of ht', rfl, by show 1 ≤ sizeLine; decide, fun a ha => ?_⟩
      have ta : t ≠ a := ne_of_none ht' ha
      refine ⟨_, rfl, t, _, _, V.str p.2, rfl, rfl, SqT.of (by rw [upd_ne ta]; exact ht'), rfl, by show 1 ≤ sizeLine; decide, fun b hb2 => ?_⟩
      have ab : a ≠ b := ne_of_none upd_same hb2
      refine ⟨_, _, rfl, ?_⟩
      have hltR := hl.ok.lt ho1
      have h0 := hl.ok.nn ho1
      have a0 : H1 a = none := by rw [upd_ne ta.symm] at ha; exact ha
      have b0 : H1 b = none := by
        have tb : t ≠ b := ne_of_none (by rw [upd_ne ta]; exact ht') hb2
        rw [upd_ne ab.symm, upd_ne tb.symm] at hb2
        exact hb2
      refine ⟨fun n σ H2 => ∃ xs ys ea eb, σ = [some (.ref lr), some (.ref l), some (.ref d), some (.ref t), some (.ref a), some (.ref b)] ∧ Same H1 H2 ∧ H2 a = some (.lst (xs ++ [V.str ea.1])) ∧ H2 b = some (.lst (ys ++ [V.str eb.1])) ∧ ea ∈ es ∧ eb ∈ es ∧ ea.2.2.1 = eb.2.2.1 ∧
        xs.length + ea.2.2.1.toNat ≤ 30 ∧ ys.length + ea.2.2.1.toNat ≤ 30 ∧ n = ea.2.2.1.toNat, ⟨_, [], [], eo, eu, rfl, ?_, ?_, ?_, ho1, hu1, hle, ?_, ?_, rfl⟩, ?_⟩
      · exact same_upd (same_upd (same_new ht) a0) b0
      · rw [upd_ne ab, upd_same, ho2]
        rfl
      · rw [upd_same, hu2]
        rfl
      · simp only [List.length_nil]
        omega
      · simp only [List.length_nil]
        omega
      · rintro n σ H2 ⟨xs, ys, ea, eb, rfl, s2, ha2, hb2', hea, heb, hlev, hlx, hly, rfl⟩
        have hl2 := hl.same s2
        refine ⟨_, rfl, _, rfl, a, _, _, V.str ea.1, rfl, rfl, SqL.of ha2, atI_last _ _, ?_⟩
        refine ⟨_, rfl, _, rfl, b, _, _, V.str eb.1, rfl, rfl, SqL.of hb2', atI_last _ _, ?_⟩
        refine ⟨rfl, _, rfl, ?_⟩
        by_cases c : ea.1 = eb.1
        · refine iteNS (by rw [c]) ?_
          refine ⟨_, rfl, _, rfl, b, _, rfl, SqL.of hb2', fun zs p hz hp2 => ?_⟩
          refine ⟨a, p, _, zs, rfl, rfl, by rw [upd_ne (ne_of_none ha2 hp2)]; exact ha2, upd_same, ?_, fun q hq => ?_⟩
          · simp only [List.length_append, List.length_singleton] at hz ⊢
            exact szK (by omega)
          refine ⟨q, _, rfl, .inl ⟨SqL.of upd_same, fun t' ht' => ?_⟩⟩
          exact k _ _ (s1.trans (s2.trans ((same_new hp2).trans ((same_new hq).trans (same_new ht'))))) (.inr ⟨t', _, rfl, upd_same⟩)
        · refine iteN (by intro z; injection z with z; exact c z) ?_
          rcases hl.ok.par ea hea with ⟨q1, q2, _⟩ | ⟨qa, hqa, qa1, qa2, qa3⟩
          · rcases hl.ok.par eb heb with ⟨_, r2, _⟩ | ⟨qb, hqb, _, qb2, qb3⟩
            · exact absurd (q2.trans r2.symm) c
            · omega
          rcases hl.ok.par eb heb with ⟨r1, _⟩ | ⟨qb, hqb, qb1, qb2, qb3⟩
          · omega
          refine ⟨fun σ' H' => _, fun σ' H' h => ⟨qa.2.2.1.toNat, by omega, h⟩, ?_⟩
          obtain ⟨ea', hea', hea1, hea3, hea4⟩ := hl2.get (List.mem_map.mpr ⟨ea, hea, rfl⟩)
          obtain rfl := hl.ok.uniq hea' hea hea1
          have ax : (xs ++ [V.str ea'.1]).length < sizeLine := by
            rw [List.length_append, List.length_singleton]
            exact szL (by omega)
          have bx : (ys ++ [V.str eb.1]).length < sizeLine := by
            rw [List.length_append, List.length_singleton]
            exact szL (by omega)
          have ab' : b ≠ a := ab.symm
          refine ⟨_, rfl, .inl ⟨rfl, _, SqL.of ha2⟩, _, rfl, _, rfl, _, rfl, a, _, _, V.str ea'.1, rfl, rfl, SqL.of ha2, atI_last _ _, ?_⟩
          refine ⟨d, _, rfl, hea3, ?_⟩
          refine ⟨_, _, _, ea'.2.2.2, rfl, rfl, SqT.of hea4, rfl, ?_⟩
          refine ⟨a, _, _, rfl, rfl, ha2, ax, ?_⟩
          have s3 : Same H1 (upd H2 a (.lst ((xs ++ [V.str ea'.1]) ++ [ea'.2.2.2]))) := same_upd s2 a0
          obtain ⟨eb', heb', heb1, heb3, heb4⟩ := (hl.same s3).get (List.mem_map.mpr ⟨eb, heb, rfl⟩)
          obtain rfl := hl.ok.uniq heb' heb heb1
          have hb3 : upd H2 a (.lst ((xs ++ [V.str ea'.1]) ++ [ea'.2.2.2])) b = some (.lst (ys ++ [V.str eb'.1])) := by rw [upd_ne ab']; exact hb2'
          refine ⟨_, rfl, .inl ⟨rfl, _, SqL.of hb3⟩, _, rfl, _, rfl, _, rfl, b, _, _, V.str eb'.1, rfl, rfl, SqL.of hb3, atI_last _ _, ?_⟩
          refine ⟨d, _, rfl, heb3, ?_⟩
          refine ⟨_, _, _, eb'.2.2.2, rfl, rfl, SqT.of heb4, rfl, ?_⟩
          refine ⟨b, _, _, rfl, rfl, hb3, bx, ?_⟩
          refine ⟨xs ++ [V.str ea'.1], ys ++ [V.str eb'.1], qa, qb, rfl, same_upd s3 b0, ?_, ?_, hqa, hqb, by omega, ?_, ?_, rfl⟩
          · rw [upd_ne ab, upd_same, qa1]
          · rw [upd_same, qb1]
          · rw [List.length_append, List.length_singleton]
            omega
          · rw [List.length_append, List.length_singleton]
            omega
theorem par_scal {start : Str} {R : List Str} {es : List Lv} (h : LvOk start R es) {e : Lv} (he : e ∈ es) (x : Str) : scal e.2.2.2 (.str x) = true := by
  rcases h.par e he with ⟨_, _, q⟩ | ⟨_, _, q, _⟩ <;> rw [q] <;> rfl
theorem ok_on_rings (T : Txt K mg) : FnOk P w K mg base CX0 1 (a_on_rings K) (d_on_rings K) P_on_rings (spOn K) := by
  have nd := sc_on_rings.nd
  refine ok0 T.f_on_rings sc_on_rings (fun vs H Q E h => ?_) (fun cdv A outer s H vs Q E hr h => ?_)
  · obtain ⟨d, l, bs, R, start, es, rfl, _⟩ := h
    rfl
  · obtain ⟨d, l, bs, R, start, es, rfl, hl, hp, hf, hE, hb, hR, k⟩ := h
    have hu := hu_of hr
    refine ⟨_, (pss_cons (ps_set (i := 2) nd rfl (Or.inl rfl) pe_dnewK) (pss_cons (ps_for PassesOwn.never rfl (pi_list (pv 1)) (pg_tup (by rfl) (pgs_cons (pg_name (i := 3) nd rfl (Or.inl rfl)) (pgs_cons (pg_name (i := 4) nd rfl (Or.inl rfl)) pgs_nil))) (pss_one (ps_if (PW.pt (pw_and (pt_cmpR op_ne (pe_ix ix_tup (pe_dget hu (pv 0) (pv 3) (fun _ _ => rfl)) pe_int (fun _ _ => rfl)) (pv 4) (nomark _)) (pw_and1 (pt_cmpR op_ne (pe_ix ix_tup (pe_dget hu (pv 0) (pv 4) (fun _ _ => rfl)) pe_int (fun _ _ => rfl)) (pv 3) (nomark _))))) (pss_one (ps_while PassesOwn.never (pt_cmpR op_ne (pv 3) (pv 4) (nomark _)) (pss_mid (ps_if (pt_cmpR op_lt (pe_ix ix_tup (pe_dget hu (pv 0) (pv 3) (fun _ _ => rfl)) pe_int (fun _ _ => rfl)) (pe_ix ix_tup (pe_dget hu (pv 0) (pv 4) (fun _ _ => rfl)) pe_int (fun _ _ => rfl)) (nomark _)) (pss_one (ps_par (i := 3) (j := 4) (by rfl) nd rfl rfl (by decide) rfl rfl (pa_cons (pv 4) (pa_cons (pv 3) pa_nil)) (by rfl))) pss_nil) (pss_cons (ps_dput hu (pv 2) (pv 3) pe_bl rfl) (pss_one (ps_set (i := 3) nd rfl (Or.inl rfl) (pe_ix ix_tup (pe_dget hu (pv 0) (pv 3) (fun _ _ => rfl)) pe_int (fun _ _ => rfl)))))))) pss_nil))) (pss_one (ps_ret (pv 2))))), ?_⟩
    refine fun f hf0 => ?_
    refine ⟨_, rfl, l, rfl, ⟨_, SqL.of ((same_new hf0) _ _ hp.lst)⟩, ?_⟩
    have st2 : ∀ e ∈ es, e.2.2.1 ≤ 30 := fun e he => by
      have := hl.ok.lt he
      omega
    refine for_it (walk_list (xs := bs.map fun b => V.ref b.1)) (fun i σ H1 => (∃ u v, σ = [some (.ref d), some (.ref l), some (.ref f), u, v]) ∧ Same H H1 ∧ ∃ kvs, H1 f = some (.dK kvs) ∧ kvs.length ≤ 100 * i) ⟨⟨_, _, rfl⟩, same_new hf0, [], upd_same, Nat.le_refl _⟩ (fun i σ H1 _ h => SqL.of (h.2.1 _ _ hp.lst)) ?_ ?_
    · rintro i x σ H1 H2 hi ⟨⟨u, v, rfl⟩, s1, kvs, hk, hkl⟩ ⟨rfl, hx⟩
      rw [List.length_map] at hi
      obtain rfl : V.ref bs[i].1 = x := by simpa [hi] using hx
      have hbm : bs[i] ∈ bs := List.getElem_mem hi
      have hbm2 : bs[i].2 ∈ bs.map (·.2) := List.mem_map.mpr ⟨_, hbm, rfl⟩
      refine ⟨_, _, rfl, SqT.of (s1 _ _ (hp.tup _ hbm)), rfl, _, _, rfl, _, _, rfl, rfl, ?_⟩
      obtain ⟨eo, ho1, ho2, ho3, ho4⟩ := (hl.same s1).get (hf _ (hE _ hbm2).1)
      obtain ⟨eu, hu1, hu2, hu3, hu4⟩ := (hl.same s1).get (hf _ (hE _ hbm2).2)
      have fin : ∀ {p : Prop} [Decidable p] {A : Prop}, A → (∃ (u v : Option V), [some (V.ref d), some (V.ref l), some (V.ref f), u, v] = [some (V.ref d), some (V.ref l), some (V.ref f), u, v]) := fun _ => ⟨none, none, rfl⟩
      have nxt : (∃ u v, [some (V.ref d), some (V.ref l), some (V.ref f), some (V.str bs[i].2.1), some (V.str bs[i].2.2)] = [some (V.ref d), some (V.ref l), some (V.ref f), u, v]) ∧ Same H H2 ∧ ∃ kvs, H2 f = some (.dK kvs) ∧ kvs.length ≤ 100 * (i + 1) := ⟨⟨_, _, rfl⟩, s1, kvs, hk, by omega⟩
      refine ⟨_, rfl, _, rfl, d, _, rfl, ho3, ?_⟩
      refine ⟨_, _, _, eo.2.2.2, rfl, rfl, SqT.of ho4, rfl, ?_⟩
      refine ⟨_, rfl, par_scal hl.ok ho1 _, _, rfl, ?_⟩
      by_cases c1 : eo.2.2.2 = V.str bs[i].2.2
      · exact iteNS c1 nxt
      refine iteN c1 ?_
      refine ⟨_, rfl, _, rfl, d, _, rfl, hu3, ?_⟩
      refine ⟨_, _, _, eu.2.2.2, rfl, rfl, SqT.of hu4, rfl, ?_⟩
      refine ⟨_, rfl, par_scal hl.ok hu1 _, _, rfl, ?_⟩
      by_cases c2 : eu.2.2.2 = V.str bs[i].2.1
      · exact iteNS c2 nxt
      refine iteN c2 ?_
      rw [← ho2, ← hu2]
      have b1 := st2 _ ho1
      have b2 := st2 _ hu1
      have n1 := hl.ok.nn ho1
      have n2 := hl.ok.nn hu1
      refine ⟨fun n σ H3 => ∃ kvs ea eb, σ = [some (.ref d), some (.ref l), some (.ref f), some (.str ea.1), some (.str eb.1)] ∧ Same H H3 ∧ H3 f = some (.dK kvs) ∧ ea ∈ es ∧ eb ∈ es ∧ kvs.length + n ≤ 100 * i + 60 ∧ n = (ea.2.2.1 + eb.2.2.1).toNat,
        ⟨_, kvs, eo, eu, rfl, s1, hk, ho1, hu1, by omega, rfl⟩, ?_⟩
      rintro n σ H3 ⟨kvs, ea, eb, rfl, s3, hk3, hea, heb, hn, rfl⟩
      refine ⟨_, rfl, _, rfl, rfl, _, rfl, ?_⟩
      by_cases c : ea.1 = eb.1
      · refine iteNS (by rw [c]) ?_
        exact ⟨⟨_, _, rfl⟩, s3, kvs, hk3, by omega⟩
      · refine iteN (by intro z; injection z with z; exact c z) ?_
        obtain ⟨ea', hea', hea1, hea3, hea4⟩ := (hl.same s3).get (List.mem_map.mpr ⟨ea, hea, rfl⟩)
        obtain rfl := hl.ok.uniq hea' hea hea1
        obtain ⟨eb', heb', heb1, heb3, heb4⟩ := (hl.same s3).get (List.mem_map.mpr ⟨eb, heb, rfl⟩)
        obtain rfl := hl.ok.uniq heb' heb heb1
        refine ⟨fun σ' H' => _, fun σ' H' h => ⟨(ea'.2.2.1 + eb'.2.2.1).toNat - 1, ?_, h⟩, ?_⟩
        · have m1 := hl.ok.nn hea
          have m2 := hl.ok.nn heb
          rcases hl.ok.par ea' hea with ⟨q1, q2, _⟩ | ⟨qa, hqa, qa1, qa2, qa3⟩
          · rcases hl.ok.par eb' heb with ⟨_, r2, _⟩ | ⟨qb, hqb, _, qb2, qb3⟩
            · exact absurd (q2.trans r2.symm) c
            · omega
          · omega
        refine ⟨fun σ' H' => H' = H3 ∧ ∃ ea eb, σ' = [some (.ref d), some (.ref l), some (.ref f), some (.str ea.1), some (.str eb.1)] ∧ ea ∈ es ∧ eb ∈ es ∧ ea.1 ≠ eb.1 ∧ eb.2.2.1 ≤ ea.2.2.1 ∧ ea.2.2.1 + eb.2.2.1 = ea'.2.2.1 + eb'.2.2.1, ?_, ?_⟩
        · refine ⟨_, rfl, _, rfl, d, _, rfl, hea3, ?_⟩
          refine ⟨_, _, _, V.int ea'.2.2.1, rfl, rfl, SqT.of hea4, rfl, ?_⟩
          refine ⟨_, rfl, _, rfl, d, _, rfl, heb3, ?_⟩
          refine ⟨_, _, _, V.int eb'.2.2.1, rfl, rfl, SqT.of heb4, rfl, ?_⟩
          refine ⟨_, _, rfl, rfl, _, rfl, ?_⟩
          by_cases cl : ea'.2.2.1 < eb'.2.2.1
          · refine iteD cl ?_
            exact ⟨_, rfl, _, rfl, _, _, rfl, rfl, eb', ea', rfl, heb, hea, fun z => c z.symm, by omega, by omega⟩
          · refine iteDn cl ?_
            exact ⟨rfl, ea', eb', rfl, hea, heb, c, by omega, rfl⟩
        · rintro σ' H' ⟨rfl, ec, ed, rfl, hec, hed, hne, hle, hsum⟩
          refine ⟨_, rfl, _, rfl, f, _, rfl, DPut.k (k := Sum.inr ec.1) hk3 (szL (by omega)), ?_⟩
          have s4 : Same H (upd H' f (.dK (putK kvs (Sum.inr ec.1) (.bl true)))) := same_upd s3 hf0
          obtain ⟨e', he', e1, e3, e4⟩ := (hl.same s4).get (List.mem_map.mpr ⟨ec, hec, rfl⟩)
          obtain rfl := hl.ok.uniq he' hec e1
          refine ⟨_, rfl, _, rfl, d, _, rfl, e3, ?_⟩
          refine ⟨_, _, _, e'.2.2.2, rfl, rfl, SqT.of e4, rfl, ?_⟩
          have hlen := len_put kvs (Sum.inr e'.1) (V.bl true)
          have m1 := hl.ok.nn hec
          have m2 := hl.ok.nn hed
          rcases hl.ok.par e' hec with ⟨q1, q2, _⟩ | ⟨qa, hqa, qa1, qa2, qa3⟩
          · rcases hl.ok.par ed hed with ⟨_, r2, _⟩ | ⟨qb, hqb, _, qb2, qb3⟩
            · exact absurd (q2.trans r2.symm) hne
            · omega
          · refine ⟨_, qa, ed, by rw [qa1] <;> rfl, s4, upd_same, hqa, hed, by omega, by omega⟩
    · rintro σ H1 ⟨⟨u, v, rfl⟩, s1, kvs, hk, _⟩
      exact ⟨_, rfl, k _ _ _ s1 hf0 hk⟩
theorem ok_bridges_of (T : Txt K mg) : FnOk P w K mg base CX0 3 (a_bridges_of K) (d_bridges_of K) P_bridges_of (spBridges K) := by
  have nd := sc_bridges_of.nd
  refine ok0 T.f_bridges_of sc_bridges_of (fun vs H Q E h => ?_) (fun cdv A outer s H vs Q E hr h => ?_)
  · obtain ⟨lr, l, bs, R, rfl, _⟩ := h
    rfl
  · obtain ⟨lr, l, bs, R, rfl, hlr, hp, hb, hE, hR, hne, hC, k⟩ := h
    have hu := hu_of hr
    obtain ⟨ds, hds, hbd⟩ := T.b_steps_from2
    refine ⟨_, (pss_cons (ps_set (i := 2) nd rfl (Or.inl rfl) (pe_call (ok_steps_from T) (hr.mono (by decide)) (by rfl) T.g_steps_from T.f_steps_from.kp hbd hds pass0 (pa_cons (pe_callB (cr_minS rfl hu) (by rfl) T.n_min (by decide +kernel) (pa_cons (pv 0) pa_nil)) (pa_cons (pv 1) pa_nil)))) (pss_cons (ps_par (i := 3) (j := 4) (by rfl) nd rfl rfl (by decide) rfl rfl (pa_cons (pe_call (ok_on_rings T) (hr.mono (by decide)) (by rfl) T.g_on_rings T.f_on_rings.kp T.b_on_rings .nil pass0 (pa_cons (pv 2) (pa_cons (pv 1) pa_nil))) (pa_cons (pe_lst pa_nil) pa_nil)) (by rfl)) (pss_cons (ps_for PassesOwn.never rfl (pi_list (pv 1)) (pg_tup (by rfl) (pgs_cons (pg_name (i := 5) nd rfl (Or.inl rfl)) (pgs_cons (pg_name (i := 6) nd rfl (Or.inl rfl)) pgs_nil))) (pss_mid (ps_set (i := 7) nd rfl (Or.inl rfl) (pe_ifExp (pt_cmpR op_eq (pe_ix ix_tup (pe_dget hu (pv 2) (pv 5) (fun _ _ => rfl)) pe_int (fun _ _ => rfl)) (pv 6) (nomark _)) (pv 5) (pv 6))) (pss_mid (ps_set (i := 8) nd rfl (Or.inl rfl) (pe_ifExp (pt_cmpR op_eq (pv 7) (pv 5) (nomark _)) (pv 6) (pv 5))) (pss_one (ps_if (PW.pt (pw_and (pt_cmpR op_eq (pe_ix ix_tup (pe_dget hu (pv 2) (pv 7) (fun _ _ => rfl)) pe_int (fun _ _ => rfl)) (pv 8) (nomark _)) (pw_and1 (pt_cmp (pc_dnotin hu (pv 7) (pv 3)))))) (pss_one (ps_expr (pe_bm PySem.F.plainAttrs_list PySem.F.slot_list_append PySem.F.type_list_append mt_append (pv 4) (pa_cons (pe_tup (pa_cons (pv 5) (pa_cons (pv 6) pa_nil))) pa_nil)))) pss_nil))))) (pss_one (ps_ret (pv 4)))))), ?_⟩
    refine ⟨_, rfl, lr, R, rfl, SqL.of hlr, hne, fun m hm => ?_⟩
    refine ⟨_, rfl, m, l, dfCl K, bs, R, rfl, hp, hb, hE, hR, hm, T.clT, fun H1 d es s1 n1 hl => ?_⟩
    have hf := hl.full hC
    refine ⟨_, rfl, _, rfl, d, l, bs, R, m, es, rfl, hl, hp.same s1, hf, hE, hb, hR, fun H2 g gkv s2 ng hg => ?_⟩
    refine ⟨by show 0 ≤ sizeLine; omega, fun p hp0 => ?_⟩
    refine ⟨_, _, rfl, ?_⟩
    have p0 : H p = none := (s1.trans s2).free hp0
    refine ⟨_, rfl, l, rfl, ⟨_, SqL.of ((((hp.same s1).same s2).same (same_new hp0)).lst)⟩, ?_⟩
    refine for_it (walk_list (xs := bs.map fun b => V.ref b.1)) (fun i σ H3 => (∃ u v x y, σ = [some (.ref lr), some (.ref l), some (.ref d), some (.ref g), some (.ref p), u, v, x, y]) ∧ Same H2 H3 ∧ ∃ xs, H3 p = some (.lst xs) ∧ xs.length ≤ i) ⟨⟨_, _, _, _, rfl⟩, same_new hp0, [], upd_same, Nat.le_refl _⟩ (fun i σ H1 _ h => SqL.of (((hp.same s1).same s2).same h.2.1).lst) ?_ ?_
    · rintro i x σ H3 H4 hi ⟨⟨u, v, x0, y0, rfl⟩, s3, xs, hxs, hxl⟩ ⟨rfl, hx⟩
      rw [List.length_map] at hi
      obtain rfl : V.ref bs[i].1 = x := by simpa [hi] using hx
      have hbm : bs[i] ∈ bs := List.getElem_mem hi
      have hbm2 : bs[i].2 ∈ bs.map (·.2) := List.mem_map.mpr ⟨_, hbm, rfl⟩
      have hl3 := (hl.same s2).same s3
      refine ⟨_, _, rfl, SqT.of ((((hp.same s1).same s2).same s3).tup _ hbm), rfl, _, _, rfl, _, _, rfl, rfl, ?_⟩
      obtain ⟨eo, ho1, ho2, ho3, ho4⟩ := hl3.get (hf _ (hE _ hbm2).1)
      refine ⟨fun σ' H' => H' = H4 ∧ ∃ lo, (lo = bs[i].2.1 ∨ lo = bs[i].2.2) ∧ σ' = [some (.ref lr), some (.ref l), some (.ref d), some (.ref g), some (.ref p), some (.str bs[i].2.1), some (.str bs[i].2.2), some (.str lo), y0], ?_, ?_⟩
      · refine ⟨_, rfl, _, rfl, d, _, rfl, ho3, ?_⟩
        refine ⟨_, _, _, eo.2.2.2, rfl, rfl, SqT.of ho4, rfl, ?_⟩
        refine ⟨_, rfl, par_scal hl.ok ho1 _, _, rfl, ?_⟩
        refine ite2 (fun _ => ?_) (fun _ => ?_)
        · exact ⟨_, rfl, rfl, _, .inl rfl, rfl⟩
        · exact ⟨_, rfl, rfl, _, .inr rfl, rfl⟩
      rintro σ' H' ⟨rfl, lo, hlo, rfl⟩
      refine ⟨fun σ' H'' => H'' = H' ∧ ∃ up, (up = bs[i].2.1 ∨ up = bs[i].2.2) ∧ σ' = [some (.ref lr), some (.ref l), some (.ref d), some (.ref g), some (.ref p), some (.str bs[i].2.1), some (.str bs[i].2.2), some (.str lo), some (.str up)], ?_, ?_⟩
      · refine ⟨_, rfl, _, rfl, rfl, _, rfl, ?_⟩
        refine ite2 (fun _ => ?_) (fun _ => ?_)
        · exact ⟨_, rfl, rfl, _, .inr rfl, rfl⟩
        · exact ⟨_, rfl, rfl, _, .inl rfl, rfl⟩
      rintro σ' H'' ⟨rfl, up, hup, rfl⟩
      have nxt : (∃ u v x y, [some (V.ref lr), some (V.ref l), some (V.ref d), some (V.ref g), some (V.ref p), some (V.str bs[i].2.1), some (V.str bs[i].2.2), some (.str lo), some (.str up)] = [some (V.ref lr), some (V.ref l), some (V.ref d), some (V.ref g), some (V.ref p), u, v, x, y]) ∧ Same H2 H'' ∧ ∃ xs, H'' p = some (.lst xs) ∧ xs.length ≤ i + 1 := ⟨⟨_, _, _, _, rfl⟩, s3, xs, hxs, by omega⟩
      obtain ⟨el, hl1, hl2', hl3', hl4⟩ : ∃ e ∈ es, e.1 = lo ∧ DGet H'' d (.str lo) (some (.ref e.2.1)) ∧ H'' e.2.1 = some (lvTup e) := by
        rcases hlo with rfl | rfl
        · exact hl3.get (hf _ (hE _ hbm2).1)
        · exact hl3.get (hf _ (hE _ hbm2).2)
      refine ⟨_, rfl, _, rfl, d, _, rfl, hl3', ?_⟩
      refine ⟨_, _, _, el.2.2.2, rfl, rfl, SqT.of hl4, rfl, ?_⟩
      refine ⟨_, rfl, par_scal hl.ok hl1 _, _, rfl, ?_⟩
      refine ite2 (fun _ => ?_) (fun _ => nxt)
      refine ⟨_, rfl, _, rfl, g, _, rfl, DGet.k (k := Sum.inr lo) (s3 _ _ hg), _, rfl, ?_⟩
      refine ite2 (fun _ => ?_) (fun _ => nxt)
      refine ⟨_, rfl, .inl ⟨rfl, _, SqL.of hxs⟩, _, rfl, _, rfl, by show 2 ≤ sizeLine; decide, fun t ht => ?_⟩
      have pt : p ≠ t := ne_of_none hxs ht
      refine ⟨p, xs, _, rfl, rfl, by rw [upd_ne pt]; exact hxs, szL (by omega), ?_⟩
      exact ⟨⟨_, _, _, _, rfl⟩, same_upd (s3.trans (same_new ht)) hp0, _, upd_same, by rw [List.length_append, List.length_singleton]; omega⟩
    · rintro σ H3 ⟨⟨_, _, _, _, rfl⟩, s3, xs, hxs, _⟩
      exact ⟨_, rfl, k _ p xs (s1.trans (s2.trans s3)) p0 hxs⟩
end
end Rd
/-! tuples whose object is known to have no dict of its own; t.index(x) of such -/
namespace Rd
open PySem PySem.Spec L2
open PyProof.Rows hiding St
/-- at a a tuple with no dict of its own -/
def FzT (H : Hp) (a : Addr) (xs : List V) : Prop := ∃ o : Obj, o.dict = none ∧ H a = some (.frz o (.tup xs))
theorem FzT.same {H H' : Hp} {a : Addr} {xs : List V} (s : Same H H') (h : FzT H a xs) : FzT H' a xs := let ⟨o, h1, h2⟩ := h; ⟨o, h1, s _ _ h2⟩
theorem FzT.seq {K : PySem.W.Frag} {H : Hp} {a : Addr} {xs : List V} (h : FzT H a xs) : SqT K H a xs := let ⟨o, _, h2⟩ := h; .inl (.inr ⟨o, h2⟩)
structure PrsF (K : PySem.W.Frag) (H : Hp) (l : Addr) (bs : List (Addr × Str × Str)) : Prop where
  lst : H l = some (.lst (bs.map fun b => V.ref b.1))
  tup : ∀ b ∈ bs, FzT H b.1 (pvs b.2)
theorem PrsF.same {K : PySem.W.Frag} {H H' : Hp} {l : Addr} {bs : List (Addr × Str × Str)} (s : Same H H') (p : PrsF K H l bs) : PrsF K H' l bs := ⟨s _ _ p.lst, fun b hb => (p.tup b hb).same s⟩
section
variable {X : Cx}
def tTupF (t : TA) : TE := fun σ H Q => t σ H fun xs H1 => xs.length ≤ sizeLine ∧ ∀ p, H1 p = none → ∀ o : Obj, o.dict = none → Q (.ref p) (upd H1 p (.frz o (.tup xs)))
theorem pe_tupF {es : List Expr} {x1 : Nat} {pos : Pos} {t : TA} (h : PA X es t) : PE X (.Tuple es x1 pos) (tTupF t) := by
  refine ⟨fun pins s σ H Q I hq => ?_⟩
  refine wpAny_Tuple_spliced (thn (h.run pos pins s σ H _ I hq) fun us s1 ⟨xs, H1, I1, r, z, q⟩ => ⟨by rw [← r.length]; exact z, ?_⟩)
  have hf : H1 s1.heap.objs.size = none := I1.hok.fresh (Nat.le_refl _)
  refine ⟨.ref s1.heap.objs.size, upd H1 s1.heap.objs.size (.frz { cls := .type "tuple", data := .seq us.toArray } (.tup xs)), I1.laid (t' := s1.toks) (fun b u e => Heap.get?_push_of_some _ e) (Nat.le_refl _) ?_, rfl, q _ hf _ rfl⟩
  exact ⟨Heap.get?_push_size _ rfl, z, us, r, ⟨_, Heap.get?_push_size _ rfl, rfl, _, rfl⟩⟩
def tTidx (K : PySem.W.Frag) (to te : TE) : TE := fun σ H Q => to σ H fun x H1 => (∃ a xs, x = .ref a ∧ FzT H1 a xs) ∧ te σ H1 fun y H2 => ∃ p, ∃ ys : List Str, ∃ z j, x = .ref p ∧ [y] = [.str z] ∧ SqT K H2 p (ys.map V.str) ∧ ys[j]? = some z ∧ (∀ m, m < j → ys[m]? ≠ some z) ∧ Q (.int (j : Nat)) H2
theorem pe_tidx {o e : Expr} {to te : TE} {apos cpos : Pos} (K : PySem.W.Frag) (ho : PE X o to) (he : PE X e te) (hK : X.K = K := by rfl)
    (hbase : attributeBase o "index" X.env (eval o X.env) = eval o X.env := by rfl)
    (hfew : ((backTo cpos (starEach [e] X.env)).all (fun x => !x.1) && (backToKw cpos (keywordEach [] X.env)).all (fun x => x.1.isSome)
      && decide (([e] : List Expr).length + ([] : List Keyword).length + (if ([] : List Keyword).isEmpty then 0 else 1) < 30)) = true := by rfl)
    (hline : (apos.endLine == cpos.line) = true := by rfl) (hs : starEach [e] X.env = (false, eval e X.env) :: starEach [] X.env := by rfl) (hplain : (backTo cpos (starEach [] X.env)).any (·.1) = false := by rfl) :
    PE X (.Call (.Attribute o "index" apos) [e] [] cpos) (tTidx K to te) := by
  subst hK
  refine ⟨fun pins s σ H Q I h => ?_⟩
  refine wpAny_Call_method_late hbase hfew hline rfl (thn (ho.run pins s σ H _ I h) fun v s1 ⟨x, H1, I1, r1, ty, q1⟩ => ?_)
  obtain ⟨a, xs, rfl, ob, hd, ha⟩ := ty
  obtain rfl : v = Value.ref a := r1
  obtain ⟨g1, _, its, _, o2, g2, g3, _⟩ := (show ObjOk X.prog X.w H1 s1.heap a (.frz ob (.tup xs)) from I1.hok a _ ha)
  refine ⟨"tuple", "tuple.index", PySem.F.plainAttrs_tuple, PySem.F.slot_tuple_index, PySem.F.type_tuple_index, ⟨o2, g2, g3⟩, fun b e => ?_, ?_⟩
  · cases e
    exact ⟨ob, g1, hd⟩
  have hA := (pa_cons he pa_nil hs).run cpos pins s1 σ H1 (fun xs H2 => ∃ p, ∃ ys : List Str, ∃ z j, V.ref a = .ref p ∧ xs = [.str z] ∧ SqT X.K H2 p (ys.map V.str) ∧ ys[j]? = some z ∧ (∀ m, m < j → ys[m]? ≠ some z) ∧ Q (.int (j : Nat)) H2) I1 ?_
  · rw [hs] at hA ⊢
    refine Calls.callWith_builtin (by show (false || (backTo cpos (starEach [] X.env)).any (·.1)) = false; rw [hplain] <;> rfl) (Calls.evalArgs_plain ?_)
    exact thn hA fun us s2 ⟨vs, H2, I2, r2, q2⟩ => mt_tup_index pins s2 σ H2 (V.ref a) vs (Value.ref a) us Q I2 rfl r2 q2
  · exact q1
end
end Rd
/-! Building.sorted_pairs, check_connected, prepare -/
namespace Rd
open PySem PySem.Spec L2
open PyProof.Rows hiding St
theorem u65 {k : Nat} {A : Around} (r : Room k A) : A.units + 65 < cLine := by
  have := r.un
  omega
theorem eqv_encP (p q : Str × Str) : PyData.eqv (encP p) (encP q) = decide (p = q) := by
  obtain ⟨a, b⟩ := p
  obtain ⟨c, d⟩ := q
  simp only [encP, PyData.eqv, PyData.eqvAll, Bool.and_true, Prod.mk.injEq]
  by_cases h1 : a = c <;> by_cases h2 : b = d <;> simp [h1, h2]
theorem dp_pairs {K : PySem.W.Frag} {H : Hp} : ∀ {bs : List (Addr × Str × Str)}, (∀ b ∈ bs, H b.1 = some (.tup (pvs b.2))) → DpAll K H (bs.map fun b => V.ref b.1) (bs.map fun b => encP b.2)
  | [], _ => .nil
  | b :: bs, h => .cons (.tup (SqT.of (h b List.mem_cons_self)) (.cons (.str _) (.cons (.str _) .nil))) (dp_pairs fun q hq => h q (List.mem_cons_of_mem _ hq))
theorem nm_ok {x : Str} (h : IsNm x) : PyData.strOk x = true := by
  have h0 : ∀ c ∈ LETS.cps.toList, c < 1114112 := by decide +kernel
  simp only [PyData.strOk, Array.all_eq_true_iff_forall_mem, decide_eq_true_eq]
  intro c hc
  exact h0 c (h.2.2 c (Array.mem_toList_iff.mpr hc))
def NmP (ps : List (Str × Str)) : Prop := ∀ p ∈ ps, IsNm p.1 ∧ IsNm p.2
theorem shaped_pair {p : Str × Str} (h : IsNm p.1 ∧ IsNm p.2) : SeqAt.shaped (encP p) = true := by
  simp [SeqAt.shaped, encP, PyData.canLay0, PyData.canLayAll0, PyData.depth, PyData.depthAll, nm_ok h.1, nm_ok h.2]
theorem shaped_pairs {bs : List (Str × Str)} (h : NmP bs) : SeqAt.shaped (.list (bs.map encP)) = true := by
  have h1 : ∀ bs : List (Str × Str), NmP bs → PyData.canLayAll0 (bs.map encP) = true := by
    intro bs
    induction bs with
    | nil => intro _; simp [PyData.canLayAll0]
    | cons b bs ih =>
      intro h
      have hb := h b List.mem_cons_self
      simp [PyData.canLayAll0, encP, PyData.canLay0, ih fun p hp => h p (List.mem_cons_of_mem _ hp), nm_ok hb.1, nm_ok hb.2]
  have h2 : ∀ bs : List (Str × Str), PyData.depthAll (bs.map encP) ≤ 1 := by
    intro bs
    induction bs with
    | nil => simp [PyData.depthAll]
    | cons b bs ih => 
      simp [PyData.depthAll, encP, PyData.depth]
      exact Nat.max_le.mpr ⟨Nat.le_refl _, ih⟩
  have h3 := h2 bs
  simp [SeqAt.shaped, PyData.canLay0, PyData.depth, h1 bs h]
  omega
theorem ltS_ne {a b : Str} (h : ltS a b) : a ≠ b := by
  intro e
  subst e
  exact List.lt_irrefl _ h
/-- what corridors must be -/
structure PsOk (R : List Str) (ps : List (Str × Str)) : Prop where
  sub : EdgeIn R ps
  lt : ∀ p ∈ ps, ltS p.1 p.2
  nd : ps.Nodup
  len : ps.length ≤ 40
def spSorted (K : PySem.W.Frag) : Sp := fun vs H Q _ => ∃ b l R z bs, vs = [.ref b, .ref l] ∧ SzAt K H b R z ∧ PrsF K H l bs ∧ PsOk R (bs.map (·.2)) ∧ (∀ r ∈ R, IsNm r) ∧
  ∀ H' q bs', Same H H' → H q = none → PrsAt K H' q bs' → bs'.map (·.2) = srtP (bs.map (·.2)) → Q (.ref q) H'
section
variable {P : Program} {w : World} {K : PySem.W.Frag} {mg : Str → Option Value} {base : Heap}
theorem ok_sorted_pairs (T : Txt K mg) : FnOk P w K mg base CX0 3 (a_Building_sorted_pairs K) (d_Building_sorted_pairs K) P_Building_sorted_pairs (spSorted K) := by
  have nd := sc_Building_sorted_pairs.nd
  refine ok0 T.f_Building_sorted_pairs sc_Building_sorted_pairs (fun vs H Q E h => ?_) (fun cdv A outer s H vs Q E hr h => ?_)
  · obtain ⟨b, l, R, z, bs, rfl, _⟩ := h
    rfl
  · obtain ⟨b, l, R, z, bs, rfl, hs, hp, hok, hnm, k⟩ := h
    have hu := hu_of hr
    have FP := (ok_pair_of (P := P) (w := w) (base := base) T).raw T.b_pair_of (dvs := []) (ds := []) .nil
    refine ⟨_, (pss_cons (ps_set (i := 2) nd rfl (Or.inl rfl) (pe_lst pa_nil)) (pss_cons (ps_for PassesOwn.never rfl (pi_list (pv 1)) (pg_name (i := 3) nd rfl (Or.inl rfl)) (pss_cons (ps_set (i := 4) nd rfl (Or.inl rfl) (pe_and (pe_callB call_isi (by rfl) T.n_isinstance (by decide +kernel) (pa_cons (pv 3) (pa_cons (pe_ty (n := "tuple") (by rfl) T.n_tuple (by decide +kernel)) pa_nil))) (pe_and (pe_cmpR op_eq (pe_callB call_len (by rfl) T.n_len PySem.boot_len (pa_cons (pv 3) pa_nil)) pe_int (nomark _)) (pe_one (pe_callB (cr_all rfl) (by rfl) T.n_all (by decide +kernel) (pa_cons (pe_lc (own := [("room", 5)]) (g := (gName 5)) (tt := tYes) rfl nd (pi_tup (pv 3)) (blkOk_by (own := [("room", 5)]) (N := N_Building_sorted_pairs) (sc := defScope s_Building_sorted_pairs) (by decide +kernel)) (fun _ _ _ _ _ => (pg_name (i := 5) nd rfl (Or.inl rfl))) (fun _ _ _ _ _ => pts_nil) (fun _ _ _ _ _ => (pe_cmpR (op_inOwn T.m_contains (ok_has T) hr T.b_Building_contains pass0) (pv 5) (pv 0) (by rfl)))) pa_nil)))))) (pss_cons (ps_if (PW.pt (pw_or (pt_not (pt_val (pv 4))) (pw_or (pt_cmpR op_eq (pe_ix ix_tup (pv 3) pe_int (fun _ _ => rfl)) (pe_ix ix_tup (pv 3) pe_int (fun _ _ => rfl)) (nomark _)) (pw_or1 (pt_cmpR (op_inD (u65 hr)) ( StX.pe_callS1 FP (hr.mono (by decide)) T.f_pair_of.kp (by rfl) T.g_pair_of pass0 (pv 3)) (pv 2) (by rfl)))))) pss_never pss_nil) (pss_one (ps_expr (pe_bm PySem.F.plainAttrs_list PySem.F.slot_list_append PySem.F.type_list_append mt_append (pv 2) (pa_cons ( StX.pe_callS1 FP (hr.mono (by decide)) T.f_pair_of.kp (by rfl) T.g_pair_of pass0 (pv 3)) pa_nil))))))) (pss_one (ps_ret (pe_callB (cr_srtP hr.units) (by rfl) T.n_sorted (by decide +kernel) (pa_cons (pv 2) pa_nil)))))), ?_⟩
    refine ⟨by show 0 ≤ sizeLine; omega, fun f hf => ?_⟩
    refine ⟨_, rfl, l, rfl, ⟨_, SqL.of ((same_new hf) _ _ hp.lst)⟩, ?_⟩
    refine for_it (walk_list (xs := bs.map fun b => V.ref b.1)) (fun i σ H1 => (∃ u v x, σ = [some (.ref b), some (.ref l), some (.ref f), u, v, x]) ∧ Same H H1 ∧ ∃ cs : List (Addr × Str × Str), PrsAt K H1 f cs ∧ cs.map (·.2) = (bs.map (·.2)).take i) ⟨⟨_, _, _, rfl⟩, same_new hf, [], ⟨upd_same, fun b h => by simp at h⟩, by simp⟩ (fun i σ H1 _ h => SqL.of ((hp.same h.2.1).lst)) ?_ ?_
    · rintro i x σ H1 H2 hi ⟨⟨u, v, x0, rfl⟩, s1, cs, hcs, hce⟩ ⟨rfl, hx⟩
      rw [List.length_map] at hi
      obtain rfl : V.ref bs[i].1 = x := by simpa [hi] using hx
      have hbm : bs[i] ∈ bs := List.getElem_mem hi
      have hbm2 : bs[i].2 ∈ bs.map (·.2) := List.mem_map.mpr ⟨_, hbm, rfl⟩
      obtain ⟨oht, oht1, ht⟩ := (hp.same s1).tup _ hbm
      refine ⟨_, rfl, _, _, _, _, true, rfl, .ty "tuple", .fTuple ht, kit_ty (by decide +kernel), true, rfl, iteT ?_⟩
      refine ⟨_, rfl, _, 2, rfl, .inr ⟨_, .inl (.inr ⟨_, ht⟩), rfl⟩, rfl, _, rfl, iteT ?_⟩
      refine ⟨_, rfl, _, rfl, ⟨_, (.inl (.inr ⟨_, ht⟩) : SqT K H2 _ _)⟩, fun D hD => ?_⟩
      refine lc_it (walk_tup (xs := pvs bs[i].2)) (fun j H3 => Same H2 H3 ∧ H3 D = some (.lst ((List.replicate j true).map V.bl))) ⟨same_new hD, upd_same⟩ (fun j H3 _ h => .inl (.inr ⟨_, h.1 _ _ ht⟩)) ?_ ?_
      · rintro j y H3 H4 hj ⟨s3, e3⟩ ⟨rfl, hy⟩
        have hj2 : j < 2 := hj
        have hyR : ∃ r ∈ R, y = V.str r := by
          match j, hj2, hy with
          | 0, _, hy => exact ⟨_, (hok.sub _ hbm2).1, by simpa [pvs] using hy.symm⟩
          | 1, _, hy => exact ⟨_, (hok.sub _ hbm2).2, by simpa [pvs] using hy.symm⟩
        obtain ⟨r, hrR, rfl⟩ := hyR
        obtain ⟨dx, fs, d, e1, e2, e4⟩ := hs.same (s1.trans s3)
        refine ⟨rfl, _, rfl, _, rfl, b, rfl, dx, fs, e1, b, R, z, r, rfl, hs.same (s1.trans s3), hnm r hrR, fun H5 s5 => ⟨_, rfl, ?_⟩⟩
        rw [decide_eq_true hrR]
        refine ⟨_, s5 _ _ e3, by simp; exact szL (by omega), same_upd (s3.trans s5) hD, ?_⟩
        rw [upd_same, List.replicate_succ', List.map_append]
        rfl
      · rintro H3 ⟨s3, e3⟩
        refine ⟨D, _, rfl, SqL.of e3, ?_⟩
        refine ⟨_, rfl, true, rfl, iteF ?_⟩
        have ht3 := s3 _ _ ht
        refine ⟨_, rfl, _, _, _, V.str bs[i].2.1, rfl, rfl, .inl (.inr ⟨_, ht3⟩), rfl, ?_⟩
        refine ⟨_, rfl, _, _, _, V.str bs[i].2.2, rfl, rfl, .inl (.inr ⟨_, ht3⟩), rfl, ?_⟩
        refine ⟨rfl, _, rfl, iteDn (fun z => ltS_ne (hok.lt _ hbm2) (by injection z)) ?_⟩
        have hpr : pr bs[i].2.1 bs[i].2.2 = bs[i].2 := if_pos (hok.lt _ hbm2)
        have hnmp : ∀ p ∈ bs.map (·.2), IsNm p.1 ∧ IsNm p.2 := fun p hp => ⟨hnm _ (hok.sub p hp).1, hnm _ (hok.sub p hp).2⟩
        refine ⟨_, rfl, _, _, rfl, .inl (.inl (.inr ⟨_, ht3⟩)), _, _, rfl, fun t ht0 => ?_⟩
        rw [hpr]
        have hcs3 := hcs.same (s3.trans (same_new (o := .tup (pvs bs[i].2)) ht0))
        refine ⟨_, rfl, encP bs[i].2, cs.map fun b => encP b.2, .tup (SqT.of upd_same) (.cons (.str _) (.cons (.str _) .nil)), .lst (SqL.of hcs3.lst) (dp_pairs hcs3.tup), shaped_pair (hnmp _ hbm2), ?_, ?_⟩
        · have : cs.map (fun b => encP b.2) = (cs.map (·.2)).map encP := by simp
          rw [this, hce]
          exact shaped_pairs fun p hp => hnmp p (List.mem_of_mem_take hp)
        have hno : ((cs.map fun b => encP b.2).any fun z => PyData.eqv z (encP bs[i].2)) = false := by
          rw [List.any_eq_false]
          intro z hz
          obtain ⟨c, hc, rfl⟩ := List.mem_map.mp hz
          rw [eqv_encP, decide_eq_true_eq]
          intro e
          have hc2 : c.2 ∈ (bs.map (·.2)).take i := by
            rw [← hce]
            exact List.mem_map.mpr ⟨c, hc, rfl⟩
          have hnd := hok.nd
          rw [← List.take_append_drop i (bs.map (·.2))] at hnd
          have hd : bs[i].2 ∈ (bs.map (·.2)).drop i := by
            rw [List.drop_eq_getElem_cons (by simpa using hi)]
            simp
          exact (List.nodup_append.mp hnd).2.2 _ hc2 _ hd e
        rw [hno]
        refine ⟨_, rfl, iteF ?_⟩
        have st : Same H2 (upd H3 t (.tup (pvs bs[i].2))) := s3.trans (same_new ht0)
        have hcs4 := hcs.same st
        refine ⟨_, rfl, .inl ⟨rfl, _, SqL.of hcs4.lst⟩, _, rfl, _, _, rfl, .inl (.inl (.inr ⟨_, same_new ht0 _ _ ht3⟩)), _, _, rfl, fun t' ht' => ?_⟩
        rw [hpr]
        have hcs5 := hcs4.same (same_new (o := .tup (pvs bs[i].2)) ht')
        have hlen : cs.length = i := by
          have := congrArg List.length hce
          simp at this
          omega
        refine ⟨f, _, _, rfl, rfl, hcs5.lst, szL (by simp only [List.length_map]; have := hok.len; simp at this; omega), ?_⟩
        refine ⟨⟨_, _, _, rfl⟩, same_upd ((s1.trans st).trans (same_new ht')) hf, cs ++ [(t', bs[i].2)], ⟨by rw [upd_same, List.map_append] <;> rfl, fun c hc => ?_⟩, ?_⟩
        · have ft : f ≠ t' := ne_of_none hcs4.lst ht'
          rcases List.mem_append.mp hc with q | q
          · have := hcs5.tup c q
            rw [upd_ne (ne_of this hcs5.lst (by intro z; cases z))]
            exact this
          · rw [List.mem_singleton.mp q, upd_ne ft.symm, upd_same]
        · rw [List.map_append, hce, List.take_add_one, List.getElem?_eq_getElem (by simpa using hi)]
          simp
    · rintro σ H1 ⟨⟨u, v, x0, rfl⟩, s1, cs, hcs, hce⟩
      rw [List.length_map, List.take_of_length_le (by simp)] at hce
      refine ⟨_, rfl, f, cs, rfl, SqL.of hcs.lst, fun b hb => SqT.of (hcs.tup b hb), fun q hq => ?_⟩
      refine k _ q (srtA cs) (s1.trans (same_new hq)) (s1.free hq) ⟨upd_same, fun b hb => same_new hq _ _ (hcs.tup b ((srtA_perm cs).mem_iff.mp hb))⟩ (by rw [srtA_snd, hce])
end
end Rd
/-! Building.check_connected, prepare -/
namespace Rd
open PySem PySem.Spec L2
open PyProof.Rows hiding St
section
variable {X : Cx}
/-- dicts of unlike lengths -/
theorem op_eq_dictF (hu : X.A.units < cLine) : OpR X (compareOp .Eq) (fun x y H Q => ∃ a b ks ls, x = .ref a ∧ y = .ref b ∧ H a = some (.dK ks) ∧ H b = some (.dK ls) ∧ ks.length ≠ ls.length ∧ Q (.bl false) H) := by
  intro pins s σ H x y v u Q I rx ry h
  obtain ⟨a, b, ks, ls, rfl, rfl, ea, eb, hlen, q⟩ := h
  obtain rfl : v = Value.ref a := rx
  obtain rfl : u = Value.ref b := ry
  obtain ⟨_, ya, va, ra, da⟩ := (show ObjOk X.prog X.w H s.heap a (.dK ks) from I.hok a _ ea)
  obtain ⟨_, yb, vb, rb, db⟩ := (show ObjOk X.prog X.w H s.heap b (.dK ls) from I.hok b _ eb)
  have hl : va.length ≠ vb.length := by rw [← ra.length, ← rb.length]; exact hlen
  exact PySem.W.keq_eq (knd := mixKind X.prog X.w) (r := false) ya yb da db hu (fun z => absurd z hl) (fin_bl I q (by simp))
end
/-- a building while it is made: sizes, corridors -/
structure MadeAt (K : PySem.W.Frag) (H : Hp) (b dx : Addr) (fs : List (Str × V)) (d l : Addr) (R : List Str) (z : Str → Nat) (bs : List (Addr × Str × Str)) : Prop where
  ins : H b = some (.ins (cB K) dx fs)
  fsz : fs.lookup ("sizes" : Str) = some (V.ref d)
  fpr : fs.lookup ("pairs" : Str) = some (V.ref l)
  fl : fs.length < 100
  sz : H d = some (.dK (szKv R z))
  prs : PrsAt K H l bs
theorem MadeAt.same {K : PySem.W.Frag} {H H' : Hp} {b dx : Addr} {fs : List (Str × V)} {d l : Addr} {R : List Str} {z : Str → Nat} {bs : List (Addr × Str × Str)} (s : Same H H') (h : MadeAt K H b dx fs d l R z bs) : MadeAt K H' b dx fs d l R z bs :=
  ⟨s _ _ h.ins, h.fsz, h.fpr, h.fl, s _ _ h.sz, h.prs.same s⟩
/-- all but one stand -/
def SameBut (b : Addr) (H H' : Hp) : Prop := ∀ q o, q ≠ b → H q = some o → H' q = some o
def spCheck (K : PySem.W.Frag) : Sp := fun vs H Q _ => ∃ b dx fs d l R z bs, vs = [.ref b] ∧ MadeAt K H b dx fs d l R z bs ∧ PsOk R (bs.map (·.2)) ∧ R.length ≤ 30 ∧ R ≠ [] ∧ Conn R (bs.map (·.2)) ∧ ∀ H', Same H H' → Q .non H'
def spPrepare (K : PySem.W.Frag) : Sp := fun vs H Q _ => ∃ b dx fs d l R z bs, vs = [.ref b] ∧ MadeAt K H b dx fs d l R z bs ∧ PsOk R (bs.map (·.2)) ∧ R.length ≤ 30 ∧ R ≠ [] ∧ Conn R (bs.map (·.2)) ∧
  ∀ H' fs', SameBut b H H' → H' b = some (.ins (cB K) dx fs') → (∀ f : Str, f ≠ "own_sides" → f ≠ "own_ring" → f ≠ "own_bridges" → fs'.lookup f = fs.lookup f) → Q .non H'
section
variable {P : Program} {w : World} {K : PySem.W.Frag} {mg : Str → Option Value} {base : Heap}
theorem ok_check_connected (T : Txt K mg) : FnOk P w K mg base CX0 4 (a_Building_check_connected K) (d_Building_check_connected K) P_Building_check_connected (spCheck K) := by
  have nd := sc_Building_check_connected.nd
  refine ok0 T.f_Building_check_connected sc_Building_check_connected (fun vs H Q E h => ?_) (fun cdv A outer s H vs Q E hr h => ?_)
  · obtain ⟨b, dx, fs, d, l, R, z, bs, rfl, _⟩ := h
    rfl
  · obtain ⟨b, dx, fs, d, l, R, z, bs, rfl, hm, hok, hR, hne, hC, k⟩ := h
    have hu := hu_of hr
    obtain ⟨ds, hds, hbd⟩ := T.b_reached_from2
    refine ⟨_, (pss_cons (ps_if (pt_cmpR (op_eq_dictF hr.units0) (pe_fld (pv 0) rfl) pe_dnewK (nomark _)) pss_never pss_nil) (pss_cons (ps_set (i := 1) nd rfl (Or.inl rfl) (pe_call (ok_reached_from T) (hr.mono (by decide)) (by rfl) T.g_reached_from T.f_reached_from.kp hbd hds pass0 (pa_cons (pe_callB (cr_minD rfl hu) (by rfl) T.n_min (by decide +kernel) (pa_cons (pe_fld (pv 0) rfl) pa_nil)) (pa_cons (pe_fld (pv 0) rfl) pa_nil)))) (pss_one (ps_lock (ps_for PassesOwn.never rfl (pi_keys (pe_fld (pv 0) rfl)) (pg_name (i := 2) nd rfl (Or.inl rfl)) (pss_one (ps_if (pt_cmpR op_notIn_seq (pv 2) (pv 1) (by rfl)) pss_never pss_nil))))))), ?_⟩
    have hz0 : (szKv R z).length ≠ ([] : List (Key × V)).length := by
      simp [szKv]
      exact hne
    refine ⟨_, rfl, _, _, _, _, _, rfl, hm.ins, T.clB, T.nB_sizes, hm.fsz, fun e he => ?_⟩
    have de : d ≠ e := ne_of_none hm.sz he
    have hm1 := hm.same (same_new (o := .dK []) he)
    refine ⟨d, e, _, [], rfl, rfl, hm1.sz, upd_same, hz0, _, rfl, iteF ?_⟩
    refine ⟨_, rfl, _, _, _, _, _, rfl, hm1.ins, T.clB, T.nB_sizes, hm1.fsz, d, _, R, rfl, hm1.sz, sz_keys R z, hne, fun m hmR => ?_⟩
    refine ⟨_, rfl, _, _, _, _, _, rfl, hm1.ins, T.clB, T.nB_pairs, hm1.fpr, m, l, dfCr K, bs, R, rfl, hm1.prs, by have := hok.len; simpa using this, hok.sub, hR, hmR, T.crT, fun H2 rr ks s2 n2 hks hst hcl => ?_⟩
    have hm2 := hm1.same s2
    have hall := hC.all hmR hst hcl
    refine ⟨d, _, hm2.sz, trivial, fun od => ?_⟩
    have bd : b ≠ d := ne_of hm2.ins hm2.sz (by intro z; cases z)
    have rd : rr ≠ d := ne_of hks hm2.sz (by intro z; cases z)
    refine ⟨_, rfl, _, _, _, _, _, rfl, by rw [upd_ne bd]; exact hm2.ins, T.clB, T.nB_sizes, hm2.fsz, d, od, rfl, .inl ⟨_, upd_same, ?_⟩⟩
    refine for_it walk_keys (fun i σ H3 => (∃ u, σ = [some (.ref b), some (.ref rr), u]) ∧ H3 = upd H2 d (.frz od (.dK (szKv R z)))) ⟨⟨_, rfl⟩, rfl⟩ (fun i σ H3 _ h => by rw [h.2]; exact upd_same) ?_ ?_
    · rintro i x σ H3 H4 hi ⟨⟨u, rfl⟩, rfl⟩ ⟨rfl, kk, v, hx, rfl⟩
      have hiR : i < R.length := by simpa [szKv] using hi
      obtain ⟨rfl, rfl⟩ : kk = Sum.inr R[i] ∧ v = V.int (z R[i]) := by
        simp [szKv, hiR] at hx
        exact ⟨hx.1.symm, hx.2.symm⟩
      refine ⟨_, rfl, _, rfl, rr, _, rfl, .inl (SqL.of (by rw [upd_ne rd]; exact hks)), rfl, by simp [flatV], _, rfl, ?_⟩
      have hin : inV (V.str R[i]) (ks.map V.str) = true := by
        simp only [inV, List.any_map, List.any_eq_true]
        exact ⟨R[i], hall _ (List.getElem_mem hiR), by simp [eqV]⟩
      show if (!inV (V.str R[i]) (ks.map V.str)) = true then _ else _
      rw [hin]
      exact iteF ⟨⟨_, rfl⟩, rfl⟩
    · rintro σ H3 ⟨⟨u, rfl⟩, rfl⟩
      refine ⟨upd_same, k _ ?_⟩
      intro q o hq
      by_cases e' : q = d
      · subst e'
        rw [upd_same]
        rw [hm.sz] at hq
        exact hq
      · rw [upd_ne e', upd_ne e']
        exact s2 _ _ (same_new he _ _ hq)
theorem ok_prepare (T : Txt K mg) : FnOk P w K mg base CX0 4 (a_Building_prepare K) (d_Building_prepare K) P_Building_prepare (spPrepare K) := by
  have nd := sc_Building_prepare.nd
  refine ok0 T.f_Building_prepare sc_Building_prepare (fun vs H Q E h => ?_) (fun cdv A outer s H vs Q E hr h => ?_)
  · obtain ⟨b, dx, fs, d, l, R, z, bs, rfl, _⟩ := h
    rfl
  · obtain ⟨b, dx, fs, d, l, R, z, bs, rfl, hm, hok, hR, hne, hC, k⟩ := h
    have hu := hu_of hr
    have hb40 : bs.length ≤ 40 := by have := hok.len; simpa using this
    refine ⟨_, (pss_cons (ps_set (i := 1) nd rfl (Or.inl rfl) (pe_callTy (call_listD rfl) (by rfl) T.n_list (by decide +kernel) (pa_cons (pe_fld (pv 0) rfl) pa_nil))) (pss_cons (ps_par (i := 2) (j := 3) (by rfl) nd rfl rfl (by decide) rfl rfl (pa_cons (pe_call (ok_sides_of T) (hr.mono (by decide)) (by rfl) T.g_sides_of T.f_sides_of.kp T.b_sides_of .nil pass0 (pa_cons (pv 1) (pa_cons (pe_fld (pv 0) rfl) pa_nil))) (pa_cons (pe_call (ok_odd_ring_of T) (hr.mono (by decide)) (by rfl) T.g_odd_ring_of T.f_odd_ring_of.kp T.b_odd_ring_of .nil pass0 (pa_cons (pv 1) (pa_cons (pe_fld (pv 0) rfl) pa_nil))) pa_nil)) (by rfl)) (pss_mid (ps_fld (pv 0) (pe_ifExp (pt_cmpR op_isN (pv 2) pe_non (nomark _)) pe_non (pe_tup (pa_cons (pe_callTy call_tuple_of (by rfl) T.n_tuple (by decide +kernel) (pa_cons (pe_ix ix_tup (pv 2) pe_int (fun _ _ => rfl)) pa_nil)) (pa_cons (pe_callTy call_tuple_of (by rfl) T.n_tuple (by decide +kernel) (pa_cons (pe_ix ix_tup (pv 2) pe_int (fun _ _ => rfl)) pa_nil)) pa_nil)))) rfl) (pss_mid (ps_fld (pv 0) (pe_ifExp (pt_cmpR op_isN (pv 3) pe_non (nomark _)) pe_non (pe_callTy call_tuple_of (by rfl) T.n_tuple (by decide +kernel) (pa_cons (pv 3) pa_nil))) rfl) (pss_one (ps_fld (pv 0) (pe_callTy call_tuple_of (by rfl) T.n_tuple (by decide +kernel) (pa_cons (pe_call (ok_bridges_of T) (hr.mono (by decide)) (by rfl) T.g_bridges_of T.f_bridges_of.kp T.b_bridges_of .nil pass0 (pa_cons (pv 1) (pa_cons (pe_fld (pv 0) rfl) pa_nil))) pa_nil)) rfl)))))), ?_⟩
    refine ⟨_, rfl, _, _, _, _, _, rfl, hm.ins, T.clB, T.nB_sizes, hm.fsz, d, _, rfl, .inl hm.sz, fun p hp => ?_⟩
    have ekeys : (szKv R z).map (fun kv => kV kv.1) = R.map V.str := by simp [szKv, kV]
    rw [ekeys]
    have hm1 := hm.same (same_new (o := .lst (R.map V.str)) hp)
    have hp1 : upd H p (.lst (R.map V.str)) p = some (.lst (R.map V.str)) := upd_same
    refine ⟨_, rfl, _, rfl, _, _, _, _, _, rfl, hm1.ins, T.clB, T.nB_pairs, hm1.fpr, p, l, bs, R, rfl, hp1, hm1.prs, hb40, hok.sub, hR, hne, hC, fun H2 sd s2 hsd => ?_⟩
    have hm2 := hm1.same s2
    have hp2 := s2 _ _ hp1
    refine ⟨_, rfl, _, rfl, _, _, _, _, _, rfl, hm2.ins, T.clB, T.nB_pairs, hm2.fpr, p, l, bs, R, rfl, hp2, hm2.prs, hb40, hok.sub, hR, hne, hC, fun H3 rg s3 hrg => ?_⟩
    have hm3 := hm2.same s3
    have hp3 := s3 _ _ hp2
    have hsd3 : sd = .non ∨ ∃ t a b xs ys, sd = .ref t ∧ H3 t = some (.tup [.ref a, .ref b]) ∧ H3 a = some (.lst xs) ∧ H3 b = some (.lst ys) := by
      rcases hsd with h | ⟨t, a, c, xs, ys, h1, h2, h3, h4⟩
      · exact .inl h
      · exact .inr ⟨t, a, c, xs, ys, h1, s3 _ _ h2, s3 _ _ h3, s3 _ _ h4⟩
    have s03 : Same H H3 := (same_new hp).trans (s2.trans s3)
    refine ⟨_, _, rfl, ?_⟩
    have okf : ∀ {H4 : Hp} {fs4 : List (Str × V)} {n : Nat} (v : V) (f : Str), SameBut b H H4 → Same H H4 → True := fun _ _ _ _ => trivial
    refine ⟨fun σ' H4 => σ' = [some (.ref b), some (.ref p), some sd, some rg] ∧ SameBut b H3 H4 ∧ ∃ fs4, H4 b = some (.ins (cB K) dx fs4) ∧ (∀ f : Str, f ≠ "own_sides" → f ≠ "own_ring" → f ≠ "own_bridges" → fs4.lookup f = fs.lookup f) ∧ fs4.length ≤ fs.length + 1, ?_, ?_⟩
    · have done : ∀ H4 y, Same H3 H4 → (∃ (fs4 : List (Str × V)), (upd H4 b (.ins (cB K) dx (putF "own_sides" y fs))) b = some (.ins (cB K) dx fs4) ∧ (∀ f : Str, f ≠ "own_sides" → f ≠ "own_ring" → f ≠ "own_bridges" → fs4.lookup f = fs.lookup f) ∧ fs4.length ≤ fs.length + 1) ∧ SameBut b H3 (upd H4 b (.ins (cB K) dx (putF "own_sides" y fs))) := fun H4 y s4 => by
        refine ⟨⟨_, upd_same, fun f h1 h2 h3 => by rw [lookup_putF, if_neg h1], length_putF _ _ _⟩, fun q o hq hq2 => by rw [upd_ne hq]; exact s4 _ _ hq2⟩
      refine ⟨_, rfl, rfl, _, rfl, ?_⟩
      rcases hsd3 with rfl | ⟨t, a, c, xs, ys, rfl, h2, h3, h4⟩
      · refine iteD rfl ?_
        obtain ⟨g1, g2⟩ := done H3 .non (Same.refl _)
        exact ⟨_, rfl, _, _, _, _, rfl, hm3.ins, T.clB, T.nB_own_sides, by have := hm.fl; omega, rfl, g2, g1⟩
      · refine iteDn (by intro z; cases z) ?_
        refine ⟨_, rfl, _, _, _, V.ref a, rfl, rfl, SqT.of h2, rfl, a, _, rfl, .inl ⟨SqL.of h3, fun t1 ht1 => ?_⟩⟩
        have s4 : Same H3 (upd H3 t1 (.tup xs)) := same_new ht1
        refine ⟨_, rfl, _, _, _, V.ref c, rfl, rfl, SqT.of (s4 _ _ h2), rfl, c, _, rfl, .inl ⟨SqL.of (s4 _ _ h4), fun t2 ht2 => ?_⟩⟩
        have s5 : Same H3 (upd (upd H3 t1 (.tup xs)) t2 (.tup ys)) := s4.trans (same_new ht2)
        refine ⟨by show 2 ≤ sizeLine; decide, fun t3 ht3 => ?_⟩
        have s6 := s5.trans (same_new (o := .tup [.ref t1, .ref t2]) ht3)
        obtain ⟨g1, g2⟩ := done _ (.ref t3) s6
        exact ⟨_, rfl, _, _, _, _, rfl, s6 _ _ hm3.ins, T.clB, T.nB_own_sides, by have := hm.fl; omega, rfl, g2, g1⟩
    rintro σ' H4 ⟨rfl, sb4, fs4, i4, l4, n4⟩
    have hfl := hm.fl
    have tb : ∀ {t : Addr} {xs : List V}, H3 t = some (.tup xs) → H4 t = some (.tup xs) := fun h => sb4 _ _ (ne_of h hm3.ins (by intro z; cases z)) h
    refine ⟨fun σ' H5 => σ' = [some (.ref b), some (.ref p), some sd, some rg] ∧ SameBut b H3 H5 ∧ ∃ fs5, H5 b = some (.ins (cB K) dx fs5) ∧ (∀ f : Str, f ≠ "own_sides" → f ≠ "own_ring" → f ≠ "own_bridges" → fs5.lookup f = fs.lookup f) ∧ fs5.length ≤ fs.length + 2, ?_, ?_⟩
    · have done : ∀ y, (∃ (fs5 : List (Str × V)), (upd H4 b (.ins (cB K) dx (putF "own_ring" y fs4))) b = some (.ins (cB K) dx fs5) ∧ (∀ f : Str, f ≠ "own_sides" → f ≠ "own_ring" → f ≠ "own_bridges" → fs5.lookup f = fs.lookup f) ∧ fs5.length ≤ fs.length + 2) ∧ SameBut b H3 (upd H4 b (.ins (cB K) dx (putF "own_ring" y fs4))) := fun y => by
        refine ⟨⟨_, upd_same, fun f h1 h2 h3 => by rw [lookup_putF, if_neg h2]; exact l4 f h1 h2 h3, Nat.le_trans (length_putF _ _ _) (by omega)⟩, fun q o hq hq2 => by rw [upd_ne hq]; exact sb4 _ _ hq hq2⟩
      refine ⟨_, rfl, rfl, _, rfl, ?_⟩
      rcases hrg with rfl | ⟨t, xs, rfl, h2⟩
      · refine iteD rfl ?_
        obtain ⟨g1, g2⟩ := done .non
        exact ⟨_, rfl, _, _, _, _, rfl, i4, T.clB, T.nB_own_ring, by omega, rfl, g2, g1⟩
      · refine iteDn (by intro z; cases z) ?_
        obtain ⟨g1, g2⟩ := done (.ref t)
        refine ⟨_, rfl, t, _, rfl, .inr ⟨SqT.of (tb h2), ?_⟩⟩
        exact ⟨_, rfl, _, _, _, _, rfl, i4, T.clB, T.nB_own_ring, by omega, rfl, g2, g1⟩
    rintro σ' H5 ⟨rfl, sb5, fs5, i5, l5, n5⟩
    have hp5 : H5 p = some (.lst (R.map V.str)) := sb5 _ _ (ne_of hp3 hm3.ins (by intro z; cases z)) hp3
    have prs5 : PrsAt K H5 l bs := ⟨sb5 _ _ (ne_of hm3.prs.lst hm3.ins (by intro z; cases z)) hm3.prs.lst, fun q hq => sb5 _ _ (ne_of (hm3.prs.tup q hq) hm3.ins (by intro z; cases z)) (hm3.prs.tup q hq)⟩
    refine ⟨_, rfl, _, rfl, _, _, _, _, _, rfl, i5, T.clB, T.nB_pairs, by rw [l5 _ (by decide) (by decide) (by decide)]; exact hm.fpr, p, l, bs, R, rfl, hp5, prs5, hb40, hok.sub, hR, hne, hC, fun H6 q6 xs6 s6 n6 h6 => ?_⟩
    refine ⟨q6, _, rfl, .inl ⟨SqL.of h6, fun t7 ht7 => ?_⟩⟩
    have s7 : Same H5 (upd H6 t7 (.tup xs6)) := s6.trans (same_new ht7)
    refine ⟨_, rfl, _, _, _, _, rfl, s7 _ _ i5, T.clB, T.nB_own_bridges, by omega, ?_⟩
    refine k _ _ (fun q o hq hq2 => ?_) upd_same fun f h1 h2 h3 => by rw [lookup_putF, if_neg h3]; exact l5 f h1 h2 h3
    rw [upd_ne hq]
    exact s7 _ _ (sb5 _ _ hq (s03 _ _ hq2))
end
end Rd
/-! Building.__init__ -/
namespace Rd
open PySem PySem.Spec L2
open PyProof.Rows hiding St
theorem unlock_same {H H' : Hp} {d : Addr} {u x : HO} (e : H d = some u) (s : Same (upd H d x) H') : Same H (upd H' d u) := fun q o hq => by
  by_cases c : q = d
  · subst c
    rw [upd_same]
    rw [e] at hq
    exact hq
  · rw [upd_ne c]
    exact s _ _ (by rw [upd_ne c]; exact hq)
theorem nbl_snoc (ps : List (Str × Str)) (p : Str × Str) (r : Str) : nbl (ps ++ [p]) r = nbl ps r ++ (if p.1 = r then [p.2] else if p.2 = r then [p.1] else []) := by
  unfold nbl
  rw [List.filterMap_append]
  congr 1
  by_cases h1 : p.1 = r
  · simp [h1]
  · by_cases h2 : p.2 = r <;> simp [h1, h2]
theorem nbl_len (ps : List (Str × Str)) (r : Str) : (nbl ps r).length ≤ ps.length := List.length_filterMap_le _ _
def NI (H0 H : Hp) (R : List Str) (na : Str → Addr) (nb : Str → List Str) : Prop := (∀ c o, (∀ r ∈ R, c ≠ na r) → H0 c = some o → H c = some o) ∧ ∀ r ∈ R, H (na r) = some (.lst ((nb r).map V.str))
theorem NI.step {H0 H : Hp} {R : List Str} {na : Str → Addr} {nb : Str → List Str} (h : NI H0 H R na nb) (inj : ∀ r ∈ R, ∀ r' ∈ R, na r = na r' → r = r') {x : Str} (hx : x ∈ R) (y : Str) :
    NI H0 (upd H (na x) (.lst ((nb x).map V.str ++ [V.str y]))) R na (fun r => nb r ++ if x = r then [y] else []) := by
  refine ⟨fun c o hc ho => ?_, fun r hr => ?_⟩
  · rw [upd_ne (hc x hx)]
    exact h.1 c o hc ho
  · by_cases e : x = r
    · subst e
      rw [upd_same]
      simp
    · dsimp only
      rw [upd_ne (fun z => e (inj _ hx _ hr z.symm)), if_neg e, List.append_nil]
      exact h.2 r hr
/-- sizes as a plan may have them -/
structure SzOk (ns : List Str) (z : Str → Nat) : Prop where
  nd : ns.Nodup
  nm : ∀ r ∈ ns, IsNm r
  z1 : ∀ r ∈ ns, 1 ≤ z r
  z2 : ∀ r ∈ ns, z r ≤ 100
  ne : ns ≠ []
  len : ns.length ≤ 5
def spBuild (K : PySem.W.Frag) : Sp := fun vs H Q _ => ∃ b dx dp l ns z bs, vs = [.ref b, .ref dp, .ref l] ∧ H b = some (.ins (cB K) dx []) ∧ H dp = some (.dK (szKv ns z)) ∧ PrsF K H l bs ∧ SzOk ns z ∧ PsOk ns (bs.map (·.2)) ∧ Conn ns (bs.map (·.2)) ∧
  ∀ H', SameBut b H H' → BAt K H' b ⟨srtS ns, z, srtP (bs.map (·.2))⟩ → Q .non H'
section
variable {P : Program} {w : World} {K : PySem.W.Frag} {mg : Str → Option Value} {base : Heap}
theorem ok_Building_init (T : Txt K mg) : FnOk P w K mg base CX0 5 (a_Building_init K) (d_Building_init K) P_Building_init (spBuild K) := by
  have nd := sc_Building_init.nd
  refine ok0 T.f_Building_init sc_Building_init (fun vs H Q E h => ?_) (fun cdv A outer s H vs Q E hr h => ?_)
  · obtain ⟨b, dx, dp, l, ns, z, bs, rfl, _⟩ := h
    rfl
  · obtain ⟨b, dx, dp, l, ns, z, bs, rfl, hb, hd, hp, hz, hok, hC, k⟩ := h
    have hu := hu_of hr
    refine ⟨_, (pss_cons (ps_lock (ps_for PassesOwn.never rfl (pi_keys (pv 1)) (pg_name (i := 3) nd rfl (Or.inl rfl)) (pss_one (ps_if (pt_not (pt_val (pe_call (ok_is_name T) (hr.mono (by decide)) (by rfl) T.g_is_name T.f_is_name.kp T.b_is_name .nil pass0 (pa_cons (pv 3) pa_nil)))) pss_never pss_nil)))) (pss_cons (ps_lock (ps_for PassesOwn.never rfl (pi_values (pv 1)) (pg_name (i := 4) nd rfl (Or.inl rfl)) (pss_one (ps_if (pt_not (pt_val (pe_call (ok_is_between T) (hr.mono (by decide)) (by rfl) T.g_is_between T.f_is_between.kp T.b_is_between .nil pass0 (pa_cons (pv 4) (pa_cons pe_int (pa_cons (pe_gint (by rfl) T.MSZ) pa_nil)))))) pss_never pss_nil)))) (pss_cons (ps_if (pt_cmpR op_gt (pe_callB call_lenD (by rfl) T.n_len PySem.boot_len (pa_cons (pv 1) pa_nil)) (pe_con (pv 0) rfl) (nomark _)) pss_never pss_nil) (pss_cons (ps_fld (pv 0) (pe_dc (own := [("room", 5)]) (g := (gName 5)) (tt := tYes) rfl nd (pi_list (pe_callB (cr_srtD rfl) (by rfl) T.n_sorted (by decide +kernel) (pa_cons (pv 1) pa_nil))) (blkOk_by (own := [("room", 5)]) (N := N_Building_init) (sc := defScope s_Building_init) (by decide +kernel)) (fun _ _ _ _ _ => (pg_name (i := 5) nd rfl (Or.inl rfl))) (fun _ _ _ _ _ => pts_nil) (fun _ _ _ _ _ => (pv 5)) (fun _ _ _ _ _ => (pe_dget hu (pv 1) (pv 5) (fun _ _ => rfl)))) rfl) (pss_cons (ps_fld (pv 0) (pe_meth (pv 0) T.clB T.m_sorted_pairs (ok_sorted_pairs T) (hr.mono (by decide)) T.b_Building_sorted_pairs .nil pass0 (pa_cons (pv 2) pa_nil)) rfl) (pss_cons (ps_if (pt_cmpR op_gt (pe_callB call_len (by rfl) T.n_len PySem.boot_len (pa_cons (pe_fld (pv 0) rfl) pa_nil)) (pe_con (pv 0) rfl) (nomark _)) pss_never pss_nil) (pss_cons (ps_expr (pe_meth0 (pv 0) T.clB T.m_check_connected (ok_check_connected T) (hr.mono (by decide)) T.b_Building_check_connected .nil pass0)) (pss_cons (ps_fld (pv 0) (pe_lock (pe_dc (own := [("room", 5)]) (g := (gName 5)) (tt := tYes) rfl nd (pi_keys (pe_fld (pv 0) rfl)) (blkOk_by (own := [("room", 5)]) (N := N_Building_init) (sc := defScope s_Building_init) (by decide +kernel)) (fun _ _ _ _ _ => (pg_name (i := 5) nd rfl (Or.inl rfl))) (fun _ _ _ _ _ => pts_nil) (fun _ _ _ _ _ => (pv 5)) (fun _ _ _ _ _ => (pe_lst pa_nil)))) rfl) (pss_cons (ps_for PassesOwn.never rfl (pi_list (pe_fld (pv 0) rfl)) (pg_tup (by rfl) (pgs_cons (pg_name (i := 6) nd rfl (Or.inl rfl)) (pgs_cons (pg_name (i := 7) nd rfl (Or.inl rfl)) pgs_nil))) (pss_cons (ps_expr (pe_bm PySem.F.plainAttrs_list PySem.F.slot_list_append PySem.F.type_list_append mt_append (pe_dget hu (pe_fld (pv 0) rfl) (pv 6) (fun _ _ => rfl)) (pa_cons (pv 7) pa_nil))) (pss_one (ps_expr (pe_bm PySem.F.plainAttrs_list PySem.F.slot_list_append PySem.F.type_list_append mt_append (pe_dget hu (pe_fld (pv 0) rfl) (pv 7) (fun _ _ => rfl)) (pa_cons (pv 6) pa_nil)))))) (pss_one (ps_expr (pe_meth0 (pv 0) T.clB T.m_prepare (ok_prepare T) (hr.mono (by decide)) T.b_Building_prepare .nil pass0)))))))))))), ?_⟩
    have hkeys : (szKv ns z).map (·.1) = ns.map Sum.inr := sz_keys ns z
    have hlen : (szKv ns z).length = ns.length := by simp [szKv]
    have hn5 := hz.len
    refine ⟨dp, _, hd, trivial, fun od => ?_⟩
    refine ⟨_, rfl, dp, od, rfl, .inl ⟨_, upd_same, ?_⟩⟩
    refine for_it walk_keys (fun i σ H3 => (∃ v3 v4 v5 v6 v7, σ = [some (.ref b), some (.ref dp), some (.ref l), v3, v4, v5, v6, v7]) ∧ Same (upd H dp (.frz od (.dK (szKv ns z)))) H3) ⟨⟨_, _, _, _, _, rfl⟩, Same.refl _⟩ (fun i σ H3 _ h => h.2 _ _ upd_same) ?_ ?_
    · rintro i x σ H3 H4 hi ⟨⟨v3, v4, v5, v6, v7, rfl⟩, s3⟩ ⟨rfl, kk, v, hx, rfl⟩
      have hiR : i < ns.length := by simpa [szKv] using hi
      obtain ⟨rfl, rfl⟩ : kk = Sum.inr ns[i] ∧ v = V.int (z ns[i]) := by
        simp [szKv, hiR] at hx
        exact ⟨hx.1.symm, hx.2.symm⟩
      refine ⟨_, rfl, ns[i], rfl, hz.nm _ (List.getElem_mem hiR), fun H5 s5 => ⟨_, rfl, iteF ?_⟩⟩
      exact ⟨⟨_, _, _, _, _, rfl⟩, s3.trans s5⟩
    rintro σ H3 ⟨⟨v3, v4, v5, v6, v7, rfl⟩, s3⟩
    refine ⟨s3 _ _ upd_same, ?_⟩
    have t3 := unlock_same hd s3
    generalize upd H3 dp (.dK (szKv ns z)) = H5 at t3
    have hd5 := t3 _ _ hd
    refine ⟨dp, _, hd5, trivial, fun od2 => ?_⟩
    refine ⟨_, rfl, dp, od2, _, rfl, upd_same, ?_⟩
    refine for_it walk_values (fun i σ H6 => (∃ v3 v4 v5 v6 v7, σ = [some (.ref b), some (.ref dp), some (.ref l), v3, v4, v5, v6, v7]) ∧ Same (upd H5 dp (.frz od2 (.dK (szKv ns z)))) H6) ⟨⟨_, _, _, _, _, rfl⟩, Same.refl _⟩ (fun i σ H3 _ h => h.2 _ _ upd_same) ?_ ?_
    · rintro i x σ H6 H7 hi ⟨⟨v3, v4, v5, v6, v7, rfl⟩, s6⟩ ⟨rfl, kk, hx⟩
      have hiR : i < ns.length := by simpa [szKv] using hi
      obtain rfl : V.int (z ns[i]) = x := by
        simp [szKv, hiR] at hx
        exact hx.2
      have hm := List.getElem_mem hiR
      have z1 := hz.z1 _ hm
      have z2 := hz.z2 _ hm
      refine ⟨_, rfl, ((z ns[i] : Nat) : Int), 1, 1000000000, rfl, by omega, by omega, _, rfl, iteF ?_⟩
      exact ⟨⟨_, _, _, _, _, rfl⟩, s6⟩
    rintro σ H6 ⟨⟨v3, v4, v5, v6, v7, rfl⟩, s6⟩
    refine ⟨s6 _ _ upd_same, ?_⟩
    have t6 := t3.trans (unlock_same hd5 s6)
    generalize upd H6 dp (.dK (szKv ns z)) = H8 at t6
    have hd8 := t6 _ _ hd
    have hb8 := t6 _ _ hb
    obtain ⟨uMR, cMR⟩ := T.cMR
    obtain ⟨uMC, cMC⟩ := T.cMC
    refine ⟨_, rfl, dp, _, rfl, hd8, _, rfl, b, _, _, _, _, uMR, rfl, hb8, T.clB, cMR, rfl, _, _, rfl, rfl, _, rfl, iteDn (by rw [hlen]; omega) ?_⟩
    refine ⟨_, rfl, dp, _, ns, rfl, .inl hd8, hkeys, by omega, fun p hp0 => ?_⟩
    have hR : (srtS ns).length = ns.length := (srtS_perm ns).length_eq
    have hmem : ∀ r, r ∈ srtS ns ↔ r ∈ ns := fun r => (srtS_perm ns).mem_iff
    have ndR : (srtS ns).Nodup := (srtS_perm ns).nodup_iff.mpr hz.nd
    refine ⟨p, rfl, ⟨_, SqL.of upd_same⟩, fun D hD => ?_⟩
    have hp1 : upd H8 p (.lst ((srtS ns).map V.str)) p = some (.lst ((srtS ns).map V.str)) := upd_same
    have hD8 : H8 D = none := (same_new hp0).free hD
    refine dc_it (walk_list (xs := (srtS ns).map V.str)) (fun i H9 => Same (upd H8 p (.lst ((srtS ns).map V.str))) H9 ∧ H9 D = some (.dK (szKv ((srtS ns).take i) z))) ⟨same_new hD, upd_same⟩ (fun i H9 _ h => SqL.of (h.1 _ _ hp1)) ?_ ?_
    · rintro i x H9 H10 hi ⟨s9, d9⟩ ⟨rfl, hx⟩
      rw [List.length_map] at hi
      obtain rfl : V.str (srtS ns)[i] = x := by simpa [hi] using hx
      have hm : (srtS ns)[i] ∈ ns := (hmem _).mp (List.getElem_mem hi)
      refine ⟨rfl, _, rfl, _, rfl, _, rfl, dp, V.int (z (srtS ns)[i]), rfl, ?_, szKv ((srtS ns).take i) z, Sum.inr (srtS ns)[i], rfl, d9, szL (by simp [szKv]; omega), same_upd s9 hD, ?_⟩
      · rw [← sz_get z hz.nd hm]
        exact DGet.k (k := Sum.inr (srtS ns)[i]) (s9 _ _ (same_new hp0 _ _ hd8))
      · rw [upd_same, putK_new]
        · rw [List.take_add_one, List.getElem?_eq_getElem hi]
          unfold szKv
          rw [List.map_append]
          rfl
        · refine sz_none z fun h => ?_
          rw [← List.take_append_drop i (srtS ns), List.drop_eq_getElem_cons hi] at ndR
          exact (List.nodup_append.mp ndR).2.2 _ h _ List.mem_cons_self rfl
    rintro H9 ⟨s9, d9⟩
    rw [List.length_map, List.take_of_length_le (Nat.le_refl _)] at d9
    have t9 : Same H H9 := t6.trans ((same_new hp0).trans s9)
    have hb9 := t9 _ _ hb
    refine ⟨_, rfl, b, _, dx, [], rfl, hb9, T.clB, T.nB_sizes, by show 0 < 1000; omega, ?_⟩
    have bD : D ≠ b := ne_of d9 hb9 (by intro z; cases z)
    have lb : l ≠ b := ne_of hp.lst hb (by intro z; cases z)
    have hokR : PsOk (srtS ns) (bs.map (·.2)) := ⟨fun q hq => ⟨(hmem _).mpr (hok.sub q hq).1, (hmem _).mpr (hok.sub q hq).2⟩, hok.lt, hok.nd, hok.len⟩
    have hp10 : PrsF K (upd H9 b (.ins (cB K) dx (putF "sizes" (.ref D) []))) l bs := ⟨by rw [upd_ne lb]; exact t9 _ _ hp.lst, fun q hq => by
      obtain ⟨oq, oq1, oq2⟩ := hp.tup q hq
      exact ⟨oq, oq1, by rw [upd_ne (ne_of oq2 hb (by intro z; cases z))]; exact t9 _ _ oq2⟩⟩
    refine ⟨_, rfl, _, dx, _, rfl, upd_same, rfl, _, rfl, b, l, srtS ns, z, bs, rfl, ⟨dx, _, D, upd_same, by rw [lookup_putF, if_pos rfl], by rw [upd_ne bD]; exact d9⟩, hp10, hokR, fun r hr => hz.nm r ((hmem r).mp hr), fun H11 q bs' s11 nq hbs hbe => ?_⟩
    have hb11 := s11 _ _ (upd_same (H := H9) (a := b) (o := .ins (cB K) dx (putF "sizes" (.ref D) [])))
    refine ⟨_, rfl, b, _, dx, _, rfl, hb11, T.clB, T.nB_pairs, Nat.lt_of_le_of_lt (length_putF _ _ _) (by decide), ?_⟩
    have qb : q ≠ b := ne_of hbs.lst hb11 (by intro z; cases z)
    have hm12 : MadeAt K (upd H11 b (.ins (cB K) dx (putF "pairs" (.ref q) (putF "sizes" (.ref D) [])))) b dx (putF "pairs" (.ref q) (putF "sizes" (.ref D) [])) D q (srtS ns) z bs' := by
      refine ⟨upd_same, by rw [lookup_putF, if_neg (by decide), lookup_putF, if_pos rfl], by rw [lookup_putF, if_pos rfl], ?_, ?_, ?_⟩
      · exact Nat.lt_of_le_of_lt (length_putF _ _ _) (by have := length_putF "sizes" (V.ref D) []; simp at this; omega)
      · rw [upd_ne bD]
        exact s11 _ _ (by rw [upd_ne bD]; exact d9)
      · exact ⟨by rw [upd_ne qb]; exact hbs.lst, fun c hc => by rw [upd_ne (ne_of (hbs.tup c hc) hb11 (by intro z; cases z))]; exact hbs.tup c hc⟩
    have sb12 : SameBut b H (upd H11 b (.ins (cB K) dx (putF "pairs" (.ref q) (putF "sizes" (.ref D) [])))) := fun c o hc ho => by
      rw [upd_ne hc]
      exact s11 _ _ (by rw [upd_ne hc]; exact t9 _ _ ho)
    generalize upd H11 b (.ins (cB K) dx (putF "pairs" (.ref q) (putF "sizes" (.ref D) []))) = H12 at hm12 sb12
    generalize hfs : (putF "pairs" (V.ref q) (putF "sizes" (V.ref D) [])) = fs12 at hm12
    have hno : ∀ f : Str, f ≠ "pairs" → f ≠ "sizes" → fs12.lookup f = none := fun f h1 h2 => by
      rw [← hfs, lookup_putF, if_neg h1, lookup_putF, if_neg h2]
      rfl
    have hplen : bs'.length ≤ 40 := by
      have := congrArg List.length hbe
      rw [(srtP_perm _).length_eq] at this
      have h40 := hok.len
      simp at this h40
      omega
    have hok' : PsOk (srtS ns) (bs'.map (·.2)) := by
      rw [hbe]
      exact ⟨fun c hc => hokR.sub c ((srtP_perm _).mem_iff.mp hc), fun c hc => hok.lt c ((srtP_perm _).mem_iff.mp hc), (srtP_perm _).nodup_iff.mpr hok.nd, by rw [(srtP_perm _).length_eq]; exact hok.len⟩
    have hC' : Conn (srtS ns) (bs'.map (·.2)) := by
      rw [hbe]
      intro S ⟨r, hr, hS⟩ hcl r' hr'
      exact hC S ⟨r, (hmem r).mp hr, hS⟩ (fun c hc => hcl c ((srtP_perm _).mem_iff.mpr hc)) r' ((hmem r').mp hr')
    have hneR : srtS ns ≠ [] := by
      intro e
      have := congrArg List.length e
      rw [hR] at this
      exact hz.ne (List.length_eq_zero_iff.mp this)
    refine ⟨_, rfl, b, _, dx, _, _, rfl, hm12.ins, T.clB, T.nB_pairs, hm12.fpr, _, _, rfl, .inl ⟨_, SqL.of hm12.prs.lst, rfl⟩, ?_⟩
    refine ⟨_, rfl, b, _, _, _, _, uMC, rfl, hm12.ins, T.clB, cMC, hno _ (by decide) (by decide), _, _, rfl, rfl, _, rfl, iteDn (by rw [List.length_map]; omega) ?_⟩
    refine ⟨_, rfl, b, dx, _, rfl, hm12.ins, hno _ (by decide) (by decide), b, dx, fs12, D, q, srtS ns, z, bs', rfl, hm12, hok', by omega, hneR, hC', fun H13 s13 => ?_⟩
    have hm13 := hm12.same s13
    have sb13 : SameBut b H H13 := fun c o hc ho => s13 _ _ (sb12 c o hc ho)
    have Db : b ≠ D := ne_of hm13.ins hm13.sz (by intro z; cases z)
    refine ⟨D, _, hm13.sz, trivial, fun od3 => ?_⟩
    refine ⟨_, rfl, b, _, dx, _, _, rfl, by rw [upd_ne Db]; exact hm13.ins, T.clB, T.nB_sizes, hm13.fsz, D, od3, rfl, .inl ⟨_, upd_same, fun N hN => ?_⟩⟩
    have ND : N ≠ D := by
      intro e
      rw [e, upd_same] at hN
      cases hN
    have N13 : H13 N = none := by rw [upd_ne ND] at hN; exact hN
    refine dc_it walk_keys (fun i H14 => (∀ c o, c ≠ D → H13 c = some o → H14 c = some o) ∧ H14 D = some (.frz od3 (.dK (szKv (srtS ns) z))) ∧ ∃ na : Str → Addr, H14 N = some (.dK (((srtS ns).take i).map fun r => (Sum.inr r, V.ref (na r)))) ∧
      (∀ r ∈ (srtS ns).take i, H14 (na r) = some (.lst []) ∧ H13 (na r) = none) ∧ ∀ r ∈ (srtS ns).take i, ∀ r' ∈ (srtS ns).take i, na r = na r' → r = r') ?_ (fun i H14 _ h => h.2.1) ?_ ?_
    · refine ⟨fun c o hc ho => ?_, by rw [upd_ne ND.symm, upd_same], fun _ => 0, upd_same, fun r hr => by simp at hr, fun r hr => by simp at hr⟩
      rw [upd_ne (fun e => by rw [e, N13] at ho; cases ho), upd_ne hc]
      exact ho
    · rintro i x H14 H15 hi ⟨g1, g2, na, g3, g4, g5⟩ ⟨rfl, kk, v, hx, rfl⟩
      have hiR : i < (srtS ns).length := by simpa [szKv] using hi
      obtain ⟨rfl, rfl⟩ : kk = Sum.inr (srtS ns)[i] ∧ v = V.int (z (srtS ns)[i]) := by
        simp [szKv, hiR] at hx
        exact ⟨hx.1.symm, hx.2.symm⟩
      refine ⟨rfl, _, rfl, by show 0 ≤ sizeLine; omega, fun zz hzz => ?_⟩
      have zN : N ≠ zz := ne_of_none g3 hzz
      have zD : D ≠ zz := ne_of_none g2 hzz
      have z13 : H13 zz = none := by
        cases e : H13 zz with
        | none => rfl
        | some o => rw [g1 _ _ zD.symm e] at hzz; cases hzz
      have hnew : ∀ r ∈ (srtS ns).take i, r ≠ (srtS ns)[i] := fun r hr e => by
        rw [← List.take_append_drop i (srtS ns), List.drop_eq_getElem_cons hiR] at ndR
        exact (List.nodup_append.mp ndR).2.2 _ hr _ List.mem_cons_self e
      have htk : (srtS ns).take (i + 1) = (srtS ns).take i ++ [(srtS ns)[i]] := by
        rw [List.take_add_one, List.getElem?_eq_getElem hiR]
        rfl
      refine ⟨_, Sum.inr (srtS ns)[i], rfl, by rw [upd_ne zN]; exact g3, szL (by simp; omega), fun c o hc ho => ?_, by rw [upd_ne ND.symm, upd_ne zD]; exact g2, fun r => if r = (srtS ns)[i] then zz else na r, ?_, fun r hr => ?_, fun r hr r' hr' e => ?_⟩
      · rw [upd_ne (fun e => by rw [e, N13] at ho; cases ho), upd_ne (fun e => by rw [e, z13] at ho; cases ho)]
        exact g1 c o hc ho
      · rw [upd_same, putK_new, htk, List.map_append]
        · congr 2
          rw [show ((srtS ns).take i).map (fun r => ((Sum.inr r : Key), V.ref (if r = (srtS ns)[i] then zz else na r))) = ((srtS ns).take i).map (fun r => ((Sum.inr r : Key), V.ref (na r))) from List.map_congr_left fun r hr => by rw [if_neg (hnew r hr)]]
          simp
        · refine val_map_none (k := fun r => r) (f := fun r => V.ref (na r)) ?_
          intro h
          simp at h
          exact hnew _ h rfl
      · rw [htk] at hr
        rcases List.mem_append.mp hr with h | h
        · dsimp only
          rw [if_neg (hnew r h)]
          obtain ⟨w1, w2⟩ := g4 r h
          refine ⟨?_, w2⟩
          rw [upd_ne (ne_of w1 g3 (by intro z; cases z)), upd_ne (ne_of_none w1 hzz)]
          exact w1
        · dsimp only
          rw [List.mem_singleton.mp h, if_pos rfl]
          exact ⟨by rw [upd_ne zN.symm, upd_same], z13⟩
      · rw [htk] at hr hr'
        dsimp only at e
        have old : ∀ r ∈ (srtS ns).take i, na r ≠ zz := fun r h => ne_of_none (g4 r h).1 hzz
        rcases List.mem_append.mp hr with h | h <;> rcases List.mem_append.mp hr' with h' | h'
        · rw [if_neg (hnew r h), if_neg (hnew r' h')] at e
          exact g5 r h r' h' e
        · rw [if_neg (hnew r h), List.mem_singleton.mp h', if_pos rfl] at e
          exact absurd e (old r h)
        · rw [if_neg (hnew r' h'), List.mem_singleton.mp h, if_pos rfl] at e
          exact absurd e.symm (old r' h')
        · rw [List.mem_singleton.mp h, List.mem_singleton.mp h']
    rintro H14 ⟨g1, g2, na, g3, g4, g5⟩
    have hall : (srtS ns).take (szKv (srtS ns) z).length = srtS ns := List.take_of_length_le (by simp [szKv])
    rw [hall] at g3 g4 g5
    refine ⟨g2, ?_⟩
    have b14 : upd H14 D (.dK (szKv (srtS ns) z)) b = some (.ins (cB K) dx fs12) := by rw [upd_ne Db]; exact g1 _ _ Db hm13.ins
    have s14 : Same H13 (upd H14 D (.dK (szKv (srtS ns) z))) := fun c o hc => by
      by_cases e : c = D
      · subst e
        rw [upd_same]
        rw [hm13.sz] at hc
        exact hc
      · rw [upd_ne e]
        exact g1 c o e hc
    have N14 : upd H14 D (.dK (szKv (srtS ns) z)) N = some (.dK ((srtS ns).map fun r => (Sum.inr r, V.ref (na r)))) := by rw [upd_ne ND]; exact g3
    have na14 : ∀ r ∈ srtS ns, upd H14 D (.dK (szKv (srtS ns) z)) (na r) = some (.lst []) := fun r hr => by
      rw [upd_ne (ne_of (g4 r hr).1 g2 (by intro z; cases z))]
      exact (g4 r hr).1
    generalize upd H14 D (.dK (szKv (srtS ns) z)) = H15 at b14 s14 N14 na14
    have hfl := hm12.fl
    refine ⟨_, rfl, b, _, dx, _, rfl, b14, T.clB, T.nB_near, by omega, ?_⟩
    have hm15 := hm13.same s14
    have qb' : q ≠ b := ne_of hm15.prs.lst hm15.ins (by intro z; cases z)
    have l16 : ∀ f : Str, f ≠ "near" → (putF "near" (V.ref N) fs12).lookup f = fs12.lookup f := fun f hf => by rw [lookup_putF, if_neg hf]
    have hm16 : MadeAt K (upd H15 b (.ins (cB K) dx (putF "near" (.ref N) fs12))) b dx (putF "near" (.ref N) fs12) D q (srtS ns) z bs' := by
      refine ⟨upd_same, by rw [l16 _ (by decide)]; exact hm15.fsz, by rw [l16 _ (by decide)]; exact hm15.fpr, ?_, ?_, ?_⟩
      · have h1 := length_putF "near" (V.ref N) fs12
        have h2 : fs12.length ≤ 2 := by
          rw [← hfs]
          have h3 := length_putF "pairs" (V.ref q) (putF "sizes" (V.ref D) [])
          have h4 := length_putF "sizes" (V.ref D) []
          simp at h4
          omega
        omega
      · rw [upd_ne bD]
        exact hm15.sz
      · exact ⟨by rw [upd_ne qb']; exact hm15.prs.lst, fun c hc => by rw [upd_ne (ne_of (hm15.prs.tup c hc) hm15.ins (by intro z; cases z))]; exact hm15.prs.tup c hc⟩
    have N16 : upd H15 b (.ins (cB K) dx (putF "near" (.ref N) fs12)) N = some (.dK ((srtS ns).map fun r => (Sum.inr r, V.ref (na r)))) := by
      rw [upd_ne (ne_of N14 b14 (by intro z; cases z))]
      exact N14
    have na16 : ∀ r ∈ srtS ns, upd H15 b (.ins (cB K) dx (putF "near" (.ref N) fs12)) (na r) = some (.lst []) := fun r hr => by
      rw [upd_ne (ne_of (na14 r hr) b14 (by intro z; cases z))]
      exact na14 r hr
    have sb16 : SameBut b H (upd H15 b (.ins (cB K) dx (putF "near" (.ref N) fs12))) := fun c o hc ho => by
      rw [upd_ne hc]
      exact s14 _ _ (sb13 c o hc ho)
    have naH : ∀ r ∈ srtS ns, ∀ c o, c ≠ b → H c = some o → c ≠ na r := fun r hr c o hc ho e => by
      have := sb13 c o hc ho
      rw [e, (g4 r hr).2] at this
      cases this
    have na13 : ∀ r ∈ srtS ns, H13 (na r) = none := fun r hr => (g4 r hr).2
    generalize upd H15 b (.ins (cB K) dx (putF "near" (.ref N) fs12)) = H16 at hm16 N16 na16 sb16
    have hqna : ∀ r ∈ srtS ns, q ≠ na r := fun r hr e => by
      have := hm13.prs.lst
      rw [e, na13 r hr] at this
      cases this
    have keepP : ∀ {H' nb}, NI H16 H' (srtS ns) na nb → PrsAt K H' q bs' := fun h => ⟨h.1 _ _ hqna hm16.prs.lst, fun c hc => h.1 _ _ (fun r hr => ne_of (hm16.prs.tup c hc) (na16 r hr) (by intro z; cases z)) (hm16.prs.tup c hc)⟩
    have keepB : ∀ {H' nb}, NI H16 H' (srtS ns) na nb → H' b = some (.ins (cB K) dx (putF "near" (.ref N) fs12)) := fun h => h.1 _ _ (fun r hr => ne_of hm16.ins (na16 r hr) (by intro z; cases z)) hm16.ins
    have keepN : ∀ {H' nb}, NI H16 H' (srtS ns) na nb → H' N = some (.dK ((srtS ns).map fun r => (Sum.inr r, V.ref (na r)))) := fun h => h.1 _ _ (fun r hr => ne_of N16 (na16 r hr) (by intro z; cases z)) N16
    have getN : ∀ {H' : Hp} {r : Str}, r ∈ srtS ns → H' N = some (.dK ((srtS ns).map fun r => (Sum.inr r, V.ref (na r)))) → DGet H' N (.str r) (some (.ref (na r))) := fun {H' r} hr h => by
      rw [← val_map (k := fun r => r) (f := fun r => V.ref (na r)) (by simpa using ndR) hr]
      exact DGet.k (k := Sum.inr r) h
    have lnear : (putF "near" (V.ref N) fs12).lookup ("near" : Str) = some (V.ref N) := by rw [lookup_putF, if_pos rfl]
    refine ⟨_, rfl, b, _, dx, _, _, rfl, hm16.ins, T.clB, T.nB_pairs, hm16.fpr, q, rfl, ⟨_, SqL.of hm16.prs.lst⟩, ?_⟩
    refine for_it (walk_list (xs := bs'.map fun b => V.ref b.1)) (fun i σ H' => (∃ v3 v4 v5 v6 v7, σ = [some (.ref b), some (.ref dp), some (.ref l), v3, v4, v5, v6, v7]) ∧ NI H16 H' (srtS ns) na (fun r => nbl ((bs'.map (·.2)).take i) r)) ⟨⟨_, _, _, _, _, rfl⟩, fun c o _ h => h, fun r hr => by simpa [nbl] using na16 r hr⟩ (fun i σ H' _ h => SqL.of (keepP h.2).lst) ?_ ?_
    · rintro i x σ H' H'' hi ⟨⟨v3, v4, v5, v6, v7, rfl⟩, hni⟩ ⟨rfl, hx⟩
      rw [List.length_map] at hi
      obtain rfl : V.ref bs'[i].1 = x := by simpa [hi] using hx
      have hbm : bs'[i] ∈ bs' := List.getElem_mem hi
      have hbm2 : bs'[i].2 ∈ bs'.map (·.2) := List.mem_map.mpr ⟨_, hbm, rfl⟩
      obtain ⟨m1, m2⟩ := hok'.sub _ hbm2
      have hne12 := ltS_ne (hok'.lt _ hbm2)
      refine ⟨_, _, rfl, SqT.of ((keepP hni).tup _ hbm), rfl, _, _, rfl, _, _, rfl, rfl, ?_⟩
      have szn : ∀ r, (nbl ((bs'.map (·.2)).take i) r).length ≤ 40 := fun r => Nat.le_trans (nbl_len _ _) (by simp; omega)
      have l1 := hni.2 _ m1
      refine ⟨_, rfl, b, _, dx, _, _, rfl, keepB hni, T.clB, T.nB_near, lnear, _, rfl, N, _, rfl, getN m1 (keepN hni), .inl ⟨rfl, _, SqL.of l1⟩, _, rfl, na bs'[i].2.1, _, _, rfl, rfl, l1, szL (by rw [List.length_map]; dsimp only; have := szn bs'[i].2.1; omega), ?_⟩
      have hni2 := hni.step g5 m1 bs'[i].2.2
      have l2 := hni2.2 _ m2
      have hsz2 : (((fun r => nbl ((bs'.map (·.2)).take i) r ++ if bs'[i].2.1 = r then [bs'[i].2.2] else []) bs'[i].2.2).map V.str).length < 100000 := by
        rw [List.length_map]
        dsimp only
        rw [if_neg hne12, List.append_nil]
        have := szn bs'[i].2.2
        omega
      refine ⟨_, rfl, b, _, dx, _, _, rfl, keepB hni2, T.clB, T.nB_near, lnear, _, rfl, N, _, rfl, getN m2 (keepN hni2), .inl ⟨rfl, _, SqL.of l2⟩, _, rfl, na bs'[i].2.2, _, _, rfl, rfl, l2, szL hsz2, ?_⟩
      have hni3 := hni2.step g5 m2 bs'[i].2.1
      refine ⟨⟨_, _, _, _, _, rfl⟩, ?_⟩
      have htk : (bs'.map (·.2)).take (i + 1) = (bs'.map (·.2)).take i ++ [bs'[i].2] := by
        rw [List.take_add_one]
        simp [hi]
      rw [htk]
      have efn : (fun r => nbl ((bs'.map (·.2)).take i ++ [bs'[i].2]) r) = fun r => (nbl ((bs'.map (·.2)).take i) r ++ if bs'[i].2.1 = r then [bs'[i].2.2] else []) ++ if bs'[i].2.2 = r then [bs'[i].2.1] else [] := by
        funext r
        rw [nbl_snoc, List.append_assoc]
        congr 1
        by_cases e1 : bs'[i].2.1 = r
        · have e2 : ¬ bs'[i].2.2 = r := fun z => hne12 (e1.trans z.symm)
          rw [if_pos e1, if_pos e1, if_neg e2]
          rfl
        · rw [if_neg e1, if_neg e1]
          rfl
      rw [efn]
      exact hni3
    rintro σ H' ⟨⟨v3, v4, v5, v6, v7, rfl⟩, hni⟩
    rw [List.length_map, List.take_of_length_le (by simp)] at hni
    have hm17 : MadeAt K H' b dx (putF "near" (.ref N) fs12) D q (srtS ns) z bs' :=
      ⟨keepB hni, hm16.fsz, hm16.fpr, hm16.fl, hni.1 _ _ (fun r hr => ne_of hm16.sz (na16 r hr) (by intro z; cases z)) hm16.sz, keepP hni⟩
    refine ⟨_, rfl, b, dx, _, rfl, hm17.ins, by rw [l16 _ (by decide)]; exact hno _ (by decide) (by decide), b, dx, _, D, q, srtS ns, z, bs', rfl, hm17, hok', by omega, hneR, hC', fun H18 fs18 sb18 ins18 lk18 => ?_⟩
    refine k H18 (fun c o hc ho => sb18 c o hc (hni.1 _ _ (fun r hr => naH r hr c o hc ho) (sb16 c o hc ho))) ⟨dx, fs18, D, N, na, ins18, ?_, ?_, ?_, ?_, fun r hr => ?_, ?_⟩
    · rw [lk18 _ (by decide) (by decide) (by decide)]
      exact hm17.fsz
    · exact sb18 _ _ (ne_of hm17.sz hm17.ins (by intro z; cases z)) hm17.sz
    · rw [lk18 _ (by decide) (by decide) (by decide)]
      exact lnear
    · exact sb18 _ _ (ne_of (keepN hni) hm17.ins (by intro z; cases z)) (keepN hni)
    · have h := hni.2 r hr
      rw [hbe] at h
      exact sb18 _ _ (ne_of h hm17.ins (by intro z; cases z)) h
    · rw [lk18 _ (by decide) (by decide) (by decide), l16 _ (by decide)]
      exact hno _ (by decide) (by decide)
end
end Rd
/-! for i, x in enumerate(a tuple) -/
namespace Rd
open PySem PySem.Spec L2
open PyProof.Rows hiding St
open AutoSeq1 (wpAny_loadPart')
theorem enum_newT (l : Addr) (items : Array Value) (n : Nat) (dct : Option Addr) (sl : Array (Option Value)) :
    Meets (Builtin.«enumerate.__new__» ⟨[.type "enumerate", .ref l], []⟩) (fun _ R s => s.heap.get? l = some { cls := .type "tuple", dict := dct, data := .seq items n, slots := sl } ∧
      R (.ok (.ret (.ref (s.heap.push { cls := .type "tuple_iterator", data := .fields #[.ref l, .int 0 0] }).objs.size)))
        { s with heap := (s.heap.push { cls := .type "tuple_iterator", data := .fields #[.ref l, .int 0 0] }).push { cls := .type "enumerate", data := .fields #[.none, .bool false, .ref s.heap.objs.size, rawInt 0, .none, .none] } }) :=
  .of_wp fun prog w A R s h => by
    obtain ⟨hp, g, d, tk, os⟩ := s
    obtain ⟨hl, h⟩ := h
    have hsub := sub_enumerate
    have hL : Heap.IsTuple (Shared.heap ⟨hp, g, d, tk, os⟩) l items := ⟨_, hl, rfl, n, rfl⟩
    wp_walk using wpAny_loadPart' hl
    refine wpAny_stack_any fun st => wpAny_pure ?_
    split
    · rename_i c _ _ _ _ _
      cases (c == Value.type "enumerate")
      · wp_walk using wpAny_loadPart' hl, wpAny_pyIter_tuple hL
        exact ⟨_, rfl, h⟩
      · wp_walk using wpAny_loadPart' hl, wpAny_pyIter_tuple hL
        exact ⟨_, rfl, h⟩
    · wp_walk using wpAny_loadPart' hl, wpAny_pyIter_tuple hL
      exact ⟨_, rfl, h⟩
section
variable {prog : Program} {w : World} {A : Around} {E : Value → Shared → Prop} {s : Shared}
theorem call_enumT {l : Addr} {items : Array Value} {Q : Value → Shared → Prop} (hL : s.heap.IsTuple l items)
    (h : ∀ h', IsEnum h' (s.heap.objs.size + 1) s.heap.objs.size 0 .none → h'.IsTupleIter s.heap.objs.size l 0 → h'.objs.size = s.heap.objs.size + 2 →
      (∀ b o, s.heap.get? b = some o → h'.get? b = some o) → Q (.ref (s.heap.objs.size + 1)) { s with heap := h' }) :
    wpAny (model prog w) A (call (.type "enumerate") [.ref l]) Q E s := by
  obtain ⟨⟨c, dct, dt, sl⟩, hl, hc, n, hd⟩ := hL
  replace hc : c = .type "tuple" := hc
  replace hd : dt = .seq items n := hd
  subst hc hd
  refine callType_new F.called_enumerate (by decide) (F.typeCall_enumerate_1 _) (F.newCall_enumerate_1 _) (fun obj => F.args_object_init_2 obj _) F.entry_enumerate_new
    (enum_newT l items n dct sl) ⟨hl, ?_⟩
  have hz : (s.heap.push { cls := .type "tuple_iterator", data := .fields #[.ref l, .int 0 0] }).objs.size = s.heap.objs.size + 1 := Heap.size_push ..
  show _ ∧ _
  rw [hz]
  have he : IsEnum ((s.heap.push { cls := .type "tuple_iterator", data := .fields #[.ref l, .int 0 0] }).push
      { cls := .type "enumerate", data := .fields #[.none, .bool false, .ref s.heap.objs.size, rawInt 0, .none, .none] }) (s.heap.objs.size + 1) s.heap.objs.size 0 .none := by
    have := Heap.get?_push_size (s.heap.push { cls := .type "tuple_iterator", data := .fields #[.ref l, .int 0 0] })
      (o := { cls := .type "enumerate", data := .fields #[.none, .bool false, .ref s.heap.objs.size, rawInt 0, .none, .none] }) rfl
    rw [hz] at this
    exact this
  exact ⟨⟨_, he, rfl⟩, h _ he ⟨_, Heap.get?_push_of_some _ (Heap.get?_push_size _ rfl), rfl, rfl⟩ (by rw [Heap.size_push, hz]) fun b o x => Heap.get?_push_of_some _ (Heap.get?_push_of_some _ x)⟩
end
def Iet (K : PySem.W.Frag) (a : Addr) : It :=
  ⟨fun i H => ∃ (xs : List V) (x : V), SqT K H a xs ∧ xs[i]? = some x, fun i H v H' => ∃ T x, v = .ref T ∧ H T = none ∧ H' = upd H T (.tup [.int (i : Nat), x]) ∧ ∀ xs, SqT K H a xs → xs[i]? = some x, fun i H => ∃ xs : List V, SqT K H a xs ∧ xs.length = i⟩
theorem turn_enumT {P : Program} {w : World} {K : PySem.W.Frag} {elts : List Expr} {kk : Nat} {tpos : Pos} (a e it : Addr) :
    Turn P w K (.Tuple elts kk tpos) (Iet K a) [e, it] e (fun i h => (∃ old, IsEnum h e it ((i : Nat) : Int) old) ∧ h.IsTupleIter it a i ∧ e ≠ it) where
  mem := by simp
  obj := fun i h st b hb => by
    obtain ⟨⟨old, he⟩, ⟨o, ho, hc, hd⟩, _⟩ := st
    have e' : b = e ∨ b = it := by simpa using hb
    rcases e' with z | z
    · rw [z]
      exact ⟨_, he, fun v q => nomatch q⟩
    · rw [z]
      exact ⟨o, ho, fun v q => by rw [hd] at q; cases q⟩
  keep := fun i h h' st k => let ⟨⟨old, he⟩, hi, hne⟩ := st; ⟨⟨old, k e (by simp) _ he⟩, hi.at fun o q => k it (by simp) o q, hne⟩
  item := by
    intro X hP hw hK hc i pins s σ H E I hf st hg
    subst hP hw hK
    obtain ⟨⟨old, he⟩, hit, hne⟩ := st
    obtain ⟨xs, x, hq, hx⟩ := hg
    obtain ⟨its, rv, p, hz⟩ := I.tuple hq
    obtain ⟨u, hu, ru⟩ := rv.get hx
    have pT : s.heap.IsTuple a its.toArray := p
    have hel : e < s.heap.objs.size := Heap.lt_size he
    have hil : it < s.heap.objs.size := by
      obtain ⟨_, q, _⟩ := hit
      exact Heap.lt_size q
    have hai : a ≠ it := by
      intro z
      subst z
      obtain ⟨o1, g1, g2, _⟩ := pT
      obtain ⟨o2, g3, g4, _⟩ := hit
      rw [g1] at g3
      cases g3
      rw [g2] at g4
      injection g4 with g4
      exact absurd g4 (by decide)
    have hea : e ≠ a := by
      intro z
      subst z
      obtain ⟨o1, g1, g2, _⟩ := pT
      rw [he] at g1
      cases g1
      injection g2 with g2
      exact absurd g2 (by decide)
    have hi : i < its.toArray.size := by
      have := (List.getElem?_eq_some_iff.mp hu).1
      simpa using this
    refine wpAny_pyNext_enum_itemD (Draws.tuple (A := X.A.in1) (show X.A.in1.handled = none from I.ok.hd hc) it a hai its.toArray) he ⟨hit, pT⟩ hi hne (by simp [hne, hea]) fun x' h' tk hx' ho hit' hT hsz hk => ?_
    obtain rfl : u = x' := by
      rw [List.getElem?_toArray, hu] at hx'
      cases hx'
      rfl
    refine ⟨_, rfl, wpAny_letOwnedTupleGo_enum (s := { s with heap := h', toks := tk + 1 }) ho fun h'' he' sb => ?_⟩
    have hT2 : h''.get? s.heap.objs.size = some { cls := .type "tuple", data := .seq #[.int i tk, u] } := (sb.2 _ (Nat.ne_of_gt hel)).trans hT
    have new : ObjOk X.prog X.w (upd H s.heap.objs.size (.tup [.int (i : Nat), x])) h'' s.heap.objs.size (.tup [.int (i : Nat), x]) :=
      ⟨by show 2 ≤ sizeLine; decide, [.int i tk, u], .cons ⟨_, rfl⟩ (.cons ru .nil), ⟨_, hT2, rfl, _, rfl⟩⟩
    have I1 : Inv X pins σ (upd H s.heap.objs.size (.tup [.int (i : Nat), x])) { s with heap := h'', toks := tk + 1 } :=
      I.turnedNew (ch := [e, it]) (fun b ob hb q => (sb.2 b (fun z => hb (by simp [z]))).trans (hk b ob (fun z => hb (by simp [z])) (fun z => hb (by simp [z])) q)) hf (Nat.le_refl _) new
    refine ⟨.ref s.heap.objs.size, _, I1, rfl, ⟨_, x, rfl, I.hok.fresh (Nat.le_refl _), rfl, fun ys hy => by rw [I.tuple_inj hy hq]; exact hx⟩, ⟨⟨u, ?_⟩, hit'.1.at fun o q => (sb.2 it (Ne.symm hne)).trans q, hne⟩, fun b hb => ?_⟩
    · have e1 : ((i + 1 : Nat) : Int) = (i : Int) + 1 := by omega
      rw [e1]
      exact he'
    · have hb' : b < s.heap.objs.size := by
        have e' : b = e ∨ b = it := by simpa using hb
        rcases e' with z | z
        · rw [z]
          exact hel
        · rw [z]
          exact hil
      rw [upd_ne (Nat.ne_of_lt hb')]
      exact (hf b hb).1
  done := by
    intro X hP hw hK hc i pins s σ H E I hf st hg
    subst hP hw hK
    obtain ⟨⟨old, he⟩, hit, hne⟩ := st
    obtain ⟨xs, hq, hx⟩ := hg
    obtain ⟨its, rv, p, hz⟩ := I.tuple hq
    obtain ⟨f0, f1, f2, f3, f4, f5⟩ := hf it (by simp)
    have hl := rv.length
    have pT : s.heap.IsTuple a its.toArray := p
    have hai : a ≠ it := by
      intro z
      subst z
      obtain ⟨o1, g1, g2, _⟩ := pT
      obtain ⟨o2, g3, g4, _⟩ := hit
      rw [g1] at g3
      cases g3
      rw [g2] at g4
      injection g4 with g4
      exact absurd g4 (by decide)
    have hi : its.toArray.size = i := by
      simp
      omega
    rw [← hi] at hit
    exact wpAny_pyNext_enum_endD (Draws.tuple (A := X.A.in1) (show X.A.in1.handled = none from I.ok.hd hc) it a hai its.toArray) he ⟨hit, pT⟩ fun h' eb => ⟨rfl, I.turned (t' := s.toks) (fun b o hb q => eb b o hb q) f0 f1 f3 f4 f5⟩
  self := fun A i s Q E st h => let ⟨⟨_, he⟩, _⟩ := st; wpAny_pyIter_enum he h
def iEnT (K : PySem.W.Frag) (ta : TA) : TI := fun σ H R => ta σ H fun vs H1 => ∃ a xs, vs = [.ref a] ∧ SqT K H1 a xs ∧ R (Iet K a) H1
theorem pi_enumT {X : Cx} {e : Expr} {ta : TA} {p pos tpos : Pos} {elts : List Expr} {kk : Nat} (hg : Gl X "enumerate") (hm : X.mg "enumerate" = none) (ha : PA X [e] ta) (hs : starEach [e] X.env = [(false, eval e X.env)] := by rfl) :
    PI X (.Tuple elts kk tpos) (.Call (.Name "enumerate" p) [e] [] pos) (iEnT X.K ta) := by
  refine ⟨fun pins s σ H R I h => ?_⟩
  refine Call_ (ld_blt I hg hm boot_enumerate (PyProof.Rows.callWith_type1 (thn (ha.run pos pins s σ H _ I h) fun us s1 ⟨vs, H1, I1, r1, q1⟩ => ?_) hs rfl))
  obtain ⟨a, xs, ex, hq, q⟩ := q1
  subst ex
  obtain ⟨u, rfl, r⟩ := vals1 r1
  cases r
  obtain ⟨its, rv, p', hz⟩ := I1.tuple hq
  refine call_enumT (items := its.toArray) p' fun h' he hit hsz hk => wpAny_pyIter_enum he ?_
  have I2 : Inv X pins σ H1 { s1 with heap := h' } := I1.kept (t' := s1.toks) hk
  refine ⟨s1.heap.objs.size + 1, [s1.heap.objs.size + 1, s1.heap.objs.size], _, _, H1, rfl, I2, turn_enumT a (s1.heap.objs.size + 1) s1.heap.objs.size, ⟨⟨.none, he⟩, hit, Nat.succ_ne_self _⟩, fun b hb => ?_, q⟩
  have e' : b = s1.heap.objs.size + 1 ∨ b = s1.heap.objs.size := by simpa using hb
  have hle : s1.heap.objs.size ≤ b := by
    rcases e' with z | z
    · rw [z]
      exact Nat.le_add_right _ _
    · rw [z]
      exact Nat.le_refl _
  exact I1.fpOk hle (I1.hok.fresh hle)
theorem walk_enumT {K : PySem.W.Frag} {a : Addr} {xs : List V} : Walk (Iet K a) xs.length (fun H => SqT K H a xs) (YPair (fun i => some (.int (i : Nat))) (fun i => xs[i]?)) := by
  refine ⟨fun i _ hi q => ⟨xs, xs[i], q, by simp [hi]⟩, fun _ q => ⟨xs, q, rfl⟩, fun i H v H' _ q y => ?_⟩
  obtain ⟨T, x, h1, h2, h3, h4⟩ := y
  exact ⟨T, .int (i : Nat), x, h1, h2, h3, rfl, h4 xs q⟩
end Rd
/-! tuples cut and joined, whether a new one is made or not -/
namespace Rd
open PySem PySem.Spec L2
open PyProof.Rows hiding St
theorem sIx_le (n d : Nat) (o : Option Int) (h : d ≤ n) : ∀ k : Nat, o = some (k : Int) → HT.sIx n d o = min k n := fun k e => by
  subst e
  exact HT.sIx_nat n d k
theorem cut_to (xs : List V) (k : Nat) : cutV xs none (some (k : Int)) = xs.take k := by
  unfold cutV
  rw [HT.sIx_none, HT.sIx_nat, List.drop_zero, Nat.sub_zero]
  by_cases h : k ≤ xs.length
  · rw [Nat.min_eq_left h]
  · rw [Nat.min_eq_right (by omega), List.take_of_length_le (Nat.le_refl _), List.take_of_length_le (by omega)]
theorem cut_from (xs : List V) (k : Nat) : cutV xs (some (k : Int)) none = xs.drop k := by
  unfold cutV
  rw [HT.sIx_none, HT.sIx_nat]
  by_cases h : k ≤ xs.length
  · rw [Nat.min_eq_left h, List.take_of_length_le (by rw [List.length_drop]; omega)]
  · rw [Nat.min_eq_right (by omega), Nat.sub_self, List.take_zero, List.drop_eq_nil_of_le (by omega)]
theorem sl_any {K : PySem.W.Frag} {H : Hp} {a : Addr} {xs : List V} {lo hi : Option Int} {Q : VK} (h : H a = some (.tup xs)) (k : ∀ p H', Same H H' → H' p = some (.tup (cutV xs lo hi)) → Q (.ref p) H') : rSlA K (.ref a) lo hi H Q := by
  refine ⟨a, xs, rfl, SqT.of h, fun ⟨w1, w2⟩ => ?_, fun _ p hp => k p _ (same_new hp) upd_same⟩
  refine k a H (Same.refl H) ?_
  unfold cutV
  rw [w1, w2, List.drop_zero, Nat.sub_zero, List.take_of_length_le (Nat.le_refl _)]
  exact h
theorem cat_any {K : PySem.W.Frag} {H : Hp} {a b : Addr} {xs ys : List V} {Q : VK} (ha : H a = some (.tup xs)) (hb : H b = some (.tup ys)) (hz : xs.length + ys.length ≤ sizeLine) (k : ∀ p H', Same H H' → H' p = some (.tup (xs ++ ys)) → Q (.ref p) H') : rCatA K (.ref a) (.ref b) H Q := by
  refine ⟨a, b, xs, ys, rfl, rfl, SqT.of ha, SqT.of hb, hz, fun e => ?_, fun _ e => ?_, fun _ _ p hp => k p _ (same_new hp) upd_same⟩
  · subst e
    exact k b H (Same.refl H) hb
  · subst e
    rw [List.append_nil] at k
    exact k a H (Same.refl H) ha
end Rd
/-! positions, and going through them by steps: plain -/
namespace Rd
open PySem PySem.Spec L2
open PyProof.Rows hiding St
def turn (R : List Str) (z : Str → Nat) (r : Str) (c : List Int) : List Int := c.take (R.idxOf r) ++ ((c.getD (R.idxOf r) 0 + 1) % (z r : Int)) :: c.drop (R.idxOf r + 1)
def succs (p : Pln) (q : Pt) : List Pt := (srtS (nbl p.ps q.1)).map fun r => (r, turn p.R p.z r q.2)
def add1 (seen acc : List Pt) (t : Pt) : List Pt := if t ∈ seen ++ acc then acc else acc ++ [t]
def news (seen cand : List Pt) : List Pt := cand.foldl (add1 seen) []
theorem news_snoc (seen cs : List Pt) (t : Pt) : news seen (cs ++ [t]) = add1 seen (news seen cs) t := by
  unfold news
  rw [List.foldl_append]
  rfl
theorem news_spec (seen : List Pt) : ∀ cs : List Pt, (news seen cs).Nodup ∧ ∀ t, t ∈ news seen cs ↔ t ∈ cs ∧ t ∉ seen := by
  have h : ∀ (cs acc : List Pt), acc.Nodup → (∀ t ∈ acc, t ∉ seen) → (cs.foldl (add1 seen) acc).Nodup ∧ ∀ t, t ∈ cs.foldl (add1 seen) acc ↔ (t ∈ acc ∨ (t ∈ cs ∧ t ∉ seen)) := by
    intro cs
    induction cs with
    | nil => intro acc h1 h2; simp [h1]
    | cons c cs ih =>
      intro acc h1 h2
      rw [List.foldl_cons]
      by_cases e : c ∈ seen ++ acc
      · have e1 : add1 seen acc c = acc := if_pos e
        rw [e1]
        obtain ⟨i1, i2⟩ := ih acc h1 h2
        refine ⟨i1, fun t => ?_⟩
        rw [i2 t]
        constructor
        · rintro (q | ⟨q, q'⟩)
          · exact .inl q
          · exact .inr ⟨List.mem_cons_of_mem _ q, q'⟩
        · rintro (q | ⟨q, q'⟩)
          · exact .inl q
          · rcases List.mem_cons.mp q with q | q
            · subst q
              rcases List.mem_append.mp e with a | a
              · exact absurd a q'
              · exact .inl a
            · exact .inr ⟨q, q'⟩
      · have e1 : add1 seen acc c = acc ++ [c] := if_neg e
        rw [e1]
        have ns : c ∉ seen := fun a => e (List.mem_append.mpr (.inl a))
        have na : c ∉ acc := fun a => e (List.mem_append.mpr (.inr a))
        obtain ⟨i1, i2⟩ := ih (acc ++ [c]) (List.nodup_append.mpr ⟨h1, by simp, fun a ha b hb => by simp at hb; subst hb; intro q; subst q; exact na ha⟩) (fun t ht => by
          rcases List.mem_append.mp ht with a | a
          · exact h2 t a
          · rw [List.mem_singleton.mp a]; exact ns)
        refine ⟨i1, fun t => ?_⟩
        rw [i2 t]
        simp only [List.mem_append, List.mem_cons, List.not_mem_nil, or_false]
        constructor
        · rintro ((q | q) | ⟨q, q'⟩)
          · exact .inl q
          · exact .inr ⟨.inl q, by rw [q]; exact ns⟩
          · exact .inr ⟨.inr q, q'⟩
        · rintro (q | ⟨q | q, q'⟩)
          · exact .inl (.inl q)
          · exact .inl (.inr q)
          · exact .inr ⟨q, q'⟩
  intro cs
  obtain ⟨h1, h2⟩ := h cs [] List.nodup_nil (fun t ht => by simp at ht)
  refine ⟨h1, fun t => ?_⟩
  have := h2 t
  simpa [news] using this
/-- the layers behind the last one, as far as fuel goes -/
def lays (p : Pln) : Nat → List Pt → List Pt → List (List Pt)
  | 0, _, _ => []
  | n + 1, seen, last => if news seen (last.flatMap (succs p)) = [] then [] else news seen (last.flatMap (succs p)) :: lays p n (seen ++ news seen (last.flatMap (succs p))) (news seen (last.flatMap (succs p)))
/-- what dials may show -/
def InB : List Int → List Nat → Prop
  | [], [] => True
  | a :: c, z :: zs => (0 ≤ a ∧ a < z) ∧ InB c zs
  | _, _ => False
def boxes : List Nat → List (List Int)
  | [] => [[]]
  | z :: zs => (boxes zs).flatMap fun c => (List.range z).map fun a : Nat => (a : Int) :: c
theorem mem_boxes : ∀ (zs : List Nat) (c : List Int), c ∈ boxes zs ↔ InB c zs
  | [], [] => by simp [boxes, InB]
  | [], _ :: _ => by simp [boxes, InB]
  | z :: zs, [] => by simp [boxes, InB]
  | z :: zs, a :: c => by
    simp only [boxes, InB, List.mem_flatMap, List.mem_map, List.mem_range]
    constructor
    · rintro ⟨d, hd, x, hx, e⟩
      injection e with e1 e2
      subst e1 e2
      exact ⟨⟨by omega, by omega⟩, (mem_boxes zs d).mp hd⟩
    · rintro ⟨⟨h1, h2⟩, h3⟩
      exact ⟨c, (mem_boxes zs c).mpr h3, a.toNat, by omega, by rw [Int.toNat_of_nonneg h1]⟩
theorem InB.len : ∀ {c : List Int} {zs : List Nat}, InB c zs → c.length = zs.length
  | [], [], _ => rfl
  | [], _ :: _, h => h.elim
  | _ :: _, [], h => h.elim
  | _ :: _, _ :: _, h => by
    have := h.2.len
    simp [this]
theorem InB.put : ∀ {c : List Int} {zs : List Nat} (k : Nat) (v : Int), InB c zs → (hk : k < zs.length) → 0 ≤ v → v < zs[k] → InB (c.take k ++ v :: c.drop (k + 1)) zs
  | [], [], k, v, _, hk, _, _ => by simp at hk
  | [], _ :: _, _, _, h, _, _, _ => h.elim
  | _ :: _, [], _, _, h, _, _, _ => h.elim
  | a :: c, z :: zs, 0, v, h, hk, h0, h1 => ⟨⟨h0, h1⟩, h.2⟩
  | a :: c, z :: zs, k + 1, v, h, hk, h0, h1 => ⟨h.1, h.2.put k v (by simp at hk; omega) h0 (by simpa using h1)⟩
theorem InB.zero : ∀ zs : List Nat, (∀ z ∈ zs, 1 ≤ z) → InB (List.replicate zs.length 0) zs
  | [], _ => trivial
  | z :: zs, h => ⟨⟨Int.le_refl _, by have := h z List.mem_cons_self; omega⟩, InB.zero zs fun y hy => h y (List.mem_cons_of_mem _ hy)⟩
theorem InB.get : ∀ {c : List Int} {zs : List Nat} (k : Nat), InB c zs → (hk : k < zs.length) → ∃ v, c[k]? = some v ∧ 0 ≤ v ∧ v < zs[k]
  | [], [], k, _, hk => by simp at hk
  | [], _ :: _, _, h, _ => h.elim
  | _ :: _, [], _, h, _ => h.elim
  | a :: c, z :: zs, 0, h, hk => ⟨a, rfl, h.1⟩
  | a :: c, z :: zs, k + 1, h, hk => by
    obtain ⟨v, h1, h2⟩ := h.2.get k (by simp at hk; omega)
    exact ⟨v, by simpa using h1, by simpa using h2⟩
theorem boxes_len : ∀ (R : List Str) (z : Str → Nat), (boxes (R.map z)).length = prd z R
  | [], z => rfl
  | r :: R, z => by
    have ih := boxes_len R z
    simp only [List.map_cons, boxes, List.length_flatMap, List.length_map, List.length_range, prd]
    rw [show (List.map (fun _ => z r) (boxes (R.map z))).sum = (boxes (R.map z)).length * z r by
      generalize boxes (R.map z) = l
      induction l with
      | nil => simp
      | cons a l ih => simp only [List.map_cons, List.sum_cons, ih, List.length_cons, Nat.add_mul, Nat.one_mul]; omega]
    rw [ih, Nat.mul_comm]
/-- all positions -/
def box (p : Pln) : List Pt := p.R.flatMap fun r => (boxes (p.R.map p.z)).map fun c => (r, c)
theorem mem_box {p : Pln} {q : Pt} : q ∈ box p ↔ q.1 ∈ p.R ∧ InB q.2 (p.R.map p.z) := by
  obtain ⟨r, c⟩ := q
  simp only [box, List.mem_flatMap, List.mem_map]
  constructor
  · rintro ⟨r', hr, c', hc, e⟩
    injection e with e1 e2
    subst e1 e2
    exact ⟨hr, (mem_boxes _ _).mp hc⟩
  · rintro ⟨h1, h2⟩
    exact ⟨r, h1, c, (mem_boxes _ _).mpr h2, rfl⟩
end Rd
/-! Going -/
namespace Rd
open PySem PySem.Spec L2
open PyProof.Rows hiding St
theorem idx_get {α : Type} [BEq α] [LawfulBEq α] : ∀ {l : List α}, l.Nodup → ∀ {i : Nat} (h : i < l.length), l.idxOf l[i] = i
  | [], _, i, h => by simp at h
  | a :: l, nd, 0, h => by simp [List.idxOf_cons]
  | a :: l, nd, i + 1, h => by
    obtain ⟨h1, h2⟩ := List.nodup_cons.mp nd
    have hi : i < l.length := by simpa using h
    have hne : a ≠ l[i] := fun e => h1 (by rw [e]; exact List.getElem_mem hi)
    rw [List.getElem_cons_succ, List.idxOf_cons, show (a == l[i]) = false from by simpa using hne]
    simp [idx_get h2 hi]
def spKv (R : List Str) : List (Key × V) := R.map fun r => (Sum.inr r, V.int (R.idxOf r : Nat))
theorem sp_get {R : List Str} (nd : R.Nodup) {r : Str} (h : r ∈ R) : valV (spKv R) (Sum.inr r) = some (.int (R.idxOf r : Nat)) := val_map (k := fun r => r) (f := fun r => V.int (R.idxOf r : Nat)) (by simpa using nd) h
abbrev Lay := Addr × List (Pt × Addr)
/-- a Going's object -/
structure GoAt (P : Program) (w : World) (K : PySem.W.Frag) (H0 H : Hp) (g : Addr) (p : Pln) (xs : List Ent) (ls : List Lay) (b dx : Addr) (fs : List (Str × V)) (sp bf L : Addr) : Prop where
  s0 : Same H0 H
  ins : H g = some (.ins (cG K) dx fs)
  f1 : fs.lookup ("site" : Str) = some (V.ref b)
  f2 : fs.lookup ("spots" : Str) = some (V.ref sp)
  f3 : fs.lookup ("before" : Str) = some (V.ref bf)
  f4 : fs.lookup ("layers" : Str) = some (V.ref L)
  f5 : fs.lookup ("turned" : Str) = none
  f6 : fs.lookup ("go_on" : Str) = none
  bld : BAt K H0 b p
  spo : H sp = some (.dK (spKv p.R))
  bef : H bf = some (NdO P w bf xs)
  keys : ∀ x ∈ xs, PtAt H x.2.1 x.1
  lay : H L = some (.lst (ls.map fun l => V.ref l.1))
  lys : ∀ l ∈ ls, H l.1 = some (.lst (l.2.map fun q => V.ref q.2)) ∧ ∀ q ∈ l.2, PtAt H q.2 q.1
  nb : H0 bf = none
  nL : H0 L = none
  dl : ∀ l ∈ ls, l.1 ≠ L
theorem GoAt.same {P : Program} {w : World} {K : PySem.W.Frag} {H0 H H' : Hp} {g : Addr} {p : Pln} {xs : List Ent} {ls : List Lay} {b dx : Addr} {fs : List (Str × V)} {sp bf L : Addr} (s : Same H H') (h : GoAt P w K H0 H g p xs ls b dx fs sp bf L) : GoAt P w K H0 H' g p xs ls b dx fs sp bf L :=
  ⟨h.s0.trans s, s _ _ h.ins, h.f1, h.f2, h.f3, h.f4, h.f5, h.f6, h.bld, s _ _ h.spo, s _ _ h.bef, fun x hx => (h.keys x hx).same s, s _ _ h.lay, fun l hl => ⟨s _ _ (h.lys l hl).1, fun q hq => ((h.lys l hl).2 q hq).same s⟩, h.nb, h.nL, h.dl⟩
theorem pt_upd {H : Hp} {t a : Addr} {q : Pt} {o o' : HO} (h : PtAt H t q) (ha : H a = some o) (hno : ∀ xs, o ≠ .tup xs) : PtAt (upd H a o') t q := by
  obtain ⟨td, h1, h2⟩ := h
  refine ⟨td, ?_, ?_⟩
  · rw [upd_ne (ne_of h1 ha fun z => hno _ z.symm)]
    exact h1
  · rw [upd_ne (ne_of h2 ha fun z => hno _ z.symm)]
    exact h2
section
variable {P : Program} {w : World} {K : PySem.W.Frag} {H0 H : Hp} {g : Addr} {p : Pln} {xs : List Ent} {ls : List Lay} {b dx : Addr} {fs : List (Str × V)} {sp bf L : Addr}
/-- one position more in the dict -/
theorem GoAt.put (h : GoAt P w K H0 H g p xs ls b dx fs sp bf L) {q : Pt} {t : Addr} {v : V} (ht : PtAt H t q) : GoAt P w K H0 (upd H bf (NdO P w bf (xs ++ [(q, t, v)]))) g p (xs ++ [(q, t, v)]) ls b dx fs sp bf L := by
  have hn : ∀ xs', (NdO P w bf xs) ≠ .tup xs' := fun _ z => by cases z
  refine ⟨same_upd h.s0 h.nb, ?_, h.f1, h.f2, h.f3, h.f4, h.f5, h.f6, h.bld, ?_, upd_same, fun x hx => ?_, ?_, fun l hl => ⟨?_, fun q hq => pt_upd ((h.lys l hl).2 q hq) h.bef hn⟩, h.nb, h.nL, h.dl⟩
  · rw [upd_ne (ne_of h.ins h.bef (by intro z; cases z))]
    exact h.ins
  · rw [upd_ne (ne_of h.spo h.bef (by intro z; cases z))]
    exact h.spo
  · rcases List.mem_append.mp hx with hx | hx
    · exact pt_upd (h.keys x hx) h.bef hn
    · rw [List.mem_singleton.mp hx]
      exact pt_upd ht h.bef hn
  · rw [upd_ne (ne_of h.lay h.bef (by intro z; cases z))]
    exact h.lay
  · rw [upd_ne (ne_of (h.lys l hl).1 h.bef (by intro z; cases z))]
    exact (h.lys l hl).1
/-- another list changes -/
theorem GoAt.other (h : GoAt P w K H0 H g p xs ls b dx fs sp bf L) {f : Addr} {ys zs : List V} (hf : H f = some (.lst ys)) (f0 : H0 f = none) (fL : f ≠ L) (fl : ∀ l ∈ ls, l.1 ≠ f) : GoAt P w K H0 (upd H f (.lst zs)) g p xs ls b dx fs sp bf L := by
  have hn : ∀ xs', (HO.lst ys) ≠ .tup xs' := fun _ z => by cases z
  refine ⟨same_upd h.s0 f0, ?_, h.f1, h.f2, h.f3, h.f4, h.f5, h.f6, h.bld, ?_, ?_, fun x hx => pt_upd (h.keys x hx) hf hn, ?_, fun l hl => ⟨?_, fun q hq => pt_upd ((h.lys l hl).2 q hq) hf hn⟩, h.nb, h.nL, h.dl⟩
  · rw [upd_ne (ne_of h.ins hf (by intro z; cases z))]
    exact h.ins
  · rw [upd_ne (ne_of h.spo hf (by intro z; cases z))]
    exact h.spo
  · rw [upd_ne (ne_of h.bef hf (by intro z; cases z))]
    exact h.bef
  · rw [upd_ne fL.symm]
    exact h.lay
  · rw [upd_ne (fl l hl)]
    exact (h.lys l hl).1
/-- one layer more -/
theorem GoAt.grow (h : GoAt P w K H0 H g p xs ls b dx fs sp bf L) {f : Addr} {ly : List (Pt × Addr)} (hf : H f = some (.lst (ly.map fun q => V.ref q.2))) (hp : ∀ q ∈ ly, PtAt H q.2 q.1) (fL : f ≠ L) :
    GoAt P w K H0 (upd H L (.lst ((ls.map fun l => V.ref l.1) ++ [.ref f]))) g p xs (ls ++ [(f, ly)]) b dx fs sp bf L := by
  have hn : ∀ xs', (HO.lst (ls.map fun l => V.ref l.1)) ≠ .tup xs' := fun _ z => by cases z
  refine ⟨same_upd h.s0 h.nL, ?_, h.f1, h.f2, h.f3, h.f4, h.f5, h.f6, h.bld, ?_, ?_, fun x hx => pt_upd (h.keys x hx) h.lay hn, ?_, fun l hl => ?_, h.nb, h.nL, fun l hl => ?_⟩
  · rw [upd_ne (ne_of h.ins h.lay (by intro z; cases z))]
    exact h.ins
  · rw [upd_ne (ne_of h.spo h.lay (by intro z; cases z))]
    exact h.spo
  · rw [upd_ne (ne_of h.bef h.lay (by intro z; cases z))]
    exact h.bef
  · rw [upd_same, List.map_append]
    rfl
  · rcases List.mem_append.mp hl with hl | hl
    · refine ⟨?_, fun q hq => pt_upd ((h.lys l hl).2 q hq) h.lay hn⟩
      rw [upd_ne (h.dl l hl)]
      exact (h.lys l hl).1
    · rw [List.mem_singleton.mp hl]
      exact ⟨by rw [upd_ne fL]; exact hf, fun q hq => pt_upd (hp q hq) h.lay hn⟩
  · rcases List.mem_append.mp hl with hl | hl
    · exact h.dl l hl
    · rw [List.mem_singleton.mp hl]
      exact fL
end
/-- a plan as it is when it stands -/
structure PlOk (p : Pln) : Prop where
  nd : p.R.Nodup
  nm : ∀ r ∈ p.R, IsNm r
  z1 : ∀ r ∈ p.R, 1 ≤ p.z r
  z2 : ∀ r ∈ p.R, p.z r ≤ 100
  ne : p.R ≠ []
  len : p.R.length ≤ 5
  ps : PsOk p.R p.ps
  con : Conn p.R p.ps
  small : p.R.length * prd p.z p.R ≤ 10000
def spTurned (P : Program) (w : World) (K : PySem.W.Frag) : Sp := fun vs H Q _ => ∃ H0 g td r p c xs ls b dx fs sp bf L, vs = [.ref g, .ref td, .str r] ∧ GoAt P w K H0 H g p xs ls b dx fs sp bf L ∧ PlOk p ∧ r ∈ p.R ∧ H td = some (.tup (c.map V.int)) ∧ InB c (p.R.map p.z) ∧
  ∀ H' t, Same H H' → H' t = some (.tup ((turn p.R p.z r c).map V.int)) → Q (.ref t) H'
def start0 (p : Pln) (first : Str) : Pt := (first, List.replicate p.R.length 0)
def spGoI (P : Program) (w : World) (K : PySem.W.Frag) : Sp := fun vs H Q _ => ∃ H0 g dx b p first, vs = [.ref g, .ref b, .str first] ∧ H g = some (.ins (cG K) dx []) ∧ (∀ c o, H0 c = some o → c ≠ g ∧ H c = some o) ∧ BAt K H0 b p ∧ PlOk p ∧ first ∈ p.R ∧
  ∀ H' xs ls fs sp bf L, GoAt P w K H0 H' g p xs ls b dx fs sp bf L → xs.map (·.1) = [start0 p first] → ls.map (fun l => l.2.map (·.1)) = [[start0 p first]] → Q .non H'
section
variable {P : Program} {w : World} {K : PySem.W.Frag} {mg : Str → Option Value} {base : Heap}
theorem ok_Going_init (T : Txt K mg) : FnOk P w K mg base CX0 3 (a_Going_init K) (d_Going_init K) P_Going_init (spGoI P w K) := by
  have nd := sc_Going_init.nd
  refine ok0 T.f_Going_init sc_Going_init (fun vs H Q E h => ?_) (fun cdv A outer s H vs Q E hr h => ?_)
  · obtain ⟨H0, g, dx, b, p, first, rfl, _⟩ := h
    rfl
  · obtain ⟨H0, g, dx, b, p, first, rfl, hg, h0, hb, hpl, hfi, k⟩ := h
    have hu := hu_of hr
    refine ⟨_, (pss_cons (ps_fld (pv 0) (pv 1) rfl) (pss_cons (ps_fld (pv 0) (pe_dc (own := [("index", 3), ("room", 4)]) (g := (gTup K 2 (gCons (gName 3) (gCons (gName 4) gNil)))) (tt := tYes) rfl nd (pi_enumT (by rfl) T.n_enumerate (pa_cons (pe_prop (pv 1) T.clB T.pR (ok_rooms T) (hr.mono (by decide)) T.b_Building_rooms .nil pass0 rfl) pa_nil)) (blkOk_by (own := [("index", 3), ("room", 4)]) (N := N_Going_init) (sc := defScope s_Going_init) (by decide +kernel)) (fun _ _ _ _ _ => (pg_tup (by rfl) (pgs_cons (pg_name (i := 3) nd rfl (Or.inl rfl)) (pgs_cons (pg_name (i := 4) nd rfl (Or.inl rfl)) pgs_nil)))) (fun _ _ _ _ _ => pts_nil) (fun _ _ _ _ _ => (pv 4)) (fun _ _ _ _ _ => (pv 3))) rfl) (pss_cons (ps_set (i := 5) nd rfl (Or.inl rfl) (pe_tup (pa_cons (pv 2) (pa_cons (pe_op op_repA (pe_tup (pa_cons pe_int pa_nil)) (pe_callB (cr_lenOwn T.m_len (ok_len T) (hr.mono (by decide)) T.b_Building_len pass0) (by rfl) T.n_len PySem.boot_len (pa_cons (pv 1) pa_nil))) pa_nil)))) (pss_cons (ps_fld (pv 0) (pe_nd1K P w hr.units (pv 5) pe_non) rfl) (pss_one (ps_fld (pv 0) (pe_lst (pa_cons (pe_lst (pa_cons (pv 5) pa_nil)) pa_nil)) rfl)))))), ?_⟩
    have sb : ∀ {o : HO}, Same H0 (upd H g o) := fun {o} c o' hc => by
      rw [upd_ne (h0 c o' hc).1]
      exact (h0 c o' hc).2
    have g0 : H0 g = none := by
      cases e : H0 g with
      | none => rfl
      | some o => exact absurd rfl (h0 g o e).1
    refine ⟨_, rfl, _, rfl, g, _, dx, [], rfl, hg, T.clG, T.nG_site, by show 0 < 1000; omega, ?_⟩
    generalize hH1 : upd H g (.ins (cG K) dx (putF "site" (V.ref b) [])) = H1
    have s1 : Same H0 H1 := by rw [← hH1]; exact sb
    have g1 : H1 g = some (.ins (cG K) dx (putF "site" (V.ref b) [])) := by rw [← hH1]; exact upd_same
    have hb1 := hb.same s1
    obtain ⟨dx', fs', d', i1, i2, i3⟩ := hb1.sz
    refine ⟨_, rfl, b, dx', fs', rfl, i1, b, p.R, p.z, rfl, hb1.sz, fun q hq => ?_⟩
    refine ⟨q, _, rfl, SqT.of upd_same, fun D hD => ?_⟩
    have hq1 : upd H1 q (.tup (p.R.map V.str)) q = some (.tup (p.R.map V.str)) := upd_same
    refine dc_it (walk_enumT (xs := p.R.map V.str)) (fun i H2 => Same (upd H1 q (.tup (p.R.map V.str))) H2 ∧ H2 D = some (.dK (spKv p.R |>.take i))) ⟨same_new hD, by rw [upd_same]; rfl⟩ (fun i H2 _ h => SqT.of (h.1 _ _ hq1)) ?_ ?_
    · rintro i x H2 H3 hi ⟨s2, e2⟩ ⟨T0, x1, x2, rfl, hT, rfl, hx1, hx2⟩
      rw [List.length_map] at hi
      simp only [Option.some.injEq] at hx1
      subst hx1
      obtain rfl : V.str p.R[i] = x2 := by simpa [hi] using hx2
      refine ⟨_, _, rfl, SqT.of upd_same, rfl, _, _, rfl, _, _, rfl, rfl, rfl, _, rfl, _, rfl, (spKv p.R).take i, Sum.inr p.R[i], rfl, by rw [upd_ne (ne_of_none e2 hT)]; exact e2, szL (by simp [spKv]; have := hpl.len; omega), same_upd (s2.trans (same_new hT)) hD, ?_⟩
      rw [upd_same, putK_new]
      · have hix : p.R.idxOf p.R[i] = i := idx_get hpl.nd hi
        rw [List.take_add_one]
        have : (spKv p.R)[i]? = some (Sum.inr p.R[i], V.int (i : Nat)) := by
          simp [spKv, hi, hix]
        rw [this]
        rfl
      · have hnd := hpl.nd
        rw [← List.take_append_drop i p.R, List.drop_eq_getElem_cons hi] at hnd
        have : (spKv p.R).take i = (p.R.take i).map fun r => ((Sum.inr r : Key), V.int (p.R.idxOf r : Nat)) := by
          unfold spKv
          rw [List.map_take]
        rw [this]
        refine val_map_none (k := fun r => r) (f := fun r => V.int (p.R.idxOf r : Nat)) fun h => ?_
        simp only [List.map_id'] at h
        exact (List.nodup_append.mp hnd).2.2 _ h _ List.mem_cons_self rfl
    rintro H2 ⟨s2, e2⟩
    rw [List.take_of_length_le (by simp [spKv])] at e2
    have t2 : Same H1 H2 := (same_new hq).trans s2
    have g2 := t2 _ _ g1
    have l1 := length_putF "site" (V.ref b) []
    refine ⟨_, rfl, g, _, dx, _, rfl, g2, T.clG, T.nG_spots, by simp at l1; omega, ?_⟩
    have gD : D ≠ g := ne_of e2 g2 (by intro z; cases z)
    generalize hH3 : upd H2 g (.ins (cG K) dx (putF "spots" (V.ref D) (putF "site" (V.ref b) []))) = H3
    have ng : ∀ {c o}, H0 c = some o → c ≠ g := fun h e => by rw [e, g0] at h; cases h
    have s3 : Same H0 H3 := by
      rw [← hH3]
      exact fun c o hc => by rw [upd_ne (ng hc)]; exact t2 _ _ (s1 _ _ hc)
    have g3 : H3 g = some (.ins (cG K) dx (putF "spots" (V.ref D) (putF "site" (V.ref b) []))) := by rw [← hH3]; exact upd_same
    have e3 : H3 D = some (.dK (spKv p.R)) := by rw [← hH3, upd_ne gD]; exact e2
    have hb3 := hb.same s3
    obtain ⟨dx3, fs3, d3, i31, i32, i33⟩ := hb3.sz
    refine ⟨_, rfl, by show 1 ≤ sizeLine; decide, fun t ht => ?_⟩
    have s4 : Same H3 (upd H3 t (.tup [.int 0])) := same_new ht
    have hb4 := hb3.same s4
    have hne : p.R.length ≠ 0 := fun z => hpl.ne (List.length_eq_zero_iff.mp z)
    have h5 := hpl.len
    refine ⟨_, rfl, b, rfl, dx3, fs3, s4 _ _ i31, b, p.R, p.z, rfl, hb4.sz, p.R.length, rfl, by omega, ?_⟩
    refine ⟨t, p.R.length, .int 0, rfl, rfl, upd_same, by omega, by omega, fun td H5 s5 htd => ?_⟩
    refine ⟨by show 2 ≤ sizeLine; decide, fun t6 ht6 => ?_⟩
    have s6 : Same H3 (upd H5 t6 (.tup [.str first, .ref td])) := s4.trans (s5.trans (same_new ht6))
    have hpt6 : PtAt (upd H5 t6 (.tup [.str first, .ref td])) t6 (start0 p first) := ⟨td, upd_same, by rw [same_new ht6 _ _ htd]; simp [start0]⟩
    generalize upd H5 t6 (.tup [.str first, .ref td]) = H6 at s6 hpt6
    intro bf hbf
    have nbf : ∀ {o}, Same H6 (upd H6 bf o) := fun {o} => same_new hbf
    refine ⟨_, rfl, t6, start0 p first, rfl, hpt6.same (same_new hbf), upd_same, ?_⟩
    have g7 : upd (upd H6 bf (NdO P w bf [])) bf (NdO P w bf [(start0 p first, t6, V.non)]) g = some (.ins (cG K) dx (putF "spots" (V.ref D) (putF "site" (V.ref b) []))) := by
      have := s6 _ _ g3
      rw [upd_ne (ne_of_none this hbf), upd_ne (ne_of_none this hbf)]
      exact this
    have s7 : Same H6 (upd (upd H6 bf (NdO P w bf [])) bf (NdO P w bf [(start0 p first, t6, V.non)])) := same_upd (same_new hbf) hbf
    have b7 : upd (upd H6 bf (NdO P w bf [])) bf (NdO P w bf [(start0 p first, t6, V.non)]) bf = some (NdO P w bf [(start0 p first, t6, V.non)]) := upd_same
    have bf0 : H0 bf = none := (s3.trans s6).free hbf
    have l2 := length_putF "spots" (V.ref D) (putF "site" (V.ref b) [])
    generalize upd (upd H6 bf (NdO P w bf [])) bf (NdO P w bf [(start0 p first, t6, V.non)]) = H7 at g7 s7 b7
    refine ⟨_, rfl, g, _, dx, _, rfl, g7, T.clG, T.nG_before, by simp at l1; omega, ?_⟩
    generalize hH8 : upd H7 g (.ins (cG K) dx (putF "before" (V.ref bf) (putF "spots" (V.ref D) (putF "site" (V.ref b) [])))) = H8
    have bg : bf ≠ g := ne_of b7 g7 (by intro z; cases z)
    have s8 : Same H0 H8 := by
      rw [← hH8]
      exact fun c o hc => by rw [upd_ne (ng hc)]; exact s7 _ _ (s6 _ _ (s3 _ _ hc))
    have g8 : H8 g = some (.ins (cG K) dx (putF "before" (V.ref bf) (putF "spots" (V.ref D) (putF "site" (V.ref b) [])))) := by rw [← hH8]; exact upd_same
    have e8 : H8 D = some (.dK (spKv p.R)) := by rw [← hH8, upd_ne gD]; exact s7 _ _ (s6 _ _ e3)
    have b8 : H8 bf = some (NdO P w bf [(start0 p first, t6, V.non)]) := by rw [← hH8, upd_ne bg]; exact b7
    have p8 : PtAt H8 t6 (start0 p first) := by
      rw [← hH8]
      exact pt_upd (hpt6.same s7) g7 (fun _ z => by cases z)
    have l3 := length_putF "before" (V.ref bf) (putF "spots" (V.ref D) (putF "site" (V.ref b) []))
    refine ⟨_, rfl, by show 1 ≤ sizeLine; decide, fun la hla => ?_⟩
    refine ⟨by show 1 ≤ sizeLine; decide, fun L hL => ?_⟩
    have s9 : Same H8 (upd (upd H8 la (.lst [.ref t6])) L (.lst [.ref la])) := (same_new hla).trans (same_new hL)
    have laL : la ≠ L := ne_of_none upd_same hL
    have L0 : H0 L = none := (s8.trans (same_new hla)).free hL
    have hla9 : upd (upd H8 la (.lst [.ref t6])) L (.lst [.ref la]) la = some (.lst [.ref t6]) := by rw [upd_ne laL, upd_same]
    have hL9 : upd (upd H8 la (.lst [.ref t6])) L (.lst [.ref la]) L = some (.lst [.ref la]) := upd_same
    have g9 := s9 _ _ g8
    generalize upd (upd H8 la (.lst [.ref t6])) L (.lst [.ref la]) = H9 at s9 hla9 hL9 g9
    refine ⟨_, rfl, g, _, dx, _, rfl, g9, T.clG, T.nG_layers, by simp at l1; omega, ?_⟩
    have ug : ∀ {c o} {o' : HO}, H9 c = some o → o ≠ .ins (cG K) dx (putF "before" (V.ref bf) (putF "spots" (V.ref D) (putF "site" (V.ref b) []))) → upd H9 g o' c = some o := fun hc hne => by
      rw [upd_ne (ne_of hc g9 hne)]
      exact hc
    have lk : ∀ f : Str, f ≠ "layers" → f ≠ "before" → f ≠ "spots" → f ≠ "site" → (putF "layers" (V.ref L) (putF "before" (V.ref bf) (putF "spots" (V.ref D) (putF "site" (V.ref b) [])))).lookup f = none := fun f h1 h2 h3 h4 => by
      rw [lookup_putF, if_neg h1, lookup_putF, if_neg h2, lookup_putF, if_neg h3, lookup_putF, if_neg h4]
      rfl
    refine k _ [(start0 p first, t6, V.non)] [(la, [(start0 p first, t6)])] _ D bf L ⟨?_, upd_same, ?_, ?_, ?_, ?_, lk _ (by decide) (by decide) (by decide) (by decide), lk _ (by decide) (by decide) (by decide) (by decide), hb, ?_, ?_, fun x hx => ?_, ?_, fun l hl => ?_, bf0, L0, fun l hl => ?_⟩ rfl rfl
    · exact fun c o hc => by rw [upd_ne (ng hc)]; exact s9 _ _ (s8 _ _ hc)
    · rw [lookup_putF, if_neg (by decide), lookup_putF, if_neg (by decide), lookup_putF, if_neg (by decide), lookup_putF, if_pos rfl]
    · rw [lookup_putF, if_neg (by decide), lookup_putF, if_neg (by decide), lookup_putF, if_pos rfl]
    · rw [lookup_putF, if_neg (by decide), lookup_putF, if_pos rfl]
    · rw [lookup_putF, if_pos rfl]
    · exact ug (s9 _ _ e8) (by intro z; cases z)
    · exact ug (s9 _ _ b8) (by intro z; cases z)
    · rw [List.mem_singleton.mp hx]
      exact pt_upd (p8.same s9) g9 (fun _ z => by cases z)
    · exact ug hL9 (by intro z; cases z)
    · rw [List.mem_singleton.mp hl]
      refine ⟨ug hla9 (by intro z; cases z), fun q hq => ?_⟩
      rw [List.mem_singleton.mp hq]
      exact pt_upd (p8.same s9) g9 (fun _ z => by cases z)
    · rw [List.mem_singleton.mp hl]
      exact laL
theorem ok_turned (T : Txt K mg) : FnOk P w K mg base CX0 5 (a_Going_turned K) (d_Going_turned K) P_Going_turned (spTurned P w K) := by
  have nd := sc_Going_turned.nd
  refine ok0 T.f_Going_turned sc_Going_turned (fun vs H Q E h => ?_) (fun cdv A outer s H vs Q E hr h => ?_)
  · obtain ⟨H0, g, td, r, p, c, xs, ls, b, dx, fs, sp, bf, L, rfl, _⟩ := h
    rfl
  · obtain ⟨H0, g, td, r, p, c, xs, ls, b, dx, fs, sp, bf, L, rfl, hg, hpl, hr2, htd, hin, k⟩ := h
    have hu := hu_of hr
    refine ⟨_, (pss_cons (ps_set (i := 3) nd rfl (Or.inl rfl) (pe_dget hu (pe_fld (pv 0) rfl) (pv 2) (fun _ _ => rfl))) (pss_one (ps_ret (pe_tup (StX.pa_star (pe_slice sl_tupA (pv 1) po_none (po_some (pv 3))) (pa_cons (pe_op op_mod (pe_op op_add (pe_ix ix_tup (pv 1) (pv 3) (fun _ _ => rfl)) pe_int) (pe_ixOwn T.m_getitem T.fnGI (ok_get T) (hr.mono (by decide)) T.b_Building_getitem pass0 (pe_fld (pv 0) rfl) (pv 2))) (StX.pa_star (pe_slice sl_tupA (pv 1) (po_some (pe_op op_add (pv 3) pe_int)) po_none) pa_nil))))))), ?_⟩
    have hk : p.R.idxOf r < p.R.length := List.idxOf_lt_length_iff.mpr hr2
    have hlen : c.length = p.R.length := by rw [hin.len, List.length_map]
    refine ⟨_, rfl, g, _, dx, _, _, rfl, hg.ins, T.clG, T.nG_spots, hg.f2, _, rfl, sp, _, rfl, by rw [← sp_get hpl.nd hr2]; exact DGet.k (k := Sum.inr r) hg.spo, ?_⟩
    refine ⟨_, rfl, _, rfl, _, rfl, sl_any htd fun p1 H1 s1 h1 => ?_⟩
    refine ⟨p1, _, rfl, .inl (SqT.of h1), ?_⟩
    obtain ⟨v, hv1, hv2, hv3⟩ := hin.get (p.R.idxOf r) (by rw [List.length_map]; exact hk)
    have hg1 := hg.same s1
    obtain ⟨dx', fs', d', i1, i2, i3⟩ := (hg1.bld.same hg1.s0).sz
    refine ⟨_, rfl, _, rfl, td, _, _, V.int v, rfl, rfl, SqT.of (s1 _ _ htd), atI_nat (by rw [List.getElem?_map, hv1]; rfl), ?_⟩
    refine ⟨_, _, rfl, rfl, ?_⟩
    refine ⟨_, rfl, g, _, dx, _, _, rfl, hg1.ins, T.clG, T.nG_site, hg1.f1, _, rfl, b, rfl, dx', fs', i1, b, p.R, p.z, r, rfl, (hg1.bld.same hg1.s0).sz, hpl.nd, hpl.nm r hr2, hr2, fun H2 s2 => ?_⟩
    have hz1 := hpl.z1 r hr2
    refine ⟨_, _, rfl, rfl, by omega, ?_⟩
    have htd2 : H2 td = some (.tup (c.map V.int)) := s2 _ _ (s1 _ _ htd)
    refine ⟨_, rfl, _, rfl, _, _, rfl, rfl, _, rfl, ?_⟩
    unfold tNoPart
    refine sl_any htd2 fun p3 H3 s3 h3 => ?_
    refine ⟨p3, _, rfl, .inl (SqT.of h3), ?_⟩
    have e1 : ((p.R.idxOf r : Nat) : Int) + 1 = ((p.R.idxOf r + 1 : Nat) : Int) := by omega
    rw [e1, cut_from, cut_to]
    have hd5 := hpl.len
    refine ⟨szK (by simp only [List.length_append, List.length_cons, List.length_take, List.length_drop, List.length_map, List.length_nil]; omega), fun t ht => k _ t ((s1.trans (s2.trans s3)).trans (same_new ht)) ?_⟩
    rw [upd_same]
    unfold turn
    have hgd : c.getD (p.R.idxOf r) 0 = v := by rw [List.getD_eq_getElem?_getD, hv1]; rfl
    rw [hgd, List.map_append, List.map_cons, List.map_take, List.map_drop]
    simp
end
end Rd
/-! go_on, layers -/
namespace Rd
open PySem PySem.Spec L2
open PyProof.Rows hiding St
theorem nbl_sub {p : Pln} (h : PlOk p) {q r : Str} (hr : r ∈ nbl p.ps q) : r ∈ p.R := by
  rcases (mem_nbl (fun e he => ltS_ne (h.ps.lt e he))).mp hr with a | a
  · exact (h.ps.sub _ a).2
  · exact (h.ps.sub _ a).1
theorem turn_in {p : Pln} (h : PlOk p) {r : Str} {c : List Int} (hr : r ∈ p.R) (hc : InB c (p.R.map p.z)) : InB (turn p.R p.z r c) (p.R.map p.z) := by
  have hk : p.R.idxOf r < p.R.length := List.idxOf_lt_length_iff.mpr hr
  have hz := h.z1 r hr
  refine hc.put (p.R.idxOf r) _ (by rw [List.length_map]; exact hk) (Int.emod_nonneg _ (by omega)) ?_
  rw [List.getElem_map, List.getElem_idxOf hk]
  exact Int.emod_lt_of_pos _ (by omega)
theorem succs_box {p : Pln} (h : PlOk p) {q t : Pt} (hq : q ∈ box p) (ht : t ∈ succs p q) : t ∈ box p := by
  obtain ⟨r, hr, rfl⟩ := List.mem_map.mp ht
  have hr' : r ∈ p.R := nbl_sub h ((srtS_perm _).mem_iff.mp hr)
  exact mem_box.mpr ⟨hr', turn_in h hr' (mem_box.mp hq).2⟩
theorem box_len (p : Pln) : (box p).length = p.R.length * prd p.z p.R := by
  unfold box
  rw [List.length_flatMap]
  simp only [List.length_map, boxes_len]
  generalize p.R = l
  suffices h : ∀ (n : Nat) (l : List Str), (List.map (fun _ => n) l).sum = l.length * n from h _ l
  intro n l
  induction l with
  | nil => simp
  | cons a l ih => simp only [List.map_cons, List.sum_cons, ih, List.length_cons, Nat.add_mul, Nat.one_mul]; omega
theorem tup_upd {H : Hp} {t a : Addr} {ys : List V} {o o' : HO} (h : H t = some (.tup ys)) (ha : H a = some o) (hno : ∀ xs, o ≠ .tup xs) : upd H a o' t = some (.tup ys) := by
  rw [upd_ne (ne_of h ha fun z => hno _ z.symm)]
  exact h
def encPt (q : Pt) : PyData := .tuple [.str q.1, .tuple (q.2.map .int)]
theorem dp_ints {K : PySem.W.Frag} {H : Hp} : ∀ c : List Int, DpAll K H (c.map V.int) (c.map PyData.int)
  | [] => .nil
  | a :: c => .cons (.int a) (dp_ints c)
theorem dp_pt {K : PySem.W.Frag} {H : Hp} {t : Addr} {q : Pt} (h : PtAt H t q) : Dp K H (.ref t) (encPt q) := by
  obtain ⟨td, h1, h2⟩ := h
  exact .tup (SqT.of h1) (.cons (.str _) (.cons (.tup (SqT.of h2) (dp_ints _)) .nil))
theorem dp_pts {K : PySem.W.Frag} {H : Hp} : ∀ {ly : List (Pt × Addr)}, (∀ q ∈ ly, PtAt H q.2 q.1) → DpAll K H (ly.map fun q => V.ref q.2) (ly.map fun q => encPt q.1)
  | [], _ => .nil
  | q :: ly, h => .cons (dp_pt (h q List.mem_cons_self)) (dp_pts fun x hx => h x (List.mem_cons_of_mem _ hx))
theorem ints_ok : ∀ c : List Int, PyData.canLayAll0 (c.map PyData.int) = true ∧ PyData.depthAll (c.map PyData.int) = 0
  | [] => by simp [PyData.canLayAll0, PyData.depthAll]
  | a :: c => by simp [PyData.canLayAll0, PyData.depthAll, PyData.canLay0, PyData.depth, ints_ok c]
theorem shaped_pts {ly : List (Pt × Addr)} (h : ∀ q ∈ ly, IsNm q.1.1) : SeqAt.shaped (.list (ly.map fun q => encPt q.1)) = true := by
  have h1 : ∀ ly : List (Pt × Addr), (∀ q ∈ ly, IsNm q.1.1) → PyData.canLayAll0 (ly.map fun q => encPt q.1) = true := by
    intro ly
    induction ly with
    | nil => intro _; simp [PyData.canLayAll0]
    | cons q ly ih =>
      intro h
      have hi := ih fun x hx => h x (List.mem_cons_of_mem _ hx)
      simp only [List.map_cons, PyData.canLayAll0, hi, Bool.and_true]
      simp [encPt, PyData.canLay0, PyData.canLayAll0, nm_ok (h q List.mem_cons_self), ints_ok]
  have h2 : ∀ ly : List (Pt × Addr), PyData.depthAll (ly.map fun q => encPt q.1) ≤ 2 := by
    intro ly
    induction ly with
    | nil => simp [PyData.depthAll]
    | cons q ly ih =>
      simp only [List.map_cons, PyData.depthAll]
      refine Nat.max_le.mpr ⟨?_, ih⟩
      simp [encPt, PyData.depth, PyData.depthAll, ints_ok]
  have h3 := h2 ly
  simp [SeqAt.shaped, PyData.canLay0, PyData.depth, h1 ly h]
  omega
theorem eqv_nil (ds : List PyData) : PyData.eqv (.list ds) (.list []) = decide (ds = []) := by
  cases ds with
  | nil => simp [PyData.eqv, PyData.eqvAll]
  | cons a b => simp [PyData.eqv, PyData.eqvAll]
theorem dp_nil {K : PySem.W.Frag} {H : Hp} {a : Addr} (h : H a = some (.lst [])) : Dp K H (.ref a) (.list []) := .lst (SqL.of h) .nil
theorem shaped_nil : SeqAt.shaped (.list []) = true := by simp [SeqAt.shaped, PyData.canLay0, PyData.canLayAll0, PyData.depth, PyData.depthAll]
def spGoOn (P : Program) (w : World) (K : PySem.W.Frag) : Sp := fun vs H Q _ => ∃ H0 g p xs ls la lq b dx fs sp bf L, vs = [.ref g] ∧ GoAt P w K H0 H g p xs (ls ++ [(la, lq)]) b dx fs sp bf L ∧ PlOk p ∧ (∀ q ∈ xs.map (·.1), q ∈ box p) ∧ (xs.map (·.1)).Nodup ∧ (∀ q ∈ lq, q.1 ∈ box p) ∧ ls.length ≤ 20000 ∧
  ∀ H' xs' f ly, H0 f = none → H' f = some (.lst (ly.map fun q => V.ref q.2)) → (∀ q ∈ ly, PtAt H' q.2 q.1) → ly.map (·.1) = news (xs.map (·.1)) ((lq.map (·.1)).flatMap (succs p)) → xs'.map (·.1) = xs.map (·.1) ++ ly.map (·.1) →
    GoAt P w K H0 H' g p xs' (if ly = [] then ls ++ [(la, lq)] else (ls ++ [(la, lq)]) ++ [(f, ly)]) b dx fs sp bf L → Q (.ref f) H'
theorem nd_find {xs : List Ent} {q : Pt} : (ndGet xs q).isSome = decide (q ∈ xs.map (·.1)) := by
  unfold ndGet
  rw [Option.isSome_map]
  induction xs with
  | nil => rfl
  | cons x xs ih =>
    rw [List.find?_cons]
    by_cases e : x.1 = q
    · simp [e]
    · simp only [e, decide_false, List.map_cons, List.mem_cons]
      rw [ih]
      simp [Ne.symm e]
section
variable {P : Program} {w : World} {K : PySem.W.Frag} {mg : Str → Option Value} {base : Heap}
theorem ok_go_on (T : Txt K mg) : FnOk P w K mg base CX0 6 (a_Going_go_on K) (d_Going_go_on K) P_Going_go_on (spGoOn P w K) := by
  have nd := sc_Going_go_on.nd
  refine ok0 T.f_Going_go_on sc_Going_go_on (fun vs H Q E h => ?_) (fun cdv A outer s H vs Q E hr h => ?_)
  · obtain ⟨H0, g, p, xs, ls, la, lq, b, dx, fs, sp, bf, L, rfl, _⟩ := h
    rfl
  · obtain ⟨H0, g, p, xs, ls, la, lq, b, dx, fs, sp, bf, L, rfl, hg, hpl, hbx, hnd, hlq, hls, k⟩ := h
    have hu := hu_of hr
    refine ⟨_, (pss_cons (ps_set (i := 1) nd rfl (Or.inl rfl) (pe_lst pa_nil)) (pss_cons (ps_for PassesOwn.never rfl (pi_list (pe_ix ix_list (pe_fld (pv 0) rfl) (pe_un un_neg pe_int) (fun _ _ => rfl))) (pg_name (i := 2) nd rfl (Or.inl rfl)) (pss_one (ps_for PassesOwn.never rfl (pi_tup (pe_meth (pe_fld (pv 0) rfl) T.clB T.m_neighbours (ok_neighbours T) (hr.mono (by decide)) T.b_Building_neighbours .nil pass0 (pa_cons (pe_ix ix_tup (pv 2) pe_int (fun _ _ => rfl)) pa_nil))) (pg_name (i := 3) nd rfl (Or.inl rfl)) (pss_cons (ps_set (i := 4) nd rfl (Or.inl rfl) (pe_tup (pa_cons (pv 3) (pa_cons (pe_meth (pv 0) T.clG T.m_turned (ok_turned T) (hr.mono (by decide)) T.b_Going_turned .nil pass0 (pa_cons (pe_ix ix_tup (pv 2) pe_int (fun _ _ => rfl)) (pa_cons (pv 3) pa_nil))) pa_nil)))) (pss_one (ps_if (pt_cmpR (op_ndNotK P w hr.units) (pv 4) (pe_fld (pv 0) rfl) (by rfl)) (pss_cons (ps_asg (pv 2) (pg_sub (pe_fld (pv 0) rfl) (pv 4) (set_ndK P w hr.units))) (pss_one (ps_expr (pe_bm PySem.F.plainAttrs_list PySem.F.slot_list_append PySem.F.type_list_append mt_append (pv 1) (pa_cons (pv 4) pa_nil))))) pss_nil)))))) (pss_mid (ps_if (pt_cmpR (op_neD hr.units) (pv 1) (pe_lst pa_nil) (nomark _)) (pss_one (ps_expr (pe_bm PySem.F.plainAttrs_list PySem.F.slot_list_append PySem.F.type_list_append mt_append (pe_fld (pv 0) rfl) (pa_cons (pv 1) pa_nil)))) pss_nil) (pss_one (ps_ret (pv 1)))))), ?_⟩
    refine ⟨by show 0 ≤ sizeLine; omega, fun f hf => ?_⟩
    have hg1 := hg.same (same_new (o := .lst []) hf)
    have f0 : H0 f = none := hg.s0.free hf
    have fL : f ≠ L := (ne_of_none hg.lay hf).symm
    have fl : ∀ l ∈ ls ++ [(la, lq)], l.1 ≠ f := fun l hl => ne_of_none (hg.lys l hl).1 hf
    have hlast : (la, lq) ∈ ls ++ [(la, lq)] := List.mem_append.mpr (.inr (by simp))
    obtain ⟨hla, hlp⟩ := hg1.lys _ hlast
    refine ⟨_, rfl, g, _, dx, _, _, rfl, hg1.ins, T.clG, T.nG_layers, hg1.f4, _, rfl, L, _, _, V.ref la, rfl, rfl, SqL.of hg1.lay, by rw [List.map_append]; exact atI_last _ _, ?_⟩
    refine ⟨la, rfl, ⟨_, SqL.of hla⟩, ?_⟩
    have hbl : ∀ (S : List Pt), S.Nodup → (∀ q ∈ S, q ∈ box p) → S.length ≤ 10000 := fun S h1 h2 => Nat.le_trans (nodup_le h1 h2) (by rw [box_len]; exact hpl.small)
    have inv : ∀ (H : Hp) (cs : List Pt), Prop := fun H cs => True
    refine for_it (walk_list (xs := lq.map fun q => V.ref q.2)) (fun i σ H2 => (∃ u v x, σ = [some (.ref g), some (.ref f), u, v, x]) ∧ ∃ (xs' : List Ent) (ly : List (Pt × Addr)), GoAt P w K H0 H2 g p xs' (ls ++ [(la, lq)]) b dx fs sp bf L ∧ H2 f = some (.lst (ly.map fun q => V.ref q.2)) ∧ (∀ q ∈ ly, PtAt H2 q.2 q.1) ∧
      ly.map (·.1) = news (xs.map (·.1)) (((lq.map (·.1)).take i).flatMap (succs p)) ∧ xs'.map (·.1) = xs.map (·.1) ++ ly.map (·.1)) ⟨⟨_, _, _, rfl⟩, xs, [], hg1, upd_same, (fun q h => by simp at h), by simp [news], by simp⟩ (fun i σ H2 _ ⟨_, xs', ly, h, _⟩ => SqL.of (h.lys _ hlast).1) ?_ ?_
    · rintro i x σ H2 H3 hi ⟨⟨u, v, x0, rfl⟩, xs', ly, h2, hf2, hp2, hn2, hx2⟩ ⟨rfl, hx⟩
      rw [List.length_map] at hi
      obtain rfl : V.ref lq[i].2 = x := by simpa [hi] using hx
      have hqi : lq[i] ∈ lq := List.getElem_mem hi
      have hqb := mem_box.mp (hlq _ hqi)
      obtain ⟨td, ht1, ht2⟩ := (h2.lys _ hlast).2 _ hqi
      have hb2 := h2.bld.same h2.s0
      obtain ⟨dx', fs', d', dn', na', i1, i2, i3, i4, i5, i6, i7⟩ := id hb2
      refine ⟨_, rfl, g, _, dx, _, _, rfl, h2.ins, T.clG, T.nG_site, h2.f1, b, dx', fs', rfl, i1, i7, _, rfl, _, _, _, V.str lq[i].1.1, rfl, rfl, SqT.of ht1, rfl, ?_⟩
      refine ⟨b, p, lq[i].1.1, rfl, hb2, hpl.nd, hpl.nm _ hqb.1, hqb.1, fun H4 tn s4 n4 hn4 => ?_⟩
      refine ⟨tn, rfl, ⟨_, SqT.of hn4⟩, ?_⟩
      have h4 := h2.same s4
      refine for_it (walk_tup (xs := (srtS (nbl p.ps lq[i].1.1)).map V.str)) (fun j σ H5 => (∃ v x, σ = [some (.ref g), some (.ref f), some (.ref lq[i].2), v, x]) ∧ H5 tn = some (.tup ((srtS (nbl p.ps lq[i].1.1)).map V.str)) ∧ ∃ (xs' : List Ent) (ly : List (Pt × Addr)), GoAt P w K H0 H5 g p xs' (ls ++ [(la, lq)]) b dx fs sp bf L ∧ H5 f = some (.lst (ly.map fun q => V.ref q.2)) ∧ (∀ q ∈ ly, PtAt H5 q.2 q.1) ∧
        ly.map (·.1) = news (xs.map (·.1)) (((lq.map (·.1)).take i).flatMap (succs p) ++ (succs p lq[i].1).take j) ∧ xs'.map (·.1) = xs.map (·.1) ++ ly.map (·.1)) ⟨⟨_, _, rfl⟩, hn4, xs', ly, h4, s4 _ _ hf2, fun q hq => (hp2 q hq).same s4, by rw [List.take_zero, List.append_nil]; exact hn2, hx2⟩ (fun j σ H5 _ h => SqT.of h.2.1) ?_ ?_
      · rintro j x σ H5 H6 hj ⟨⟨v, x0, rfl⟩, hn5, xs5, ly5, h5, hf5, hp5, hn5', hx5⟩ ⟨rfl, hx⟩
        rw [List.length_map] at hj
        obtain rfl : V.str (srtS (nbl p.ps lq[i].1.1))[j] = x := by simpa [hj] using hx
        have hrn : (srtS (nbl p.ps lq[i].1.1))[j] ∈ srtS (nbl p.ps lq[i].1.1) := List.getElem_mem hj
        generalize hr' : (srtS (nbl p.ps lq[i].1.1))[j] = r at hrn
        have hrR : r ∈ p.R := nbl_sub hpl ((srtS_perm _).mem_iff.mp hrn)
        have htk : (succs p lq[i].1).take (j + 1) = (succs p lq[i].1).take j ++ [(r, turn p.R p.z r lq[i].1.2)] := by
          rw [List.take_add_one]
          simp [succs, hj, hr']
        obtain ⟨td5, ht51, ht52⟩ := (h5.lys _ hlast).2 _ hqi
        refine ⟨_, rfl, _, rfl, g, dx, fs, rfl, h5.ins, h5.f5, _, rfl, _, _, _, V.ref td5, rfl, rfl, SqT.of ht51, rfl, ?_⟩
        refine ⟨_, rfl, H0, g, td5, r, p, lq[i].1.2, xs5, _, b, dx, fs, sp, bf, L, rfl, h5, hpl, hrR, ht52, hqb.2, fun H7 t7 s7 ht7 => ?_⟩
        refine ⟨by show 2 ≤ sizeLine; decide, fun th hth => ?_⟩
        have s8 : Same H6 (upd H7 th (.tup [.str r, .ref t7])) := s7.trans (same_new hth)
        have hpt : PtAt (upd H7 th (.tup [.str r, .ref t7])) th (r, turn p.R p.z r lq[i].1.2) := ⟨t7, upd_same, same_new hth _ _ ht7⟩
        generalize upd H7 th (.tup [.str r, .ref t7]) = H8 at s8 hpt
        have h8 := h5.same s8
        have tR : (r, turn p.R p.z r lq[i].1.2) ∈ box p := mem_box.mpr ⟨hrR, turn_in hpl hrR hqb.2⟩
        generalize htt : (r, turn p.R p.z r lq[i].1.2) = tt at htk hpt tR
        refine ⟨_, rfl, _, rfl, g, _, dx, _, _, rfl, h8.ins, T.clG, T.nG_before, h8.f3, th, tt, bf, xs5, rfl, rfl, hpt, ⟨.inl h8.bef, h8.keys⟩, _, rfl, ?_⟩
        rw [nd_find, hx5]
        have hsp := news_spec (xs.map (·.1)) (((lq.map (·.1)).take i).flatMap (succs p) ++ (succs p lq[i].1).take j)
        by_cases hin : tt ∈ xs.map (·.1) ++ ly5.map (·.1)
        · refine iteNS hin ?_
          refine ⟨⟨_, _, rfl⟩, s8 _ _ hn5, xs5, ly5, h8, s8 _ _ hf5, fun q hq => (hp5 q hq).same s8, ?_, hx5⟩
          rw [htk, ← List.append_assoc, news_snoc, ← hn5', add1, if_pos hin]
        · refine iteN hin ?_
          have hlenx : xs5.length ≤ 10000 := by
            have := hbl (xs5.map (·.1)) ?_ ?_
            · rw [List.length_map] at this
              exact this
            · rw [hx5, hn5']
              refine List.nodup_append.mpr ⟨hnd, hsp.1, fun a ha c hc e => ?_⟩
              subst e
              exact ((hsp.2 a).mp hc).2 ha
            · intro q hq
              rw [hx5, hn5'] at hq
              rcases List.mem_append.mp hq with a | a
              · exact hbx q a
              · rcases List.mem_append.mp ((hsp.2 q).mp a).1 with c | c
                · obtain ⟨y, hy, hy2⟩ := List.mem_flatMap.mp c
                  obtain ⟨y2, hy3, rfl⟩ := List.mem_map.mp (List.mem_of_mem_take hy)
                  exact succs_box hpl (hlq _ hy3) hy2
                · exact succs_box hpl (hlq _ hqi) (List.mem_of_mem_take c)
          have hnone : ndGet xs5 tt = none := by
            have := nd_find (xs := xs5) (q := tt)
            rw [hx5, decide_eq_false hin] at this
            cases e : ndGet xs5 tt with
            | none => rfl
            | some _ => rw [e] at this; cases this
          refine ⟨_, rfl, _, rfl, g, _, dx, _, _, rfl, h8.ins, T.clG, T.nG_before, h8.f3, _, rfl, bf, xs5, th, tt, rfl, rfl, hpt, h8.bef, h8.keys, hnone, szL (by omega), ?_⟩
          have h9 := h8.put (v := V.ref lq[i].2) hpt
          have hno : ∀ ys, NdO P w bf xs5 ≠ .tup ys := fun _ z => by cases z
          have hf9 : upd H8 bf (NdO P w bf (xs5 ++ [(tt, th, V.ref lq[i].2)])) f = some (.lst (ly5.map fun q => V.ref q.2)) := by
            rw [upd_ne (ne_of (s8 _ _ hf5) h8.bef (by intro z; cases z))]
            exact s8 _ _ hf5
          have hlenl : ly5.length ≤ 10000 := by
            have := congrArg List.length hx5
            simp at this
            omega
          refine ⟨_, rfl, .inl ⟨rfl, _, SqL.of hf9⟩, _, rfl, f, _, _, rfl, rfl, hf9, szL (by rw [List.length_map]; omega), ?_⟩
          have h10 := h9.other (zs := (ly5.map fun q => V.ref q.2) ++ [.ref th]) hf9 f0 fL fl
          have hnl : ∀ ys, (HO.lst (ly5.map fun q => V.ref q.2)) ≠ .tup ys := fun _ z => by cases z
          have keep : ∀ {t q}, PtAt H8 t q → PtAt (upd (upd H8 bf (NdO P w bf (xs5 ++ [(tt, th, V.ref lq[i].2)]))) f (.lst ((ly5.map fun q => V.ref q.2) ++ [.ref th]))) t q := fun hh => pt_upd (pt_upd hh h8.bef hno) hf9 hnl
          refine ⟨⟨_, _, rfl⟩, ?_, xs5 ++ [(tt, th, .ref lq[i].2)], ly5 ++ [(tt, th)], h10, by rw [upd_same, List.map_append] <;> rfl, fun q hq => ?_, ?_, ?_⟩
          · exact tup_upd (tup_upd (s8 _ _ hn5) h8.bef hno) hf9 hnl
          · rcases List.mem_append.mp hq with a | a
            · exact keep ((hp5 q a).same s8)
            · rw [List.mem_singleton.mp a]
              exact keep hpt
          · rw [htk, ← List.append_assoc, news_snoc, ← hn5', add1, if_neg hin, List.map_append]
            rfl
          · rw [List.map_append, hx5, List.map_append, List.append_assoc]
            rfl
      · rintro σ H5 ⟨⟨v, x0, rfl⟩, hn5, xs5, ly5, h5, hf5, hp5, hn5', hx5⟩
        refine ⟨⟨_, _, _, rfl⟩, xs5, ly5, h5, hf5, hp5, ?_, hx5⟩
        have e1 : (succs p lq[i].1).take ((srtS (nbl p.ps lq[i].1.1)).map V.str).length = succs p lq[i].1 := List.take_of_length_le (by simp [succs])
        rw [hn5', e1, List.take_add_one]
        simp [hi]
    rintro σ H2 ⟨⟨u, v, x0, rfl⟩, xs', ly, h2, hf2, hp2, hn2, hx2⟩
    rw [List.length_map, List.take_of_length_le (by simp)] at hn2
    have hnm : ∀ q ∈ ly, IsNm q.1.1 := fun q hq => by
      have : q.1 ∈ ly.map (·.1) := List.mem_map.mpr ⟨q, hq, rfl⟩
      rw [hn2] at this
      have h1 := ((news_spec _ _).2 _).mp this
      obtain ⟨y, hy, hy2⟩ := List.mem_flatMap.mp h1.1
      obtain ⟨y2, hy3, rfl⟩ := List.mem_map.mp hy
      exact hpl.nm _ (mem_box.mp (succs_box hpl (hlq _ hy3) hy2)).1
    refine ⟨fun σ' H' => σ' = [some (.ref g), some (.ref f), u, v, x0] ∧ H' f = some (.lst (ly.map fun q => V.ref q.2)) ∧ (∀ q ∈ ly, PtAt H' q.2 q.1) ∧ GoAt P w K H0 H' g p xs' (if ly = [] then ls ++ [(la, lq)] else (ls ++ [(la, lq)]) ++ [(f, ly)]) b dx fs sp bf L, ?_, ?_⟩
    · refine ⟨_, rfl, by show 0 ≤ sizeLine; omega, fun e he => ?_⟩
      have hp2e : ∀ q ∈ ly, PtAt (upd H2 e (.lst [])) q.2 q.1 := fun q hq => (hp2 q hq).same (same_new he)
      have h2e := h2.same (same_new (o := .lst []) he)
      have hf2e := same_new (o := .lst []) he _ _ hf2
      have e2e : upd H2 e (.lst []) e = some (.lst []) := upd_same
      refine ⟨_, _, .lst (SqL.of hf2e) (dp_pts hp2e), dp_nil e2e, shaped_pts hnm, shaped_nil, _, rfl, ?_⟩
      rw [eqv_nil]
      by_cases hly : ly = []
      · subst hly
        refine iteNS rfl ?_
        exact ⟨rfl, hf2e, hp2e, by rw [if_pos rfl]; exact h2e⟩
      · refine iteN (by simpa using hly) ?_
        refine ⟨_, rfl, g, _, dx, _, _, rfl, h2e.ins, T.clG, T.nG_layers, h2e.f4, .inl ⟨rfl, _, SqL.of h2e.lay⟩, _, rfl, L, _, _, rfl, rfl, h2e.lay, szL (by simp; omega), ?_⟩
        have hnl : ∀ ys, (HO.lst ((ls ++ [(la, lq)]).map fun l => V.ref l.1)) ≠ .tup ys := fun _ z => by cases z
        refine ⟨rfl, by rw [upd_ne fL]; exact hf2e, fun q hq => pt_upd (hp2e q hq) h2e.lay hnl, ?_⟩
        rw [if_neg hly]
        exact h2e.grow hf2e hp2e fL
    · rintro σ' H' ⟨rfl, hf3, hp3, h3⟩
      exact ⟨_, rfl, k H' xs' f ly f0 hf3 hp3 hn2 hx2 h3⟩
end
end Rd
/-! layers -/
namespace Rd
open PySem PySem.Spec L2
open PyProof.Rows hiding St
def allLays (p : Pln) (first : Str) : List (List Pt) := [start0 p first] :: lays p 10002 [start0 p first] [start0 p first]
theorem start_box {p : Pln} (h : PlOk p) {first : Str} (hf : first ∈ p.R) : start0 p first ∈ box p := by
  refine mem_box.mpr ⟨hf, ?_⟩
  have := InB.zero (p.R.map p.z) (fun z hz => by
    obtain ⟨r, hr, rfl⟩ := List.mem_map.mp hz
    exact h.z1 r hr)
  rw [List.length_map] at this
  exact this
theorem news_box {p : Pln} (h : PlOk p) {seen last : List Pt} (hl : ∀ q ∈ last, q ∈ box p) : ∀ q ∈ news seen (last.flatMap (succs p)), q ∈ box p := fun q hq => by
  obtain ⟨y, hy, hy2⟩ := List.mem_flatMap.mp (((news_spec _ _).2 q).mp hq).1
  exact succs_box h (hl y hy) hy2
theorem nodup_more {seen cand : List Pt} (h : seen.Nodup) : (seen ++ news seen cand).Nodup :=
  List.nodup_append.mpr ⟨h, (news_spec _ _).1, fun a ha c hc e => (((news_spec _ _).2 c).mp hc).2 (by rw [← e]; exact ha)⟩
theorem box_le {p : Pln} (h : PlOk p) {S : List Pt} (h1 : S.Nodup) (h2 : ∀ q ∈ S, q ∈ box p) : S.length ≤ 10000 := Nat.le_trans (nodup_le h1 h2) (by rw [box_len]; exact h.small)
def spLayers (K : PySem.W.Frag) : Sp := fun vs H Q _ => ∃ b p first, vs = [.ref b, .str first] ∧ BAt K H b p ∧ PlOk p ∧ first ∈ p.R ∧
  ∀ H' q, Same H H' → H q = none → H' q = some (.lst ((allLays p first).map fun l => V.int (l.length : Nat))) → Q (.ref q) H'
section
variable {P : Program} {w : World} {K : PySem.W.Frag} {mg : Str → Option Value} {base : Heap}
theorem ok_layers (T : Txt K mg) : FnOk P w K mg base CX0 7 (a_layers K) (d_layers K) P_layers (spLayers K) := by
  have nd := sc_layers.nd
  refine ok0 T.f_layers sc_layers (fun vs H Q E h => ?_) (fun cdv A outer s H vs Q E hr h => ?_)
  · obtain ⟨b, p, first, rfl, _⟩ := h
    rfl
  · obtain ⟨b, p, first, rfl, hb, hpl, hfi, k⟩ := h
    have hu := hu_of hr
    refine ⟨_, (pss_cons (ps_expr (pe_callR (ok_need_rooms T) (hr.mono (by decide)) (by rfl) T.g_need_rooms T.f_need_rooms.kp pass0 (pa_cons (pv 0) (pa_cons (pv 1) pa_nil)))) (pss_cons (ps_expr (pe_call (ok_check_small T) (hr.mono (by decide)) (by rfl) T.g_check_small T.f_check_small.kp T.b_check_small .nil pass0 (pa_cons (pv 0) pa_nil))) (pss_cons (ps_set (i := 2) nd rfl (Or.inl rfl) (pe_make T.mkG (ok_Going_init T) (hr.mono (by decide)) (by rfl) T.gG T.b_Going_init .nil pass0 (pa_cons (pv 0) (pa_cons (pv 1) pa_nil)))) (pss_cons (ps_while PassesOwn.never (pt_cmpR (op_neD hr.units) (pe_meth0 (pv 2) T.clG T.m_go_on (ok_go_on T) (hr.mono (by decide)) T.b_Going_go_on .nil pass0) (pe_lst pa_nil) (nomark _)) (pss_one ps_pass)) (pss_one (ps_ret (pe_lc (own := [("layer", 3)]) (g := (gName 3)) (tt := tYes) rfl nd (pi_list (pe_fld (pv 2) rfl)) (blkOk_by (own := [("layer", 3)]) (N := N_layers) (sc := defScope s_layers) (by decide +kernel)) (fun _ _ _ _ _ => (pg_name (i := 3) nd rfl (Or.inl rfl))) (fun _ _ _ _ _ => pts_nil) (fun _ _ _ _ _ => (pe_callB (call_lenK K) (by rfl) T.n_len PySem.boot_len (pa_cons (pv 3) pa_nil)))))))))), ?_⟩
    refine ⟨_, rfl, _, rfl, b, p.R, p.z, first, rfl, hb.sz, hpl.nm _ hfi, hfi, fun H1 s1 => ?_⟩
    have hb1 := hb.same s1
    refine ⟨_, rfl, b, p.R, p.z, rfl, hb1.sz, hpl.nd, hpl.nm, hpl.z1, hpl.small, fun H2 s2 => ?_⟩
    have hb2 := hb1.same s2
    refine ⟨_, rfl, _, rfl, fun g dx ng ndx ne => ?_⟩
    have hgi : upd (upd H2 dx (.own g)) g (.ins (cG K) dx []) g = some (.ins (cG K) dx []) := upd_same
    refine ⟨H2, g, dx, b, p, first, rfl, hgi, fun c o hc => ⟨ne_of_none hc ng, ?_⟩, hb2, hpl, hfi, fun H3 xs ls fs sp bf L hg hx hl => ⟨rfl, ?_⟩⟩
    · rw [upd_ne (ne_of_none hc ng), upd_ne (ne_of_none hc ndx)]
      exact hc
    obtain ⟨l0, rfl⟩ : ∃ l0, ls = [l0] := by
      have := congrArg List.length hl
      simp at this
      exact List.length_eq_one_iff.mp this
    have hl0 : l0.2.map (·.1) = [start0 p first] := (List.cons.inj hl).1
    refine ⟨fun m σ H4 => ∃ (xs : List Ent) (ls : List Lay) (la : Addr) (lq : List (Pt × Addr)) (v : Option V), σ = [some (.ref b), some (.str first), some (.ref g), v] ∧ GoAt P w K H2 H4 g p xs (ls ++ [(la, lq)]) b dx fs sp bf L ∧ (∀ q ∈ xs.map (·.1), q ∈ box p) ∧ (xs.map (·.1)).Nodup ∧ (∀ q ∈ lq, q.1 ∈ box p) ∧
      (ls ++ [(la, lq)]).map (fun l => l.2.map (·.1)) ++ lays p m (xs.map (·.1)) (lq.map (·.1)) = allLays p first ∧ 10002 < m + (xs.map (·.1)).length ∧ ls.length + m ≤ 10002, ⟨10002, xs, [], l0.1, l0.2, _, rfl, hg, ?_, ?_, ?_, ?_, ?_, ?_⟩, ?_⟩
    · intro q hq
      rw [hx] at hq
      rw [List.mem_singleton.mp hq]
      exact start_box hpl hfi
    · rw [hx]
      simp
    · intro q hq
      have : q.1 ∈ l0.2.map (·.1) := List.mem_map.mpr ⟨q, hq, rfl⟩
      rw [hl0] at this
      rw [List.mem_singleton.mp this]
      exact start_box hpl hfi
    · rw [hx, hl0]
      simp only [List.nil_append, List.map_cons, List.map_nil, allLays, hl0]
      rfl
    · rw [hx]
      simp
    · simp
    rintro m σ H4 ⟨xs, ls, la, lq, v, rfl, hg4, hbx, hnd, hlq, hall, hm, hlm⟩
    have hlen := box_le hpl hnd hbx
    obtain ⟨m', rfl⟩ : ∃ m', m = m' + 1 := ⟨m - 1, by omega⟩
    refine ⟨_, rfl, g, dx, fs, rfl, hg4.ins, hg4.f6, H2, g, p, xs, ls, la, lq, b, dx, fs, sp, bf, L, rfl, hg4, hpl, hbx, hnd, hlq, by omega, fun H5 xs5 f ly f0 hf5 hp5 hn5 hx5 hg5 => ?_⟩
    have hlqb : ∀ q ∈ lq.map (·.1), q ∈ box p := fun q hq => by
      obtain ⟨y, hy, rfl⟩ := List.mem_map.mp hq
      exact hlq y hy
    have hnb := news_box hpl (seen := xs.map (·.1)) hlqb
    have hlyb : ∀ q ∈ ly, q.1 ∈ box p := fun q hq => hnb _ (by rw [← hn5]; exact List.mem_map.mpr ⟨q, hq, rfl⟩)
    refine ⟨by show 0 ≤ sizeLine; omega, fun e he => ?_⟩
    have hp5e : ∀ q ∈ ly, PtAt (upd H5 e (.lst [])) q.2 q.1 := fun q hq => (hp5 q hq).same (same_new he)
    have hg5e := hg5.same (same_new (o := .lst []) he)
    have hf5e := same_new (o := .lst []) he _ _ hf5
    refine ⟨_, _, .lst (SqL.of hf5e) (dp_pts hp5e), dp_nil upd_same, shaped_pts (fun q hq => hpl.nm _ (mem_box.mp (hlyb q hq)).1), shaped_nil, _, rfl, ?_⟩
    rw [eqv_nil]
    by_cases hly : ly = []
    · subst hly
      refine iteNS rfl ?_
      rw [if_pos rfl] at hg5e
      have hfin : (ls ++ [(la, lq)]).map (fun l => l.2.map (·.1)) = allLays p first := by
        have : lays p (m' + 1) (xs.map (·.1)) (lq.map (·.1)) = [] := by
          unfold lays
          rw [← hn5]
          rfl
        rw [this, List.append_nil] at hall
        exact hall
      refine ⟨_, rfl, g, _, dx, _, _, rfl, hg5e.ins, T.clG, T.nG_layers, hg5e.f4, L, rfl, ⟨_, SqL.of hg5e.lay⟩, fun D hD => ?_⟩
      have hlays : (ls ++ [(la, lq)]).length ≤ 10003 := by simp; omega
      refine lc_it (walk_list (xs := (ls ++ [(la, lq)]).map fun l => V.ref l.1)) (fun i H6 => Same (upd H5 e (.lst [])) H6 ∧ H6 D = some (.lst (((ls ++ [(la, lq)]).take i).map fun l => V.int (l.2.length : Nat)))) ⟨same_new hD, upd_same⟩ (fun i H6 _ h => SqL.of ((hg5e.same h.1).lay)) ?_ ?_
      · rintro i x H6 H7 hi ⟨s6, d6⟩ ⟨rfl, hx6⟩
        rw [List.length_map] at hi
        rw [List.getElem?_map, List.getElem?_eq_getElem hi] at hx6
        obtain rfl := Option.some.inj hx6
        have hmem : (ls ++ [(la, lq)])[i] ∈ ls ++ [(la, lq)] := List.getElem_mem hi
        have hli := ((hg5e.same s6).lys _ hmem).1
        refine ⟨rfl, _, rfl, _, _, rfl, .inl ⟨_, SqL.of hli, rfl⟩, _, d6, szL (by rw [List.length_map, List.length_take]; omega), same_upd s6 hD, ?_⟩
        rw [upd_same, List.take_add_one, List.getElem?_eq_getElem hi, List.map_append, List.length_map]
        rfl
      · rintro H6 ⟨s6, d6⟩
        rw [List.length_map, List.take_of_length_le (Nat.le_refl _)] at d6
        have s7 : Same H H6 := s1.trans (s2.trans (hg5e.s0.trans s6))
        have D0 : H D = none := (s1.trans (s2.trans hg5e.s0)).free hD
        refine k H6 D s7 D0 ?_
        rw [d6, ← hfin, List.map_map]
        simp
    · refine iteN (by simpa using hly) ?_
      rw [if_neg hly] at hg5e
      refine ⟨fun σ' H' => _, fun σ' H' h => ⟨m', by omega, h⟩, ?_⟩
      refine ⟨xs5, ls ++ [(la, lq)], f, ly, _, rfl, hg5e, ?_, ?_, hlyb, ?_, ?_, ?_⟩
      · intro q hq
        rw [hx5] at hq
        rcases List.mem_append.mp hq with a | a
        · exact hbx q a
        · rw [hn5] at a
          exact hnb q a
      · rw [hx5, hn5]
        exact nodup_more hnd
      · rw [← hall, List.map_append (l₁ := ls ++ [(la, lq)]), List.append_assoc]
        congr 1
        rw [show lays p (m' + 1) (xs.map (·.1)) (lq.map (·.1)) = news (xs.map (·.1)) ((lq.map (·.1)).flatMap (succs p)) :: lays p m' (xs.map (·.1) ++ news (xs.map (·.1)) ((lq.map (·.1)).flatMap (succs p))) (news (xs.map (·.1)) ((lq.map (·.1)).flatMap (succs p))) from by
          rw [lays, if_neg]
          rw [← hn5]
          simpa using hly]
        rw [hx5, hn5]
        simp [hn5]
      · rw [hx5, List.length_append, List.length_map (f := (·.1)) (as := ly)]
        have : 0 < ly.length := List.length_pos_iff.mpr hly
        omega
      · simp
        omega
end
end Rd
/-! the law's tape: begin, draw, pick, shuffled -/
namespace Rd
open PySem PySem.Spec L2
open PyProof.Rows hiding St
def tpKv (c : Addr) (pl lf : Int) : List (Key × V) := [(Sum.inr "cells", .ref c), (Sum.inr "place", .int pl), (Sum.inr "left", .int lf)]
theorem tp_cells (c : Addr) (pl lf : Int) : valV (tpKv c pl lf) (Sum.inr "cells") = some (.ref c) := rfl
theorem tp_place (c : Addr) (pl lf : Int) : valV (tpKv c pl lf) (Sum.inr "place") = some (.int pl) := rfl
theorem tp_left (c : Addr) (pl lf : Int) : valV (tpKv c pl lf) (Sum.inr "left") = some (.int lf) := rfl
theorem tp_put_place (c : Addr) (pl lf x : Int) : putK (tpKv c pl lf) (Sum.inr "place") (.int x) = tpKv c x lf := rfl
theorem tp_put_left (c : Addr) (pl lf x : Int) : putK (tpKv c pl lf) (Sum.inr "left") (.int x) = tpKv c pl x := rfl
/-- at t a tape of which at most n draws were made -/
def TpAt (H : Hp) (t c : Addr) (n : Nat) : Prop := ∃ (cells : List Int) (pl lf : Int), H t = some (.dK (tpKv c pl lf)) ∧ H c = some (.lst (cells.map V.int)) ∧ cells ≠ [] ∧ cells.length ≤ 63 ∧ 0 ≤ pl ∧ pl ≤ (n : Int)
theorem TpAt.same {H H' : Hp} {t c : Addr} {n : Nat} (s : Same H H') (h : TpAt H t c n) : TpAt H' t c n := let ⟨cells, pl, lf, h1, h2, h3⟩ := h; ⟨cells, pl, lf, s _ _ h1, s _ _ h2, h3⟩
theorem TpAt.mono {H : Hp} {t c : Addr} {n m : Nat} (h : TpAt H t c n) (k : n ≤ m) : TpAt H t c m := let ⟨cells, pl, lf, h1, h2, h3, h4, h5, h6⟩ := h; ⟨cells, pl, lf, h1, h2, h3, h4, h5, by omega⟩
theorem SameBut.refl {b : Addr} (H : Hp) : SameBut b H H := fun _ _ _ h => h
theorem SameBut.trans {b : Addr} {H H1 H2 : Hp} (h : SameBut b H H1) (k : SameBut b H1 H2) : SameBut b H H2 := fun q o hq ho => k q o hq (h q o hq ho)
theorem SameBut.of {b : Addr} {H H' : Hp} (s : Same H H') : SameBut b H H' := fun q o _ h => s q o h
def spBegin (K : PySem.W.Frag) : Sp := fun vs H Q _ => ∃ (a : Addr) (ns : List Int), vs = [.ref a] ∧ SqL K H a (ns.map V.int) ∧ ∀ H' t c, Same H H' → H t = none → TpAt H' t c 0 → Q (.ref t) H'
def spDraw : Sp := fun vs H Q _ => ∃ t c n, ∃ m : Nat, vs = [.ref t, .int m] ∧ TpAt H t c n ∧ n < 1000000 ∧ 0 < m ∧ m ≤ 1000 ∧ ∀ H', ∀ d : Nat, d < m → SameBut t H H' → TpAt H' t c (n + 1) → Q (.int d) H'
section
variable {P : Program} {w : World} {K : PySem.W.Frag} {mg : Str → Option Value} {base : Heap}
theorem ok_l_begin (T : Txt K mg) : FnOk P w K mg base CX0 1 (a_l_begin K) (d_l_begin K) P_l_begin (spBegin K) := by
  have nd := sc_l_begin.nd
  refine ok0 T.f_l_begin sc_l_begin (fun vs H Q E h => ?_) (fun cdv A outer s H vs Q E hr h => ?_)
  · obtain ⟨a, ns, rfl, _⟩ := h
    rfl
  · obtain ⟨a, ns, rfl, ha, k⟩ := h
    refine ⟨_, (pss_one (ps_ret (pe_disp (pps_cons pe_str (pe_orT (pe_slice sl_list (pv 0) po_none (po_some pe_int)) (pe_one (pe_lst (pa_cons pe_int pa_nil)))) (pps_cons pe_str pe_int (pps_cons pe_str pe_int pps_nil))) (by rfl) (by rfl) (fun z => by cases z) (by decide)))), ?_⟩
    refine fun t ht => ?_
    have t0 : upd H t (.dK []) t = some (.dK []) := upd_same
    have st : Same H (upd H t (.dK [])) := same_new ht
    have fin : ∀ H1 c (cells : List Int), Same (upd H t (.dK [])) H1 → H1 c = some (.lst (cells.map V.int)) → cells ≠ [] → cells.length ≤ 63 → Q (.ref t) (upd H1 t (.dK (mergeK [] [(Sum.inr "cells", .ref c), (Sum.inr "place", .int 0), (Sum.inr "left", .int 0)]))) := fun H1 c cells s1 hc h1 h2 => by
      refine k _ t c (same_upd (st.trans s1) ht) ht ⟨cells, 0, 0, upd_same, ?_, h1, h2, Int.le_refl _, Int.le_refl _⟩
      rw [upd_ne (ne_of hc (s1 _ _ t0) (by intro z; cases z))]
      exact hc
    refine ⟨_, rfl, _, rfl, a, _, rfl, st.seq ha, fun p hp => ?_⟩
    have hcut : cutV (ns.map V.int) none (some 63) = (ns.take 63).map V.int := by
      have := cut_to (ns.map V.int) 63
      rw [List.map_take]
      exact this
    rw [hcut]
    have hp1 : upd (upd H t (.dK [])) p (.lst ((ns.take 63).map V.int)) p = some (.lst ((ns.take 63).map V.int)) := upd_same
    have tp : t ≠ p := ne_of_none t0 hp
    refine ⟨_, .inl ⟨_, SqL.of hp1, rfl⟩, ?_⟩
    cases hns : ns.take 63 with
    | cons x xs =>
      rw [hns] at hp1
      refine iteT ?_
      refine ⟨by rw [upd_ne tp]; exact t0, [(Sum.inr "cells", .ref p), (Sum.inr "place", .int 0), (Sum.inr "left", .int 0)], rfl, by show 3 ≤ 15; decide, ?_⟩
      exact fin _ p (x :: xs) (same_new hp) hp1 (by simp) (by rw [← hns]; simp; omega)
    | nil =>
      rw [hns] at hp1
      refine iteF ?_
      refine ⟨by show 1 ≤ sizeLine; decide, fun q hq => ?_⟩
      have tq : t ≠ q := ne_of_none (by rw [upd_ne tp]; exact t0) hq
      refine ⟨by rw [upd_ne tq, upd_ne tp]; exact t0, [(Sum.inr "cells", .ref q), (Sum.inr "place", .int 0), (Sum.inr "left", .int 0)], rfl, by show 3 ≤ 15; decide, ?_⟩
      exact fin _ q [0] ((same_new hp).trans (same_new hq)) upd_same (by simp) (by simp)
theorem ok_l_draw (T : Txt K mg) : FnOk P w K mg base CX0 1 (a_l_draw K) (d_l_draw K) P_l_draw spDraw := by
  have nd := sc_l_draw.nd
  refine ok0 T.f_l_draw sc_l_draw (fun vs H Q E h => ?_) (fun cdv A outer s H vs Q E hr h => ?_)
  · obtain ⟨t, c, n, m, rfl, _⟩ := h
    rfl
  · obtain ⟨t, c, n, m, rfl, ht, hn, hm0, hm1, k⟩ := h
    have hu := hu_of hr
    refine ⟨_, (pss_mid (ps_if (pt_cmpR op_lt (pe_dget hu (pv 0) pe_str (fun _ _ => rfl)) (pv 1) (nomark _)) (pss_cons (ps_par (i := 2) (j := 3) (by rfl) nd rfl rfl (by decide) rfl rfl (pa_cons (pe_dget hu (pv 0) pe_str (fun _ _ => rfl)) (pa_cons (pe_callB call_len (by rfl) T.n_len PySem.boot_len (pa_cons (pe_dget hu (pv 0) pe_str (fun _ _ => rfl)) pa_nil)) pa_nil)) (by rfl)) (pss_cons (ps_asg (pe_tup (pa_cons (pe_ix ix_list (pe_dget hu (pv 0) pe_str (fun _ _ => rfl)) (pe_op op_mod (pe_callTy call_int1 (by rfl) T.n_int (by decide +kernel) (pa_cons (pv 2) pa_nil)) (pv 3)) (fun _ _ => rfl)) (pa_cons (pe_op op_add (pv 2) pe_int) pa_nil))) (pg_tup (by rfl) (pgs_cons (pg_name (i := 4) nd rfl (Or.inl rfl)) (pgs_cons (pg_sub (pv 0) pe_str (set_dict hu)) pgs_nil)))) (pss_cons (ps_dput hu (pv 0) pe_str (pe_op op_mod (pe_callTy call_int1 (by rfl) T.n_int (by decide +kernel) (pa_cons (pe_op op_pow (pe_op op_add (pe_op op_add (pe_op op_mod (pe_callTy call_int1 (by rfl) T.n_int (by decide +kernel) (pa_cons (pv 4) pa_nil)) pe_int) (pe_op op_mul pe_int (pv 2))) pe_int) pe_int) pa_nil)) (pe_op op_add (pe_op op_pow pe_int pe_int) pe_int)) rfl) (pss_one (ps_if (PW.pt (pw_and (pt_cmpR op_ge (pv 4) (pe_op op_pow pe_int pe_int) (nomark _)) (pw_and1 (pt_cmpR op_lt (pv 2) (pv 3) (nomark _))))) (pss_one (ps_dput hu (pv 0) pe_str (pe_op op_sub (pv 4) (pe_op op_pow pe_int pe_int)) rfl)) pss_nil))))) pss_nil) (pss_cons (ps_asg (pe_tup (pa_cons (pe_op op_mod (pe_callTy call_int1 (by rfl) T.n_int (by decide +kernel) (pa_cons (pe_dget hu (pv 0) pe_str (fun _ _ => rfl)) pa_nil)) (pv 1)) (pa_cons (pe_op op_fdiv (pe_dget hu (pv 0) pe_str (fun _ _ => rfl)) (pv 1)) pa_nil))) (pg_tup (by rfl) (pgs_cons (pg_name (i := 5) nd rfl (Or.inl rfl)) (pgs_cons (pg_sub (pv 0) pe_str (set_dict hu)) pgs_nil)))) (pss_one (ps_ret (pv 5))))), ?_⟩
    obtain ⟨cells, pl, lf, h1, h2, h3, h4, h5, h6⟩ := id ht
    refine ⟨fun σ' H' => (∃ x y z u, σ' = [some (.ref t), some (.int m), x, y, z, u]) ∧ SameBut t H H' ∧ TpAt H' t c (n + 1), ?_, ?_⟩
    · refine ⟨_, rfl, t, _, rfl, DGet.k (k := Sum.inr "left") h1, _, rfl, _, _, rfl, rfl, _, rfl, ?_⟩
      by_cases hlt : lf < (m : Int)
      · refine iteD hlt ?_
        refine ⟨_, rfl, t, _, rfl, DGet.k (k := Sum.inr "place") h1, ?_⟩
        refine ⟨_, rfl, t, _, rfl, DGet.k (k := Sum.inr "cells") h1, _, cells.length, rfl, .inl ⟨_, SqL.of h2, (List.length_map ..).symm⟩, ?_⟩
        refine ⟨_, _, rfl, ?_⟩
        have hl0 : 0 < cells.length := List.length_pos_iff.mpr h3
        obtain ⟨j, hj, hj2⟩ : ∃ j : Nat, pl % (cells.length : Int) = j ∧ j < cells.length := by
          refine ⟨(pl % (cells.length : Int)).toNat, ?_, ?_⟩
          · rw [Int.toNat_of_nonneg (Int.emod_nonneg _ (by omega))]
          · have := Int.emod_lt_of_pos pl (show (0 : Int) < cells.length by omega)
            omega
        refine ⟨_, rfl, t, _, rfl, DGet.k (k := Sum.inr "cells") h1, _, rfl, .inl ⟨_, rfl, _, rfl, _, _, rfl, rfl, by omega, ?_⟩⟩
        refine ⟨c, _, _, V.int cells[j], rfl, rfl, SqL.of h2, by rw [hj]; exact atI_nat (by simp [hj2]), ?_⟩
        refine ⟨_, rfl, _, _, rfl, rfl, by show 2 ≤ sizeLine; decide, fun tt htt => ?_⟩
        have ht1 : upd H tt (.tup [.int cells[j], .int (pl + 1)]) t = some (.dK (tpKv c pl lf)) := same_new htt _ _ h1
        refine ⟨tt, _, rfl, SqT.of upd_same, rfl, _, _, rfl, _, _, rfl, _, rfl, t, _, rfl, DPut.k (k := Sum.inr "place") ht1 (szL (by show 3 < 100000; omega)), rfl, ?_⟩
        rw [tp_put_place]
        have hc1 : ∀ {x : HO}, upd (upd H tt (.tup [.int cells[j], .int (pl + 1)])) t x c = some (.lst (cells.map V.int)) := fun {x} => by
          have hc0 := same_new (o := .tup [.int cells[j], .int (pl + 1)]) htt _ _ h2
          rw [upd_ne (ne_of hc0 ht1 (by intro z; cases z))]
          exact hc0
        have hsb : ∀ {x : HO}, SameBut t H (upd (upd H tt (.tup [.int cells[j], .int (pl + 1)])) t x) := fun {x} q o hq ho => by
          rw [upd_ne hq]
          exact same_new htt _ _ ho
        generalize hH1 : upd H tt (.tup [.int cells[j], .int (pl + 1)]) = H1
        rw [hH1] at ht1
        simp only [hH1] at hc1 hsb
        have hb1 : 0 ≤ cells[j] % 2147483647 := Int.emod_nonneg _ (by decide)
        have hb2 : cells[j] % 2147483647 < 2147483647 := Int.emod_lt_of_pos _ (by decide)
        refine ⟨_, rfl, .inl ⟨_, rfl, _, _, rfl, rfl, by show (0 : Int) < 2147483647; decide, ?_⟩⟩
        refine ⟨_, rfl, _, _, rfl, rfl, .inl ⟨by decide, by decide⟩, _, _, rfl, rfl, _, _, rfl, rfl, ?_⟩
        refine ⟨_, _, rfl, rfl, ⟨by decide, by decide, by omega⟩, .inl ⟨_, rfl, ?_⟩⟩
        refine ⟨_, _, rfl, rfl, ⟨by decide, by decide, by decide⟩, _, _, rfl, rfl, _, _, rfl, rfl, ?_, ?_⟩
        · show (0 : Int) < 10 ^ (50 : Int).toNat + 151
          have : (0 : Int) < 10 ^ (50 : Int).toNat := Int.pow_pos (by decide)
          omega
        refine ⟨_, rfl, t, _, rfl, DPut.k (k := Sum.inr "left") upd_same (szL (by show 3 < 100000; omega)), ?_⟩
        rw [tp_put_left]
        have fin : ∀ {x : Int} {H2 : Hp}, H2 t = some (.dK (tpKv c (pl + 1) x)) → SameBut t H H2 → H2 c = some (.lst (cells.map V.int)) → TpAt H2 t c (n + 1) := fun a b d => ⟨cells, pl + 1, _, a, d, h3, h4, by omega, by omega⟩
        have ub : ∀ {o o' o'' : HO}, upd (upd (upd H1 t o) t o') t o'' c = some (.lst (cells.map V.int)) ∧ upd (upd H1 t o) t o' c = some (.lst (cells.map V.int)) ∧ SameBut t H (upd (upd (upd H1 t o) t o') t o'') ∧ SameBut t H (upd (upd H1 t o) t o') := fun {o o' o''} => by
          have hct : c ≠ t := fun e => by
            have := hc1 (x := .tup [])
            rw [e, upd_same] at this
            cases this
          have e1 : ∀ {x : HO}, upd H1 t x c = H1 c := upd_ne hct
          have e2 := hc1 (x := .tup [])
          rw [e1] at e2
          refine ⟨by rw [upd_ne hct, upd_ne hct, upd_ne hct]; exact e2, by rw [upd_ne hct, upd_ne hct]; exact e2, fun q o hq ho => ?_, fun q o hq ho => ?_⟩
          · have := hsb (x := .tup []) q o hq ho
            rw [upd_ne hq] at this
            rw [upd_ne hq, upd_ne hq, upd_ne hq]
            exact this
          · have := hsb (x := .tup []) q o hq ho
            rw [upd_ne hq] at this
            rw [upd_ne hq, upd_ne hq]
            exact this
        refine ⟨_, rfl, _, _, rfl, rfl, ⟨by decide, by decide, by decide⟩, _, _, rfl, rfl, _, rfl, ?_⟩
        refine ite2 (fun _ => ?_) (fun _ => ?_)
        · refine ⟨_, rfl, _, rfl, _, _, rfl, rfl, _, rfl, ?_⟩
          refine ite2 (fun _ => ?_) (fun _ => ?_)
          · refine ⟨_, rfl, _, _, rfl, rfl, ⟨by decide, by decide, by decide⟩, _, _, rfl, rfl, ?_⟩
            refine ⟨_, rfl, t, _, rfl, DPut.k (k := Sum.inr "left") upd_same (szL (by show 3 < 100000; omega)), ?_⟩
            rw [tp_put_left]
            exact ⟨⟨_, _, _, _, rfl⟩, ub.2.2.1, fin upd_same ub.2.2.1 ub.1⟩
          · exact ⟨⟨_, _, _, _, rfl⟩, (ub (o'' := .tup [])).2.2.2, fin upd_same (ub (o'' := .tup [])).2.2.2 (ub (o'' := .tup [])).2.1⟩
        · exact ⟨⟨_, _, _, _, rfl⟩, (ub (o'' := .tup [])).2.2.2, fin upd_same (ub (o'' := .tup [])).2.2.2 (ub (o'' := .tup [])).2.1⟩
      · refine iteDn hlt ?_
        exact ⟨⟨_, _, _, _, rfl⟩, SameBut.refl H, ht.mono (by omega)⟩
    · rintro σ' H' ⟨⟨x, y, z, u, rfl⟩, sb, htp⟩
      obtain ⟨cells, pl, lf, h1, h2, h3, h4, h5, h6⟩ := htp
      refine ⟨_, rfl, t, _, rfl, DGet.k (k := Sum.inr "left") h1, .inl ⟨_, rfl, ?_⟩⟩
      refine ⟨_, rfl, _, _, rfl, rfl, by omega, ?_⟩
      refine ⟨_, rfl, t, _, rfl, DGet.k (k := Sum.inr "left") h1, _, rfl, _, _, rfl, rfl, ⟨by omega, by omega⟩, ?_⟩
      refine ⟨by show 2 ≤ sizeLine; decide, fun tt htt => ?_⟩
      have ht1 : upd H' tt (.tup [.int (lf % (m : Int)), .int (lf / (m : Int))]) t = some (.dK (tpKv c pl lf)) := same_new htt _ _ h1
      refine ⟨tt, _, rfl, SqT.of upd_same, rfl, _, _, rfl, _, _, rfl, _, rfl, t, _, rfl, DPut.k (k := Sum.inr "left") ht1 (szL (by show 3 < 100000; omega)), rfl, ?_⟩
      rw [tp_put_left]
      have n0 : 0 ≤ lf % (m : Int) := Int.emod_nonneg _ (by omega)
      have n1 : lf % (m : Int) < m := Int.emod_lt_of_pos _ (by omega)
      have hd : lf % (m : Int) = ((lf % (m : Int)).toNat : Nat) := by rw [Int.toNat_of_nonneg n0]
      refine ⟨_, rfl, ?_⟩
      show Q (.int (lf % (m : Int))) _
      rw [hd]
      refine k _ _ (by omega) (fun q o hq ho => ?_) ⟨cells, pl, _, upd_same, ?_, h3, h4, h5, h6⟩
      · rw [upd_ne hq]
        exact same_new htt _ _ (sb q o hq ho)
      · have hc0 := same_new (o := .tup [.int (lf % (m : Int)), .int (lf / (m : Int))]) htt _ _ h2
        rw [upd_ne (ne_of hc0 ht1 (by intro z; cases z))]
        exact hc0
end
end Rd
/-! pick, shuffled, gcd, gcd_all, pair -/
namespace Rd
open PySem PySem.Spec L2
open PyProof.Rows hiding St
def spPick (K : PySem.W.Frag) : Sp := fun vs H Q _ => ∃ t c n x, vs = [.ref t, x] ∧ TpAt H t c n ∧ n < 1000000 ∧ ((∃ a xs, x = .ref a ∧ H a = some (.lst xs) ∧ xs ≠ [] ∧ xs.length ≤ 1000 ∧ ∀ H' y, y ∈ xs → SameBut t H H' → TpAt H' t c (n + 1) → Q y H') ∨
  ∃ z : Str, x = .str z ∧ 0 < z.length ∧ z.length ≤ 1000 ∧ ∀ H' y, y ∈ z.cps.toList → SameBut t H H' → TpAt H' t c (n + 1) → Q (.str ⟨#[y]⟩) H')
def spShuf (K : PySem.W.Frag) : Sp := fun vs H Q _ => ∃ t c n a, ∃ xs : List Str, vs = [.ref t, .ref a] ∧ TpAt H t c n ∧ n < 900000 ∧ H a = some (.lst (xs.map V.str)) ∧ xs.length ≤ 26 ∧ (∀ x ∈ xs, IsNm x) ∧
  ∀ H' q (ys : List Str), SameBut t H H' → TpAt H' t c (n + 26) → H q = none → H' q = some (.lst (ys.map V.str)) → ys.Perm xs → Q (.ref q) H'
def spPairF : Sp := fun vs H Q _ => ∃ a b : Str, vs = [.str a, .str b] ∧ ∀ t, H t = none → ∀ o : Obj, o.dict = none → Q (.ref t) (upd H t (.frz o (.tup (pvs (pr a b)))))
def spGcd : Sp := fun vs H Q _ => ∃ a b : Nat, vs = [.int a, .int b] ∧ Q (.int (Nat.gcd a b : Nat)) H
def spGcdAll (K : PySem.W.Frag) : Sp := fun vs H Q _ => ∃ l, ∃ ns : List Nat, vs = [.ref l] ∧ H l = some (.lst (ns.map fun (n : Nat) => V.int n)) ∧ Q (.int (ns.foldl Nat.gcd 0 : Nat)) H
section
variable {P : Program} {w : World} {K : PySem.W.Frag} {mg : Str → Option Value} {base : Heap}
theorem ok_l_pick (T : Txt K mg) : FnOk P w K mg base CX0 2 (a_l_pick K) (d_l_pick K) P_l_pick (spPick K) := by
  have nd := sc_l_pick.nd
  refine ok0 T.f_l_pick sc_l_pick (fun vs H Q E h => ?_) (fun cdv A outer s H vs Q E hr h => ?_)
  · obtain ⟨t, c, n, x, rfl, _⟩ := h
    rfl
  · obtain ⟨t, c, n, x, rfl, ht, hn, h⟩ := h
    have hu := hu_of hr
    refine ⟨_, (pss_one (ps_ret (pe_ix ix_seq (pv 1) (pe_call (ok_l_draw T) (hr.mono (by decide)) (by rfl) T.g_l_draw T.f_l_draw.kp T.b_l_draw .nil pass0 (pa_cons (pv 0) (pa_cons (pe_callB call_len (by rfl) T.n_len PySem.boot_len (pa_cons (pv 1) pa_nil)) pa_nil))) (fun _ _ => rfl)))), ?_⟩
    rcases h with ⟨a, xs, rfl, ha, h1, h2, k⟩ | ⟨z, rfl, h1, h2, k⟩
    · have h0 : 0 < xs.length := List.length_pos_iff.mpr h1
      refine ⟨_, rfl, _, rfl, _, rfl, _, _, rfl, .inl ⟨_, SqL.of ha, rfl⟩, t, c, n, xs.length, rfl, ht, hn, h0, h2, fun H' d hd sb tp => ?_⟩
      obtain ⟨cells, pl, lf, h3, _⟩ := ht
      have hat : a ≠ t := ne_of ha h3 (by intro z; cases z)
      exact .inl ⟨a, _, _, xs[d], rfl, rfl, SqL.of (sb _ _ hat ha), atI_nat (by simp [hd]), k H' _ (List.getElem_mem hd) sb tp⟩
    · refine ⟨_, rfl, _, rfl, _, rfl, _, _, rfl, ⟨szK (by omega), rfl⟩, t, c, n, z.length, rfl, ht, hn, h1, h2, fun H' d hd sb tp => ?_⟩
      have hd' : d < z.cps.toList.length := by
        rw [Array.length_toList]
        exact hd
      exact .inr (.inr ⟨z, _, z.cps.toList[d], rfl, rfl, szK (by omega), atI_nat (by simp [hd']), k H' _ (List.getElem_mem hd') sb tp⟩)
theorem ok_l_gcd (T : Txt K mg) : FnOk P w K mg base CX0 1 (a_l_gcd K) (d_l_gcd K) P_l_gcd spGcd := by
  have nd := sc_l_gcd.nd
  refine ok0 T.f_l_gcd sc_l_gcd (fun vs H Q E h => ?_) (fun cdv A outer s H vs Q E hr h => ?_)
  · obtain ⟨a, b, rfl, _⟩ := h
    rfl
  · obtain ⟨a, b, rfl, k⟩ := h
    refine ⟨_, (pss_cons (ps_while PassesOwn.never (pt_cmpR op_ne (pv 1) pe_int (nomark _)) (pss_one (ps_par (i := 0) (j := 1) (by rfl) nd rfl rfl (by decide) rfl rfl (pa_cons (pv 1) (pa_cons (pe_op op_mod (pe_callTy call_int1 (by rfl) T.n_int (by decide +kernel) (pa_cons (pv 0) pa_nil)) (pv 1)) pa_nil)) (by rfl)))) (pss_one (ps_ret (pv 0)))), ?_⟩
    refine ⟨fun m σ H' => H' = H ∧ ∃ a' b' : Nat, σ = [some (.int a'), some (.int b')] ∧ Nat.gcd a' b' = Nat.gcd a b ∧ m = b', ⟨_, rfl, a, b, rfl, rfl, rfl⟩, ?_⟩
    rintro b' σ H' ⟨rfl, a', b'', rfl, hg, hbb⟩
    subst hbb
    refine ⟨_, rfl, rfl, _, rfl, ?_⟩
    by_cases hb : b' = 0
    · subst hb
      refine iteNS rfl ?_
      rw [Nat.gcd_zero_right] at hg
      rw [← hg] at k
      exact ⟨_, rfl, k⟩
    · refine iteN (by intro z; injection z with z; omega) ?_
      refine ⟨fun σ' H'' => _, fun σ' H'' h => ⟨a' % b', Nat.mod_lt _ (by omega), h⟩, ?_⟩
      refine ⟨_, rfl, _, rfl, .inl ⟨_, rfl, _, rfl, _, _, rfl, rfl, by omega, ?_⟩⟩
      refine ⟨_, _, rfl, ?_⟩
      refine ⟨rfl, b', a' % b', by rw [Int.natCast_emod] <;> rfl, ?_, rfl⟩
      rw [← hg, Nat.gcd_comm b', ← Nat.gcd_rec, Nat.gcd_comm]
theorem ok_l_gcd_all (T : Txt K mg) : FnOk P w K mg base CX0 2 (a_l_gcd_all K) (d_l_gcd_all K) P_l_gcd_all (spGcdAll K) := by
  have nd := sc_l_gcd_all.nd
  refine ok0 T.f_l_gcd_all sc_l_gcd_all (fun vs H Q E h => ?_) (fun cdv A outer s H vs Q E hr h => ?_)
  · obtain ⟨l, ns, rfl, _⟩ := h
    rfl
  · obtain ⟨l, ns, rfl, hl, k⟩ := h
    refine ⟨_, (pss_cons (ps_set (i := 1) nd rfl (Or.inl rfl) pe_int) (pss_cons (ps_for PassesOwn.never rfl (pi_list (pv 0)) (pg_name (i := 2) nd rfl (Or.inl rfl)) (pss_one (ps_set (i := 1) nd rfl (Or.inl rfl) (pe_call (ok_l_gcd T) (hr.mono (by decide)) (by rfl) T.g_l_gcd T.f_l_gcd.kp T.b_l_gcd .nil pass0 (pa_cons (pv 1) (pa_cons (pv 2) pa_nil)))))) (pss_one (ps_ret (pv 1))))), ?_⟩
    refine ⟨_, rfl, l, rfl, ⟨_, SqL.of hl⟩, ?_⟩
    refine for_it (walk_list (xs := ns.map fun (n : Nat) => V.int n)) (fun i σ H' => H' = H ∧ ∃ v, σ = [some (.ref l), some (.int ((ns.take i).foldl Nat.gcd 0 : Nat)), v]) ⟨rfl, _, rfl⟩ (fun i σ H' _ h => by rw [h.1]; exact SqL.of hl) ?_ ?_
    · rintro i x σ H' H'' hi ⟨rfl, v, rfl⟩ ⟨rfl, hx⟩
      rw [List.length_map] at hi
      obtain rfl : V.int (ns[i] : Nat) = x := by simpa [hi] using hx
      refine ⟨_, rfl, _, rfl, _, _, rfl, rfl, some (.int ns[i]), ?_⟩
      rw [List.take_add_one, List.getElem?_eq_getElem hi, List.foldl_append]
      rfl
    · rintro σ H' ⟨rfl, v, rfl⟩
      rw [List.length_map, List.take_of_length_le (Nat.le_refl _)]
      exact ⟨_, rfl, k⟩
theorem ok_l_pair (T : Txt K mg) : FnOk P w K mg base CX0 1 (a_l_pair K) (d_l_pair K) P_l_pair spPairF := by
  refine ok0 T.f_l_pair sc_l_pair (fun vs H Q E h => ?_) (fun cdv A outer s H vs Q E hr h => ?_)
  · obtain ⟨a, b, rfl, _⟩ := h
    rfl
  · obtain ⟨a, b, rfl, k⟩ := h
    refine ⟨_, (pss_one (ps_ret (pe_ifExp (pt_cmpR op_lt_str (pv 0) (pv 1) (nomark _)) (pe_tupF (pa_cons (pv 0) (pa_cons (pv 1) pa_nil))) (pe_tupF (pa_cons (pv 1) (pa_cons (pv 0) pa_nil)))))), ?_⟩
    refine ⟨_, rfl, _, rfl, _, _, rfl, rfl, _, rfl, ?_⟩
    by_cases h : ltS a b
    · refine iteD h ?_
      refine ⟨_, rfl, _, rfl, by show 2 ≤ sizeLine; decide, fun t ht o ho => ?_⟩
      have := k t ht o ho
      rw [show pr a b = (a, b) by unfold pr; rw [if_pos h]] at this
      exact this
    · refine iteDn h ?_
      refine ⟨_, rfl, _, rfl, by show 2 ≤ sizeLine; decide, fun t ht o ho => ?_⟩
      have := k t ht o ho
      rw [show pr a b = (b, a) by unfold pr; rw [if_neg h]] at this
      exact this
theorem map_erase {α β : Type} (f : α → β) : ∀ (l : List α) (i : Nat), (l.map f).eraseIdx i = (l.eraseIdx i).map f
  | [], _ => rfl
  | _ :: _, 0 => rfl
  | a :: l, i + 1 => by simp [List.eraseIdx_cons_succ, map_erase f l i]
theorem erase_perm {α : Type} : ∀ {l : List α} {i : Nat} (h : i < l.length), (l[i] :: l.eraseIdx i).Perm l
  | [], _, h => by simp at h
  | _ :: _, 0, _ => List.Perm.refl _
  | a :: l, i + 1, h => by
    have ih := erase_perm (l := l) (i := i) (by simpa using h)
    simp only [List.getElem_cons_succ, List.eraseIdx_cons_succ]
    exact (List.Perm.swap _ _ _).trans (List.Perm.cons a ih)
theorem dp_strs {K : PySem.W.Frag} {H : Hp} : ∀ xs : List Str, DpAll K H (xs.map V.str) (xs.map PyData.str)
  | [] => .nil
  | x :: xs => .cons (.str x) (dp_strs xs)
theorem shaped_strs {xs : List Str} (h : ∀ x ∈ xs, IsNm x) : SeqAt.shaped (.list (xs.map PyData.str)) = true := by
  have h1 : ∀ xs : List Str, (∀ x ∈ xs, IsNm x) → PyData.canLayAll0 (xs.map PyData.str) = true ∧ PyData.depthAll (xs.map PyData.str) = 0 := by
    intro xs
    induction xs with
    | nil => intro _; simp [PyData.canLayAll0, PyData.depthAll]
    | cons x xs ih =>
      intro h
      obtain ⟨i1, i2⟩ := ih fun y hy => h y (List.mem_cons_of_mem _ hy)
      simp [PyData.canLayAll0, PyData.depthAll, PyData.canLay0, PyData.depth, i1, i2, nm_ok (h x List.mem_cons_self)]
  obtain ⟨a, b⟩ := h1 xs h
  simp [SeqAt.shaped, PyData.canLay0, PyData.depth, a, b]
theorem ok_l_shuffled (T : Txt K mg) : FnOk P w K mg base CX0 2 (a_l_shuffled K) (d_l_shuffled K) P_l_shuffled (spShuf K) := by
  have nd := sc_l_shuffled.nd
  refine ok0 T.f_l_shuffled sc_l_shuffled (fun vs H Q E h => ?_) (fun cdv A outer s H vs Q E hr h => ?_)
  · obtain ⟨t, c, n, a, xs, rfl, _⟩ := h
    rfl
  · obtain ⟨t, c, n, a, xs, rfl, ht, hn, ha, hx, hnm, k⟩ := h
    refine ⟨_, (pss_cons (ps_par (i := 2) (j := 3) (by rfl) nd rfl rfl (by decide) rfl rfl (pa_cons (pe_callTy call_list_of (by rfl) T.n_list (by decide +kernel) (pa_cons (pv 1) pa_nil)) (pa_cons (pe_lst pa_nil) pa_nil)) (by rfl)) (pss_cons (ps_while PassesOwn.never (pt_cmpR (op_neD hr.units) (pv 2) (pe_lst pa_nil) (nomark _)) (pss_one (ps_expr (pe_bm PySem.F.plainAttrs_list PySem.F.slot_list_append PySem.F.type_list_append mt_append (pv 3) (pa_cons (pe_bm PySem.F.plainAttrs_list PySem.F.slot_list_pop PySem.F.type_list_pop mt_popAt (pv 2) (pa_cons (pe_call (ok_l_draw T) (hr.mono (by decide)) (by rfl) T.g_l_draw T.f_l_draw.kp T.b_l_draw .nil pass0 (pa_cons (pv 0) (pa_cons (pe_callB call_len (by rfl) T.n_len PySem.boot_len (pa_cons (pv 2) pa_nil)) pa_nil))) pa_nil)) pa_nil))))) (pss_one (ps_ret (pv 3))))), ?_⟩
    refine ⟨_, rfl, a, _, rfl, .inl (SqL.of ha), fun r hr0 => ?_⟩
    refine ⟨by show 0 ≤ sizeLine; omega, fun f hf => ?_⟩
    have rf : r ≠ f := ne_of_none upd_same hf
    have r1 : upd (upd H r (.lst (xs.map V.str))) f (.lst []) r = some (.lst (xs.map V.str)) := by rw [upd_ne rf, upd_same]
    have s1 : Same H (upd (upd H r (.lst (xs.map V.str))) f (.lst [])) := (same_new hr0).trans (same_new hf)
    have f0 : H f = none := (same_new hr0).free hf
    refine ⟨_, _, rfl, ?_⟩
    have tr : t ≠ r := by
      obtain ⟨cells, pl, lf, h1, _⟩ := ht
      exact ne_of_none h1 hr0
    have tf : t ≠ f := by
      obtain ⟨cells, pl, lf, h1, _⟩ := ht
      exact ne_of_none h1 f0
    refine ⟨fun m σ H' => ∃ ys zs : List Str, σ = [some (.ref t), some (.ref a), some (.ref r), some (.ref f)] ∧ SameBut t H H' ∧ H' r = some (.lst (ys.map V.str)) ∧ H' f = some (.lst (zs.map V.str)) ∧ (zs ++ ys).Perm xs ∧ TpAt H' t c (n + zs.length) ∧ m = ys.length, ⟨_, xs, [], rfl, SameBut.of s1, r1, upd_same, by simp, ht.same s1, rfl⟩, ?_⟩
    rintro m σ H' ⟨ys, zs, rfl, sb, hr', hf', hp, htp, hm⟩
    subst hm
    have hlen : zs.length + ys.length ≤ 26 := by
      have := hp.length_eq
      rw [List.length_append] at this
      omega
    refine ⟨_, rfl, by show 0 ≤ sizeLine; omega, fun e he => ?_⟩
    have re := same_new (o := .lst []) he _ _ hr'
    refine ⟨_, _, .lst (SqL.of re) (dp_strs ys), dp_nil upd_same, shaped_strs fun x hx => hnm x (hp.mem_iff.mp (List.mem_append.mpr (.inr hx))), shaped_nil, _, rfl, ?_⟩
    rw [eqv_nil]
    by_cases hy : ys = []
    · subst hy
      refine iteNS rfl ?_
      refine ⟨_, rfl, k _ f zs (sb.trans (SameBut.of (same_new he))) ((htp.same (same_new he)).mono (by omega)) f0 (same_new he _ _ hf') (by simpa using hp)⟩
    · refine iteN (by simpa using hy) ?_
      have hy0 : 0 < ys.length := List.length_pos_iff.mpr hy
      refine ⟨fun σ' H'' => _, fun σ' H'' h => ⟨ys.length - 1, by omega, h⟩, ?_⟩
      have fe := same_new (o := .lst []) he _ _ hf'
      refine ⟨_, rfl, .inl ⟨rfl, _, SqL.of fe⟩, _, rfl, .inl ⟨rfl, _, SqL.of re⟩, _, rfl, _, rfl, _, _, rfl, .inl ⟨_, SqL.of re, rfl⟩, t, c, n + zs.length, ys.length, by rw [List.length_map]; rfl, htp.same (same_new he), by omega, hy0, by omega, fun H1 d hd sb1 tp1 => ?_⟩
      have r2 := sb1 _ _ tr.symm re
      have f2 := sb1 _ _ tf.symm fe
      have hsi : seqIndex? (d : Int) (ys.map V.str).length = some d := by
        rw [List.length_map]
        unfold seqIndex?
        have h1 : ¬ ((d : Int) < 0) := by omega
        simp [h1, hd]
      refine ⟨r, _, _, d, V.str ys[d], rfl, rfl, r2, by omega, by omega, hsi, by simp [hd], ?_⟩
      have f3 : upd H1 r (.lst ((ys.map V.str).eraseIdx d)) f = some (.lst (zs.map V.str)) := by rw [upd_ne rf.symm]; exact f2
      refine ⟨f, _, _, rfl, rfl, f3, szL (by rw [List.length_map]; omega), ?_⟩
      have r0 : H r = none := hr0
      refine ⟨ys.eraseIdx d, zs ++ [ys[d]], rfl, fun q o hq ho => ?_, ?_, by rw [upd_same, List.map_append] <;> rfl, ?_, ?_, by rw [List.length_eraseIdx, if_pos hd]⟩
      · rw [upd_ne (fun z => by rw [z, f0] at ho; cases ho), upd_ne (fun z => by rw [z, r0] at ho; cases ho)]
        exact sb1 q o hq (same_new he _ _ (sb q o hq ho))
      · rw [upd_ne rf, upd_same, map_erase]
      · refine List.Perm.trans ?_ hp
        rw [List.append_assoc]
        refine List.Perm.append_left zs ?_
        exact erase_perm hd
      · obtain ⟨cells, pl, lf, g1, g2, g3⟩ := tp1
        rw [List.length_append, List.length_singleton, ← Nat.add_assoc]
        have cr : c ≠ r ∧ c ≠ f := by
          obtain ⟨cells, pl, lf, _, h2, _⟩ := ht
          exact ⟨ne_of_none h2 hr0, ne_of_none h2 f0⟩
        refine ⟨cells, pl, lf, ?_, ?_, g3⟩
        · rw [upd_ne tf, upd_ne tr]
          exact g1
        · rw [upd_ne cr.2, upd_ne cr.1]
          exact g2
end
end Rd
/-! the law's names: plain -/
namespace Rd
open PySem PySem.Spec L2
open PyProof.Rows hiding St
def ofL (l : List Nat) : Str := ⟨l.toArray⟩
theorem ofL_toList (l : List Nat) : (ofL l).cps.toList = l := rfl
theorem ofL_len (l : List Nat) : (ofL l).length = l.length := by simp [ofL, Str.length]
theorem ofL_inj {a b : List Nat} (h : ofL a = ofL b) : a = b := by
  have := congrArg (fun s : Str => s.cps.toList) h
  simpa [ofL] using this
theorem str_ofL (s : Str) : s = ofL s.cps.toList := by
  cases s
  simp [ofL]
theorem ofL_append (a b : List Nat) : ofL a ++ ofL b = ofL (a ++ b) := by
  show (⟨(ofL a).cps ++ (ofL b).cps⟩ : Str) = _
  simp [ofL]
abbrev LET : List Nat := LETS.cps.toList
theorem isNm_ofL {l : List Nat} (h1 : 1 ≤ l.length) (h8 : l.length ≤ 8) (h : ∀ c ∈ l, c ∈ LET) : IsNm (ofL l) := ⟨by rw [ofL_len]; exact h1, by rw [ofL_len]; exact h8, fun c hc => h c (by rw [ofL_toList] at hc; exact hc)⟩
def name1 (b : List Nat) (at_ : Nat) (c : Nat) : List Nat := b.take at_ ++ [c] ++ b.drop (at_ + 1)
theorem name1_len {b : List Nat} {at_ c : Nat} (h : at_ < b.length) : (name1 b at_ c).length = b.length := by
  simp [name1]
  omega
theorem name1_get {b : List Nat} {at_ c : Nat} (h : at_ < b.length) : (name1 b at_ c)[at_]? = some c := by
  unfold name1
  rw [List.append_assoc, List.getElem?_append_right (by rw [List.length_take]; omega), List.length_take, Nat.min_eq_left (by omega), Nat.sub_self]
  rfl
theorem name1_let {b : List Nat} {at_ c : Nat} (hb : ∀ x ∈ b, x ∈ LET) (hc : c ∈ LET) : ∀ x ∈ name1 b at_ c, x ∈ LET := fun x hx => by
  unfold name1 at hx
  rcases List.mem_append.mp hx with h | h
  · rcases List.mem_append.mp h with h | h
    · exact hb x (List.mem_of_mem_take h)
    · rw [List.mem_singleton.mp h]
      exact hc
  · exact hb x (List.mem_of_mem_drop h)
def STEPS : List Nat := [1, 3, 5, 7, 9, 11, 15, 17]
theorem step_inj : ∀ s ∈ STEPS, ∀ k < 26, ∀ k' < 26, (s * k) % 26 = (s * k') % 26 → k = k' := by decide +kernel
theorem letter_inj {f s k k' : Nat} (hs : s ∈ STEPS) (hk : k < 26) (hk' : k' < 26) (h : (f + s * k) % 26 = (f + s * k') % 26) : k = k' := by
  refine step_inj s hs k hk k' hk' ?_
  omega
theorem let_len : LET.length = 26 := by decide +kernel
theorem let_nd : LET.Nodup := by decide +kernel
/-- the k-th letter -/
def letter (f s k : Nat) : Nat := LET.getD ((f + s * k) % 26) 0
theorem letter_mem (f s k : Nat) : letter f s k ∈ LET := by
  unfold letter
  have h : (f + s * k) % 26 < LET.length := by rw [let_len]; omega
  rw [List.getD_eq_getElem?_getD, List.getElem?_eq_getElem h]
  exact List.getElem_mem h
theorem letter_ne {f s k k' : Nat} (hs : s ∈ STEPS) (hk : k < 26) (hk' : k' < 26) (h : letter f s k = letter f s k') : k = k' := by
  refine letter_inj (f := f) hs hk hk' ?_
  unfold letter at h
  have h1 : (f + s * k) % 26 < LET.length := by rw [let_len]; omega
  have h2 : (f + s * k') % 26 < LET.length := by rw [let_len]; omega
  rw [List.getD_eq_getElem?_getD, List.getElem?_eq_getElem h1, List.getD_eq_getElem?_getD, List.getElem?_eq_getElem h2] at h
  have h' := Option.some.inj (show some LET[(f + s * k) % 26] = some LET[(f + s * k') % 26] from by simpa using h)
  rw [← idx_get let_nd h1, ← idx_get let_nd h2, h']
/-- the names while they are made -/
def nms (b : List Nat) (at_ f s m : Nat) : List Str := (List.range m).map fun k => ofL (name1 b at_ (letter f s k))
theorem nms_nd {b : List Nat} {at_ f s m : Nat} (hb : at_ < b.length) (hs : s ∈ STEPS) (hm : m ≤ 26) : (nms b at_ f s m).Nodup := by
  unfold nms
  refine List.pairwise_map.mpr ?_
  refine List.Pairwise.imp_of_mem (R := fun a b => a ≠ b) ?_ List.nodup_range
  intro k k' hk hk' hne h
  have h1 := List.mem_range.mp hk
  have h2 := List.mem_range.mp hk'
  have h3 := ofL_inj h
  have h4 := congrArg (fun l : List Nat => l[at_]?) h3
  simp only [name1_get hb] at h4
  exact hne (letter_ne hs (by omega) (by omega) (Option.some.inj h4))
theorem nms_len (b : List Nat) (at_ f s m : Nat) : (nms b at_ f s m).length = m := by simp [nms]
theorem nms_nm {b : List Nat} {at_ f s m : Nat} (hb : at_ < b.length) (h1 : b.length ≤ 8) (hl : ∀ x ∈ b, x ∈ LET) : ∀ y ∈ nms b at_ f s m, IsNm y ∧ y.length = b.length := fun y hy => by
  obtain ⟨k, _, rfl⟩ := List.mem_map.mp hy
  refine ⟨isNm_ofL ?_ ?_ (name1_let hl (letter_mem _ _ _)), ?_⟩
  · rw [name1_len hb]
    omega
  · rw [name1_len hb]
    exact h1
  · rw [ofL_len, name1_len hb]
/-- one of them the beginning of the others -/
theorem set_nd' {ys : List Str} {d : Nat} {z : Str} (nd : ys.Nodup) (hz : z ∉ ys) : (ys.set d z).Nodup := by
  induction ys generalizing d with
  | nil => simp
  | cons y ys ih =>
    obtain ⟨h1, h2⟩ := List.nodup_cons.mp nd
    cases d with
    | zero => 
      rw [List.set_cons_zero]
      exact List.nodup_cons.mpr ⟨fun h => hz (List.mem_cons_of_mem _ h), h2⟩
    | succ d =>
      rw [List.set_cons_succ]
      refine List.nodup_cons.mpr ⟨fun h => ?_, ih h2 fun h => hz (List.mem_cons_of_mem _ h)⟩
      rcases List.mem_or_eq_of_mem_set h with a | a
      · exact h1 a
      · exact hz (by rw [← a]; exact List.mem_cons_self)
theorem glue_one : ∀ (cs : List Nat) (acc : List Nat), (cs.map fun c => ofL [c]).foldl (fun (acc : Array Nat) (p : Str) => acc ++ (Str.ofString "").cps ++ p.cps) acc.toArray = (acc ++ cs).toArray
  | [], acc => by simp
  | c :: cs, acc => by
    rw [List.map_cons, List.foldl_cons]
    have h : acc.toArray ++ (Str.ofString "").cps ++ (ofL [c]).cps = (acc ++ [c]).toArray := by
      rw [show (Str.ofString "").cps = #[] from by decide]
      simp [ofL]
    rw [h, glue_one cs (acc ++ [c]), List.append_assoc]
    rfl
theorem join_one (cs : List Nat) : Txt.join "" (cs.map fun c => ofL [c]) = ofL cs := by
  cases cs with
  | nil => rfl
  | cons c cs =>
    show (⟨((cs.map fun c => ofL [c])).foldl (fun (acc : Array Nat) (p : Str) => acc ++ (Str.ofString "").cps ++ p.cps) [c].toArray⟩ : Str) = _
    rw [glue_one cs [c]]
    rfl
theorem cutS_to (l : List Nat) (k : Nat) : cutS (ofL l) none (some (k : Int)) = ofL (l.take k) := by
  unfold cutS
  rw [HT.sIx_none, HT.sIx_nat, List.drop_zero, Nat.sub_zero, ofL_len, ofL_toList]
  by_cases h : k ≤ l.length
  · rw [Nat.min_eq_left h]
    rfl
  · rw [Nat.min_eq_right (by omega), List.take_of_length_le (Nat.le_refl _), List.take_of_length_le (by omega)]
    rfl
theorem cutS_from (l : List Nat) (k : Nat) : cutS (ofL l) (some (k : Int)) none = ofL (l.drop k) := by
  unfold cutS
  rw [HT.sIx_none, HT.sIx_nat, ofL_len, ofL_toList]
  by_cases h : k ≤ l.length
  · rw [Nat.min_eq_left h, List.take_of_length_le (by rw [List.length_drop]; omega)]
    rfl
  · rw [Nat.min_eq_right (by omega), Nat.sub_self, List.take_zero, List.drop_eq_nil_of_le (by omega)]
    rfl
end Rd
/-! names -/
namespace Rd
open PySem PySem.Spec L2
open PyProof.Rows hiding St
theorem TpAt.upd {H : Hp} {t c : Addr} {n : Nat} (h : TpAt H t c n) {D : Addr} {o : HO} (ht : t ≠ D) (hc : c ≠ D) : TpAt (upd H D o) t c n := by
  obtain ⟨cells, pl, lf, h1, h2, h3⟩ := h
  exact ⟨cells, pl, lf, by rw [upd_ne ht]; exact h1, by rw [upd_ne hc]; exact h2, h3⟩
theorem TpAt.ne {H : Hp} {t c : Addr} {n : Nat} (h : TpAt H t c n) {D : Addr} (hD : H D = none) : t ≠ D ∧ c ≠ D := by
  obtain ⟨cells, pl, lf, h1, h2, h3⟩ := h
  exact ⟨ne_of_none h1 hD, ne_of_none h2 hD⟩
def spNames : Sp := fun vs H Q _ => ∃ t c n, ∃ m : Nat, vs = [.ref t, .int m] ∧ TpAt H t c n ∧ n < 900000 ∧ 1 ≤ m ∧ m ≤ 26 ∧
  ∀ H' q (ys : List Str), SameBut t H H' → TpAt H' t c (n + 30) → H q = none → H' q = some (.lst (ys.map V.str)) → ys.length = m → ys.Nodup → (∀ y ∈ ys, IsNm y) → Q (.ref q) H'
section
variable {P : Program} {w : World} {K : PySem.W.Frag} {mg : Str → Option Value} {base : Heap}
theorem ok_l_names (T : Txt K mg) : FnOk P w K mg base CX0 3 (a_l_names K) (d_l_names K) P_l_names spNames := by
  have nd := sc_l_names.nd
  refine ok0 T.f_l_names sc_l_names (fun vs H Q E h => ?_) (fun cdv A outer s H vs Q E hr h => ?_)
  · obtain ⟨t, c, n, m, rfl, _⟩ := h
    rfl
  · obtain ⟨t, c, n, m, rfl, ht, hn, hm0, hm1, k⟩ := h
    refine ⟨_, (pss_cons (ps_set (i := 2) nd rfl (Or.inr rfl) pe_str) (pss_cons (ps_set (i := 3) nd rfl (Or.inl rfl) (pe_join pe_str (pe_lc (own := [("_law_k", 4)]) (g := (gName 4)) (tt := tYes) rfl nd (pi_range1 (by rfl) T.n_range (pa_cons (pe_op op_add pe_int (pe_call (ok_l_draw T) (hr.mono (by decide)) (by rfl) T.g_l_draw T.f_l_draw.kp T.b_l_draw .nil pass0 (pa_cons (pv 0) (pa_cons pe_int pa_nil)))) pa_nil)) (blkOk_by (own := [("_law_k", 4)]) (N := N_l_names) (sc := defScope s_l_names) (by decide +kernel)) (fun _ _ _ _ _ => (pg_name (i := 4) nd rfl (Or.inl rfl))) (fun _ _ _ _ _ => pts_nil) (fun _ _ _ _ _ => (pe_call (ok_l_pick T) (hr.mono (by decide)) (by rfl) T.g_l_pick T.f_l_pick.kp T.b_l_pick .nil pass0 (pa_cons (pv 0) (pa_cons (pv 2) pa_nil))))))) (pss_cons (ps_par3 (i := 5) (j := 6) (l := 7) (by rfl) nd rfl rfl rfl (by decide) (by decide) (by decide) rfl rfl rfl (pa_cons (pe_call (ok_l_draw T) (hr.mono (by decide)) (by rfl) T.g_l_draw T.f_l_draw.kp T.b_l_draw .nil pass0 (pa_cons (pv 0) (pa_cons (pe_callB call_len (by rfl) T.n_len PySem.boot_len (pa_cons (pv 3) pa_nil)) pa_nil))) (pa_cons (pe_call (ok_l_draw T) (hr.mono (by decide)) (by rfl) T.g_l_draw T.f_l_draw.kp T.b_l_draw .nil pass0 (pa_cons (pv 0) (pa_cons pe_int pa_nil))) (pa_cons (pe_call (ok_l_pick T) (hr.mono (by decide)) (by rfl) T.g_l_pick T.f_l_pick.kp T.b_l_pick .nil pass0 (pa_cons (pv 0) (pa_cons (pe_lst (pa_cons pe_int (pa_cons pe_int (pa_cons pe_int (pa_cons pe_int (pa_cons pe_int (pa_cons pe_int (pa_cons pe_int (pa_cons pe_int pa_nil))))))))) pa_nil))) pa_nil))) (by rfl)) (pss_cons (ps_set (i := 8) nd rfl (Or.inl rfl) (pe_lst pa_nil)) (pss_cons (ps_for PassesOwn.never rfl (pi_range1 (by rfl) T.n_range (pa_cons (pv 1) pa_nil)) (pg_name (i := 4) nd rfl (Or.inl rfl)) (pss_cons (ps_set (i := 9) nd rfl (Or.inl rfl) (pe_ix ix_str (pv 2) (pe_op op_mod (pe_callTy call_int1 (by rfl) T.n_int (by decide +kernel) (pa_cons (pe_op op_add (pv 6) (pe_op op_mul (pv 7) (pv 4))) pa_nil)) pe_int) (fun _ _ => rfl))) (pss_one (ps_expr (pe_bm PySem.F.plainAttrs_list PySem.F.slot_list_append PySem.F.type_list_append mt_append (pv 8) (pa_cons (pe_op op_add_str (pe_op op_add_str (pe_slice sl_str (pv 3) po_none (po_some (pv 5))) (pv 9)) (pe_slice sl_str (pv 3) (po_some (pe_op op_add (pv 5) pe_int)) po_none)) pa_nil)))))) (pss_mid (ps_if (PW.pt (pw_and (pt_cmpR op_gt (pv 5) pe_int (nomark _)) (pw_and (pt_cmpR op_gt (pv 1) pe_int (nomark _)) (pw_and1 (pt_cmpR op_eq (pe_call (ok_l_draw T) (hr.mono (by decide)) (by rfl) T.g_l_draw T.f_l_draw.kp T.b_l_draw .nil pass0 (pa_cons (pv 0) (pa_cons pe_int pa_nil))) pe_int (nomark _)))))) (pss_one (ps_asg (pe_slice sl_str (pv 3) po_none (po_some (pv 5))) (pg_sub (pv 8) (pe_call (ok_l_draw T) (hr.mono (by decide)) (by rfl) T.g_l_draw T.f_l_draw.kp T.b_l_draw .nil pass0 (pa_cons (pv 0) (pa_cons (pv 1) pa_nil))) set_list))) pss_nil) (pss_one (ps_ret (pv 8))))))))), ?_⟩
    refine ⟨⟨_, rfl⟩, ?_⟩
    refine ⟨_, rfl, t, c, n, 8, rfl, ht, by omega, by decide, by decide, fun H1 d hd sb1 tp1 => ?_⟩
    refine ⟨_, _, rfl, rfl, _, rfl, by omega, by omega, fun D hD => ?_⟩
    obtain ⟨tD, cD⟩ := tp1.ne hD
    have e1 : ((1 : Int) + ((d : Nat) : Int)).toNat = 1 + d := by omega
    rw [e1]
    refine lc_it (walk_range (lo := 0) (n := 1 + d)) (fun i H2 => (∀ q o, q ≠ t → q ≠ D → H1 q = some o → H2 q = some o) ∧ TpAt H2 t c (n + 1 + i) ∧ ∃ cs : List Nat, cs.length = i ∧ (∀ x ∈ cs, x ∈ LET) ∧ H2 D = some (.lst (cs.map fun x => V.str (ofL [x])))) ⟨fun q o _ hq ho => by rw [upd_ne hq]; exact ho, tp1.upd tD cD, [], rfl, (fun x h => by simp at h), upd_same⟩ (fun _ _ _ _ => trivial) ?_ ?_
    · rintro i x H2 H3 hi ⟨s2, tp2, cs, hc1, hc2, hc3⟩ ⟨rfl, rfl⟩
      refine ⟨rfl, _, rfl, _, rfl, t, c, n + 1 + i, _, rfl, tp2, by omega, .inr ⟨LETS, rfl, by decide, by decide, fun H4 y hy sb4 tp4 => ?_⟩⟩
      have d4 := sb4 _ _ tD.symm hc3
      refine ⟨_, d4, szL (by simp; omega), fun q o hq hq2 ho => ?_, tp4.upd tD cD, cs ++ [y], by simp [hc1], fun x hx => ?_, ?_⟩
      · rw [upd_ne hq2]
        exact sb4 q o hq (s2 q o hq hq2 ho)
      · rcases List.mem_append.mp hx with a | a
        · exact hc2 x a
        · rw [List.mem_singleton.mp a]
          exact hy
      · rw [upd_same, List.map_append]
        rfl
    rintro H2 ⟨s2, tp2, b, hb1, hb2, hb3⟩
    have hD0 : H D = none := by
      cases e : H D with
      | none => rfl
      | some o => rw [sb1 _ _ tD.symm e] at hD; cases hD
    have sb2 : SameBut t H H2 := fun q o hq ho => s2 q o hq (fun e => by rw [e, hD0] at ho; cases ho) (sb1 q o hq ho)
    refine ⟨"", D, b.map fun x => ofL [x], rfl, rfl, .inl (SqL.of (by rw [hb3, List.map_map] <;> rfl)), ?_, ?_⟩
    · have h1 : ((b.map fun x => ofL [x]).map (·.length)).sum = b.length := by
        clear hb3 hb2 hb1
        rw [List.map_map]
        induction b with
        | nil => rfl
        | cons x xs ih =>
          rw [List.map_cons, List.sum_cons, ih]
          simp only [Function.comp, ofL_len, List.length_cons, List.length_nil]
          omega
      rw [h1, List.length_map, show (Str.ofString "").length = 0 from by decide]
      omega
    rw [join_one]
    have hbl : 1 ≤ b.length ∧ b.length ≤ 8 := by omega
    refine ⟨_, rfl, _, rfl, _, b.length, rfl, ⟨szK (by rw [ofL_len]; omega), (ofL_len b).symm⟩, t, c, n + 1 + (1 + d), b.length, rfl, tp2, by omega, by omega, by omega, fun H3 at_ hat sb3 tp3 => ?_⟩
    refine ⟨_, rfl, t, c, _, 26, rfl, tp3, by omega, by decide, by decide, fun H4 f hf sb4 tp4 => ?_⟩
    refine ⟨_, rfl, by show 8 ≤ sizeLine; decide, fun p hp => ?_⟩
    refine ⟨t, c, _, _, rfl, tp4.same (same_new hp), by omega, .inl ⟨p, _, rfl, upd_same, by simp, by show 8 ≤ 1000; decide, fun H5 y hy sb5 tp5 => ?_⟩⟩
    obtain ⟨s, hs, rfl⟩ : ∃ s : Nat, s ∈ STEPS ∧ y = .int s := by
      simp only [List.mem_cons, List.not_mem_nil, or_false] at hy
      rcases hy with h | h | h | h | h | h | h | h
      · exact ⟨1, by decide, h⟩
      · exact ⟨3, by decide, h⟩
      · exact ⟨5, by decide, h⟩
      · exact ⟨7, by decide, h⟩
      · exact ⟨9, by decide, h⟩
      · exact ⟨11, by decide, h⟩
      · exact ⟨15, by decide, h⟩
      · exact ⟨17, by decide, h⟩
    have hs17 : s ≤ 17 := by
      have : ∀ s ∈ STEPS, s ≤ 17 := by decide
      exact this s hs
    refine ⟨_, _, _, rfl, ?_⟩
    have sb6 : SameBut t H H5 := sb2.trans (sb3.trans (sb4.trans ((SameBut.of (same_new hp)).trans sb5)))
    refine ⟨by show 0 ≤ sizeLine; omega, fun q hq => ?_⟩
    obtain ⟨tq, cq⟩ := tp5.ne hq
    have q0 : H q = none := by
      cases e : H q with
      | none => rfl
      | some o => rw [sb6 _ _ tq.symm e] at hq; cases hq
    refine ⟨_, rfl, ((m : Nat) : Int), rfl, by omega, by omega, ?_⟩
    rw [Int.toNat_natCast]
    refine for_it (walk_range (lo := 0) (n := m)) (fun i σ H6 => (∃ x4 x9, σ = [some (.ref t), some (.int m), some (.str LETS), some (.str (ofL b)), x4, some (.int (at_ : Nat)), some (.int (f : Nat)), some (.int (s : Nat)), some (.ref q), x9]) ∧ (∀ a o, a ≠ q → H5 a = some o → H6 a = some o) ∧ H6 q = some (.lst ((nms b at_ f s i).map V.str))) ⟨⟨_, _, rfl⟩, (fun a o ha ho => by rw [upd_ne ha]; exact ho), upd_same⟩ (fun _ _ _ _ _ => trivial) ?_ ?_
    · rintro i x σ H6 H7 hi ⟨⟨x4, x9, rfl⟩, s7, hq7⟩ ⟨rfl, rfl⟩
      have hie : ((f : Nat) : Int) + ((s : Nat) : Int) * (0 + ((i : Nat) : Int)) = ((f + s * i : Nat) : Int) := by
        rw [Int.zero_add, Int.natCast_add, Int.natCast_mul]
      have h26 : (f + s * i) % 26 < LET.length := by rw [let_len]; omega
      refine ⟨_, rfl, _, rfl, _, rfl, _, rfl, _, _, rfl, rfl, .inl ⟨by omega, by omega⟩, _, _, rfl, rfl, .inl ⟨_, rfl, _, _, rfl, rfl, (by show (0 : Int) < 26; decide), ?_⟩⟩
      refine ⟨LETS, _, LET[(f + s * i) % 26], rfl, rfl, by decide, ?_, ?_⟩
      · rw [hie, show ((f + s * i : Nat) : Int) % 26 = (((f + s * i) % 26 : Nat) : Int) by rw [Int.natCast_emod] <;> rfl]
        exact atI_nat (List.getElem?_eq_getElem h26)
      have hle : LET[(f + s * i) % 26] = letter f s i := by
        unfold letter
        rw [List.getD_eq_getElem?_getD, List.getElem?_eq_getElem h26]
        rfl
      refine ⟨_, rfl, .inl ⟨rfl, _, SqL.of hq7⟩, ?_⟩
      have c1 : cutS (ofL b) none (some (at_ : Int)) = ofL (b.take at_) := cutS_to b at_
      have c2 : cutS (ofL b) (some ((at_ : Int) + 1)) none = ofL (b.drop (at_ + 1)) := cutS_from b (at_ + 1)
      have hbz : (ofL b).length ≤ sizeLine := szK (by rw [ofL_len]; omega)
      have hl1 : (⟨#[LET[(f + s * i) % 26]]⟩ : Str) = ofL [letter f s i] := by rw [hle] <;> rfl
      have z1 : (cutS (ofL b) none (some (at_ : Int))).length + (⟨#[LET[(f + s * i) % 26]]⟩ : Str).length ≤ sizeLine := szK (by rw [c1, hl1, ofL_len, ofL_len, List.length_take]; simp; omega)
      refine ⟨_, rfl, _, rfl, _, rfl, _, rfl, hbz, _, rfl, _, _, rfl, rfl, z1, ?_⟩
      have z2 : (cutS (ofL b) none (some (at_ : Int)) ++ (⟨#[LET[(f + s * i) % 26]]⟩ : Str)).length + (cutS (ofL b) (some ((at_ : Int) + 1)) none).length ≤ sizeLine := szK (by rw [c1, hl1, ofL_append, c2, ofL_len, ofL_len]; simp; omega)
      have hname : (cutS (ofL b) none (some (at_ : Int)) ++ (⟨#[LET[(f + s * i) % 26]]⟩ : Str)) ++ cutS (ofL b) (some ((at_ : Int) + 1)) none = ofL (name1 b at_ (letter f s i)) := by
        rw [c1, hl1, ofL_append, c2, ofL_append]
        rfl
      refine ⟨_, rfl, _, rfl, _, _, rfl, rfl, _, rfl, _, rfl, hbz, _, _, rfl, rfl, z2, ?_⟩
      refine ⟨q, _, _, rfl, rfl, hq7, szL (by rw [List.length_map, nms_len]; omega), ?_⟩
      rw [hname]
      refine ⟨⟨_, _, rfl⟩, fun a o ha ho => by rw [upd_ne ha]; exact s7 a o ha ho, ?_⟩
      rw [upd_same]
      unfold nms
      rw [List.range_succ, List.map_append, List.map_append]
      rfl
    rintro σ H6 ⟨⟨x4, x9, rfl⟩, s7, hq7⟩
    have tp6 : TpAt H6 t c (n + 1 + (1 + d) + 1 + 1 + 1) := by
      obtain ⟨cells, pl, lf, h1, h2, h3⟩ := tp5
      exact ⟨cells, pl, lf, s7 _ _ tq h1, s7 _ _ cq h2, h3⟩
    have sb7 : SameBut t H H6 := fun a o ha ho => s7 a o (fun e => by rw [e, q0] at ho; cases ho) (sb6 a o ha ho)
    have nd0 := nms_nd (b := b) (at_ := at_) (f := f) (s := s) (m := m) hat hs hm1
    have nm0 := nms_nm (b := b) (at_ := at_) (f := f) (s := s) (m := m) hat (by omega) hb2
    refine ⟨fun σ' H' => (∃ x4 x9, σ' = [some (.ref t), some (.int m), some (.str LETS), some (.str (ofL b)), x4, some (.int (at_ : Nat)), some (.int (f : Nat)), some (.int (s : Nat)), some (.ref q), x9]) ∧ SameBut t H H' ∧ TpAt H' t c (n + 30) ∧ ∃ ys : List Str, H' q = some (.lst (ys.map V.str)) ∧ ys.length = m ∧ ys.Nodup ∧ ∀ y ∈ ys, IsNm y, ?_, ?_⟩
    · have out : (∃ x4' x9', [some (V.ref t), some (V.int m), some (V.str LETS), some (V.str (ofL b)), x4, some (V.int (at_ : Nat)), some (V.int (f : Nat)), some (V.int (s : Nat)), some (V.ref q), x9] = [some (V.ref t), some (V.int m), some (V.str LETS), some (V.str (ofL b)), x4', some (V.int (at_ : Nat)), some (V.int (f : Nat)), some (V.int (s : Nat)), some (V.ref q), x9']) := ⟨_, _, rfl⟩
      refine ⟨_, rfl, _, _, rfl, rfl, _, rfl, ?_⟩
      by_cases ha0 : (0 : Int) < (at_ : Nat)
      · refine iteD ha0 ?_
        refine ⟨_, rfl, _, _, rfl, rfl, _, rfl, iteD (show (0 : Int) < (m : Nat) by omega) ?_⟩
        refine ⟨_, rfl, t, c, _, 3, rfl, tp6, by omega, by decide, by decide, fun H7 d7 hd7 sb8 tp8 => ?_⟩
        have q7 := sb8 _ _ tq.symm hq7
        refine ⟨rfl, _, rfl, ite2 (fun _ => ?_) (fun _ => ?_)⟩
        · refine ⟨_, rfl, _, rfl, _, rfl, _, rfl, szK (by rw [ofL_len]; omega), _, rfl, _, rfl, _, rfl, t, c, _, m, rfl, tp8, by omega, hm0, by omega, fun H8 d8 hd8 sb9 tp9 => ?_⟩
          have q8 := sb9 _ _ tq.symm q7
          refine ⟨q, _, _, d8, rfl, rfl, q8, ?_, ?_⟩
          · unfold ixN
            rw [List.length_map, nms_len]
            have h1 : (0 : Int) ≤ (d8 : Nat) := by omega
            have h2 : ((d8 : Nat) : Int) < (m : Nat) := by omega
            simp [hd8]
          · rw [show cutS (ofL b) none (some ((at_ : Nat) : Int)) = ofL (b.take at_) from cutS_to b at_]
            have hlt : (ofL (b.take at_)).length = at_ := by rw [ofL_len, List.length_take]; omega
            have hnot : ofL (b.take at_) ∉ nms b at_ f s m := fun h => by
              have := (nm0 _ h).2
              omega
            refine ⟨out, fun a o ha ho => ?_, (tp9.upd tq cq).mono (by omega), (nms b at_ f s m).set d8 (ofL (b.take at_)), ?_, ?_, set_nd' nd0 hnot, fun y hy => ?_⟩
            · rw [upd_ne (fun e => by rw [e, q0] at ho; cases ho)]
              exact sb9 a o ha (sb8 a o ha (sb7 a o ha ho))
            · rw [upd_same, List.map_set]
            · rw [List.length_set, nms_len]
            · rcases List.mem_or_eq_of_mem_set hy with a | a
              · exact (nm0 y a).1
              · rw [a]
                exact isNm_ofL (by rw [List.length_take]; omega) (by rw [List.length_take]; omega) (fun x hx => hb2 x (List.mem_of_mem_take hx))
        · exact ⟨out, sb7.trans sb8, tp8.mono (by omega), _, q7, nms_len _ _ _ _ _, nd0, fun y hy => (nm0 y hy).1⟩
      · refine iteDn ha0 ?_
        exact ⟨out, sb7, tp6.mono (by omega), _, hq7, nms_len _ _ _ _ _, nd0, fun y hy => (nm0 y hy).1⟩
    · rintro σ' H' ⟨⟨x4, x9, rfl⟩, sbf, tpf, ys, hy1, hy2, hy3, hy4⟩
      exact ⟨_, rfl, k H' q ys sbf tpf q0 hy1 hy2 hy3 hy4⟩
end
end Rd
/-! drawn plans are connected: plain -/
namespace Rd
open PySem PySem.Spec L2
open PyProof.Rows hiding St
theorem str_ext {a b : Str} (h : a.cps.toList = b.cps.toList) : a = b := by
  rw [str_ofL a, str_ofL b, h]
theorem ltS_tri {a b : Str} (h : ¬ ltS a b) (ne : a ≠ b) : ltS b a := by
  unfold ltS at *
  have h1 : b.cps.toList ≤ a.cps.toList := List.not_lt.mp h
  rcases List.le_iff_lt_or_eq.mp h1 with q | q
  · exact q
  · exact absurd (str_ext q.symm) ne
theorem pr_or (a b : Str) : pr a b = (a, b) ∨ pr a b = (b, a) := by
  unfold pr
  by_cases h : ltS a b
  · rw [if_pos h]
    exact .inl rfl
  · rw [if_neg h]
    exact .inr rfl
theorem pr_lt {a b : Str} (h : a ≠ b) : ltS (pr a b).1 (pr a b).2 := by
  unfold pr
  by_cases q : ltS a b
  · rw [if_pos q]
    exact q
  · rw [if_neg q]
    exact ltS_tri q h
theorem pr_eq {a b c d : Str} (h : pr a b = pr c d) : (a = c ∧ b = d) ∨ (a = d ∧ b = c) := by
  rcases pr_or a b with e | e <;> rcases pr_or c d with f | f <;> rw [e, f] at h <;> injection h with h1 h2
  · exact .inl ⟨h1, h2⟩
  · exact .inr ⟨h1, h2⟩
  · exact .inr ⟨h2, h1⟩
  · exact .inl ⟨h2, h1⟩
def EdgeOk (ns : List Str) (p : Str × Str) : Prop := ∃ a b, a ∈ ns ∧ b ∈ ns ∧ a ≠ b ∧ p = pr a b
theorem EdgeOk.in_ {ns : List Str} {p : Str × Str} (h : EdgeOk ns p) : p.1 ∈ ns ∧ p.2 ∈ ns ∧ ltS p.1 p.2 := by
  obtain ⟨a, b, ha, hb, ne, rfl⟩ := h
  refine ⟨?_, ?_, pr_lt ne⟩ <;> rcases pr_or a b with e | e <;> rw [e] <;> assumption
theorem psOk_of {ns : List Str} {es : List (Str × Str)} (h : ∀ p ∈ es, EdgeOk ns p) (nd : es.Nodup) (hl : es.length ≤ 40) : PsOk ns es :=
  ⟨fun p hp => ⟨(h p hp).in_.1, (h p hp).in_.2.1⟩, fun p hp => (h p hp).in_.2.2, nd, hl⟩
theorem Conn.more {ns : List Str} {es es' : List (Str × Str)} (h : Conn ns es) (sub : ∀ p ∈ es, p ∈ es') : Conn ns es' := fun S hs hc => h S hs fun p hp => hc p (sub p hp)
/-- each name but the first is joined to one ahead of it -/
def TreeE (ns : List Str) (es : List (Str × Str)) : Prop := ∀ j, j < es.length → ∃ d, d < j + 1 ∧ es[j]? = some (pr (ns.getD (j + 1) "") (ns.getD d ""))
theorem getD_mem {ns : List Str} {i : Nat} (h : i < ns.length) : ns.getD i "" ∈ ns := by
  rw [List.getD_eq_getElem?_getD, List.getElem?_eq_getElem h]
  exact List.getElem_mem h
theorem getD_inj {ns : List Str} (nd : ns.Nodup) {i j : Nat} (hi : i < ns.length) (hj : j < ns.length) (h : ns.getD i "" = ns.getD j "") : i = j := by
  rw [List.getD_eq_getElem?_getD, List.getElem?_eq_getElem hi, List.getD_eq_getElem?_getD, List.getElem?_eq_getElem hj] at h
  have h' : ns[i] = ns[j] := h
  rw [← idx_get nd hi, ← idx_get nd hj, h']
theorem TreeE.edge {ns : List Str} {es : List (Str × Str)} (h : TreeE ns es) (nd : ns.Nodup) (hl : es.length + 1 ≤ ns.length) : ∀ p ∈ es, EdgeOk ns p := fun p hp => by
  obtain ⟨j, hj, rfl⟩ := List.getElem_of_mem hp
  obtain ⟨d, hd, he⟩ := h j hj
  rw [List.getElem?_eq_getElem hj] at he
  rw [Option.some.inj he]
  refine ⟨_, _, getD_mem (by omega), getD_mem (by omega), fun e => ?_, rfl⟩
  have := getD_inj nd (by omega) (by omega) e
  omega
theorem TreeE.nodup {ns : List Str} {es : List (Str × Str)} (h : TreeE ns es) (nd : ns.Nodup) (hl : es.length + 1 ≤ ns.length) : es.Nodup := by
  rw [List.Nodup, List.pairwise_iff_getElem]
  intro i j hi hj hij e
  obtain ⟨d, hd, he⟩ := h i hi
  obtain ⟨d', hd', he'⟩ := h j hj
  rw [List.getElem?_eq_getElem hi] at he
  rw [List.getElem?_eq_getElem hj] at he'
  have e2 := Option.some.inj he
  rw [e, Option.some.inj he'] at e2
  rcases pr_eq e2 with ⟨a, _⟩ | ⟨a, _⟩
  · have := getD_inj nd (by omega) (by omega) a
    omega
  · have := getD_inj nd (by omega) (by omega) a
    omega
theorem TreeE.conn {ns : List Str} {es : List (Str × Str)} (h : TreeE ns es) (hl : es.length + 1 = ns.length) : Conn ns es := by
  intro S ⟨r, hr, hS⟩ hc r' hr'
  have key : ∀ n i, i ≤ n → i < ns.length → (S (ns.getD i "") ↔ S (ns.getD 0 "")) := by
    intro n
    induction n with
    | zero =>
      intro i hi _
      rw [show i = 0 by omega]
    | succ n ih =>
      intro i hi hlt
      by_cases e : i ≤ n
      · exact ih i e hlt
      · obtain rfl : i = n + 1 := by omega
        obtain ⟨d, hd, he⟩ := h n (by omega)
        have hm : es[n]'(by omega) ∈ es := List.getElem_mem _
        rw [List.getElem?_eq_getElem (by omega)] at he
        have hcl := hc _ hm
        rw [Option.some.inj he] at hcl
        have hd' := ih d (by omega) (by omega)
        rcases pr_or (ns.getD (n + 1) "") (ns.getD d "") with q | q <;> rw [q] at hcl
        · exact hcl.trans hd'
        · exact hcl.symm.trans hd'
  have get : ∀ r ∈ ns, S r ↔ S (ns.getD 0 "") := fun r hr => by
    obtain ⟨i, hi, rfl⟩ := List.getElem_of_mem hr
    have := key i i (Nat.le_refl _) hi
    rw [List.getD_eq_getElem?_getD, List.getElem?_eq_getElem hi] at this
    exact this
  exact (get r' hr').mpr ((get r hr).mp hS)
theorem TreeE.snoc {ns : List Str} {es : List (Str × Str)} (h : TreeE ns es) {d : Nat} (hd : d < es.length + 1) : TreeE ns (es ++ [pr (ns.getD (es.length + 1) "") (ns.getD d "")]) := by
  intro j hj
  rw [List.length_append, List.length_singleton] at hj
  by_cases e : j < es.length
  · obtain ⟨d', h1, h2⟩ := h j e
    exact ⟨d', h1, by rw [List.getElem?_append_left e]; exact h2⟩
  · obtain rfl : j = es.length := by omega
    exact ⟨d, hd, by rw [List.getElem?_append_right (Nat.le_refl _), Nat.sub_self] <;> rfl⟩
/-- pairs of distinct keys, put one behind another -/
theorem merge_nd : ∀ {kvs acc : List (Key × V)}, (kvs.map (·.1)).Nodup → (∀ k ∈ kvs.map (·.1), k ∉ acc.map (·.1)) → mergeK acc kvs = acc ++ kvs
  | [], acc, _, _ => by simp [mergeK]
  | kv :: kvs, acc, nd, hd => by
    rw [List.map_cons] at nd
    obtain ⟨h1, h2⟩ := List.nodup_cons.mp nd
    have hn : valV acc kv.1 = none := by
      cases e : valV acc kv.1 with
      | none => rfl
      | some v => exact absurd (valV_in e) (hd _ (by simp))
    show mergeK (putK acc kv.1 kv.2) kvs = _
    rw [putK_new _ hn, merge_nd h2 fun k hk hk2 => ?_, List.append_assoc]
    · rfl
    · rw [List.map_append] at hk2
      rcases List.mem_append.mp hk2 with a | a
      · exact hd k (List.mem_cons_of_mem _ hk) a
      · simp at a
        rw [a] at hk
        exact h1 hk
end Rd
/-! drawn -/
namespace Rd
open PySem PySem.Spec L2
open PyProof.Rows hiding St
def spDrawn (K : PySem.W.Frag) : Sp := fun vs H Q _ => ∃ t c n sz, ∃ le mo mr : Nat, ∃ zs : List Nat, vs = [.ref t, .int le, .int mo, .int mr, .ref sz] ∧ TpAt H t c n ∧ n < 800000 ∧ 1 ≤ le ∧ le ≤ mo ∧ mo ≤ 5 ∧ mr ≤ 3 ∧ H sz = some (.lst (zs.map fun (z : Nat) => V.int z)) ∧ zs ≠ [] ∧ zs.length ≤ 10 ∧ (∀ z ∈ zs, 1 ≤ z ∧ z ≤ 3) ∧
  ∀ H' pt dp l ns z bs, SameBut t H H' → TpAt H' t c (n + 300) → H' pt = some (.tup [.ref dp, .ref l]) → H' dp = some (.dK (szKv ns z)) → PrsF K H' l bs → le ≤ ns.length → ns.length ≤ mo → SzOk ns z → (∀ r ∈ ns, z r ∈ zs) → PsOk ns (bs.map (·.2)) → Conn ns (bs.map (·.2)) → srtP (bs.map (·.2)) = bs.map (·.2) → Q (.ref pt) H'
theorem dp_pairsF {K : PySem.W.Frag} {H : Hp} : ∀ {bs : List (Addr × Str × Str)}, (∀ b ∈ bs, FzT H b.1 (pvs b.2)) → DpAll K H (bs.map fun b => V.ref b.1) (bs.map fun b => encP b.2)
  | [], _ => .nil
  | b :: bs, h => .cons (.tup (h b List.mem_cons_self).seq (.cons (.str _) (.cons (.str _) .nil))) (dp_pairsF fun q hq => h q (List.mem_cons_of_mem _ hq))
theorem fz_upd {H : Hp} {a b : Addr} {xs : List V} {o o' : HO} (h : FzT H a xs) (hb : H b = some o) (n : ∀ ob u, o ≠ .frz ob u) : FzT (upd H b o') a xs := by
  obtain ⟨ob, h1, h2⟩ := h
  exact ⟨ob, h1, by rw [upd_ne (ne_of h2 hb fun z => n _ _ z.symm)]; exact h2⟩
theorem paired_imp {α β : Type} {R S : α → β → Prop} : ∀ {as : List α} {bs : List β}, Paired R as bs → (∀ a b, b ∈ bs → R a b → S a b) → Paired S as bs
  | _, _, .nil, _ => .nil
  | _, _, .cons r t, h => .cons (h _ _ List.mem_cons_self r) (paired_imp t fun a b hb => h a b (List.mem_cons_of_mem _ hb))
theorem paired_map {α β γ : Type} {R : α → β → Prop} {S : α → γ → Prop} {f : β → γ} : ∀ {as : List α} {bs : List β}, Paired R as bs → (∀ a b, R a b → S a (f b)) → Paired S as (bs.map f)
  | _, _, .nil, _ => .nil
  | _, _, .cons r t, h => .cons (h _ _ r) (paired_map t h)
theorem any_encP (p : Str × Str) (es : List (Str × Str)) : ((es.map encP).any fun z => PyData.eqv z (encP p)) = decide (p ∈ es) := by
  induction es with
  | nil => rfl
  | cons e es ih =>
    rw [List.map_cons, List.any_cons, ih, eqv_encP]
    by_cases h : e = p
    · simp [h]
    · simp [h, Ne.symm h]
section
variable {P : Program} {w : World} {K : PySem.W.Frag} {mg : Str → Option Value} {base : Heap}
theorem ok_l_drawn (T : Txt K mg) : FnOk P w K mg base CX0 4 (a_l_drawn K) (d_l_drawn K) P_l_drawn (spDrawn K) := by
  have nd := sc_l_drawn.nd
  refine ok0 T.f_l_drawn sc_l_drawn (fun vs H Q E h => ?_) (fun cdv A outer s H vs Q E hr h => ?_)
  · obtain ⟨t, c, n, sz, le, mo, mr, zs, rfl, _⟩ := h
    rfl
  · obtain ⟨t, c, n, sz, le, mo, mr, zs, rfl, ht, hn, h1, h2, h3, h4, hsz, hz0, hz1, hz2, k⟩ := h
    refine ⟨_, (pss_cons (ps_set (i := 5) nd rfl (Or.inr rfl) (pe_call (ok_l_names T) (hr.mono (by decide)) (by rfl) T.g_l_names T.f_l_names.kp T.b_l_names .nil pass0 (pa_cons (pv 0) (pa_cons (pe_op op_add (pv 1) (pe_call (ok_l_draw T) (hr.mono (by decide)) (by rfl) T.g_l_draw T.f_l_draw.kp T.b_l_draw .nil pass0 (pa_cons (pv 0) (pa_cons (pe_op op_add (pe_op op_sub (pv 2) (pv 1)) pe_int) pa_nil)))) pa_nil)))) (pss_cons (ps_set (i := 6) nd rfl (Or.inl rfl) (pe_callTy (call_dictP rfl) (by rfl) T.n_dict (by decide +kernel) (pa_cons (pe_lc (own := [("_law_name", 7)]) (g := (gName 7)) (tt := tYes) rfl nd (pi_list (pv 5)) (blkOk_by (own := [("_law_name", 7)]) (N := N_l_drawn) (sc := defScope s_l_drawn) (by decide +kernel)) (fun _ _ _ _ _ => (pg_name (i := 7) nd rfl (Or.inl rfl))) (fun _ _ _ _ _ => pts_nil) (fun _ _ _ _ _ => (pe_tup (pa_cons (pv 7) (pa_cons (pe_call (ok_l_pick T) (hr.mono (by decide)) (by rfl) T.g_l_pick T.f_l_pick.kp T.b_l_pick .nil pass0 (pa_cons (pv 0) (pa_cons (pv 4) pa_nil))) pa_nil))))) pa_nil))) (pss_cons (ps_setLc (i := 8) (own := [("_law_k", 9)]) (g := (gName 9)) (tt := tYes) rfl nd rfl rfl (sw_true rfl rfl rfl (by decide +kernel)) (pi_range2 (by rfl) T.n_range (pa_cons pe_int (pa_cons (pe_callB call_len (by rfl) T.n_len PySem.boot_len (pa_cons (pv 5) pa_nil)) pa_nil))) (blkOk_by (own := [("_law_k", 9)]) (N := N_l_drawn) (sc := defScope s_l_drawn) (by decide +kernel)) (fun _ _ _ _ _ => (pg_name (i := 9) nd rfl (Or.inl rfl))) (fun _ _ _ _ _ => pts_nil) (fun _ _ _ _ _ => (pe_call (ok_l_pair T) (hr.mono (by decide)) (by rfl) T.g_l_pair T.f_l_pair.kp T.b_l_pair .nil pass0 (pa_cons (pe_ix (ix_listK K) (pv 5) (pv 9) (fun _ _ => rfl)) (pa_cons (pe_ix (ix_listK K) (pv 5) (pe_call (ok_l_draw T) (hr.mono (by decide)) (by rfl) T.g_l_draw T.f_l_draw.kp T.b_l_draw .nil pass0 (pa_cons (pv 0) (pa_cons (pv 9) pa_nil))) (fun _ _ => rfl)) pa_nil))))) (pss_cons (ps_for PassesOwn.never rfl (pi_range1 (by rfl) T.n_range (pa_cons (pe_op op_mul (pe_call (ok_l_draw T) (hr.mono (by decide)) (by rfl) T.g_l_draw T.f_l_draw.kp T.b_l_draw .nil pass0 (pa_cons (pv 0) (pa_cons (pe_op op_add (pv 3) pe_int) pa_nil))) (pe_callTy call_int1 (by rfl) T.n_int (by decide +kernel) (pa_cons (pe_cmpR op_gt (pe_callB call_len (by rfl) T.n_len PySem.boot_len (pa_cons (pv 5) pa_nil)) pe_int (nomark _)) pa_nil))) pa_nil)) (pg_name (i := 10) nd rfl (Or.inl rfl)) (pss_cons (ps_asg (pe_slice sl_list (pe_call (ok_l_shuffled T) (hr.mono (by decide)) (by rfl) T.g_l_shuffled T.f_l_shuffled.kp T.b_l_shuffled .nil pass0 (pa_cons (pv 0) (pa_cons (pv 5) pa_nil))) po_none (po_some pe_int)) (pg_two (by rfl) (pgs_cons (pg_name (i := 11) nd rfl (Or.inl rfl)) (pgs_cons (pg_name (i := 12) nd rfl (Or.inl rfl)) pgs_nil)))) (pss_one (ps_if (PW.pt (pw_and (pt_cmpR (op_notInD (u65 hr)) (pe_call (ok_l_pair T) (hr.mono (by decide)) (by rfl) T.g_l_pair T.f_l_pair.kp T.b_l_pair .nil pass0 (pa_cons (pv 11) (pa_cons (pv 12) pa_nil))) (pv 8) (by rfl)) (pw_and1 (pt_cmpR op_lt (pe_callB call_len (by rfl) T.n_len PySem.boot_len (pa_cons (pv 8) pa_nil)) pe_int (nomark _))))) (pss_one (ps_expr (pe_bm PySem.F.plainAttrs_list PySem.F.slot_list_append PySem.F.type_list_append mt_append (pv 8) (pa_cons (pe_call (ok_l_pair T) (hr.mono (by decide)) (by rfl) T.g_l_pair T.f_l_pair.kp T.b_l_pair .nil pass0 (pa_cons (pv 11) (pa_cons (pv 12) pa_nil))) pa_nil)))) pss_nil)))) (pss_one (ps_ret (pe_tup (pa_cons (pv 6) (pa_cons (pe_callB (cr_srtP hr.units) (by rfl) T.n_sorted (by decide +kernel) (pa_cons (pv 8) pa_nil)) pa_nil))))))))), ?_⟩
    refine ⟨_, rfl, _, rfl, _, rfl, _, rfl, _, rfl, _, _, rfl, rfl, _, _, rfl, rfl, ?_⟩
    have em : ((mo : Nat) : Int) - ((le : Nat) : Int) + 1 = ((mo - le + 1 : Nat) : Int) := by omega
    refine ⟨t, c, n, mo - le + 1, congrArg (fun i => [V.ref t, V.int i]) em, ht, by omega, by omega, by omega, fun H1 d1 hd1 sb1 tp1 => ?_⟩
    refine ⟨_, _, rfl, rfl, ?_⟩
    have em2 : ((le : Nat) : Int) + ((d1 : Nat) : Int) = ((le + d1 : Nat) : Int) := by omega
    refine ⟨t, c, n + 1, le + d1, congrArg (fun i => [V.ref t, V.int i]) em2, tp1, by omega, by omega, by omega, fun H2 q ns sb2 tp2 hq0 hq hln hnd hnm => ?_⟩
    have hst : sz ≠ t := by
      obtain ⟨cells, pl, lf, g1, _⟩ := ht
      exact ne_of hsz g1 (by intro z; cases z)
    have hsz2 := sb2 _ _ hst (sb1 _ _ hst hsz)
    refine ⟨_, rfl, q, rfl, ⟨_, SqL.of hq⟩, fun D hD => ?_⟩
    obtain ⟨tD, cD⟩ := tp2.ne hD
    refine lc_it (walk_list (xs := ns.map V.str)) (fun i H3 => (∀ a o, a ≠ t → a ≠ D → H2 a = some o → H3 a = some o) ∧ TpAt H3 t c (n + 1 + 30 + i) ∧ ∃ (ps : List Addr) (z : Str → Nat), H3 D = some (.lst (ps.map V.ref)) ∧ Paired (fun p r => H3 p = some (.tup [.str r, .int (z r : Nat)])) ps (ns.take i) ∧ ∀ r ∈ ns.take i, z r ∈ zs) ⟨fun a o _ ha ho => by rw [upd_ne ha]; exact ho, tp2.upd tD cD, [], fun _ => 0, upd_same, .nil, fun r hr => by simp at hr⟩ (fun i H3 _ h => ?_) ?_ ?_
    · have tq : q ≠ t := by
        obtain ⟨cells, pl, lf, g1, _⟩ := tp2
        exact ne_of hq g1 (by intro z; cases z)
      exact SqL.of (h.1 _ _ tq (ne_of_none hq hD) hq)
    · rintro i x H3 H4 hi ⟨s3, tp3, ps, z, hD3, hps, hzs⟩ ⟨rfl, hx⟩
      rw [List.length_map] at hi
      obtain rfl : V.str ns[i] = x := by simpa [hi] using hx
      have hsz3 := s3 _ _ hst (ne_of_none hsz2 hD) hsz2
      refine ⟨rfl, _, rfl, _, rfl, _, rfl, t, c, _, _, rfl, tp3, by omega, .inl ⟨sz, _, rfl, hsz3, by simpa using hz0, by rw [List.length_map]; omega, fun H5 y hy sb5 tp5 => ?_⟩⟩
      obtain ⟨zv, hzv, rfl⟩ := List.mem_map.mp hy
      refine ⟨by show 2 ≤ sizeLine; decide, fun p hp => ?_⟩
      have hD5 := sb5 _ _ tD.symm hD3
      have Dp' : D ≠ p := ne_of_none hD5 hp
      have hps5 : Paired (fun p r => H5 p = some (.tup [.str r, .int (z r : Nat)])) ps (ns.take i) := by
        refine paired_imp hps fun a r _ h => ?_
        refine sb5 _ _ ?_ h
        obtain ⟨cells, pl, lf, g1, _⟩ := tp3
        exact ne_of h g1 (by intro z; cases z)
      have hlenp : ps.length = i := by
        have := Paired.length hps
        rw [List.length_take] at this
        omega
      have hnew : ∀ r ∈ ns.take i, r ≠ ns[i] := fun r hr e => by
        have hnd' := hnd
        rw [← List.take_append_drop i ns, List.drop_eq_getElem_cons hi] at hnd'
        exact (List.nodup_append.mp hnd').2.2 _ hr _ List.mem_cons_self e
      have htk : ns.take (i + 1) = ns.take i ++ [ns[i]] := by
        rw [List.take_add_one, List.getElem?_eq_getElem hi]
        rfl
      refine ⟨_, by rw [upd_ne Dp']; exact hD5, szL (by rw [List.length_map]; omega), fun a o ha hb ho => ?_, (tp5.same (same_new hp)).upd tD cD, ps ++ [p], fun r => if r = ns[i] then zv else z r, by rw [upd_same, List.map_append] <;> rfl, ?_, fun r hr => ?_⟩
      · rw [upd_ne hb]
        exact same_new hp _ _ (sb5 _ _ ha (s3 a o ha hb ho))
      · rw [htk]
        refine Paired.snoc (paired_imp hps5 fun a r hr h => ?_) ?_
        · dsimp only
          rw [if_neg (hnew r hr), upd_ne (ne_of h hD5 (by intro z; cases z)), upd_ne (ne_of_none h hp)]
          exact h
        · dsimp only
          rw [if_pos rfl, upd_ne Dp'.symm, upd_same]
      · rw [htk] at hr
        dsimp only
        rcases List.mem_append.mp hr with a | a
        · rw [if_neg (hnew r a)]
          exact hzs r a
        · rw [if_pos (List.mem_singleton.mp a)]
          exact hzv
    rintro H3 ⟨s3, tp3, ps, z, hD3, hps, hzs⟩
    rw [List.length_map, List.take_of_length_le (Nat.le_refl _)] at hps hzs
    rw [List.length_map] at tp3
    have hkvs : Paired (fun p (kv : Key × V) => SqT K H3 p [kV kv.1, kv.2]) ps (szKv ns z) := paired_map hps fun a r h => SqT.of h
    refine ⟨D, ps, szKv ns z, rfl, SqL.of hD3, hkvs, fun dp hdp => ?_⟩
    rw [merge_nd (by rw [sz_keys]; exact List.Pairwise.map _ (fun a b (e : a ≠ b) (e2 : (Sum.inr a : Key) = Sum.inr b) => e (by injection e2)) hnd) (fun _ _ h => by simp at h), List.nil_append]
    have tq : q ≠ t := by
      obtain ⟨cells, pl, lf, g1, _⟩ := tp2
      exact ne_of hq g1 (by intro z; cases z)
    have hq3 := s3 _ _ tq (ne_of_none hq hD) hq
    obtain ⟨tdp, cdp⟩ := tp3.ne hdp
    have H0n : ∀ {a}, H3 a = none → H a = none := fun {a} ha => by
      cases e : H a with
      | none => rfl
      | some o =>
        by_cases et : a = t
        · subst et
          obtain ⟨cells, pl, lf, g1, _⟩ := tp3
          rw [g1] at ha
          cases ha
        · have e2 := sb2 _ _ et (sb1 _ _ et e)
          have := s3 _ _ et (ne_of_none e2 hD) e2
          rw [ha] at this
          cases this
    have sb3 : SameBut t H H3 := fun a o ha ho => by
      have e2 := sb2 _ _ ha (sb1 _ _ ha ho)
      exact s3 _ _ ha (ne_of_none e2 hD) e2
    have sb4 : SameBut t H (upd H3 dp (.dK (szKv ns z))) := sb3.trans (SameBut.of (same_new hdp))
    have tp4 := tp3.same (same_new (o := .dK (szKv ns z)) hdp)
    have hq4 := same_new (o := .dK (szKv ns z)) hdp _ _ hq3
    have hdp4 : upd H3 dp (.dK (szKv ns z)) dp = some (.dK (szKv ns z)) := upd_same
    have dp0 := H0n hdp
    generalize upd H3 dp (.dK (szKv ns z)) = H4 at sb4 tp4 hq4 hdp4
    have hn0 : 1 ≤ ns.length := by omega
    have hn5 : ns.length ≤ 5 := by omega
    refine ⟨_, rfl, _, ns.length, rfl, .inl ⟨_, SqL.of hq4, (List.length_map ..).symm⟩, ?_⟩
    refine ⟨1, (ns.length : Nat), rfl, ⟨by decide, by decide, by omega, by omega⟩, fun f hf => ?_⟩
    obtain ⟨tf, cf⟩ := tp4.ne hf
    have f0 : H f = none := by
      cases e : H f with
      | none => rfl
      | some o => rw [sb4 _ _ tf.symm e] at hf; cases hf
    have erange : (((ns.length : Nat) : Int) - 1).toNat = ns.length - 1 := by omega
    rw [erange]
    refine lc_it (walk_range (lo := 1) (n := ns.length - 1)) (fun i H5 => (∀ a o, a ≠ t → a ≠ f → H4 a = some o → H5 a = some o) ∧ TpAt H5 t c (n + 1 + 30 + ns.length + i) ∧ ∃ cs : List (Addr × Str × Str), PrsF K H5 f cs ∧ cs.length = i ∧ TreeE ns (cs.map (·.2))) ⟨fun a o _ ha ho => by rw [upd_ne ha]; exact ho, tp4.upd tf cf, [], ⟨upd_same, fun b h => by simp at h⟩, rfl, fun j h => by simp at h⟩ (fun _ _ _ _ => trivial) ?_ ?_
    · rintro i x H5 H6 hi ⟨s5, tp5, cs, hcs, hcl, htr⟩ ⟨rfl, rfl⟩
      have hq5 := s5 _ _ tq (ne_of_none hq4 hf) hq4
      have ei : (1 : Int) + ((i : Nat) : Int) = ((i + 1 : Nat) : Int) := by omega
      refine ⟨rfl, _, rfl, _, rfl, q, _, _, V.str (ns.getD (i + 1) ""), rfl, rfl, SqL.of hq5, ?_, ?_⟩
      · rw [ei]
        refine atI_nat ?_
        rw [List.getElem?_map, List.getD_eq_getElem?_getD, List.getElem?_eq_getElem (by omega)]
        rfl
      refine ⟨_, rfl, _, rfl, _, rfl, t, c, _, i + 1, congrArg (fun i => [V.ref t, V.int i]) ei, tp5, by omega, by omega, by omega, fun H7 d hd sb7 tp7 => ?_⟩
      have hq7 := sb7 _ _ tq hq5
      refine ⟨q, _, _, V.str (ns.getD d ""), rfl, rfl, SqL.of hq7, ?_, ?_⟩
      · refine atI_nat ?_
        rw [List.getElem?_map, List.getD_eq_getElem?_getD, List.getElem?_eq_getElem (by omega)]
        rfl
      refine ⟨_, _, rfl, fun p hp o ho => ?_⟩
      have hf7 := sb7 _ _ tf.symm hcs.lst
      have fp : f ≠ p := ne_of_none hf7 hp
      refine ⟨_, by rw [upd_ne fp]; exact hf7, szL (by rw [List.length_map]; omega), fun a o ha hb ho => ?_, (tp7.same (same_new hp)).upd tf cf, cs ++ [(p, pr (ns.getD (i + 1) "") (ns.getD d ""))], ⟨by rw [upd_same, List.map_append] <;> rfl, fun b hb => ?_⟩, by rw [List.length_append, hcl] <;> rfl, ?_⟩
      · rw [upd_ne hb]
        exact same_new hp _ _ (sb7 _ _ ha (s5 a o ha hb ho))
      · have hf8 : upd H7 p (.frz o (.tup (pvs (pr (ns.getD (i + 1) "") (ns.getD d ""))))) f = some (.lst (cs.map fun b => V.ref b.1)) := by rw [upd_ne fp]; exact hf7
        refine fz_upd ?_ hf8 (fun _ _ z => by cases z)
        rcases List.mem_append.mp hb with a | a
        · obtain ⟨ob, o1, o2⟩ := hcs.tup b a
          refine ⟨ob, o1, same_new hp _ _ (sb7 _ _ ?_ o2)⟩
          obtain ⟨cells, pl, lf, g1, _⟩ := tp5
          exact ne_of o2 g1 (by intro z; cases z)
        · rw [List.mem_singleton.mp a]
          exact ⟨o, ho, upd_same⟩
      · rw [List.map_append]
        have := htr.snoc (d := d) (by rw [List.length_map]; omega)
        rw [List.length_map, hcl] at this
        exact this
    rintro H5 ⟨s5, tp5, cs, hcs, hcl, htr⟩
    have hq5 := s5 _ _ tq (ne_of_none hq4 hf) hq4
    have hel : (cs.map (·.2)).length + 1 = ns.length := by rw [List.length_map]; omega
    have hdp5 := s5 _ _ tdp.symm (ne_of_none hdp4 hf) hdp4
    have sb5 : SameBut t H H5 := fun a o ha ho => s5 a o ha (fun e => by rw [e, f0] at ho; cases ho) (sb4 a o ha ho)
    refine ⟨_, rfl, _, rfl, _, _, rfl, rfl, t, c, _, mr + 1, congrArg (fun i => [V.ref t, V.int i]) (show ((mr : Nat) : Int) + 1 = ((mr + 1 : Nat) : Int) by omega), tp5, by omega, by omega, by omega, fun H6 dd hdd sb6 tp6 => ?_⟩
    have hq6 := sb6 _ _ tq hq5
    refine ⟨_, rfl, _, ns.length, rfl, .inl ⟨_, SqL.of hq6, (List.length_map ..).symm⟩, _, _, rfl, rfl, .inr ⟨_, rfl, ?_⟩⟩
    refine ⟨_, _, rfl, rfl, .inl ⟨by omega, by omega⟩, ?_⟩
    have hturns : ((dd : Nat) : Int) * (if decide ((2 : Int) < (ns.length : Nat)) = true then 1 else 0) = ((if 2 < ns.length then dd else 0 : Nat) : Int) := by
      by_cases hlt : 2 < ns.length
      · rw [if_pos hlt, decide_eq_true (show (2 : Int) < (ns.length : Nat) by omega)]
        simp
      · rw [if_neg hlt, decide_eq_false (show ¬ (2 : Int) < (ns.length : Nat) by omega)]
        simp
    have htn : (if 2 < ns.length then dd else 0) ≤ 3 := by split <;> omega
    refine ⟨((if 2 < ns.length then dd else 0 : Nat) : Int), congrArg (fun i => [V.int i]) hturns, by omega, by omega, ?_⟩
    rw [Int.toNat_natCast]
    have hcs6 : PrsF K H6 f cs := ⟨sb6 _ _ tf.symm hcs.lst, fun b hb => by
      obtain ⟨ob, o1, o2⟩ := hcs.tup b hb
      refine ⟨ob, o1, sb6 _ _ ?_ o2⟩
      obtain ⟨cells, pl, lf, g1, _⟩ := tp5
      exact ne_of o2 g1 (by intro z; cases z)⟩
    refine for_it (walk_range (lo := 0) (n := if 2 < ns.length then dd else 0)) (fun i σ H7 => (∃ v7 v9 v10 v11 v12, σ = [some (.ref t), some (.int le), some (.int mo), some (.int mr), some (.ref sz), some (.ref q), some (.ref dp), v7, some (.ref f), v9, v10, v11, v12]) ∧ (∀ a o, a ≠ t → a ≠ f → H6 a = some o → H7 a = some o) ∧ TpAt H7 t c (n + 1 + 30 + ns.length + (ns.length - 1) + 1 + 26 * i) ∧
      ∃ cs' : List (Addr × Str × Str), PrsF K H7 f cs' ∧ (∀ p ∈ cs'.map (·.2), EdgeOk ns p) ∧ (cs'.map (·.2)).Nodup ∧ cs'.length ≤ 4 + i ∧ ∀ p ∈ cs.map (·.2), p ∈ cs'.map (·.2)) ⟨⟨_, _, _, _, _, rfl⟩, fun a o _ _ h => h, tp6, cs, hcs6, htr.edge hnd (by omega), htr.nodup hnd (by omega), by omega, fun _ h => h⟩ (fun _ _ _ _ _ => trivial) ?_ ?_
    · rintro i x σ H7 H8 hi ⟨⟨v7, v9, v10, v11, v12, rfl⟩, s7, tp7, cs', hcs', hed, hnd', hl', hsub⟩ ⟨rfl, rfl⟩
      have h3n : 3 ≤ ns.length := by
        by_cases hlt : 2 < ns.length
        · omega
        · rw [if_neg hlt] at hi
          omega
      have hq7 := s7 _ _ tq (fun e => by rw [e] at hq4; rw [hf] at hq4; cases hq4) hq6
      refine ⟨_, rfl, _, rfl, t, c, _, q, ns, rfl, tp7, by omega, hq7, by omega, hnm, fun H9 q9 ys sb9 tp9 nq9 hq9 hperm => ?_⟩
      refine ⟨_, rfl, q9, _, rfl, SqL.of hq9, fun p9 hp9 => ?_⟩
      have hcut : cutV (ys.map V.str) none (some 2) = (ys.take 2).map V.str := by
        have := cut_to (ys.map V.str) 2
        rw [List.map_take]
        exact this
      rw [hcut]
      obtain ⟨y0, y1, yr, rfl⟩ : ∃ y0 y1 yr, ys = y0 :: y1 :: yr := by
        have := hperm.length_eq
        match ys, this with
        | y0 :: y1 :: yr, _ => exact ⟨y0, y1, yr, rfl⟩
        | [_], h => simp at h; omega
        | [], h => simp at h; omega
      have hy0 : y0 ∈ ns := hperm.mem_iff.mp (by simp)
      have hy1 : y1 ∈ ns := hperm.mem_iff.mp (by simp)
      have hyne : y0 ≠ y1 := by
        have := hperm.nodup_iff.mpr hnd
        rw [List.nodup_cons] at this
        intro e
        exact this.1 (by rw [e]; simp)
      have hE : EdgeOk ns (pr y0 y1) := ⟨y0, y1, hy0, hy1, hyne, rfl⟩
      have hnmp : IsNm (pr y0 y1).1 ∧ IsNm (pr y0 y1).2 := ⟨hnm _ hE.in_.1, hnm _ hE.in_.2.1⟩
      refine ⟨p9, _, _, rfl, SqL.of upd_same, _, _, rfl, _, _, rfl, rfl, ?_⟩
      have keepF : ∀ {H10 : Hp}, Same H9 H10 → PrsF K H10 f cs' := fun {H10} st => ⟨st _ _ (sb9 _ _ tf.symm hcs'.lst), fun b hb => by
        obtain ⟨ob, o1, o2⟩ := hcs'.tup b hb
        refine ⟨ob, o1, st _ _ (sb9 _ _ ?_ o2)⟩
        obtain ⟨cells, pl, lf, g1, _⟩ := tp7
        exact ne_of o2 g1 (by intro z; cases z)⟩
      have st9 : Same H9 (upd H9 p9 (.lst (((y0 :: y1 :: yr).take 2).map V.str))) := same_new hp9
      refine ⟨_, rfl, _, rfl, _, _, rfl, fun pa hpa oa hoa => ?_⟩
      have st10 : Same H9 (upd (upd H9 p9 (.lst (((y0 :: y1 :: yr).take 2).map V.str))) pa (.frz oa (.tup (pvs (pr y0 y1))))) := st9.trans (same_new hpa)
      have hcs10 := keepF st10
      have hpt10 : FzT (upd (upd H9 p9 (.lst (((y0 :: y1 :: yr).take 2).map V.str))) pa (.frz oa (.tup (pvs (pr y0 y1))))) pa (pvs (pr y0 y1)) := ⟨oa, hoa, upd_same⟩
      generalize upd (upd H9 p9 (.lst (((y0 :: y1 :: yr).take 2).map V.str))) pa (.frz oa (.tup (pvs (pr y0 y1)))) = H10 at st10 hcs10 hpt10
      have hmapE : cs'.map (fun b => encP b.2) = (cs'.map (·.2)).map encP := by simp
      refine ⟨_, rfl, encP (pr y0 y1), cs'.map fun b => encP b.2, .tup hpt10.seq (.cons (.str _) (.cons (.str _) .nil)), .lst (SqL.of hcs10.lst) (dp_pairsF hcs10.tup), shaped_pair hnmp, ?_, _, rfl, ?_⟩
      · rw [hmapE]
        exact shaped_pairs fun p hp => ⟨hnm _ (hed p hp).in_.1, hnm _ (hed p hp).in_.2.1⟩
      have out : ∀ {H' : Hp}, Same H9 H' → ∀ a o, a ≠ t → a ≠ f → H6 a = some o → H' a = some o := fun {H'} st a o ha hb ho => st _ _ (sb9 _ _ ha (s7 a o ha hb ho))
      rw [hmapE, any_encP]
      by_cases hin : pr y0 y1 ∈ cs'.map (·.2)
      · refine iteNS hin ?_
        exact ⟨⟨_, _, _, _, _, rfl⟩, out st10, (tp9.same st10).mono (by omega), cs', hcs10, hed, hnd', by omega, hsub⟩
      · refine iteN hin ?_
        refine ⟨_, rfl, _, cs'.length, rfl, .inl ⟨_, SqL.of hcs10.lst, (List.length_map ..).symm⟩, _, _, rfl, rfl, _, rfl, iteD (show ((cs'.length : Nat) : Int) < 40 by omega) ?_⟩
        refine ⟨_, rfl, .inl ⟨rfl, _, SqL.of hcs10.lst⟩, _, rfl, _, rfl, _, _, rfl, fun pb hpb ob hob => ?_⟩
        have fpb : f ≠ pb := ne_of_none hcs10.lst hpb
        have hf11 : upd H10 pb (.frz ob (.tup (pvs (pr y0 y1)))) f = some (.lst (cs'.map fun b => V.ref b.1)) := by rw [upd_ne fpb]; exact hcs10.lst
        refine ⟨f, _, _, rfl, rfl, hf11, szL (by rw [List.length_map]; omega), ?_⟩
        have st11 : Same H9 (upd H10 pb (.frz ob (.tup (pvs (pr y0 y1))))) := st10.trans (same_new hpb)
        refine ⟨⟨_, _, _, _, _, rfl⟩, fun a o ha hb ho => ?_, ((tp9.same st11).upd tf cf).mono (by omega), cs' ++ [(pb, pr y0 y1)], ⟨by rw [upd_same, List.map_append] <;> rfl, fun b hb => ?_⟩, ?_, ?_, by rw [List.length_append, List.length_singleton]; omega, fun p hp => ?_⟩
        · rw [upd_ne hb]
          exact out st11 a o ha hb ho
        · refine fz_upd ?_ hf11 (fun _ _ z => by cases z)
          rcases List.mem_append.mp hb with a | a
          · exact (hcs10.tup b a).same (same_new hpb)
          · rw [List.mem_singleton.mp a]
            exact ⟨ob, hob, upd_same⟩
        · intro p hp
          rw [List.map_append] at hp
          rcases List.mem_append.mp hp with a | a
          · exact hed p a
          · rw [List.mem_singleton.mp a]
            exact hE
        · rw [List.map_append]
          refine List.nodup_append.mpr ⟨hnd', by simp, fun a ha b hb e => ?_⟩
          simp at hb
          subst hb
          exact hin (by rw [← e]; exact ha)
        · rw [List.map_append]
          exact List.mem_append.mpr (.inl (hsub p hp))
    rintro σ H7 ⟨⟨v7, v9, v10, v11, v12, rfl⟩, s7, tp7, cs', hcs', hed, hnd', hl', hsub⟩
    refine ⟨_, rfl, _, rfl, f, cs', rfl, SqL.of hcs'.lst, fun b hb => (hcs'.tup b hb).seq, fun s8 hs8 => ?_⟩
    refine ⟨by show 2 ≤ sizeLine; decide, fun pt hpt => ?_⟩
    have st8 : Same H7 (upd (upd H7 s8 (.lst ((srtA cs').map fun b => V.ref b.1))) pt (.tup [.ref dp, .ref s8])) := (same_new hs8).trans (same_new hpt)
    have hdp7 : H7 dp = some (.dK (szKv ns z)) := s7 _ _ tdp.symm (fun e => by rw [e] at hdp4; rw [hf] at hdp4; cases hdp4) (sb6 _ _ tdp.symm hdp5)
    have esnd : (srtA cs').map (·.2) = srtP (cs'.map (·.2)) := srtA_snd cs'
    have hlen4 : (cs'.map (·.2)).length ≤ 40 := by rw [List.length_map]; omega
    have hedS : ∀ p ∈ srtP (cs'.map (·.2)), EdgeOk ns p := fun p hp => hed p ((srtP_perm _).mem_iff.mp hp)
    refine k _ pt dp s8 ns z (srtA cs') (fun a o ha ho => ?_) ((tp7.same st8).mono (by omega)) upd_same (st8 _ _ hdp7) ⟨same_new hpt _ _ upd_same, fun b hb => ((hcs'.tup b ((srtA_perm cs').mem_iff.mp hb)).same st8)⟩ (by omega) (by omega) ⟨hnd, hnm, fun r hr => (hz2 _ (hzs r hr)).1, fun r hr => by have := (hz2 _ (hzs r hr)).2; omega, fun e => by rw [e] at hn0; simp at hn0, hn5⟩ hzs ?_ ?_ ?_
    · exact st8 _ _ (s7 a o ha (fun e => by rw [e, f0] at ho; cases ho) (sb6 a o ha (sb5 a o ha ho)))
    · rw [esnd]
      exact psOk_of hedS ((srtP_perm _).nodup_iff.mpr hnd') (by rw [(srtP_perm _).length_eq]; exact hlen4)
    · rw [esnd]
      exact (htr.conn hel).more fun p hp => (srtP_perm _).mem_iff.mpr (hsub p hp)
    · rw [esnd]
      exact srtP_idem _
end
end Rd
/-! list(d.values()) -/
namespace Rd
open PySem PySem.Spec L2
open PyProof.Rows hiding St
theorem kv_vals : ∀ {kvs : List (Key × V)} {vs : List (Key × Value)}, KV kvs vs → Vals (kvs.map (·.2)) (vs.map (·.2))
  | _, _, .nil => .nil
  | _, _, .cons r t => .cons r.2 (kv_vals t)
def tLV (te : TE) : TE := fun σ H Q => te σ H fun x H1 => ∃ d kvs, x = .ref d ∧ H1 d = some (.dK kvs) ∧ ∀ p, H1 p = none → Q (.ref p) (upd H1 p (.lst (kvs.map (·.2))))
section
variable {X : Cx} {e : Expr} {te : TE} {p apos cpos pos : Pos}
theorem pe_listVals (hc : X.calm = true) (he : PE X e te) (hg : Gl X "list") (hm : X.mg "list" = none) (hv : bootBuiltins "list" = some (.type "list")) (hbase : attributeBase e "values" X.env (eval e X.env) = eval e X.env := by rfl) (hline : (apos.endLine == cpos.line) = true := by rfl)
    (hs : starEach [.Call (.Attribute e "values" apos) [] [] cpos] X.env = (false, eval (.Call (.Attribute e "values" apos) [] [] cpos) X.env) :: starEach [] X.env := by rfl) :
    PE X (.Call (.Name "list" p) [.Call (.Attribute e "values" apos) [] [] cpos] [] pos) (tLV te) := by
  refine ⟨fun pins s σ H Q I hq => ?_⟩
  refine wpAny_Call_Name_kw (ld_blt I hg hm hv ?_)
  refine PyProof.Rows.callWith_type1 ?_ hs rfl
  rw [hs]
  show wpAny _ _ (spliced ((false, eval (.Call (.Attribute e "values" apos) [] [] cpos) X.env) :: backTo pos (starEach [] X.env))) _ _ s
  refine Calls.spliced_cons ?_
  refine wpAny_Call_method (T := "dict") (id := "dict.values") hbase rfl hline F.plainAttrs_dict F.slot_dict_values F.type_dict_values (thn (he.run pins s σ H _ I hq) fun u s1 ⟨x, H1, I1, rx, d, kvs, ex, hd, q⟩ => ?_)
  subst ex
  obtain rfl : u = Value.ref d := rx
  obtain ⟨hz, hs0, vs, kv, hdo⟩ := I1.hok d _ hd
  obtain ⟨ep, hat⟩ := hdo.dictAt
  have lk : kvs.length = vs.length := Paired.length kv
  have I2 : Inv X pins σ H1 { s1 with heap := s1.heap.push { cls := .type "dict_values", data := .fields #[.ref d] } } := I1.kept (t' := s1.toks) fun b ob q => Heap.get?_push_of_some _ q
  refine ⟨hdo.typeIs, hdo.mapOf.noDict, ?_⟩
  show wpAny _ _ (callWith cpos (.builtin "dict.values") [.ref d] [] []) _ X.xe s1
  refine method_meetsIn F.slot_dict_values F.entry_dict_values rfl (PySem.evalArgs_none ⟨rfl, hdo.typeIs, F.args_dict_values_1 _, _, meets_dict_values (mixKind X.prog X.w) d hs0, ⟨vs, hdo⟩, ?_⟩)
  refine Calls.spliced_nil ?_
  refine PySem.W.kdl_call (PySem.W.kdl_values (knd := mixKind X.prog X.w) (kvs := vs) (ep := ep) (r := s1.heap.objs.size) (d := d)) (I1.ok.hd hc) ⟨⟨_, Heap.get?_push_size _ rfl, rfl, rfl⟩, hat.push _⟩ (by omega) fun h' tk acc c' hk hD hacc => ?_
  have ev : acc.toList = vs.map (·.2) := PySem.W.kdl_vals_eq acc.toList (by rw [Array.length_toList]; exact hacc.1) fun j v e => hacc.2 j v (by rw [← Array.getElem?_toList]; exact e)
  refine ⟨.ref _, _, I2.laid (t' := tk) (o := .lst (kvs.map (·.2))) hk (Nat.le_refl _) ⟨by rw [List.length_map]; exact hz, acc.toList, c', by rw [ev]; exact kv_vals kv, by rw [Array.toArray_toList]; exact hD⟩, rfl, q _ (I2.hok.fresh (Nat.le_refl _))⟩
end
end Rd
/-! built, near, sides_due -/
namespace Rd
open PySem PySem.Spec L2
open PyProof.Rows hiding St
/-- a plan of the law -/
structure LawPl (K : PySem.W.Frag) (H : Hp) (pt : Addr) (ns : List Str) (z : Str → Nat) (ps : List (Str × Str)) (dp l : Addr) (bs : List (Addr × Str × Str)) : Prop where
  tp : H pt = some (.tup [.ref dp, .ref l])
  sz : H dp = some (.dK (szKv ns z))
  prs : PrsF K H l bs
  eps : bs.map (·.2) = ps
  sok : SzOk ns z
  pok : PsOk ns ps
  con : Conn ns ps
theorem LawPl.same {K : PySem.W.Frag} {H H' : Hp} {pt : Addr} {ns : List Str} {z : Str → Nat} {ps : List (Str × Str)} {dp l : Addr} {bs : List (Addr × Str × Str)} (s : Same H H') (h : LawPl K H pt ns z ps dp l bs) : LawPl K H' pt ns z ps dp l bs :=
  ⟨s _ _ h.tp, s _ _ h.sz, h.prs.same s, h.eps, h.sok, h.pok, h.con⟩
def spBuilt (K : PySem.W.Frag) : Sp := fun vs H Q _ => ∃ pt ns z ps dp l bs, vs = [.ref pt] ∧ LawPl K H pt ns z ps dp l bs ∧ ∀ H' b, Same H H' → H b = none → BAt K H' b ⟨srtS ns, z, srtP ps⟩ → Q (.ref b) H'
def spNear (K : PySem.W.Frag) : Sp := fun vs H Q _ => ∃ pt ns z ps dp l bs r, vs = [.ref pt, .str r] ∧ LawPl K H pt ns z ps dp l bs ∧ ∀ H' q, Same H H' → H q = none → H' q = some (.lst ((srtS (nbl ps r)).map V.str)) → Q (.ref q) H'
section
variable {X : Cx}
theorem op_in_seqK (K : PySem.W.Frag) (h : X.K = K := by rfl) : OpR X (compareOp .In) (rIn K false) := by
  subst h
  exact op_in_seq
end
section
variable {P : Program} {w : World} {K : PySem.W.Frag} {mg : Str → Option Value} {base : Heap}
theorem ok_l_built (T : Txt K mg) : FnOk P w K mg base CX0 7 (a_l_built K) (d_l_built K) P_l_built (spBuilt K) := by
  have nd := sc_l_built.nd
  refine ok0 T.f_l_built sc_l_built (fun vs H Q E h => ?_) (fun cdv A outer s H vs Q E hr h => ?_)
  · obtain ⟨pt, ns, z, ps, dp, l, bs, rfl, _⟩ := h
    rfl
  · obtain ⟨pt, ns, z, ps, dp, l, bs, rfl, hl, k⟩ := h
    refine ⟨_, (pss_one (ps_ret (pe_make T.mkB (ok_Building_init T) (hr.mono (by decide)) (by rfl) T.gB T.b_Building_init .nil pass0 (pa_cons (pe_ix ix_tup (pv 0) pe_int (fun _ _ => rfl)) (pa_cons (pe_ix ix_tup (pv 0) pe_int (fun _ _ => rfl)) pa_nil))))), ?_⟩
    refine ⟨_, rfl, pt, _, _, .ref dp, rfl, rfl, SqT.of hl.tp, rfl, _, rfl, pt, _, _, .ref l, rfl, rfl, SqT.of hl.tp, rfl, fun x dx nx ndx ne => ?_⟩
    have s1 : Same H (upd (upd H dx (.own x)) x (.ins (cB K) dx [])) := fun c o hc => by
      rw [upd_ne (ne_of_none hc nx), upd_ne (ne_of_none hc ndx)]
      exact hc
    have hl1 := hl.same s1
    refine ⟨x, dx, dp, l, ns, z, bs, rfl, upd_same, hl1.sz, hl1.prs, hl.sok, by rw [hl.eps]; exact hl.pok, by rw [hl.eps]; exact hl.con, fun H' sb hb => ⟨rfl, ?_⟩⟩
    rw [hl.eps] at hb
    exact k H' x (fun c o hc => sb c o (ne_of_none hc nx) (s1 c o hc)) nx hb
theorem ok_l_near (T : Txt K mg) : FnOk P w K mg base CX0 1 (a_l_near K) (d_l_near K) P_l_near (spNear K) := by
  have nd := sc_l_near.nd
  refine ok0 T.f_l_near sc_l_near (fun vs H Q E h => ?_) (fun cdv A outer s H vs Q E hr h => ?_)
  · obtain ⟨pt, ns, z, ps, dp, l, bs, r, rfl, _⟩ := h
    rfl
  · obtain ⟨pt, ns, z, ps, dp, l, bs, r, rfl, hl, k⟩ := h
    refine ⟨_, (pss_one (ps_ret (pe_callB (cr_srtS hr.units) (by rfl) T.n_sorted (by decide +kernel) (pa_cons (pe_lc (own := [("_law_two", 2)]) (g := (gName 2)) rfl nd (pi_list (pe_ix ix_tup (pv 0) pe_int (fun _ _ => rfl))) (blkOk_by (own := [("_law_two", 2)]) (N := N_l_near) (sc := defScope s_l_near) (by decide +kernel)) (fun _ _ _ _ _ => (pg_name (i := 2) nd rfl (Or.inl rfl))) (fun _ _ _ _ _ => (pts_one (pt_cmpR (op_in_seqK K) (pv 1) (pv 2) (by rfl)))) (fun _ _ _ _ _ => (pe_ix (ix_tupK K) (pv 2) (pe_op op_sub pe_int (pe_tidx K (pv 2) (pv 1))) (fun _ _ => rfl)))) pa_nil)))), ?_⟩
    refine ⟨_, rfl, pt, _, _, .ref l, rfl, rfl, SqT.of hl.tp, rfl, l, rfl, ⟨_, SqL.of hl.prs.lst⟩, fun D hD => ?_⟩
    have hlb : bs.length ≤ 40 := by
      have := hl.pok.len
      rw [← hl.eps, List.length_map] at this
      exact this
    refine lc_it (walk_list (xs := bs.map fun b => V.ref b.1)) (fun i H1 => Same H H1 ∧ H1 D = some (.lst ((nbl ((bs.map (·.2)).take i) r).map V.str))) ⟨same_new hD, by rw [upd_same]; simp [nbl]⟩ (fun i H1 _ h => SqL.of (hl.prs.same h.1).lst) ?_ ?_
    · rintro i x H1 H2 hi ⟨s1, e1⟩ ⟨rfl, hx⟩
      rw [List.length_map] at hi
      obtain rfl : V.ref bs[i].1 = x := by simpa [hi] using hx
      have hbm : bs[i] ∈ bs := List.getElem_mem hi
      have hft := (hl.prs.same s1).tup _ hbm
      have hne := ltS_ne (hl.pok.lt bs[i].2 (by rw [← hl.eps]; exact List.mem_map.mpr ⟨_, hbm, rfl⟩))
      have htk : (bs.map (·.2)).take (i + 1) = (bs.map (·.2)).take i ++ [bs[i].2] := by
        rw [List.take_add_one]
        simp [hi]
      have hnl : (nbl ((bs.map (·.2)).take i) r).length ≤ 40 := Nat.le_trans (nbl_len _ _) (by rw [List.length_take, List.length_map]; omega)
      refine ⟨rfl, _, rfl, _, rfl, _, _, rfl, .inr hft.seq, rfl, rfl, _, rfl, ?_⟩
      have hin : inV (.str r) (pvs bs[i].2) = (decide (bs[i].2.1 = r) || decide (bs[i].2.2 = r)) := by
        simp only [inV, pvs, List.any_cons, List.any_nil, eqV, Bool.or_false]
        rfl
      show if inV (.str r) (pvs bs[i].2) = true then _ else _
      rw [hin]
      by_cases h1 : bs[i].2.1 = r
      · rw [decide_eq_true h1]
        refine iteT ?_
        refine ⟨_, rfl, _, rfl, ⟨_, _, rfl, hft⟩, _, rfl, _, [bs[i].2.1, bs[i].2.2], r, 0, rfl, rfl, hft.seq, by simp [h1], fun m hm => by omega, ?_⟩
        refine ⟨_, _, rfl, rfl, _, _, _, V.str bs[i].2.2, rfl, rfl, hft.seq, rfl, _, e1, szL (by rw [List.length_map]; omega), same_upd s1 hD, ?_⟩
        rw [upd_same, htk, nbl_snoc, if_pos h1, List.map_append]
        rfl
      · rw [decide_eq_false h1]
        by_cases h2 : bs[i].2.2 = r
        · rw [decide_eq_true h2]
          refine iteT ?_
          refine ⟨_, rfl, _, rfl, ⟨_, _, rfl, hft⟩, _, rfl, _, [bs[i].2.1, bs[i].2.2], r, 1, rfl, rfl, hft.seq, by simp [h2], fun m hm => ?_, ?_⟩
          · obtain rfl : m = 0 := by omega
            simpa using h1
          refine ⟨_, _, rfl, rfl, _, _, _, V.str bs[i].2.1, rfl, rfl, hft.seq, rfl, _, e1, szL (by rw [List.length_map]; omega), same_upd s1 hD, ?_⟩
          rw [upd_same, htk, nbl_snoc, if_neg h1, if_pos h2, List.map_append]
          rfl
        · rw [decide_eq_false h2]
          refine iteF ?_
          refine ⟨s1, ?_⟩
          rw [htk, nbl_snoc, if_neg h1, if_neg h2, List.append_nil]
          exact e1
    · rintro H1 ⟨s1, e1⟩
      rw [List.length_map, List.take_of_length_le (by simp), hl.eps] at e1
      refine ⟨D, _, rfl, SqL.of e1, fun q hq => k _ q (s1.trans (same_new hq)) (s1.free hq) upd_same⟩
end
end Rd
/-! sides_due, all_positions -/
namespace Rd
open PySem PySem.Spec L2
open PyProof.Rows hiding St
def Adj (ps : List (Str × Str)) (a b : Str) : Prop := (a, b) ∈ ps ∨ (b, a) ∈ ps
/-- a walk of so many steps -/
inductive Path (ps : List (Str × Str)) (a : Str) : Str → Nat → Prop
  | nil : Path ps a a 0
  | snoc {b c : Str} {n : Nat} : Path ps a b n → Adj ps b c → Path ps a c (n + 1)
abbrev Sd := Str × Int
def sdKv (ss : List Sd) : List (Key × V) := ss.map fun e => (Sum.inr e.1, V.int e.2)
theorem sd_get {ss : List Sd} {e : Sd} (nd : (ss.map (·.1)).Nodup) (he : e ∈ ss) : valV (sdKv ss) (Sum.inr e.1) = some (.int e.2) := val_map (k := fun e : Sd => e.1) (f := fun e : Sd => V.int e.2) nd he
theorem sd_none {ss : List Sd} {x : Str} (h : x ∉ ss.map (·.1)) : valV (sdKv ss) (Sum.inr x) = none := val_map_none (k := fun e : Sd => e.1) (f := fun e : Sd => V.int e.2) h
theorem sd_is {ss : List Sd} (nd : (ss.map (·.1)).Nodup) (x : Str) : (valV (sdKv ss) (Sum.inr x)).isSome = decide (x ∈ ss.map (·.1)) := by
  by_cases h : x ∈ ss.map (·.1)
  · obtain ⟨e, he, rfl⟩ := List.mem_map.mp h
    rw [sd_get nd he, decide_eq_true h]
    rfl
  · rw [sd_none h, decide_eq_false h]
    rfl
structure SdOk (ns : List Str) (ps : List (Str × Str)) (r0 : Str) (ss : List Sd) : Prop where
  nd : (ss.map (·.1)).Nodup
  sub : ∀ e ∈ ss, e.1 ∈ ns
  st : r0 ∈ ss.map (·.1)
  par : ∀ e ∈ ss, ∃ n : Nat, Path ps r0 e.1 n ∧ e.2 = (n : Int) % 2
theorem SdOk.add {ns : List Str} {ps : List (Str × Str)} {r0 : Str} {ss : List Sd} (h : SdOk ns ps r0 ss) {e : Sd} (he : e ∈ ss) {x : Str} (hx : x ∈ ns) (ha : Adj ps e.1 x) (nx : x ∉ ss.map (·.1)) : SdOk ns ps r0 (ss ++ [(x, 1 - e.2)]) := by
  refine ⟨?_, fun q hq => ?_, ?_, fun q hq => ?_⟩
  · rw [List.map_append]
    refine List.nodup_append.mpr ⟨h.nd, by simp, fun a hma b hb => ?_⟩
    simp at hb
    subst hb
    intro e
    subst e
    exact nx hma
  · rcases List.mem_append.mp hq with q' | q'
    · exact h.sub q q'
    · rw [List.mem_singleton.mp q']
      exact hx
  · rw [List.map_append]
    exact List.mem_append.mpr (.inl h.st)
  · rcases List.mem_append.mp hq with q' | q'
    · exact h.par q q'
    · rw [List.mem_singleton.mp q']
      obtain ⟨n, h1, h2⟩ := h.par e he
      refine ⟨n + 1, h1.snoc ha, ?_⟩
      rw [h2]
      omega
theorem SdOk.len {ns : List Str} {ps : List (Str × Str)} {r0 : Str} {ss : List Sd} (h : SdOk ns ps r0 ss) : ss.length ≤ ns.length := by
  have := nodup_le h.nd (ys := ns) fun x hx => by
    obtain ⟨e, he, rfl⟩ := List.mem_map.mp hx
    exact h.sub e he
  rw [List.length_map] at this
  exact this
def spSidesDue (K : PySem.W.Frag) : Sp := fun vs H Q _ => ∃ pt ns z ps dp l bs, vs = [.ref pt] ∧ LawPl K H pt ns z ps dp l bs ∧ ∀ H' v (sd : Str → Int) r0, Same H H' → r0 ∈ ns → (∀ r ∈ ns, ∃ n : Nat, Path ps r0 r n ∧ sd r = (n : Int) % 2) → ((v = .non ∧ ∃ p ∈ ps, sd p.1 = sd p.2) ∨ ((∃ d, v = .ref d) ∧ ∀ p ∈ ps, sd p.1 ≠ sd p.2)) → Q v H'
section
variable {P : Program} {w : World} {K : PySem.W.Frag} {mg : Str → Option Value} {base : Heap}
theorem ok_l_sides_due (T : Txt K mg) : FnOk P w K mg base CX0 2 (a_l_sides_due K) (d_l_sides_due K) P_l_sides_due (spSidesDue K) := by
  have nd := sc_l_sides_due.nd
  refine ok0 T.f_l_sides_due sc_l_sides_due (fun vs H Q E h => ?_) (fun cdv A outer s H vs Q E hr h => ?_)
  · obtain ⟨pt, ns, z, ps, dp, l, bs, rfl, _⟩ := h
    rfl
  · obtain ⟨pt, ns, z, ps, dp, l, bs, rfl, hl, k⟩ := h
    have hu := hu_of hr
    refine ⟨_, (pss_cons (ps_set (i := 1) nd rfl (Or.inl rfl) (pe_callB (cr_srtD rfl) (by rfl) T.n_sorted (by decide +kernel) (pa_cons (pe_ix ix_tup (pv 0) pe_int (fun _ _ => rfl)) pa_nil))) (pss_cons (ps_asg (pe_tup (pa_cons (pe_disp (pps_cons (pe_ix ix_list (pv 1) pe_int (fun _ _ => rfl)) pe_int pps_nil) (by rfl) (by rfl) (fun z => by cases z) (by decide)) (pa_cons (pe_lst (pa_cons (pe_ix ix_list (pv 1) pe_int (fun _ _ => rfl)) pa_nil)) pa_nil))) (pg_tup (by rfl) (pgs_cons (pg_name (i := 2) nd rfl (Or.inr rfl)) (pgs_cons (pg_name (i := 3) nd rfl (Or.inl rfl)) pgs_nil)))) (pss_cons (ps_while PassesOwn.never (pt_cmpR (op_neD hr.units) (pv 3) (pe_lst pa_nil) (nomark _)) (pss_cons (ps_set (i := 4) nd rfl (Or.inl rfl) (pe_bm0 PySem.F.plainAttrs_list PySem.F.slot_list_pop PySem.F.type_list_pop mt_pop (pv 3))) (pss_one (ps_for PassesOwn.never rfl (pi_list (pe_call (ok_l_near T) (hr.mono (by decide)) (by rfl) T.g_l_near T.f_l_near.kp T.b_l_near .nil pass0 (pa_cons (pv 0) (pa_cons (pv 4) pa_nil)))) (pg_name (i := 5) nd rfl (Or.inl rfl)) (pss_one (ps_if (pt_cmp (pc_dnotin hu (pv 5) (pv 2))) (pss_cons (ps_dput hu (pv 2) (pv 5) (pe_op op_sub pe_int (pe_dget hu (pv 2) (pv 4) (fun _ _ => rfl))) rfl) (pss_one (ps_expr (pe_bm PySem.F.plainAttrs_list PySem.F.slot_list_append PySem.F.type_list_append mt_append (pv 3) (pa_cons (pv 5) pa_nil))))) pss_nil)))))) (pss_cons (ps_setLc (i := 6) (own := [("_law_two", 7)]) (g := (gName 7)) rfl nd rfl rfl (sw_true rfl rfl rfl (by decide +kernel)) (pi_list (pe_ix ix_tup (pv 0) pe_int (fun _ _ => rfl))) (blkOk_by (own := [("_law_two", 7)]) (N := N_l_sides_due) (sc := defScope s_l_sides_due) (by decide +kernel)) (fun _ _ _ _ _ => (pg_name (i := 7) nd rfl (Or.inl rfl))) (fun _ _ _ _ _ => (pts_one (pt_cmpR op_eq (pe_dget hu (pv 2) (pe_ix (ix_tupK K) (pv 7) pe_int (fun _ _ => rfl)) (fun _ _ => rfl)) (pe_dget hu (pv 2) (pe_ix (ix_tupK K) (pv 7) pe_int (fun _ _ => rfl)) (fun _ _ => rfl)) (nomark _)))) (fun _ _ _ _ _ => (pv 7))) (pss_one (ps_ret (pe_ifExp (pt_cmpR (op_eqD hr.units) (pv 6) (pe_lst pa_nil) (nomark _)) (pv 2) pe_non))))))), ?_⟩
    have hn5 := hl.sok.len
    have hR : (srtS ns).length = ns.length := (srtS_perm ns).length_eq
    have hmem : ∀ r, r ∈ srtS ns ↔ r ∈ ns := fun r => (srtS_perm ns).mem_iff
    obtain ⟨r0, rs, hsr⟩ : ∃ r0 rs, srtS ns = r0 :: rs := by
      cases e : srtS ns with
      | nil => 
        rw [e] at hR
        exact absurd (List.length_eq_zero_iff.mp hR.symm) hl.sok.ne
      | cons r0 rs => exact ⟨r0, rs, rfl⟩
    have hr0 : r0 ∈ ns := (hmem r0).mp (by rw [hsr]; simp)
    refine ⟨_, rfl, pt, _, _, .ref dp, rfl, rfl, SqT.of hl.tp, rfl, dp, _, ns, rfl, .inl hl.sz, sz_keys ns z, by omega, fun rl hrl => ?_⟩
    have rl1 : upd H rl (.lst ((srtS ns).map V.str)) rl = some (.lst ((srtS ns).map V.str)) := upd_same
    have hat : atI ((srtS ns).map V.str) 0 = some (V.str r0) := atI_nat (j := 0) (by rw [hsr]; rfl)
    intro d hd
    have rld : rl ≠ d := ne_of_none rl1 hd
    refine ⟨_, rfl, rl, _, _, V.str r0, rfl, rfl, SqL.of (by rw [upd_ne rld]; exact rl1), hat, upd_same, [(Sum.inr r0, .int 0)], rfl, by show 1 ≤ 15; decide, ?_⟩
    have d0 : H d = none := (same_new hrl).free hd
    have s1 : Same H (upd (upd (upd H rl (.lst ((srtS ns).map V.str))) d (.dK [])) d (.dK (mergeK [] [(Sum.inr r0, V.int 0)]))) := same_upd ((same_new hrl).trans (same_new hd)) d0
    have rl2 : upd (upd (upd H rl (.lst ((srtS ns).map V.str))) d (.dK [])) d (.dK (mergeK [] [(Sum.inr r0, V.int 0)])) rl = some (.lst ((srtS ns).map V.str)) := by rw [upd_ne rld, upd_ne rld]; exact rl1
    have d2 : upd (upd (upd H rl (.lst ((srtS ns).map V.str))) d (.dK [])) d (.dK (mergeK [] [(Sum.inr r0, V.int 0)])) d = some (.dK (sdKv [(r0, 0)])) := upd_same
    generalize upd (upd (upd H rl (.lst ((srtS ns).map V.str))) d (.dK [])) d (.dK (mergeK [] [(Sum.inr r0, V.int 0)])) = H1 at s1 rl2 d2
    refine ⟨_, rfl, rl, _, _, V.str r0, rfl, rfl, SqL.of rl2, hat, by show 1 ≤ sizeLine; decide, fun w0 hw0 => ?_⟩
    have w00 : H w0 = none := s1.free hw0
    refine ⟨by show 2 ≤ sizeLine; decide, fun tt htt => ?_⟩
    have s2 : Same H1 (upd (upd H1 w0 (.lst [.str r0])) tt (.tup [.ref d, .ref w0])) := (same_new hw0).trans (same_new htt)
    have w2 : upd (upd H1 w0 (.lst [.str r0])) tt (.tup [.ref d, .ref w0]) w0 = some (.lst [.str r0]) := same_new htt _ _ upd_same
    refine ⟨tt, _, rfl, SqT.of upd_same, rfl, _, _, rfl, _, _, rfl, rfl, ?_⟩
    refine ⟨fun m σ H2 => ∃ (ss : List Sd) (ws : List Str) (x4 x5 x6 x7 : Option V), σ = [some (.ref pt), some (.ref rl), some (.ref d), some (.ref w0), x4, x5, x6, x7] ∧ Same H H2 ∧ H2 d = some (.dK (sdKv ss)) ∧ H2 w0 = some (.lst (ws.map V.str)) ∧ SdOk ns ps r0 ss ∧ (∀ x ∈ ws, x ∈ ss.map (·.1)) ∧
      (∀ e ∈ ss, e.1 ∈ ws ∨ ∀ s ∈ nbl ps e.1, s ∈ ss.map (·.1)) ∧ ws.length ≤ ss.length ∧ m = 2 * (ns.length - ss.length) + ws.length, ⟨_, [(r0, 0)], [r0], _, _, _, _, rfl, s1.trans s2, s2 _ _ d2, w2, ⟨by simp, fun e he => by rw [List.mem_singleton.mp he]; exact hr0, by simp, fun e he => ⟨0, by rw [List.mem_singleton.mp he]; exact .nil, by rw [List.mem_singleton.mp he] <;> rfl⟩⟩, by simp, fun e he => .inl (by rw [List.mem_singleton.mp he]; simp), Nat.le_refl _, rfl⟩, ?_⟩
    rintro m σ H2 ⟨ss, ws, x4, x5, x6, x7, rfl, s3, hd3, hw3, hok, hws, hcl, hwl, hm⟩
    subst hm
    have hle := hok.len
    refine ⟨_, rfl, by show 0 ≤ sizeLine; omega, fun e he => ?_⟩
    have hw4 := same_new (o := .lst []) he _ _ hw3
    have hwn : ∀ x ∈ ws, IsNm x := fun x hx => by
      obtain ⟨q, hq, rfl⟩ := List.mem_map.mp (hws x hx)
      exact hl.sok.nm _ (hok.sub q hq)
    refine ⟨_, _, .lst (SqL.of hw4) (dp_strs ws), dp_nil upd_same, shaped_strs hwn, shaped_nil, _, rfl, ?_⟩
    rw [eqv_nil]
    have s4 : Same H (upd H2 e (.lst [])) := s3.trans (same_new he)
    have hd4 := same_new (o := .lst []) he _ _ hd3
    by_cases hy : ws = []
    · subst hy
      refine iteNS rfl ?_
      have hfull : ∀ r ∈ ns, r ∈ ss.map (·.1) := hl.con (fun x => x ∈ ss.map (·.1)) ⟨r0, hr0, hok.st⟩ fun p hp => by
        have nb : ∀ a b, Adj ps a b → a ∈ ss.map (·.1) → b ∈ ss.map (·.1) := fun a b hab ha => by
          obtain ⟨ea, hea, rfl⟩ := List.mem_map.mp ha
          rcases hcl ea hea with h | h
          · simp at h
          · exact h b ((mem_nbl fun p hp => ltS_ne (hl.pok.lt p hp)).mpr hab)
        exact ⟨nb _ _ (.inl hp), nb _ _ (.inr hp)⟩
      have hsd : ∃ sd : Str → Int, (∀ e ∈ ss, sd e.1 = e.2) := by
        refine ⟨fun r => match valV (sdKv ss) (Sum.inr r) with | some (.int i) => i | _ => 0, fun e he => ?_⟩
        dsimp only
        rw [sd_get hok.nd he]
      obtain ⟨sd, hsd⟩ := hsd
      have hsdg : ∀ {H' : Hp} {r : Str}, H' d = some (.dK (sdKv ss)) → r ∈ ns → DGet H' d (.str r) (some (.int (sd r))) := fun {H' r} hd' hrr => by
        obtain ⟨e, he, rfl⟩ := List.mem_map.mp (hfull r hrr)
        rw [hsd e he, ← sd_get hok.nd he]
        exact DGet.k (k := Sum.inr e.1) hd'
      have hl4 := hl.same s4
      have hlb : bs.length ≤ 40 := by
        have := hl.pok.len
        rw [← hl.eps, List.length_map] at this
        exact this
      refine ⟨_, rfl, pt, _, _, .ref l, rfl, rfl, SqT.of hl4.tp, rfl, l, rfl, ⟨_, SqL.of hl4.prs.lst⟩, fun D hD => ?_⟩
      refine lc_it (walk_list (xs := bs.map fun b => V.ref b.1)) (fun i H5 => Same (upd H2 e (.lst [])) H5 ∧ H5 D = some (.lst (((bs.take i).filter fun b => decide (sd b.2.1 = sd b.2.2)).map fun b => V.ref b.1))) ⟨same_new hD, upd_same⟩ (fun i H5 _ h => SqL.of (hl4.prs.same h.1).lst) ?_ ?_
      · rintro i x H5 H6 hi ⟨s5, e5⟩ ⟨rfl, hx⟩
        rw [List.length_map] at hi
        obtain rfl : V.ref bs[i].1 = x := by simpa [hi] using hx
        have hbm : bs[i] ∈ bs := List.getElem_mem hi
        have hbm2 : bs[i].2 ∈ ps := by rw [← hl.eps]; exact List.mem_map.mpr ⟨_, hbm, rfl⟩
        have hft := (hl4.prs.same s5).tup _ hbm
        obtain ⟨m1, m2⟩ := hl.pok.sub _ hbm2
        have hd5 := s5 _ _ hd4
        have hfl : ((bs.take i).filter fun b => decide (sd b.2.1 = sd b.2.2)).length ≤ 40 := Nat.le_trans (List.length_filter_le _ _) (by rw [List.length_take]; omega)
        refine ⟨rfl, _, rfl, _, rfl, _, _, _, V.str bs[i].2.1, rfl, rfl, hft.seq, rfl, d, _, rfl, hsdg hd5 m1, ?_⟩
        refine ⟨_, rfl, _, rfl, _, _, _, V.str bs[i].2.2, rfl, rfl, hft.seq, rfl, d, _, rfl, hsdg hd5 m2, rfl, _, rfl, ?_⟩
        have htk : bs.take (i + 1) = bs.take i ++ [bs[i]] := by
          rw [List.take_add_one, List.getElem?_eq_getElem hi]
          rfl
        by_cases hsame : sd bs[i].2.1 = sd bs[i].2.2
        · refine iteD (by rw [hsame]) ?_
          refine ⟨_, rfl, _, e5, szL (by rw [List.length_map]; omega), same_upd s5 hD, ?_⟩
          rw [upd_same, htk, List.filter_append, List.map_append]
          simp [hsame]
        · refine iteDn (fun q => hsame (by injection q)) ?_
          refine ⟨s5, ?_⟩
          rw [htk, List.filter_append]
          simp [hsame, e5]
      rintro H5 ⟨s5, e5⟩
      rw [List.length_map, List.take_of_length_le (Nat.le_refl _)] at e5
      refine ⟨_, rfl, by show 0 ≤ sizeLine; omega, fun e2 he2 => ?_⟩
      have s6 : Same (upd H2 e (.lst [])) (upd H5 e2 (.lst [])) := s5.trans (same_new he2)
      have hfb : ∀ b ∈ bs.filter (fun b => decide (sd b.2.1 = sd b.2.2)), b ∈ bs := fun b hb => (List.mem_filter.mp hb).1
      have hshape : SeqAt.shaped (.list ((bs.filter fun b => decide (sd b.2.1 = sd b.2.2)).map fun b => encP b.2)) = true := by
        rw [show (bs.filter fun b => decide (sd b.2.1 = sd b.2.2)).map (fun b => encP b.2) = ((bs.filter fun b => decide (sd b.2.1 = sd b.2.2)).map (·.2)).map encP by simp]
        refine shaped_pairs fun p hp => ?_
        obtain ⟨b, hb, rfl⟩ := List.mem_map.mp hp
        have : b.2 ∈ ps := by rw [← hl.eps]; exact List.mem_map.mpr ⟨_, hfb b hb, rfl⟩
        obtain ⟨m1, m2⟩ := hl.pok.sub _ this
        exact ⟨hl.sok.nm _ m1, hl.sok.nm _ m2⟩
      have hpar : ∀ r ∈ ns, ∃ n : Nat, Path ps r0 r n ∧ sd r = (n : Int) % 2 := fun r hrr => by
        obtain ⟨e, he, rfl⟩ := List.mem_map.mp (hfull r hrr)
        rw [hsd e he]
        exact hok.par e he
      refine ⟨_, _, .lst (SqL.of (same_new he2 _ _ e5)) (dp_pairsF fun b hb => ((hl4.prs.same s6).tup b (hfb b hb))), dp_nil upd_same, hshape, shaped_nil, _, rfl, ?_⟩
      rw [eqv_nil]
      by_cases hal : bs.filter (fun b => decide (sd b.2.1 = sd b.2.2)) = []
      · refine iteD (by rw [hal] <;> rfl) ?_
        refine ⟨_, rfl, k _ _ sd r0 (s4.trans s6) hr0 hpar (.inr ⟨⟨d, rfl⟩, fun p hp hsame => ?_⟩)⟩
        rw [← hl.eps] at hp
        obtain ⟨b, hb, rfl⟩ := List.mem_map.mp hp
        have : b ∈ bs.filter (fun b => decide (sd b.2.1 = sd b.2.2)) := List.mem_filter.mpr ⟨hb, by simpa using hsame⟩
        rw [hal] at this
        simp at this
      · refine iteDn (fun h => hal (List.map_eq_nil_iff.mp h)) ?_
        obtain ⟨b, hb⟩ := List.exists_mem_of_ne_nil _ hal
        obtain ⟨h1, h2⟩ := List.mem_filter.mp hb
        exact k _ _ sd r0 (s4.trans s6) hr0 hpar (.inl ⟨rfl, b.2, by rw [← hl.eps]; exact List.mem_map.mpr ⟨b, h1, rfl⟩, by simpa using h2⟩)
    · refine iteN (by simpa using hy) ?_
      obtain ⟨ws', room, rfl⟩ : ∃ ws' room, ws = ws' ++ [room] := ⟨ws.dropLast, ws.getLast hy, (List.dropLast_concat_getLast hy).symm⟩
      refine ⟨fun σ' H' => ∃ m', m' < 2 * (ns.length - ss.length) + (ws' ++ [room]).length ∧ _, fun σ' H' h => h, ?_⟩
      refine ⟨_, rfl, .inl ⟨rfl, _, SqL.of hw4⟩, w0, _, V.str room, rfl, rfl, hw4, by simp, ?_⟩
      have hdl : ((ws' ++ [room]).map V.str).dropLast = ws'.map V.str := by simp
      rw [hdl]
      obtain ⟨er, her, her1⟩ := List.mem_map.mp (hws room (by simp))
      have s5 : Same H (upd (upd H2 e (.lst [])) w0 (.lst (ws'.map V.str))) := same_upd s4 w00
      have dw : d ≠ w0 := ne_of hd3 hw3 (by intro z; cases z)
      have hd5 : upd (upd H2 e (.lst [])) w0 (.lst (ws'.map V.str)) d = some (.dK (sdKv ss)) := by rw [upd_ne dw]; exact hd4
      refine ⟨_, rfl, _, rfl, pt, ns, z, ps, dp, l, bs, room, rfl, hl.same s5, fun H6 q s6 nq hq6 => ?_⟩
      refine ⟨q, rfl, ⟨_, SqL.of hq6⟩, ?_⟩
      refine for_it (walk_list (xs := (srtS (nbl ps room)).map V.str)) (fun j σ H7 => ∃ (ss2 tl : List Sd) (ws2 ad : List Str) (x5 : Option V), σ = [some (.ref pt), some (.ref rl), some (.ref d), some (.ref w0), some (.str room), x5, x6, x7] ∧ Same H H7 ∧ H7 q = some (.lst ((srtS (nbl ps room)).map V.str)) ∧ H7 d = some (.dK (sdKv ss2)) ∧ H7 w0 = some (.lst (ws2.map V.str)) ∧ SdOk ns ps r0 ss2 ∧ ss2 = ss ++ tl ∧ ws2 = ws' ++ ad ∧ ad.length = tl.length ∧ (∀ x ∈ ws2, x ∈ ss2.map (·.1)) ∧
        (∀ e ∈ ss2, e.1 ∈ ws2 ∨ e.1 = room ∨ ∀ s ∈ nbl ps e.1, s ∈ ss2.map (·.1)) ∧ ∀ s ∈ (srtS (nbl ps room)).take j, s ∈ ss2.map (·.1)) ⟨ss, [], ws', [], _, rfl, s5.trans s6, hq6, s6 _ _ hd5, s6 _ _ upd_same, hok, by simp, by simp, rfl, fun x hx => hws x (by simp [hx]), fun e he => ?_, by simp⟩ (fun j σ H7 _ ⟨_, _, _, _, _, _, _, h, _⟩ => SqL.of h) ?_ ?_
      · rcases hcl e he with h | h
        · rcases List.mem_append.mp h with h | h
          · exact .inl h
          · exact .inr (.inl (List.mem_singleton.mp h))
        · exact .inr (.inr h)
      · rintro j x σ H7 H8 hj ⟨ss2, tl, ws2, ad, x5, rfl, s7, hq7, hd7, hw7, hok7, rfl, rfl, hlen7, hws7, hcl7, hj7⟩ ⟨rfl, hx⟩
        rw [List.length_map] at hj
        obtain rfl : V.str (srtS (nbl ps room))[j] = x := by simpa [hj] using hx
        generalize hs : (srtS (nbl ps room))[j] = s
        have htk : (srtS (nbl ps room)).take (j + 1) = (srtS (nbl ps room)).take j ++ [s] := by
          rw [List.take_add_one, List.getElem?_eq_getElem hj, hs]
          rfl
        have hsn : s ∈ nbl ps room := (srtS_perm _).mem_iff.mp (by rw [← hs]; exact List.getElem_mem hj)
        have hadj : Adj ps room s := (mem_nbl fun p hp => ltS_ne (hl.pok.lt p hp)).mp hsn
        have hsR : s ∈ ns := by
          rcases hadj with h | h
          · exact (hl.pok.sub _ h).2
          · exact (hl.pok.sub _ h).1
        refine ⟨_, rfl, _, rfl, d, _, rfl, DGet.k (k := Sum.inr s) hd7, _, rfl, ?_⟩
        rw [sd_is hok7.nd]
        by_cases hin : s ∈ (ss ++ tl).map (·.1)
        · refine iteNS hin ?_
          refine ⟨ss ++ tl, tl, ws' ++ ad, ad, _, rfl, s7, hq7, hd7, hw7, hok7, rfl, rfl, hlen7, hws7, hcl7, fun q hq => ?_⟩
          rw [htk] at hq
          rcases List.mem_append.mp hq with a | a
          · exact hj7 q a
          · rw [List.mem_singleton.mp a]
            exact hin
        · refine iteN hin ?_
          have her7 : er ∈ ss ++ tl := List.mem_append.mpr (.inl her)
          have hl7 := hok7.len
          rw [← her1] at hadj
          refine ⟨_, rfl, _, rfl, d, .int er.2, rfl, by rw [← sd_get hok7.nd her7, ← her1]; exact DGet.k (k := Sum.inr er.1) hd7, _, _, rfl, rfl, _, rfl, _, rfl, d, _, rfl, DPut.k (k := Sum.inr s) hd7 (szL (by simp only [sdKv, List.length_map]; omega)), ?_⟩
          have hadl : (ws' ++ ad).length ≤ 10 := by
            rw [List.length_append] at hl7 hwl ⊢
            simp only [List.length_singleton] at hwl
            omega
          have hw8 : upd H8 d (.dK (putK (sdKv (ss ++ tl)) (Sum.inr s) (.int (1 - er.2)))) w0 = some (.lst ((ws' ++ ad).map V.str)) := by rw [upd_ne dw.symm]; exact hw7
          refine ⟨_, rfl, .inl ⟨rfl, _, SqL.of hw8⟩, _, rfl, w0, _, _, rfl, rfl, hw8, szL (by rw [List.length_map]; omega), ?_⟩
          have qd : q ≠ d := ne_of hq7 hd7 (by intro z; cases z)
          have qw : q ≠ w0 := fun e => by
            rw [e, upd_same] at nq
            cases nq
          have hok8 := hok7.add her7 hsR hadj hin
          rw [List.append_assoc] at hok8
          have mono : ∀ y, y ∈ (ss ++ tl).map (·.1) → y ∈ (ss ++ (tl ++ [(s, 1 - er.2)])).map (·.1) := fun y hy => by
            rw [← List.append_assoc, List.map_append]
            exact List.mem_append.mpr (.inl hy)
          have hsin : s ∈ (ss ++ (tl ++ [(s, 1 - er.2)])).map (·.1) := by simp
          refine ⟨ss ++ (tl ++ [(s, 1 - er.2)]), tl ++ [(s, 1 - er.2)], ws' ++ (ad ++ [s]), ad ++ [s], _, rfl, same_upd (same_upd s7 d0) w00, by rw [upd_ne qw, upd_ne qd]; exact hq7, ?_, ?_, ?_, rfl, rfl, by simp [hlen7], fun x hx => ?_, fun e he => ?_, fun q hq => ?_⟩
          · rw [upd_ne dw, upd_same, putK_new _ (sd_none hin), ← List.append_assoc]
            simp [sdKv]
          · rw [upd_same, ← List.append_assoc, List.map_append (l₁ := ws' ++ ad)]
            rfl
          · exact hok8
          · rw [← List.append_assoc] at hx
            rcases List.mem_append.mp hx with a | a
            · exact mono x (hws7 x a)
            · rw [List.mem_singleton.mp a]
              exact hsin
          · rw [← List.append_assoc] at he
            rcases List.mem_append.mp he with a | a
            · rcases hcl7 e a with h | h | h
              · exact .inl (by rw [← List.append_assoc]; exact List.mem_append.mpr (.inl h))
              · exact .inr (.inl h)
              · exact .inr (.inr fun y hy => mono y (h y hy))
            · rw [List.mem_singleton.mp a]
              exact .inl (by simp)
          · rw [htk] at hq
            rcases List.mem_append.mp hq with a | a
            · exact mono q (hj7 q a)
            · rw [List.mem_singleton.mp a]
              exact hsin
      · rintro σ H7 ⟨ss2, tl, ws2, ad, x5, rfl, s7, hq7, hd7, hw7, hok7, rfl, rfl, hlen7, hws7, hcl7, hj7⟩
        rw [List.length_map, List.take_of_length_le (Nat.le_refl _)] at hj7
        have hl7 := hok7.len
        refine ⟨_, ?_, ss ++ tl, ws' ++ ad, _, _, _, _, rfl, s7, hd7, hw7, hok7, hws7, fun e he => ?_, ?_, rfl⟩
        · rw [List.length_append] at hl7
          simp only [List.length_append, List.length_singleton]
          omega
        · rcases hcl7 e he with h | h | h
          · exact .inl h
          · refine .inr fun y hy => ?_
            rw [h] at hy
            exact hj7 y ((srtS_perm _).mem_iff.mpr hy)
          · exact .inr h
        · simp only [List.length_append, List.length_singleton] at hwl ⊢
          omega
end
end Rd
/-! all_positions, reach -/
namespace Rd
open PySem PySem.Spec L2
open PyProof.Rows hiding St
/-- all_positions's answer, by the sides found -/
def gcdz (ns : List Str) (z : Str → Nat) : Nat := (ns.map z).foldl Nat.gcd 0
def spAllPos (K : PySem.W.Frag) : Sp := fun vs H Q _ => ∃ pt ns z ps dp l bs, vs = [.ref pt] ∧ LawPl K H pt ns z ps dp l bs ∧ ns.length * prd z ns ≤ 10000 ∧ ∀ H' (m : Nat) (sd : Str → Int) r0, Same H H' → r0 ∈ ns → (∀ r ∈ ns, ∃ n : Nat, Path ps r0 r n ∧ sd r = (n : Int) % 2) →
  (((∃ p ∈ ps, sd p.1 = sd p.2) ∧ m = ns.length * prd z ns) ∨ ((∀ p ∈ ps, sd p.1 ≠ sd p.2) ∧ m = ns.length * prd z ns / gcdz ns z)) → Q (.int m) H'
theorem gcd_le : ∀ (l : List Nat) (a : Nat), (∀ x ∈ l, x ≤ 100) → a ≤ 100 → l.foldl Nat.gcd a ≤ 100
  | [], a, _, h => h
  | x :: l, a, hl, h => by
    refine gcd_le l _ (fun y hy => hl y (List.mem_cons_of_mem _ hy)) ?_
    have hx := hl x List.mem_cons_self
    by_cases e : a = 0
    · subst e
      rw [Nat.gcd_zero_left]
      exact hx
    · exact Nat.le_trans (Nat.gcd_le_left x (Nat.pos_of_ne_zero e)) h
theorem gcd_pos : ∀ (l : List Nat) (a : Nat), (l ≠ [] ∨ 0 < a) → (∀ x ∈ l, 1 ≤ x) → 0 < l.foldl Nat.gcd a
  | [], a, h, _ => by
    rcases h with h | h
    · exact absurd rfl h
    · exact h
  | x :: l, a, _, hl => by
    refine gcd_pos l _ (.inr ?_) fun y hy => hl y (List.mem_cons_of_mem _ hy)
    exact Nat.gcd_pos_of_pos_right a (hl x List.mem_cons_self)
section
variable {P : Program} {w : World} {K : PySem.W.Frag} {mg : Str → Option Value} {base : Heap}
theorem ok_l_all_positions (T : Txt K mg) : FnOk P w K mg base CX0 3 (a_l_all_positions K) (d_l_all_positions K) P_l_all_positions (spAllPos K) := by
  have nd := sc_l_all_positions.nd
  refine ok0 T.f_l_all_positions sc_l_all_positions (fun vs H Q E h => ?_) (fun cdv A outer s H vs Q E hr h => ?_)
  · obtain ⟨pt, ns, z, ps, dp, l, bs, rfl, _⟩ := h
    rfl
  · obtain ⟨pt, ns, z, ps, dp, l, bs, rfl, hl, hsm, k⟩ := h
    have hu := hu_of hr
    refine ⟨_, (pss_cons (ps_set (i := 1) nd rfl (Or.inl rfl) (pe_callB call_lenD (by rfl) T.n_len PySem.boot_len (pa_cons (pe_ix ix_tup (pv 0) pe_int (fun _ _ => rfl)) pa_nil))) (pss_cons (ps_lock (ps_for PassesOwn.never rfl (pi_keys (pe_ix ix_tup (pv 0) pe_int (fun _ _ => rfl))) (pg_name (i := 2) nd rfl (Or.inl rfl)) (pss_one (ps_set (i := 1) nd rfl (Or.inl rfl) (pe_op op_mul (pv 1) (pe_dget hu (pe_ix ix_tup (pv 0) pe_int (fun _ _ => rfl)) (pv 2) (fun _ _ => rfl))))))) (pss_one (ps_ret (pe_ifExp (pt_cmpR op_isN (pe_call (ok_l_sides_due T) (hr.mono (by decide)) (by rfl) T.g_l_sides_due T.f_l_sides_due.kp T.b_l_sides_due .nil pass0 (pa_cons (pv 0) pa_nil)) pe_non (nomark _)) (pv 1) (pe_op op_fdiv (pv 1) (pe_call (ok_l_gcd_all T) (hr.mono (by decide)) (by rfl) T.g_l_gcd_all T.f_l_gcd_all.kp T.b_l_gcd_all .nil pass0 (pa_cons (pe_listVals rfl (pe_ix ix_tup (pv 0) pe_int (fun _ _ => rfl)) (by rfl) T.n_list (by decide +kernel)) pa_nil)))))))), ?_⟩
    have hlen : (szKv ns z).length = ns.length := by simp [szKv]
    refine ⟨_, rfl, pt, _, _, .ref dp, rfl, rfl, SqT.of hl.tp, rfl, dp, _, rfl, hl.sz, ?_⟩
    rw [hlen]
    refine ⟨dp, _, hl.sz, trivial, fun od => ?_⟩
    have pd : pt ≠ dp := ne_of hl.tp hl.sz (by intro z; cases z)
    have tp1 : upd H dp (.frz od (.dK (szKv ns z))) pt = some (.tup [.ref dp, .ref l]) := by rw [upd_ne pd]; exact hl.tp
    refine ⟨_, rfl, pt, _, _, .ref dp, rfl, rfl, SqT.of tp1, rfl, dp, od, rfl, .inl ⟨_, upd_same, ?_⟩⟩
    refine for_it walk_keys (fun i σ H1 => H1 = upd H dp (.frz od (.dK (szKv ns z))) ∧ ∃ m : Nat, m * prd z (ns.drop i) = ns.length * prd z ns ∧ ∃ v, σ = [some (.ref pt), some (.int m), v]) ⟨rfl, ns.length, by rw [List.drop_zero], _, rfl⟩ (fun i σ H1 _ h => by rw [h.1]; exact upd_same) ?_ ?_
    · rintro i x σ H1 H2 hi ⟨rfl, m, hm, v, rfl⟩ ⟨rfl, kk, v', hx, rfl⟩
      have hiR : i < ns.length := by simpa [szKv] using hi
      obtain ⟨rfl, rfl⟩ : kk = Sum.inr ns[i] ∧ v' = V.int (z ns[i]) := by
        simp [szKv, hiR] at hx
        exact ⟨hx.1.symm, hx.2.symm⟩
      have hR : ns[i] ∈ ns := List.getElem_mem hiR
      have hd : ns.drop i = ns[i] :: ns.drop (i + 1) := List.drop_eq_getElem_cons hiR
      have hm' : m * z ns[i] * prd z (ns.drop (i + 1)) = ns.length * prd z ns := by rw [← hm, hd, Nat.mul_assoc] <;> rfl
      have hp0 : 1 ≤ prd z (ns.drop i) := prd_pos fun r hr => hl.sok.z1 r (List.mem_of_mem_drop hr)
      have hle0 : m ≤ 10000 := Nat.le_trans (Nat.le_mul_of_pos_right _ hp0) (by rw [hm]; exact hsm)
      refine ⟨_, rfl, _, rfl, pt, _, _, .ref dp, rfl, rfl, SqT.of tp1, rfl, _, rfl, dp, V.int (z ns[i]), rfl, ?_, ?_⟩
      · rw [← sz_get z hl.sok.nd hR]
        exact .inl ⟨_, Sum.inr ns[i], .inr ⟨od, upd_same⟩, rfl, rfl⟩
      · exact ⟨_, _, rfl, rfl, .inl ⟨by omega, by omega⟩, rfl, m * z ns[i], hm', _, by rw [Int.natCast_mul] <;> rfl⟩
    rintro σ H1 ⟨rfl, m, hm, v, rfl⟩
    rw [hlen, List.drop_eq_nil_of_le (Nat.le_refl _)] at hm
    have hm1 : m = ns.length * prd z ns := by
      rw [← hm]
      show m = m * 1
      omega
    subst hm1
    refine ⟨upd_same, ?_⟩
    have sH : Same H (upd (upd H dp (.frz od (.dK (szKv ns z)))) dp (.dK (szKv ns z))) := unlock_same hl.sz (Same.refl _)
    generalize upd (upd H dp (.frz od (.dK (szKv ns z)))) dp (.dK (szKv ns z)) = H3 at sH
    have hl3 := hl.same sH
    refine ⟨_, rfl, pt, ns, z, ps, dp, l, bs, rfl, hl3, fun H4 v sd r0 s4 hr0 hpar hv => ?_⟩
    refine ⟨rfl, _, rfl, ?_⟩
    rcases hv with ⟨rfl, hex⟩ | ⟨⟨d, rfl⟩, hall⟩
    · refine iteD rfl ?_
      exact ⟨_, rfl, k H4 _ sd r0 (sH.trans s4) hr0 hpar (.inl ⟨hex, rfl⟩)⟩
    · refine iteDn (by intro z; cases z) ?_
      have hl4 := hl3.same s4
      have hvals : (szKv ns z).map (·.2) = (ns.map z).map fun (n : Nat) => V.int n := by simp [szKv]
      refine ⟨_, rfl, _, rfl, pt, _, _, .ref dp, rfl, rfl, SqT.of hl4.tp, rfl, dp, _, rfl, hl4.sz, fun q hq => ?_⟩
      refine ⟨q, ns.map z, rfl, by rw [upd_same, hvals], ?_⟩
      have hg0 : 0 < gcdz ns z := gcd_pos _ _ (.inl (by simpa using hl.sok.ne)) fun x hx => by
        obtain ⟨r, hr, rfl⟩ := List.mem_map.mp hx
        exact hl.sok.z1 r hr
      have hg1 : gcdz ns z ≤ 100 := gcd_le _ _ (fun x hx => by
        obtain ⟨r, hr, rfl⟩ := List.mem_map.mp hx
        exact hl.sok.z2 r hr) (by omega)
      refine ⟨_, _, rfl, rfl, ⟨by show (0 : Int) < (gcdz ns z : Nat); omega, by show ((gcdz ns z : Nat) : Int) < 1073741824; omega⟩, ?_⟩
      have := k _ (ns.length * prd z ns / gcdz ns z) sd r0 ((sH.trans s4).trans (same_new (o := .lst ((szKv ns z).map (·.2))) hq)) hr0 hpar (.inr ⟨hall, rfl⟩)
      rw [Int.natCast_ediv] at this
      exact this
end
end Rd
/-! reach -/
namespace Rd
open PySem PySem.Spec L2
open PyProof.Rows hiding St
/-- for each position its number of steps, layer by layer -/
def stepsOf : List (List Pt) → Nat → List Nat
  | [], _ => []
  | l :: ls, k => List.replicate l.length k ++ stepsOf ls (k + 1)
theorem stepsOf_snoc : ∀ (ls : List (List Pt)) (l : List Pt) (k : Nat), stepsOf (ls ++ [l]) k = stepsOf ls k ++ List.replicate l.length (k + ls.length)
  | [], l, k => by simp [stepsOf]
  | a :: ls, l, k => by
    rw [List.cons_append, stepsOf, stepsOf_snoc ls l (k + 1), stepsOf, List.append_assoc]
    rw [List.length_cons, show k + 1 + ls.length = k + (ls.length + 1) by omega]
def StAt (H : Hp) (x : Ent) (t : Nat) : Prop := ∃ a v, x.2.2 = .ref a ∧ H a = some (.tup [.int (t : Nat), v])
theorem StAt.same {H H' : Hp} {x : Ent} {t : Nat} (s : Same H H') (h : StAt H x t) : StAt H' x t := let ⟨a, v, h1, h2⟩ := h; ⟨a, v, h1, s _ _ h2⟩
def spReach (P : Program) (w : World) (K : PySem.W.Frag) : Sp := fun vs H Q _ => ∃ pt ns z ps dp l bs first, vs = [.ref pt, .str first] ∧ LawPl K H pt ns z ps dp l bs ∧ PlOk ⟨srtS ns, z, ps⟩ ∧ first ∈ ns ∧
  ∀ H' d xs, Same H H' → H d = none → H' d = some (NdO P w d xs) → (∀ x ∈ xs, PtAt H' x.2.1 x.1) → xs.map (·.1) = (allLays ⟨srtS ns, z, ps⟩ first).flatten → Paired (StAt H') xs (stepsOf (allLays ⟨srtS ns, z, ps⟩ first) 0) → Q (.ref d) H'
/-- the state between two layers -/
structure RcAt (P : Program) (w : World) (H0 H : Hp) (d : Addr) (xs : List Ent) : Prop where
  s0 : Same H0 H
  d0 : H0 d = none
  nd : H d = some (NdO P w d xs)
  keys : ∀ x ∈ xs, PtAt H x.2.1 x.1
theorem RcAt.same {P : Program} {w : World} {H0 H H' : Hp} {d : Addr} {xs : List Ent} (s : Same H H') (h : RcAt P w H0 H d xs) : RcAt P w H0 H' d xs := ⟨h.s0.trans s, h.d0, s _ _ h.nd, fun x hx => (h.keys x hx).same s⟩
def StD (H : Hp) (xs : List Ent) (q : Pt) (t : Nat) : Prop := ∃ a v, ndGet xs q = some (.ref a) ∧ H a = some (.tup [.int (t : Nat), v])
theorem StD.same {H H' : Hp} {xs : List Ent} {q : Pt} {t : Nat} (s : Same H H') (h : StD H xs q t) : StD H' xs q t := let ⟨a, v, h1, h2⟩ := h; ⟨a, v, h1, s _ _ h2⟩
theorem nd_more {xs : List Ent} {e : Ent} {q : Pt} {v : V} (h : ndGet xs q = some v) : ndGet (xs ++ [e]) q = some v := by
  unfold ndGet at *
  rw [List.find?_append]
  cases f : xs.find? (fun x => decide (x.1 = q)) with
  | none => rw [f] at h; cases h
  | some y => rw [f] at h; exact h
theorem nd_last {xs : List Ent} {q : Pt} {t : Addr} {v : V} (h : ndGet xs q = none) : ndGet (xs ++ [(q, t, v)]) q = some v := by
  unfold ndGet at *
  rw [List.find?_append]
  cases f : xs.find? (fun x => decide (x.1 = q)) with
  | none => simp
  | some y => rw [f] at h; cases h
theorem StD.wr {H : Hp} {xs : List Ent} {e : Ent} {q : Pt} {t : Nat} {a : Addr} {o o' : HO} (h : StD H xs q t) (ha : H a = some o) (hno : ∀ ys, o ≠ .tup ys) : StD (upd H a o') (xs ++ [e]) q t := let ⟨b, v, h1, h2⟩ := h; ⟨b, v, nd_more h1, tup_upd h2 ha hno⟩
theorem StD.wr0 {H : Hp} {xs : List Ent} {q : Pt} {t : Nat} {a : Addr} {o o' : HO} (h : StD H xs q t) (ha : H a = some o) (hno : ∀ ys, o ≠ .tup ys) : StD (upd H a o') xs q t := let ⟨b, v, h1, h2⟩ := h; ⟨b, v, h1, tup_upd h2 ha hno⟩
theorem StAt.wr {H : Hp} {x : Ent} {t : Nat} {a : Addr} {o o' : HO} (h : StAt H x t) (ha : H a = some o) (hno : ∀ ys, o ≠ .tup ys) : StAt (upd H a o') x t := let ⟨b, v, h1, h2⟩ := h; ⟨b, v, h1, tup_upd h2 ha hno⟩
theorem RcAt.put {P : Program} {w : World} {H0 H : Hp} {d : Addr} {xs : List Ent} (h : RcAt P w H0 H d xs) {q : Pt} {t : Addr} {v : V} (ht : PtAt H t q) : RcAt P w H0 (upd H d (NdO P w d (xs ++ [(q, t, v)]))) d (xs ++ [(q, t, v)]) := by
  have hn : ∀ xs', (NdO P w d xs) ≠ .tup xs' := fun _ z => by cases z
  refine ⟨same_upd h.s0 h.d0, h.d0, upd_same, fun x hx => ?_⟩
  rcases List.mem_append.mp hx with hx | hx
  · exact pt_upd (h.keys x hx) h.nd hn
  · rw [List.mem_singleton.mp hx]
    exact pt_upd ht h.nd hn
theorem RcAt.other {P : Program} {w : World} {H0 H : Hp} {d : Addr} {xs : List Ent} (h : RcAt P w H0 H d xs) {f : Addr} {ys zs : List V} (hf : H f = some (.lst ys)) (f0 : H0 f = none) : RcAt P w H0 (upd H f (.lst zs)) d xs := by
  have hn : ∀ xs', (HO.lst ys) ≠ .tup xs' := fun _ z => by cases z
  refine ⟨same_upd h.s0 f0, h.d0, ?_, fun x hx => pt_upd (h.keys x hx) hf hn⟩
  rw [upd_ne (ne_of h.nd hf (by intro z; cases z))]
  exact h.nd
theorem nd_at {xs : List Ent} (nd : (xs.map (·.1)).Nodup) {x : Ent} (hx : x ∈ xs) : ndGet xs x.1 = some x.2.2 := by
  induction xs with
  | nil => simp at hx
  | cons y ys ih =>
    rw [List.map_cons] at nd
    obtain ⟨h1, h2⟩ := List.nodup_cons.mp nd
    unfold ndGet
    rw [List.find?_cons]
    rcases List.mem_cons.mp hx with rfl | h
    · simp
    · have hne : ¬ y.1 = x.1 := fun e => h1 (by rw [e]; exact List.mem_map.mpr ⟨x, h, rfl⟩)
      simp only [hne, decide_false]
      exact ih h2 h
theorem steps_at {H : Hp} {xs : List Ent} {seen K : List Pt} {st : List Nat} {n : Nat} (hx : xs.map (·.1) = seen ++ K) (hp : Paired (StAt H) xs (st ++ List.replicate K.length n)) {q : Pt} (hq : q ∈ K) : ∃ x ∈ xs, x.1 = q ∧ StAt H x n := by
  have hl := Paired.length hp
  have hl2 := congrArg List.length hx
  simp only [List.length_map, List.length_append, List.length_replicate] at hl hl2
  obtain ⟨j, hj, rfl⟩ := List.getElem_of_mem hq
  have hi : seen.length + j < xs.length := by omega
  have e1 : xs[seen.length + j].1 = K[j] := by
    have := congrArg (fun l : List Pt => l[seen.length + j]?) hx
    simp only [List.getElem?_map, List.getElem?_eq_getElem hi] at this
    rw [List.getElem?_append_right (by omega), Nat.add_sub_cancel_left, List.getElem?_eq_getElem hj] at this
    exact Option.some.inj this
  refine ⟨xs[seen.length + j], List.getElem_mem hi, e1, ?_⟩
  obtain ⟨b, hb, r⟩ := paired_get hp (List.getElem?_eq_getElem hi)
  rw [List.getElem?_append_right (by omega), List.getElem?_replicate] at hb
  rw [if_pos (by omega)] at hb
  rw [Option.some.inj hb]
  exact r
/-- within a layer: cs are the positions looked at -/
structure RcIn (P : Program) (w : World) (Hb H : Hp) (d A f : Addr) (ly : List (Pt × Addr)) (seen : List Pt) (st : List Nat) (n : Nat) (cs : List Pt) (xs : List Ent) (ln : List (Pt × Addr)) : Prop where
  rc : RcAt P w Hb H d xs
  at_ : H A = some (.lst (ly.map fun q => V.ref q.2))
  la : H f = some (.lst (ln.map fun q => V.ref q.2))
  pn : ∀ q ∈ ln, PtAt H q.2 q.1
  py : ∀ q ∈ ly, PtAt H q.2 q.1
  en : ln.map (·.1) = news seen cs
  ex : xs.map (·.1) = seen ++ ln.map (·.1)
  st_ : Paired (StAt H) xs (st ++ List.replicate ln.length n)
  sy : ∀ q ∈ ly, StD H xs q.1 (n - 1)
theorem RcIn.same {P : Program} {w : World} {Hb H H' : Hp} {d A f : Addr} {ly : List (Pt × Addr)} {seen : List Pt} {st : List Nat} {n : Nat} {cs : List Pt} {xs : List Ent} {ln : List (Pt × Addr)} (s : Same H H') (h : RcIn P w Hb H d A f ly seen st n cs xs ln) : RcIn P w Hb H' d A f ly seen st n cs xs ln :=
  ⟨h.rc.same s, s _ _ h.at_, s _ _ h.la, fun q hq => (h.pn q hq).same s, fun q hq => (h.py q hq).same s, h.en, h.ex, paired_imp h.st_ fun a b _ r => r.same s, fun q hq => (h.sy q hq).same s⟩
theorem RcIn.skip {P : Program} {w : World} {Hb H : Hp} {d A f : Addr} {ly : List (Pt × Addr)} {seen : List Pt} {st : List Nat} {n : Nat} {cs : List Pt} {xs : List Ent} {ln : List (Pt × Addr)} (h : RcIn P w Hb H d A f ly seen st n cs xs ln) {tt : Pt} (hin : tt ∈ seen ++ ln.map (·.1)) : RcIn P w Hb H d A f ly seen st n (cs ++ [tt]) xs ln :=
  ⟨h.rc, h.at_, h.la, h.pn, h.py, by rw [news_snoc, ← h.en, add1, if_pos hin], h.ex, h.st_, h.sy⟩
theorem RcIn.step {P : Program} {w : World} {Hb H : Hp} {d A f : Addr} {ly : List (Pt × Addr)} {seen : List Pt} {st : List Nat} {n : Nat} {cs : List Pt} {xs : List Ent} {ln : List (Pt × Addr)} (h : RcIn P w Hb H d A f ly seen st n cs xs ln) {tt : Pt} (hin : tt ∉ seen ++ ln.map (·.1)) {th ta : Addr} {v : V} (ht : PtAt H th tt) (hta : H ta = some (.tup [.int (n : Nat), v])) (fA : A ≠ f) (f0 : Hb f = none) :
    (upd H d (NdO P w d (xs ++ [(tt, th, V.ref ta)]))) f = some (.lst (ln.map fun q => V.ref q.2)) ∧ RcIn P w Hb (upd (upd H d (NdO P w d (xs ++ [(tt, th, V.ref ta)]))) f (.lst ((ln.map fun q => V.ref q.2) ++ [.ref th]))) d A f ly seen st n (cs ++ [tt]) (xs ++ [(tt, th, V.ref ta)]) (ln ++ [(tt, th)]) := by
  have hn : ∀ ys, NdO P w d xs ≠ .tup ys := fun _ z => by cases z
  have hf1 : (upd H d (NdO P w d (xs ++ [(tt, th, V.ref ta)]))) f = some (.lst (ln.map fun q => V.ref q.2)) := by
    rw [upd_ne (ne_of h.la h.rc.nd (by intro z; cases z))]
    exact h.la
  have hnl : ∀ ys, (HO.lst (ln.map fun q => V.ref q.2)) ≠ .tup ys := fun _ z => by cases z
  refine ⟨hf1, (h.rc.put ht).other hf1 f0, ?_, by rw [upd_same, List.map_append] <;> rfl, fun q hq => ?_, fun q hq => pt_upd (pt_upd (h.py q hq) h.rc.nd hn) hf1 hnl, ?_, ?_, ?_, fun q hq => ((h.sy q hq).wr h.rc.nd hn).wr0 hf1 hnl⟩
  · rw [upd_ne fA, upd_ne (ne_of h.at_ h.rc.nd (by intro z; cases z))]
    exact h.at_
  · rcases List.mem_append.mp hq with a | a
    · exact pt_upd (pt_upd (h.pn q a) h.rc.nd hn) hf1 hnl
    · rw [List.mem_singleton.mp a]
      exact pt_upd (pt_upd ht h.rc.nd hn) hf1 hnl
  · rw [news_snoc, ← h.en, add1, if_neg hin, List.map_append]
    rfl
  · rw [List.map_append, h.ex, List.map_append, List.append_assoc]
    rfl
  · rw [List.length_append, List.length_singleton, List.replicate_succ', ← List.append_assoc]
    exact Paired.snoc (paired_imp h.st_ fun a b _ r => (r.wr h.rc.nd hn).wr hf1 hnl) ⟨ta, v, rfl, tup_upd (tup_upd hta h.rc.nd hn) hf1 hnl⟩
section
variable {P : Program} {w : World} {K : PySem.W.Frag} {mg : Str → Option Value} {base : Heap}
theorem ok_l_reach (T : Txt K mg) : FnOk P w K mg base CX0 2 (a_l_reach K) (d_l_reach K) P_l_reach (spReach P w K) := by
  have nd := sc_l_reach.nd
  refine ok0 T.f_l_reach sc_l_reach (fun vs H Q E h => ?_) (fun cdv A outer s H vs Q E hr h => ?_)
  · obtain ⟨pt, ns, z, ps, dp, l, bs, first, rfl, _⟩ := h
    rfl
  · obtain ⟨pt, ns, z, ps, dp, l, bs, first, rfl, hl, hpl, hfi, k⟩ := h
    have hu := hu_of hr
    refine ⟨_, (pss_cons (ps_set (i := 2) nd rfl (Or.inl rfl) (pe_callB (cr_srtD rfl) (by rfl) T.n_sorted (by decide +kernel) (pa_cons (pe_ix ix_tup (pv 0) pe_int (fun _ _ => rfl)) pa_nil))) (pss_cons (ps_set (i := 3) nd rfl (Or.inl rfl) (pe_callTy (call_dictP rfl) (by rfl) T.n_dict (by decide +kernel) (pa_cons (pe_lc (own := [("_law_room", 4)]) (g := (gName 4)) (tt := tYes) rfl nd (pi_list (pv 2)) (blkOk_by (own := [("_law_room", 4)]) (N := N_l_reach) (sc := defScope s_l_reach) (by decide +kernel)) (fun _ _ _ _ _ => (pg_name (i := 4) nd rfl (Or.inl rfl))) (fun _ _ _ _ _ => pts_nil) (fun _ _ _ _ _ => (pe_tup (pa_cons (pv 4) (pa_cons (pe_call (ok_l_near T) (hr.mono (by decide)) (by rfl) T.g_l_near T.f_l_near.kp T.b_l_near .nil pass0 (pa_cons (pv 0) (pa_cons (pv 4) pa_nil))) pa_nil))))) pa_nil))) (pss_cons (ps_set (i := 5) nd rfl (Or.inl rfl) (pe_tup (pa_cons (pv 1) (pa_cons (pe_op op_repA (pe_tup (pa_cons pe_int pa_nil)) (pe_callB call_len (by rfl) T.n_len PySem.boot_len (pa_cons (pv 2) pa_nil))) pa_nil)))) (pss_cons (ps_par (i := 6) (j := 7) (by rfl) nd rfl rfl (by decide) rfl rfl (pa_cons (pe_nd1K P w hr.units (pv 5) (pe_tup (pa_cons pe_int (pa_cons pe_non pa_nil)))) (pa_cons (pe_lst (pa_cons (pv 5) pa_nil)) pa_nil)) (by rfl)) (pss_cons (ps_while PassesOwn.never (pt_cmpR (op_neD hr.units) (pv 7) (pe_lst pa_nil) (nomark _)) (pss_cons (ps_set (i := 8) nd rfl (Or.inl rfl) (pe_lst pa_nil)) (pss_cons (ps_for PassesOwn.never rfl (pi_list (pv 7)) (pg_name (i := 9) nd rfl (Or.inl rfl)) (pss_one (ps_for PassesOwn.never rfl (pi_list (pe_dget hu (pv 3) (pe_ix ix_tup (pv 9) pe_int (fun _ _ => rfl)) (fun _ _ => rfl))) (pg_name (i := 4) nd rfl (Or.inl rfl)) (pss_cons (ps_par (i := 10) (j := 11) (by rfl) nd rfl rfl (by decide) rfl rfl (pa_cons (pe_bm PySem.F.plainAttrs_list PySem.F.slot_list_index PySem.F.type_list_index mt_index (pv 2) (pa_cons (pv 4) pa_nil)) (pa_cons (pe_ix ix_tup (pv 9) pe_int (fun _ _ => rfl)) pa_nil)) (by rfl)) (pss_cons (ps_set (i := 12) nd rfl (Or.inl rfl) (pe_tup (pa_cons (pv 4) (pa_cons (pe_op op_catA (pe_op op_catA (pe_slice sl_tupA (pv 11) po_none (po_some (pv 10))) (pe_tup (pa_cons (pe_op op_mod (pe_callTy call_int1 (by rfl) T.n_int (by decide +kernel) (pa_cons (pe_op op_add (pe_ix ix_tup (pv 11) (pv 10) (fun _ _ => rfl)) pe_int) pa_nil)) (pe_dget hu (pe_ix ix_tup (pv 0) pe_int (fun _ _ => rfl)) (pv 4) (fun _ _ => rfl))) pa_nil))) (pe_slice sl_tupA (pv 11) (po_some (pe_op op_add (pv 10) pe_int)) po_none)) pa_nil)))) (pss_one (ps_if (pt_cmpR (op_ndNotK P w hr.units) (pv 12) (pv 6) (by rfl)) (pss_cons (ps_asg (pe_tup (pa_cons (pe_op op_add (pe_ix ix_tup (pe_ix (ix_ndK P w hr.units) (pv 6) (pv 9) (fun _ _ => rfl)) pe_int (fun _ _ => rfl)) pe_int) (pa_cons (pv 9) pa_nil))) (pg_sub (pv 6) (pv 12) (set_ndK P w hr.units))) (pss_one (ps_expr (pe_bm PySem.F.plainAttrs_list PySem.F.slot_list_append PySem.F.type_list_append mt_append (pv 8) (pa_cons (pv 12) pa_nil))))) pss_nil))))))) (pss_one (ps_set (i := 7) nd rfl (Or.inl rfl) (pv 8)))))) (pss_one (ps_ret (pv 6)))))))), ?_⟩
    have hn5 := hl.sok.len
    have hR : (srtS ns).length = ns.length := (srtS_perm ns).length_eq
    have hmem : ∀ r, r ∈ srtS ns ↔ r ∈ ns := fun r => (srtS_perm ns).mem_iff
    have ndR : (srtS ns).Nodup := hpl.nd
    refine ⟨_, rfl, pt, _, _, .ref dp, rfl, rfl, SqT.of hl.tp, rfl, dp, _, ns, rfl, .inl hl.sz, sz_keys ns z, by omega, fun rl hrl => ?_⟩
    have rl1 : upd H rl (.lst ((srtS ns).map V.str)) rl = some (.lst ((srtS ns).map V.str)) := upd_same
    have s1 : Same H (upd H rl (.lst ((srtS ns).map V.str))) := same_new hrl
    generalize upd H rl (.lst ((srtS ns).map V.str)) = H1 at rl1 s1
    refine ⟨_, rfl, rl, rfl, ⟨_, SqL.of rl1⟩, fun D hD => ?_⟩
    refine lc_it (walk_list (xs := (srtS ns).map V.str)) (fun i H2 => Same H1 H2 ∧ ∃ (qs : List Addr) (ja : Str → Addr), H2 D = some (.lst (qs.map V.ref)) ∧ Paired (fun q r => H2 q = some (.tup [.str r, .ref (ja r)])) qs ((srtS ns).take i) ∧ ∀ r ∈ (srtS ns).take i, H2 (ja r) = some (.lst ((srtS (nbl ps r)).map V.str)) ∧ ja r ≠ D) ⟨same_new hD, [], fun _ => 0, upd_same, .nil, fun r hr => by simp at hr⟩ (fun i H2 _ h => SqL.of (h.1 _ _ rl1)) ?_ ?_
    · rintro i x H2 H3 hi ⟨s2, qs, ja, e2, hq2, hj2⟩ ⟨rfl, hx⟩
      rw [List.length_map] at hi
      obtain rfl : V.str (srtS ns)[i] = x := by simpa [hi] using hx
      refine ⟨rfl, _, rfl, _, rfl, _, rfl, pt, ns, z, ps, dp, l, bs, (srtS ns)[i], rfl, hl.same (s1.trans s2), fun H4 q s4 nq hq4 => ?_⟩
      refine ⟨by show 2 ≤ sizeLine; decide, fun tt htt => ?_⟩
      have s5 : Same H3 (upd H4 tt (.tup [.str (srtS ns)[i], .ref q])) := s4.trans (same_new htt)
      have e5 := s5 _ _ e2
      have hql : qs.length = i := by
        have := Paired.length hq2
        rw [List.length_take] at this
        omega
      have hnew : ∀ r ∈ (srtS ns).take i, r ≠ (srtS ns)[i] := fun r hr e => by
        have hnd' := ndR
        rw [← List.take_append_drop i (srtS ns), List.drop_eq_getElem_cons hi] at hnd'
        exact (List.nodup_append.mp hnd').2.2 _ hr _ List.mem_cons_self e
      have htk : (srtS ns).take (i + 1) = (srtS ns).take i ++ [(srtS ns)[i]] := by
        rw [List.take_add_one, List.getElem?_eq_getElem hi]
        rfl
      refine ⟨_, e5, szL (by rw [List.length_map]; omega), same_upd (s2.trans s5) hD, qs ++ [tt], fun r => if r = (srtS ns)[i] then q else ja r, by rw [upd_same, List.map_append] <;> rfl, ?_, fun r hr => ?_⟩
      · rw [htk]
        refine Paired.snoc (paired_imp hq2 fun a r hr h => ?_) ?_
        · dsimp only
          rw [if_neg (hnew r hr), upd_ne (ne_of (s5 _ _ h) e5 (by intro z; cases z))]
          exact s5 _ _ h
        · dsimp only
          have tt5 : upd H4 tt (.tup [.str (srtS ns)[i], .ref q]) tt = some (.tup [.str (srtS ns)[i], .ref q]) := upd_same
          rw [if_pos rfl, upd_ne (ne_of tt5 e5 (by intro z; cases z))]
          exact tt5
      · rw [htk] at hr
        dsimp only
        rcases List.mem_append.mp hr with a | a
        · obtain ⟨g1, hne⟩ := hj2 r a
          rw [if_neg (hnew r a), upd_ne hne]
          exact ⟨s5 _ _ g1, hne⟩
        · rw [List.mem_singleton.mp a, if_pos rfl]
          have hqD : q ≠ D := fun e => by rw [e] at nq; rw [e2] at nq; cases nq
          rw [upd_ne hqD]
          exact ⟨same_new htt _ _ hq4, hqD⟩
    rintro H2 ⟨s2, qs, ja, e2, hq2, hj2⟩
    rw [List.length_map, List.take_of_length_le (Nat.le_refl _)] at hq2 hj2
    have hkvs : Paired (fun p (kv : Key × V) => SqT K H2 p [kV kv.1, kv.2]) qs ((srtS ns).map fun r => (Sum.inr r, V.ref (ja r))) := paired_map hq2 fun a r h => SqT.of h
    refine ⟨D, qs, _, rfl, SqL.of e2, hkvs, fun jd hjd => ?_⟩
    have hkk : ((srtS ns).map fun r => ((Sum.inr r : Key), V.ref (ja r))).map (·.1) = (srtS ns).map Sum.inr := by simp
    rw [merge_nd (by rw [hkk]; exact List.Pairwise.map _ (fun a b (e : a ≠ b) (e2 : (Sum.inr a : Key) = Sum.inr b) => e (by injection e2)) ndR) (fun _ _ h => by simp at h), List.nil_append]
    have jd1 : upd H2 jd (.dK ((srtS ns).map fun r => (Sum.inr r, V.ref (ja r)))) jd = some (.dK ((srtS ns).map fun r => (Sum.inr r, V.ref (ja r)))) := upd_same
    have s3 : Same H2 (upd H2 jd (.dK ((srtS ns).map fun r => (Sum.inr r, V.ref (ja r))))) := same_new hjd
    generalize upd H2 jd (.dK ((srtS ns).map fun r => (Sum.inr r, V.ref (ja r)))) = H3 at jd1 s3
    have sH3 : Same H H3 := s1.trans (s2.trans s3)
    have rl3 := s3 _ _ (s2 _ _ rl1)
    have hja3 : ∀ r ∈ srtS ns, H3 (ja r) = some (.lst ((srtS (nbl ps r)).map V.str)) := fun r hr => s3 _ _ (hj2 r hr).1
    have hn0 : 1 ≤ ns.length := by
      have : ns.length ≠ 0 := fun e => hl.sok.ne (List.length_eq_zero_iff.mp e)
      omega
    refine ⟨_, rfl, by show 1 ≤ sizeLine; decide, fun t0 ht0 => ?_⟩
    refine ⟨_, rfl, _, ns.length, rfl, .inl ⟨_, SqL.of (same_new ht0 _ _ rl3), by rw [List.length_map, hR]⟩, t0, ns.length, .int 0, rfl, rfl, upd_same, by omega, by omega, fun td H4 s4 htd => ?_⟩
    refine ⟨by show 2 ≤ sizeLine; decide, fun t6 ht6 => ?_⟩
    have sH6 : Same H3 (upd H4 t6 (.tup [.str first, .ref td])) := (same_new ht0).trans (s4.trans (same_new ht6))
    have hpt6 : PtAt (upd H4 t6 (.tup [.str first, .ref td])) t6 (start0 ⟨srtS ns, z, ps⟩ first) := ⟨td, upd_same, by rw [same_new ht6 _ _ htd]; simp [start0, hR]⟩
    generalize upd H4 t6 (.tup [.str first, .ref td]) = Hb at sH6 hpt6
    have sHb : Same H Hb := sH3.trans sH6
    have rlb := sH6 _ _ rl3
    have jdb := sH6 _ _ jd1
    have hlb := hl.same sHb
    have hjab : ∀ r ∈ srtS ns, Hb (ja r) = some (.lst ((srtS (nbl ps r)).map V.str)) := fun r hr => sH6 _ _ (hja3 r hr)
    intro d hd
    refine ⟨_, rfl, by show 2 ≤ sizeLine; decide, fun t7 ht7 => ?_⟩
    have dt7 : d ≠ t7 := ne_of_none upd_same ht7
    have sb7 : Same Hb (upd (upd Hb d (NdO P w d [])) t7 (.tup [.int 0, .non])) := (same_new hd).trans (same_new ht7)
    refine ⟨t6, start0 ⟨srtS ns, z, ps⟩ first, rfl, hpt6.same sb7, by rw [upd_ne dt7, upd_same], ?_⟩
    have rc8 : RcAt P w Hb (upd (upd (upd Hb d (NdO P w d [])) t7 (.tup [.int 0, .non])) d (NdO P w d [(start0 ⟨srtS ns, z, ps⟩ first, t6, V.ref t7)])) d [(start0 ⟨srtS ns, z, ps⟩ first, t6, V.ref t7)] := by
      refine ⟨same_upd sb7 hd, hd, upd_same, fun x hx => ?_⟩
      rw [List.mem_singleton.mp hx]
      exact hpt6.same (same_upd sb7 hd)
    have t78 : upd (upd (upd Hb d (NdO P w d [])) t7 (.tup [.int 0, .non])) d (NdO P w d [(start0 ⟨srtS ns, z, ps⟩ first, t6, V.ref t7)]) t7 = some (.tup [.int 0, .non]) := by rw [upd_ne dt7.symm, upd_same]
    generalize upd (upd (upd Hb d (NdO P w d [])) t7 (.tup [.int 0, .non])) d (NdO P w d [(start0 ⟨srtS ns, z, ps⟩ first, t6, V.ref t7)]) = H8 at rc8 t78
    refine ⟨_, rfl, by show 1 ≤ sizeLine; decide, fun A0 hA0 => ?_⟩
    have rc9 := rc8.same (same_new (o := .lst [.ref t6]) hA0)
    have t79 := same_new (o := .lst [.ref t6]) hA0 _ _ t78
    have hA9 : upd H8 A0 (.lst [.ref t6]) A0 = some (.lst [.ref t6]) := upd_same
    have pt9 : PtAt (upd H8 A0 (.lst [.ref t6])) t6 (start0 ⟨srtS ns, z, ps⟩ first) := hpt6.same rc9.s0
    generalize upd H8 A0 (.lst [.ref t6]) = H9 at rc9 t79 hA9 pt9
    refine ⟨_, _, rfl, ?_⟩
    have hfR : first ∈ srtS ns := (hmem first).mpr hfi
    have hsb := start_box hpl hfR
    refine ⟨fun m σ H10 => ∃ (xs : List Ent) (done : List (List Pt)) (ly : List (Pt × Addr)) (A : Addr) (x4 x8 x9 x10 x11 x12 : Option V), σ = [some (.ref pt), some (.str first), some (.ref rl), some (.ref jd), x4, some (.ref t6), some (.ref d), some (.ref A), x8, x9, x10, x11, x12] ∧ RcAt P w Hb H10 d xs ∧ H10 A = some (.lst (ly.map fun q => V.ref q.2)) ∧ (∀ q ∈ ly, PtAt H10 q.2 q.1) ∧
      xs.map (·.1) = done.flatten ∧ Paired (StAt H10) xs (stepsOf done 0) ∧ (∀ q ∈ done.flatten, q ∈ box ⟨srtS ns, z, ps⟩) ∧ done.flatten.Nodup ∧ (∀ q ∈ ly, q.1 ∈ box ⟨srtS ns, z, ps⟩ ∧ StD H10 xs q.1 (done.length - 1)) ∧ 1 ≤ done.length ∧
      ((ly ≠ [] ∧ ∃ m', m = m' + 1 ∧ done ++ lays ⟨srtS ns, z, ps⟩ m' done.flatten (ly.map (·.1)) = allLays ⟨srtS ns, z, ps⟩ first ∧ 10002 < m' + done.flatten.length) ∨ (ly = [] ∧ m = 0 ∧ done = allLays ⟨srtS ns, z, ps⟩ first)),
      ⟨10003, [(start0 ⟨srtS ns, z, ps⟩ first, t6, V.ref t7)], [[start0 ⟨srtS ns, z, ps⟩ first]], [(start0 ⟨srtS ns, z, ps⟩ first, t6)], A0, _, _, _, _, _, _, rfl, rc9, hA9, (fun q hq => by rw [List.mem_singleton.mp hq]; exact pt9), rfl, .cons ⟨t7, .non, rfl, t79⟩ .nil, (fun q hq => by simp at hq; rw [hq]; exact hsb), by simp, (fun q hq => by rw [List.mem_singleton.mp hq]; exact ⟨hsb, t7, .non, by simp [ndGet], t79⟩), Nat.le_refl _, .inl ⟨by simp, 10002, rfl, rfl, by simp⟩⟩, ?_⟩
    rintro m σ H10 ⟨xs, done, ly, A, x4, x8, x9, x10, x11, x12, rfl, rc, hA, hpl10, hx10, hst10, hbx10, hnd10, hly10, hdl, hcase⟩
    refine ⟨_, rfl, by show 0 ≤ sizeLine; omega, fun e he => ?_⟩
    have se : Same H10 (upd H10 e (.lst [])) := same_new he
    have hnmly : ∀ q ∈ ly, IsNm q.1.1 := fun q hq => hpl.nm _ (mem_box.mp (hly10 q hq).1).1
    refine ⟨_, _, .lst (SqL.of (se _ _ hA)) (dp_pts fun q hq => (hpl10 q hq).same se), dp_nil upd_same, shaped_pts hnmly, shaped_nil, _, rfl, ?_⟩
    rw [eqv_nil]
    have rce := rc.same se
    have hAe := se _ _ hA
    have hple : ∀ q ∈ ly, PtAt (upd H10 e (.lst [])) q.2 q.1 := fun q hq => (hpl10 q hq).same se
    have hste : Paired (StAt (upd H10 e (.lst []))) xs (stepsOf done 0) := paired_imp hst10 fun a b _ h => h.same se
    have hlye : ∀ q ∈ ly, q.1 ∈ box ⟨srtS ns, z, ps⟩ ∧ StD (upd H10 e (.lst [])) xs q.1 (done.length - 1) := fun q hq => ⟨(hly10 q hq).1, (hly10 q hq).2.same se⟩
    generalize upd H10 e (.lst []) = H11 at rce hAe hple hste hlye
    rcases hcase with ⟨hne, m', rfl, hall, hm⟩ | ⟨rfl, rfl, hdone⟩
    · refine iteN (by simpa using hne) ?_
      refine ⟨fun σ' H' => ∃ m2, m2 < m' + 1 ∧ _, fun σ' H' h => h, ?_⟩
      refine ⟨by show 0 ≤ sizeLine; omega, fun f hf => ?_⟩
      have f0 : Hb f = none := rce.s0.free hf
      have fA : A ≠ f := ne_of_none hAe hf
      have sf : Same H11 (upd H11 f (.lst [])) := same_new hf
      have hin0 : RcIn P w Hb (upd H11 f (.lst [])) d A f ly done.flatten (stepsOf done 0) done.length [] xs [] :=
        ⟨rce.same sf, sf _ _ hAe, upd_same, fun q hq => by simp at hq, fun q hq => (hple q hq).same sf, rfl, by rw [hx10]; simp, by simpa using paired_imp hste fun a b _ r => r.same sf, fun q hq => (hlye q hq).2.same sf⟩
      have hlyb : ∀ q ∈ ly, q.1 ∈ box ⟨srtS ns, z, ps⟩ := fun q hq => (hly10 q hq).1
      have hbl : ∀ (S : List Pt), S.Nodup → (∀ q ∈ S, q ∈ box ⟨srtS ns, z, ps⟩) → S.length ≤ 10000 := fun S h1 h2 => box_le hpl h1 h2
      generalize upd H11 f (.lst []) = H12 at hin0
      refine ⟨_, rfl, A, rfl, ⟨_, SqL.of hin0.at_⟩, ?_⟩
      refine for_it (walk_list (xs := ly.map fun q => V.ref q.2)) (fun i σ H13 => (∃ x4 x9 x10 x11 x12, σ = [some (.ref pt), some (.str first), some (.ref rl), some (.ref jd), x4, some (.ref t6), some (.ref d), some (.ref A), some (.ref f), x9, x10, x11, x12]) ∧ ∃ xs' ln, RcIn P w Hb H13 d A f ly done.flatten (stepsOf done 0) done.length (((ly.map (·.1)).take i).flatMap (succs ⟨srtS ns, z, ps⟩)) xs' ln) ⟨⟨_, _, _, _, _, rfl⟩, xs, [], hin0⟩ (fun i σ H13 _ ⟨_, xs', ln, h⟩ => SqL.of h.at_) ?_ ?_
      · rintro i x σ H13 H14 hi ⟨⟨x4, x9, x10, x11, x12, rfl⟩, xs', ln, h13⟩ ⟨rfl, hx⟩
        rw [List.length_map] at hi
        rw [List.getElem?_map, List.getElem?_eq_getElem hi] at hx
        obtain rfl := Option.some.inj hx
        have hqi : ly[i] ∈ ly := List.getElem_mem hi
        have hqb := mem_box.mp (hlyb _ hqi)
        obtain ⟨tq, ht1, ht2⟩ := h13.py _ hqi
        have hjq := h13.rc.s0 _ _ (hjab _ hqb.1)
        have hjg : DGet H14 jd (.str ly[i].1.1) (some (.ref (ja ly[i].1.1))) := by
          rw [← val_map (k := fun r => r) (f := fun r => V.ref (ja r)) (by simpa using ndR) hqb.1]
          exact DGet.k (k := Sum.inr ly[i].1.1) (h13.rc.s0 _ _ jdb)
        refine ⟨_, rfl, _, rfl, _, _, _, V.str ly[i].1.1, rfl, rfl, SqT.of ht1, rfl, jd, _, rfl, hjg, _, rfl, ⟨_, SqL.of hjq⟩, ?_⟩
        refine for_it (walk_list (xs := (srtS (nbl ps ly[i].1.1)).map V.str)) (fun j σ H15 => (∃ x4 x10 x11 x12, σ = [some (.ref pt), some (.str first), some (.ref rl), some (.ref jd), x4, some (.ref t6), some (.ref d), some (.ref A), some (.ref f), some (.ref ly[i].2), x10, x11, x12]) ∧ ∃ xs' ln, RcIn P w Hb H15 d A f ly done.flatten (stepsOf done 0) done.length (((ly.map (·.1)).take i).flatMap (succs ⟨srtS ns, z, ps⟩) ++ (succs ⟨srtS ns, z, ps⟩ ly[i].1).take j) xs' ln) ⟨⟨_, _, _, _, rfl⟩, xs', ln, by rw [List.take_zero, List.append_nil]; exact h13⟩ (fun j σ H15 _ ⟨_, xs', ln, h⟩ => SqL.of (h.rc.s0 _ _ (hjab _ hqb.1))) ?_ ?_
        · rintro j x σ H15 H16 hj ⟨⟨x4, x10, x11, x12, rfl⟩, xs5, ln5, h15⟩ ⟨rfl, hx⟩
          rw [List.length_map] at hj
          obtain rfl : V.str (srtS (nbl ps ly[i].1.1))[j] = x := by simpa [hj] using hx
          have hrn : (srtS (nbl ps ly[i].1.1))[j] ∈ srtS (nbl ps ly[i].1.1) := List.getElem_mem hj
          generalize hr' : (srtS (nbl ps ly[i].1.1))[j] = r at hrn
          have hrR : r ∈ srtS ns := nbl_sub hpl (q := ly[i].1.1) ((srtS_perm _).mem_iff.mp hrn)
          have htk : (succs ⟨srtS ns, z, ps⟩ ly[i].1).take (j + 1) = (succs ⟨srtS ns, z, ps⟩ ly[i].1).take j ++ [(r, turn (srtS ns) z r ly[i].1.2)] := by
            rw [List.take_add_one]
            simp [succs, hj, hr']
          have hk : (srtS ns).idxOf r < (srtS ns).length := List.idxOf_lt_length_iff.mpr hrR
          obtain ⟨td5, ht51, ht52⟩ := h15.py _ hqi
          have rl5 := h15.rc.s0 _ _ rlb
          refine ⟨_, rfl, .inl ⟨rfl, _, SqL.of rl5⟩, _, rfl, rl, _, V.str r, (srtS ns).idxOf r, V.str r, rfl, rfl, SqL.of rl5, rfl, by rw [List.all_map]; exact List.all_eq_true.mpr fun _ _ => rfl, ?_, by simp [eqV], fun m' z' hm' hz' => ?_, ?_⟩
          · rw [List.getElem?_map, List.getElem?_eq_getElem hk, List.getElem_idxOf hk]
            rfl
          · have hml : m' < (srtS ns).length := by omega
            rw [List.getElem?_map, List.getElem?_eq_getElem hml] at hz'
            obtain rfl := Option.some.inj hz'
            have hne : (srtS ns)[m'] ≠ r := fun e => by
              have := idx_get ndR hml
              rw [e] at this
              omega
            simpa [eqV] using hne
          refine ⟨_, rfl, _, _, _, V.ref td5, rfl, rfl, SqT.of ht51, rfl, _, _, rfl, ?_⟩
          obtain ⟨v, hv1, hv2, hv3⟩ := hqb.2.get ((srtS ns).idxOf r) (by rw [List.length_map]; exact hk)
          have hlen : ly[i].1.2.length = (srtS ns).length := by rw [hqb.2.len, List.length_map]
          refine ⟨_, rfl, _, rfl, _, rfl, _, rfl, sl_any ht52 fun p1 H17 s17 h17 => ?_⟩
          rw [cut_to] at h17
          have td17 := s17 _ _ ht52
          have hl17 := hlb.same (h15.rc.s0.trans s17)
          have hz1 := hpl.z1 r hrR
          have hrns : r ∈ ns := (hmem r).mp hrR
          refine ⟨_, rfl, _, rfl, td5, _, _, V.int v, rfl, rfl, SqT.of td17, atI_nat (by rw [List.getElem?_map, hv1]; rfl), _, _, rfl, rfl, .inl ⟨_, rfl, ?_⟩⟩
          refine ⟨_, rfl, pt, _, _, .ref dp, rfl, rfl, SqT.of hl17.tp, rfl, _, rfl, dp, .int (z r), rfl, by rw [← sz_get z hl.sok.nd hrns]; exact DGet.k (k := Sum.inr r) hl17.sz, ?_⟩
          have hzr : 1 ≤ z r := hz1
          refine ⟨_, _, rfl, rfl, by omega, by show 1 ≤ sizeLine; decide, fun p2 hp2 => ?_⟩
          have s18 : Same H17 (upd H17 p2 (.tup [.int ((v + 1) % (z r : Nat))])) := same_new hp2
          refine cat_any (s18 _ _ h17) upd_same (szK (by simp only [List.length_take, List.length_map, List.length_singleton]; omega)) fun p3 H19 s19 h19 => ?_
          have s20 : Same H16 H19 := s17.trans (s18.trans s19)
          refine ⟨_, rfl, _, rfl, _, _, rfl, rfl, _, rfl, ?_⟩
          unfold tNoPart
          refine sl_any (s20 _ _ ht52) fun p4 H21 s21 h21 => ?_
          have e1 : (((srtS ns).idxOf r : Nat) : Int) + 1 = (((srtS ns).idxOf r + 1 : Nat) : Int) := by omega
          rw [e1, cut_from] at h21
          refine cat_any (s21 _ _ h19) h21 (szK (by simp only [List.length_append, List.length_take, List.length_drop, List.length_map, List.length_singleton]; omega)) fun p5 H22 s22 h22 => ?_
          refine ⟨by show 2 ≤ sizeLine; decide, fun th hth => ?_⟩
          have s23 : Same H16 (upd H22 th (.tup [.str r, .ref p5])) := s20.trans (s21.trans (s22.trans (same_new hth)))
          have hpt : PtAt (upd H22 th (.tup [.str r, .ref p5])) th (r, turn (srtS ns) z r ly[i].1.2) := by
            refine ⟨p5, upd_same, ?_⟩
            rw [same_new hth _ _ h22]
            unfold turn
            have hgd : ly[i].1.2.getD ((srtS ns).idxOf r) 0 = v := by rw [List.getD_eq_getElem?_getD, hv1]; rfl
            rw [hgd]
            simp [List.map_take, List.map_drop]
          generalize upd H22 th (.tup [.str r, .ref p5]) = H23 at s23 hpt
          have h23 := h15.same s23
          have tR : (r, turn (srtS ns) z r ly[i].1.2) ∈ box ⟨srtS ns, z, ps⟩ := mem_box.mpr ⟨hrR, turn_in hpl hrR hqb.2⟩
          generalize htt : (r, turn (srtS ns) z r ly[i].1.2) = tt at htk hpt tR
          refine ⟨_, rfl, _, rfl, th, tt, d, xs5, rfl, rfl, hpt, ⟨.inl h23.rc.nd, h23.rc.keys⟩, _, rfl, ?_⟩
          rw [nd_find, h23.ex]
          by_cases hin : tt ∈ done.flatten ++ ln5.map (·.1)
          · refine iteNS hin ?_
            refine ⟨⟨_, _, _, _, rfl⟩, xs5, ln5, ?_⟩
            rw [htk, ← List.append_assoc]
            exact h23.skip hin
          · refine iteN hin ?_
            have hsp := news_spec done.flatten (((ly.map (·.1)).take i).flatMap (succs ⟨srtS ns, z, ps⟩) ++ (succs ⟨srtS ns, z, ps⟩ ly[i].1).take j)
            have hlenx : xs5.length ≤ 10000 := by
              have := hbl (xs5.map (·.1)) ?_ ?_
              · rw [List.length_map] at this
                exact this
              · rw [h23.ex, h23.en]
                refine List.nodup_append.mpr ⟨hnd10, hsp.1, fun a ha c hc e => ?_⟩
                subst e
                exact ((hsp.2 a).mp hc).2 ha
              · intro q hq
                rw [h23.ex, h23.en] at hq
                rcases List.mem_append.mp hq with a | a
                · exact hbx10 q a
                · rcases List.mem_append.mp ((hsp.2 q).mp a).1 with c | c
                  · obtain ⟨y, hy, hy2⟩ := List.mem_flatMap.mp c
                    obtain ⟨y2, hy3, rfl⟩ := List.mem_map.mp (List.mem_of_mem_take hy)
                    exact succs_box hpl (hlyb _ hy3) hy2
                  · exact succs_box hpl (hlyb _ hqi) (List.mem_of_mem_take c)
            have hlenl : ln5.length ≤ 10000 := by
              have := congrArg List.length h23.ex
              simp only [List.length_map, List.length_append] at this
              omega
            have hnone : ndGet xs5 tt = none := by
              have := nd_find (xs := xs5) (q := tt)
              rw [h23.ex, decide_eq_false hin] at this
              cases e : ndGet xs5 tt with
              | none => rfl
              | some _ => rw [e] at this; cases this
            obtain ⟨sa, sv, hsa1, hsa2⟩ := h23.sy _ hqi
            refine ⟨_, rfl, _, rfl, d, xs5, ly[i].2, ly[i].1, .ref sa, rfl, rfl, h23.py _ hqi, ⟨.inl h23.rc.nd, h23.rc.keys⟩, hsa1, ?_⟩
            refine ⟨sa, _, _, V.int ((done.length - 1 : Nat) : Int), rfl, rfl, SqT.of hsa2, rfl, _, _, rfl, rfl, _, rfl, by show 2 ≤ sizeLine; decide, fun ta hta => ?_⟩
            have s24 : Same H23 (upd H23 ta (.tup [.int (((done.length - 1 : Nat) : Int) + 1), .ref ly[i].2])) := same_new hta
            have hta2 : upd H23 ta (.tup [.int (((done.length - 1 : Nat) : Int) + 1), .ref ly[i].2]) ta = some (.tup [.int (done.length : Nat), .ref ly[i].2]) := by
              rw [upd_same, show (((done.length - 1 : Nat) : Int) + 1) = ((done.length : Nat) : Int) by omega]
            have h24 := h23.same s24
            have hpt24 := hpt.same s24
            generalize upd H23 ta (.tup [.int (((done.length - 1 : Nat) : Int) + 1), .ref ly[i].2]) = H24 at s24 hta2 h24 hpt24
            obtain ⟨hf25, h25⟩ := h24.step hin hpt24 hta2 fA f0
            refine ⟨_, rfl, _, rfl, d, xs5, th, tt, rfl, rfl, hpt24, h24.rc.nd, h24.rc.keys, hnone, szL (by omega), ?_⟩
            refine ⟨_, rfl, .inl ⟨rfl, _, SqL.of hf25⟩, _, rfl, f, _, _, rfl, rfl, hf25, szL (by rw [List.length_map]; omega), ?_⟩
            refine ⟨⟨_, _, _, _, rfl⟩, xs5 ++ [(tt, th, .ref ta)], ln5 ++ [(tt, th)], ?_⟩
            rw [htk, ← List.append_assoc]
            exact h25
        · rintro σ H15 ⟨⟨x4, x10, x11, x12, rfl⟩, xs5, ln5, h15⟩
          refine ⟨⟨_, _, _, _, _, rfl⟩, xs5, ln5, ?_⟩
          have e1 : (succs ⟨srtS ns, z, ps⟩ ly[i].1).take ((srtS (nbl ps ly[i].1.1)).map V.str).length = succs ⟨srtS ns, z, ps⟩ ly[i].1 := List.take_of_length_le (by simp [succs])
          rw [e1] at h15
          rw [List.take_add_one, List.getElem?_map, List.getElem?_eq_getElem hi]
          simpa using h15
      rintro σ H13 ⟨⟨x4, x9, x10, x11, x12, rfl⟩, xs', ln, h13⟩
      rw [List.length_map, List.take_of_length_le (by simp)] at h13
      have hlnb : ∀ q ∈ ln, q.1 ∈ box ⟨srtS ns, z, ps⟩ := fun q hq => by
        have : q.1 ∈ ln.map (·.1) := List.mem_map.mpr ⟨q, hq, rfl⟩
        rw [h13.en] at this
        exact news_box hpl (fun q hq => by
          obtain ⟨y, hy, rfl⟩ := List.mem_map.mp hq
          exact hlyb y hy) _ this
      have hsp := news_spec done.flatten ((ly.map (·.1)).flatMap (succs ⟨srtS ns, z, ps⟩))
      have hkeys : (xs'.map (·.1)).Nodup := by
        rw [h13.ex, h13.en]
        exact nodup_more hnd10
      have hseen := hbl done.flatten hnd10 hbx10
      obtain ⟨m'', rfl⟩ : ∃ m'', m' = m'' + 1 := ⟨m' - 1, by omega⟩
      refine ⟨_, rfl, ?_⟩
      by_cases hln : ln = []
      · subst hln
        have hx' : xs'.map (·.1) = done.flatten := by rw [h13.ex]; simp
        refine ⟨0, by omega, xs', done, [], f, _, _, _, _, _, _, rfl, h13.rc, h13.la, fun q hq => by simp at hq, hx', by simpa using h13.st_, hbx10, hnd10, fun q hq => by simp at hq, hdl, .inr ⟨rfl, rfl, ?_⟩⟩
        have hl0 : lays ⟨srtS ns, z, ps⟩ (m'' + 1) done.flatten (ly.map (·.1)) = [] := by
          unfold lays
          rw [← h13.en]
          rfl
        rw [hl0, List.append_nil] at hall
        exact hall
      · have hnw : news done.flatten ((ly.map (·.1)).flatMap (succs ⟨srtS ns, z, ps⟩)) ≠ [] := by
          rw [← h13.en]
          simpa using hln
        have hfl : (done ++ [ln.map (·.1)]).flatten = done.flatten ++ ln.map (·.1) := by simp
        refine ⟨m'' + 1, by omega, xs', done ++ [ln.map (·.1)], ln, f, _, _, _, _, _, _, rfl, h13.rc, h13.la, h13.pn, by rw [hfl]; exact h13.ex, ?_, ?_, ?_, fun q hq => ⟨hlnb q hq, ?_⟩, by rw [List.length_append]; omega, .inl ⟨hln, m'', rfl, ?_, ?_⟩⟩
        · rw [stepsOf_snoc, List.length_map, Nat.zero_add]
          exact h13.st_
        · rw [hfl]
          intro q hq
          rcases List.mem_append.mp hq with a | a
          · exact hbx10 q a
          · obtain ⟨y, hy, rfl⟩ := List.mem_map.mp a
            exact hlnb y hy
        · rw [hfl, h13.en]
          exact nodup_more hnd10
        · obtain ⟨x, hx1, hx2, a, v, hx3, hx4⟩ := steps_at h13.ex (by rw [List.length_map]; exact h13.st_) (List.mem_map.mpr ⟨q, hq, rfl⟩)
          refine ⟨a, v, ?_, by rw [List.length_append, List.length_singleton, Nat.add_sub_cancel]; exact hx4⟩
          rw [← hx2, nd_at hkeys hx1, hx3]
        · rw [← hall, hfl, List.append_assoc]
          congr 1
          rw [show lays ⟨srtS ns, z, ps⟩ (m'' + 1) done.flatten (ly.map (·.1)) = news done.flatten ((ly.map (·.1)).flatMap (succs ⟨srtS ns, z, ps⟩)) :: lays ⟨srtS ns, z, ps⟩ m'' (done.flatten ++ news done.flatten ((ly.map (·.1)).flatMap (succs ⟨srtS ns, z, ps⟩))) (news done.flatten ((ly.map (·.1)).flatMap (succs ⟨srtS ns, z, ps⟩))) from by
            rw [lays, if_neg hnw]]
          rw [h13.en]
          rfl
        · rw [hfl, List.length_append, List.length_map]
          have : 0 < ln.length := List.length_pos_iff.mpr hln
          omega
    · refine iteNS rfl ?_
      subst hdone
      exact ⟨_, rfl, k H11 d xs (sHb.trans rce.s0) (sHb.free rce.d0) rce.nd rce.keys hx10 hste⟩
end
end Rd
/-! what the layers tell: plain -/
namespace Rd
open PySem PySem.Spec L2
open PyProof.Rows hiding St
theorem lays_ne (p : Pln) : ∀ (n : Nat) (seen last : List Pt), ∀ l ∈ lays p n seen last, l ≠ []
  | 0, _, _, l, h => by simp [lays] at h
  | n + 1, seen, last, l, h => by
    rw [lays] at h
    by_cases e : news seen (last.flatMap (succs p)) = []
    · rw [if_pos e] at h
      simp at h
    · rw [if_neg e] at h
      rcases List.mem_cons.mp h with q | q
      · rw [q]
        exact e
      · exact lays_ne p n _ _ l q
theorem all_ne (p : Pln) (first : Str) : ∀ l ∈ allLays p first, l ≠ [] := fun l h => by
  rcases List.mem_cons.mp h with q | q
  · rw [q]
    simp
  · exact lays_ne p _ _ _ l q
theorem lays_len (p : Pln) : ∀ (n : Nat) (seen last : List Pt), (lays p n seen last).length ≤ n
  | 0, _, _ => Nat.zero_le _
  | n + 1, seen, last => by
    rw [lays]
    split
    · exact Nat.zero_le _
    · rw [List.length_cons]
      have := lays_len p n (seen ++ news seen (last.flatMap (succs p))) (news seen (last.flatMap (succs p)))
      omega
theorem all_len (p : Pln) (first : Str) : 1 ≤ (allLays p first).length ∧ (allLays p first).length ≤ 10003 := by
  unfold allLays
  have := lays_len p 10002 [start0 p first] [start0 p first]
  rw [List.length_cons]
  omega
theorem stepsOf_mem : ∀ (ls : List (List Pt)) (k t : Nat), t ∈ stepsOf ls k → k ≤ t ∧ t < k + ls.length
  | [], k, t, h => by simp [stepsOf] at h
  | l :: ls, k, t, h => by
    rw [stepsOf] at h
    rcases List.mem_append.mp h with q | q
    · have := List.eq_of_mem_replicate q
      rw [List.length_cons]
      omega
    · have := stepsOf_mem ls (k + 1) t q
      rw [List.length_cons]
      omega
theorem stepsOf_last : ∀ (ls : List (List Pt)) (k : Nat), ls ≠ [] → (∀ l ∈ ls, l ≠ []) → k + ls.length - 1 ∈ stepsOf ls k
  | [], _, h, _ => absurd rfl h
  | [l], k, _, hl => by
    have : 0 < l.length := List.length_pos_iff.mpr (hl l (by simp))
    have hne : l ≠ [] := hl l (by simp)
    simp [stepsOf, hne]
  | l :: l2 :: ls, k, _, hl => by
    rw [stepsOf]
    refine List.mem_append.mpr (.inr ?_)
    have := stepsOf_last (l2 :: ls) (k + 1) (by simp) fun x hx => hl x (List.mem_cons_of_mem _ hx)
    rw [show k + (l :: l2 :: ls).length - 1 = k + 1 + (l2 :: ls).length - 1 by simp only [List.length_cons]; omega]
    exact this
theorem counts_eq : ∀ (ls : List (List Pt)) (k : Nat), (List.range ls.length).map (fun i => (stepsOf ls k).count (k + i)) = ls.map (·.length)
  | [], _ => rfl
  | l :: ls, k => by
    rw [List.length_cons, List.range_succ_eq_map, List.map_cons, List.map_map, List.map_cons]
    have h0 : (stepsOf ls (k + 1)).count k = 0 := List.count_eq_zero.mpr fun h => by
      have := (stepsOf_mem ls (k + 1) k h).1
      omega
    congr 1
    · rw [Nat.add_zero, stepsOf, List.count_append, h0, List.count_replicate_self]
      rfl
    · rw [← counts_eq ls (k + 1)]
      refine List.map_congr_left fun i _ => ?_
      simp only [Function.comp]
      rw [stepsOf, List.count_append, List.count_replicate]
      have : ¬ (k == k + Nat.succ i) = true := by simp
      rw [if_neg this, Nat.zero_add, show k + Nat.succ i = k + 1 + i by omega]
theorem set_range {α : Type} (f : Nat → α) (N t : Nat) (v : α) : ((List.range N).map f).set t v = (List.range N).map fun k => if k = t then v else f k := by
  refine List.ext_getElem? fun i => ?_
  rw [List.getElem?_set]
  simp only [List.length_map, List.length_range, List.getElem?_map]
  by_cases h : i < N
  · rw [List.getElem?_range h]
    by_cases e : t = i
    · subst e
      simp [h]
    · rw [if_neg e]
      simp [Ne.symm e]
  · rw [List.getElem?_eq_none (by simpa using h)]
    by_cases e : t = i
    · subst e
      simp [h]
    · rw [if_neg e]
      rfl
theorem prd_perm {z : Str → Nat} {a b : List Str} (h : a.Perm b) : prd z a = prd z b := by
  induction h with
  | nil => rfl
  | cons x _ ih => simp [prd, ih]
  | swap x y l => simp only [prd]; rw [← Nat.mul_assoc, Nat.mul_comm (z y), Nat.mul_assoc]
  | trans _ _ i1 i2 => exact i1.trans i2
theorem prd_le {z : Str → Nat} {b : Nat} : ∀ {l : List Str}, (∀ r ∈ l, z r ≤ b) → prd z l ≤ b ^ l.length
  | [], _ => Nat.le_refl _
  | r :: l, h => by
    have ih := prd_le (z := z) (b := b) (l := l) fun q hq => h q (List.mem_cons_of_mem _ hq)
    rw [prd, List.length_cons, Nat.pow_succ, Nat.mul_comm]
    exact Nat.mul_le_mul ih (h r List.mem_cons_self)
theorem plOk_of {ns : List Str} {z : Str → Nat} {ps : List (Str × Str)} (s : SzOk ns z) (p : PsOk ns ps) (c : Conn ns ps) (sm : ns.length * prd z ns ≤ 10000) : PlOk ⟨srtS ns, z, ps⟩ := by
  have hm : ∀ r, r ∈ srtS ns ↔ r ∈ ns := fun r => (srtS_perm ns).mem_iff
  have hl : (srtS ns).length = ns.length := (srtS_perm ns).length_eq
  refine ⟨(srtS_perm ns).nodup_iff.mpr s.nd, fun r hr => s.nm r ((hm r).mp hr), fun r hr => s.z1 r ((hm r).mp hr), fun r hr => s.z2 r ((hm r).mp hr), fun e => s.ne ?_, by show (srtS ns).length ≤ 5; rw [hl]; exact s.len, ⟨fun e he => ⟨(hm _).mpr (p.sub e he).1, (hm _).mpr (p.sub e he).2⟩, p.lt, p.nd, p.len⟩, ?_, ?_⟩
  · have := congrArg List.length e
    rw [hl] at this
    exact List.length_eq_zero_iff.mp this
  · intro S ⟨r, hr, hS⟩ hc r' hr'
    exact c S ⟨r, (hm r).mp hr, hS⟩ hc r' ((hm r').mp hr')
  · show (srtS ns).length * prd z (srtS ns) ≤ 10000
    rw [hl, prd_perm (srtS_perm ns)]
    exact sm
/-- how many positions in all -/
def total (p : Pln) (first : Str) : Nat := ((allLays p first).map (·.length)).sum
end Rd
/-! the layers together: each position that can be reached, once -/
namespace Rd
open PySem PySem.Spec L2
open PyProof.Rows hiding St
theorem lays_flat {p : Pln} (h : PlOk p) (P : Pt → Prop) (hP : ∀ q t, P q → t ∈ succs p q → P t) : ∀ (n : Nat) (seen last : List Pt), seen.Nodup → (∀ q ∈ seen, q ∈ box p) → (∀ q ∈ last, q ∈ seen) → (∀ q ∈ seen, q ∉ last → ∀ t ∈ succs p q, t ∈ seen) → 10000 < n + seen.length → (∀ q ∈ seen, P q) →
    (seen ++ (lays p n seen last).flatten).Nodup ∧ (∀ q ∈ seen ++ (lays p n seen last).flatten, q ∈ box p ∧ P q) ∧ (∀ q ∈ seen ++ (lays p n seen last).flatten, ∀ t ∈ succs p q, t ∈ seen ++ (lays p n seen last).flatten)
  | 0, seen, last, nd, hb, hl, hc, hf, hp => by
    have := box_le h nd hb
    omega
  | n + 1, seen, last, nd, hb, hl, hc, hf, hp => by
    have hns := (news_spec seen (last.flatMap (succs p))).2
    rw [lays]
    by_cases e : news seen (last.flatMap (succs p)) = []
    · rw [if_pos e]
      simp only [List.flatten_nil, List.append_nil]
      refine ⟨nd, fun q hq => ⟨hb q hq, hp q hq⟩, fun q hq t ht => ?_⟩
      by_cases hl' : q ∈ last
      · by_cases hs : t ∈ seen
        · exact hs
        · have : t ∈ news seen (last.flatMap (succs p)) := (hns t).mpr ⟨List.mem_flatMap.mpr ⟨q, hl', ht⟩, hs⟩
          rw [e] at this
          simp at this
      · exact hc q hq hl' t ht
    · rw [if_neg e, List.flatten_cons, ← List.append_assoc]
      have hlen : 0 < (news seen (last.flatMap (succs p))).length := List.length_pos_iff.mpr e
      refine lays_flat h P hP n _ _ (nodup_more nd) (fun q hq => ?_) (fun q hq => List.mem_append.mpr (.inr hq)) (fun q hq hn t ht => ?_) (by rw [List.length_append]; omega) (fun q hq => ?_)
      · rcases List.mem_append.mp hq with a | a
        · exact hb q a
        · exact news_box h (fun x hx => hb x (hl x hx)) q a
      · rcases List.mem_append.mp hq with a | a
        · by_cases hl' : q ∈ last
          · by_cases hs : t ∈ seen
            · exact List.mem_append.mpr (.inl hs)
            · exact List.mem_append.mpr (.inr ((hns t).mpr ⟨List.mem_flatMap.mpr ⟨q, hl', ht⟩, hs⟩))
          · exact List.mem_append.mpr (.inl (hc q a hl' t ht))
        · exact absurd a hn
      · rcases List.mem_append.mp hq with a | a
        · exact hp q a
        · obtain ⟨x, hx, hx2⟩ := List.mem_flatMap.mp ((hns q).mp a).1
          exact hP x q (hp x (hl x hx)) hx2
/-- all positions told -/
def allP (p : Pln) (first : Str) : List Pt := (allLays p first).flatten
theorem allP_spec {p : Pln} (h : PlOk p) {first : Str} (hf : first ∈ p.R) : (allP p first).Nodup ∧ (∀ q ∈ allP p first, q ∈ box p) ∧ start0 p first ∈ allP p first ∧ (∀ q ∈ allP p first, ∀ t ∈ succs p q, t ∈ allP p first) ∧ ∀ P : Pt → Prop, P (start0 p first) → (∀ q t, P q → t ∈ succs p q → P t) → ∀ q ∈ allP p first, P q := by
  have e : allP p first = [start0 p first] ++ (lays p 10002 [start0 p first] [start0 p first]).flatten := by
    simp [allP, allLays]
  have key := fun P hP => lays_flat h P hP 10002 [start0 p first] [start0 p first] (by simp) (fun q hq => by rw [List.mem_singleton.mp hq]; exact start_box h hf) (fun q hq => hq) (fun q hq hn => absurd hq hn) (by simp)
  rw [e]
  obtain ⟨k1, k2, k3⟩ := key (fun _ => True) (fun _ _ _ _ => trivial) (fun _ _ => trivial)
  refine ⟨k1, fun q hq => (k2 q hq).1, by simp, k3, fun P h0 hP q hq => ?_⟩
  exact ((key P hP (fun q hq => by rw [List.mem_singleton.mp hq]; exact h0)).2.1 q hq).2
theorem total_len (p : Pln) (first : Str) : total p first = (allP p first).length := by
  rw [allP, List.length_flatten]
  rfl
theorem total_le {p : Pln} (h : PlOk p) {first : Str} (hf : first ∈ p.R) : total p first ≤ 10000 := by
  obtain ⟨h1, h2, _⟩ := allP_spec h hf
  rw [total_len]
  exact box_le h h1 h2
theorem lay_one {p : Pln} (h : PlOk p) {first : Str} (hf : first ∈ p.R) (h2 : 2 ≤ p.R.length) : ∃ l1 rest, allLays p first = [start0 p first] :: l1 :: rest ∧ l1.length = (nbl p.ps first).length := by
  have hne : ∀ e ∈ p.ps, e.1 ≠ e.2 := fun e he q => by
    have := h.ps.lt e he
    rw [q] at this
    exact absurd this (List.lt_irrefl _)
  have hsn : ∀ r ∈ srtS (nbl p.ps first), r ≠ first := fun r hr e => by
    have hr' := (srtS_perm _).mem_iff.mp hr
    rw [e] at hr'
    rcases (mem_nbl hne).mp hr' with a | a
    · exact hne _ a rfl
    · exact hne _ a rfl
  have hnd : (nbl p.ps first).Nodup := by
    unfold nbl
    refine List.pairwise_filterMap.mpr ?_
    refine List.Pairwise.imp_of_mem (R := fun a b => a ≠ b) ?_ h.ps.nd
    intro a b ha hb hab x hx y hy e
    subst e
    have l1 := h.ps.lt a ha
    have l2 := h.ps.lt b hb
    obtain ⟨a1, a2⟩ := a
    obtain ⟨b1, b2⟩ := b
    by_cases e1 : a1 = first
    · by_cases e2 : b1 = first
      · simp [e1] at hx
        simp [e2] at hy
        exact hab (by rw [e1, e2, hx, hy])
      · by_cases e3 : b2 = first
        · simp [e1] at hx
          simp [e2, e3] at hy
          subst e1 e3 hx hy
          exact absurd l1 (List.lt_asymm l2)
        · simp [e2, e3] at hy
    · by_cases e1' : a2 = first
      · simp [e1, e1'] at hx
        by_cases e2 : b1 = first
        · simp [e2] at hy
          subst e2 e1' hx hy
          exact absurd l1 (List.lt_asymm l2)
        · by_cases e3 : b2 = first
          · simp [e2, e3] at hy
            exact hab (by rw [e1', e3, hx, hy])
          · simp [e2, e3] at hy
      · simp [e1, e1'] at hx
  have hnb : nbl p.ps first ≠ [] := fun e => by
    have hS : ∀ r ∈ p.R, r = first := h.con (fun r => r = first) ⟨first, hf, rfl⟩ fun q hq => by
      constructor
      · intro a
        have : q.2 ∈ nbl p.ps first := (mem_nbl hne).mpr (.inl (by rw [← a]; exact hq))
        rw [e] at this
        simp at this
      · intro a
        have : q.1 ∈ nbl p.ps first := (mem_nbl hne).mpr (.inr (by rw [← a]; exact hq))
        rw [e] at this
        simp at this
    have := nodup_le h.nd (ys := [first]) fun r hr => by rw [hS r hr]; simp
    simp at this
    omega
  have hsl : (srtS (nbl p.ps first)).length = (nbl p.ps first).length := (srtS_perm _).length_eq
  have hnews : ∀ c : List Pt, c.Nodup → (∀ t ∈ c, t ∉ [start0 p first]) → news [start0 p first] c = c := by
    intro c
    have : ∀ (c acc : List Pt), (acc ++ c).Nodup → (∀ t ∈ c, t ∉ [start0 p first]) → c.foldl (add1 [start0 p first]) acc = acc ++ c := by
      intro c
      induction c with
      | nil => intro acc _ _; simp
      | cons t c ih =>
        intro acc hn hs
        have ht : t ∉ [start0 p first] ++ acc := fun m => by
          rcases List.mem_append.mp m with a | a
          · exact hs t List.mem_cons_self a
          · exact (List.nodup_append.mp hn).2.2 t a t List.mem_cons_self rfl
        rw [List.foldl_cons, show add1 [start0 p first] acc t = acc ++ [t] from if_neg ht, ih (acc ++ [t]) (by simpa using hn) fun x hx => hs x (List.mem_cons_of_mem _ hx)]
        simp
    intro hn hs
    have := this c [] (by simpa using hn) hs
    simpa [news] using this
  have hcand : news [start0 p first] ([start0 p first].flatMap (succs p)) = succs p (start0 p first) := by
    rw [List.flatMap_cons, List.flatMap_nil, List.append_nil]
    refine hnews _ ?_ ?_
    · unfold succs
      refine List.pairwise_map.mpr ?_
      exact List.Pairwise.imp (fun {a b} hab e => hab (congrArg Prod.fst e)) ((srtS_perm _).nodup_iff.mpr hnd)
    · intro t ht e
      obtain ⟨r, hr, rfl⟩ := List.mem_map.mp ht
      rw [List.mem_singleton] at e
      exact hsn r hr (congrArg Prod.fst e)
  have hsne : succs p (start0 p first) ≠ [] := fun e => by
    have := congrArg List.length e
    rw [succs, List.length_map] at this
    have h3 : (srtS (nbl p.ps (start0 p first).1)).length = (nbl p.ps first).length := hsl
    rw [h3] at this
    exact hnb (List.length_eq_zero_iff.mp this)
  refine ⟨succs p (start0 p first), lays p 10001 ([start0 p first] ++ succs p (start0 p first)) (succs p (start0 p first)), ?_, ?_⟩
  · unfold allLays
    rw [show (10002 : Nat) = 10001 + 1 from rfl, lays, hcand, if_neg hsne]
  · rw [succs, List.length_map]
    exact hsl
end Rd
/-! what walks leave: sums of arrivals, as a group: plain -/
namespace Rd
open PySem PySem.Spec L2
open PyProof.Rows hiding St
abbrev Vec := Str → Int
def ev (r : Str) : Vec := fun u => if u = r then 1 else 0
theorem ev_same (r : Str) : ev r r = 1 := if_pos rfl
theorem ev_ne {r u : Str} (h : u ≠ r) : ev r u = 0 := if_neg h
/-- a family of vectors for each room, kept by steps and by full turns of a dial -/
structure Fam (R : List Str) (z : Str → Nat) (ps : List (Str × Str)) (In : Str → Vec → Prop) : Prop where
  sub : ∀ p ∈ ps, p.1 ∈ R ∧ p.2 ∈ R
  z1 : ∀ r ∈ R, 1 ≤ z r
  con : Conn R ps
  step : ∀ q r x, Adj ps q r → In q x → In r (fun u => x u + ev r u)
  full : ∀ r x y, (∀ u ∈ R, (z u : Int) ∣ x u - y u) → In r x → In r y
section
variable {R : List Str} {z : Str → Nat} {ps : List (Str × Str)} {In : Str → Vec → Prop}
theorem Adj.symm {a b : Str} (h : Adj ps a b) : Adj ps b a := h.elim .inr .inl
theorem Fam.inR (F : Fam R z ps In) {a b : Str} (h : Adj ps a b) : a ∈ R ∧ b ∈ R := by
  rcases h with h | h
  · exact F.sub _ h
  · exact ⟨(F.sub _ h).2, (F.sub _ h).1⟩
theorem Fam.eq (F : Fam R z ps In) {r : Str} {x y : Vec} (e : ∀ u ∈ R, x u = y u) (h : In r x) : In r y :=
  F.full r x y (fun u hu => by rw [e u hu, Int.sub_self]; exact Int.dvd_zero _) h
theorem Fam.iter (F : Fam R z ps In) {q r : Str} (a : Adj ps q r) {y : Vec} (h : In r y) : ∀ k : Nat, In r (fun u => y u + k * (ev q u + ev r u))
  | 0 => F.eq (fun u _ => by simp) h
  | k + 1 => by
    have h1 := F.step _ _ _ a (F.step _ _ _ a.symm (F.iter a h k))
    refine F.eq (fun u _ => ?_) h1
    push_cast
    rw [Int.add_mul]
    omega
theorem Fam.back (F : Fam R z ps In) {q r : Str} (a : Adj ps q r) {x : Vec} (h : In r (fun u => x u + ev r u)) : In q x := by
  obtain ⟨hq, hr⟩ := F.inR a
  have h1 : 1 ≤ z q * z r := Nat.mul_le_mul (F.z1 q hq) (F.z1 r hr)
  obtain ⟨k, hk⟩ : ∃ k, z q * z r = k + 1 := ⟨z q * z r - 1, by omega⟩
  have h2 := F.step _ _ _ a.symm (F.iter a h k)
  refine F.full _ _ _ (fun u _ => ?_) h2
  have e : x u + ev r u + (k : Int) * (ev q u + ev r u) + ev q u - x u = ((z q * z r : Nat) : Int) * (ev q u + ev r u) := by
    rw [hk]
    push_cast
    rw [Int.add_mul, Int.one_mul]
    omega
  rw [e]
  by_cases uq : u = q
  · subst uq
    refine Int.dvd_mul_of_dvd_left ?_ 
    rw [Int.natCast_mul]
    exact Int.dvd_mul_right _ _
  · by_cases ur : u = r
    · subst ur
      refine Int.dvd_mul_of_dvd_left ?_
      rw [Int.natCast_mul]
      exact Int.dvd_mul_left _ _
    · rw [ev_ne uq, ev_ne ur]
      simp
theorem Fam.iff (F : Fam R z ps In) {q r : Str} (a : Adj ps q r) (x : Vec) : In q x ↔ In r (fun u => x u + ev r u) := ⟨F.step _ _ _ a, F.back a⟩
/-- what may be added -/
def Per (R : List Str) (In : Str → Vec → Prop) (v : Vec) : Prop := ∀ r ∈ R, ∀ x, In r x ↔ In r (fun u => x u + v u)
theorem Fam.per_one (F : Fam R z ps In) {v : Vec} {r : Str} (hr : r ∈ R) (h : ∀ x, In r x ↔ In r (fun u => x u + v u)) : Per R In v := by
  have key : ∀ q r, Adj ps q r → (∀ x, In r x ↔ In r (fun u => x u + v u)) → ∀ x, In q x ↔ In q (fun u => x u + v u) := fun q r a h x => by
    rw [F.iff a x, h, F.iff a (fun u => x u + v u)]
    constructor <;> refine F.eq fun u _ => ?_
    · show x u + ev r u + v u = x u + v u + ev r u
      omega
    · show x u + v u + ev r u = x u + ev r u + v u
      omega
  exact F.con (fun r => ∀ x, In r x ↔ In r (fun u => x u + v u)) ⟨r, hr, h⟩ fun p hp => ⟨key _ _ (.inr hp), key _ _ (.inl hp)⟩
theorem Fam.per_zero (F : Fam R z ps In) : Per R In fun _ => 0 := fun r _ x => ⟨F.eq fun u _ => (Int.add_zero _).symm, F.eq fun u _ => Int.add_zero _⟩
theorem Fam.per_eq (F : Fam R z ps In) {v w : Vec} (e : ∀ u ∈ R, v u = w u) (h : Per R In v) : Per R In w := fun r hr x => by
  rw [h r hr x]
  exact ⟨F.eq fun u hu => by show x u + v u = x u + w u; rw [e u hu], F.eq fun u hu => by show x u + w u = x u + v u; rw [e u hu]⟩
theorem Fam.per_add (F : Fam R z ps In) {v w : Vec} (h : Per R In v) (k : Per R In w) : Per R In fun u => v u + w u := fun r hr x => by
  rw [h r hr x, k r hr]
  exact ⟨F.eq fun u _ => by dsimp only; omega, F.eq fun u _ => by dsimp only; omega⟩
theorem Fam.per_neg (F : Fam R z ps In) {v : Vec} (h : Per R In v) : Per R In fun u => - v u := fun r hr x => by
  rw [h r hr (fun u => x u + - v u)]
  exact ⟨F.eq fun u _ => by omega, F.eq fun u _ => by omega⟩
theorem Fam.per_nat (F : Fam R z ps In) {v : Vec} (h : Per R In v) : ∀ k : Nat, Per R In fun u => (k : Int) * v u
  | 0 => F.per_eq (fun u _ => by simp) F.per_zero
  | k + 1 => F.per_eq (fun u _ => by push_cast; rw [Int.add_mul, Int.one_mul]) (F.per_add (F.per_nat h k) h)
theorem Fam.per_mul (F : Fam R z ps In) {v : Vec} (h : Per R In v) (k : Int) : Per R In fun u => k * v u := by
  rcases Int.eq_nat_or_neg k with ⟨n, rfl | rfl⟩
  · exact F.per_nat h n
  · exact F.per_eq (fun u _ => by rw [Int.neg_mul]) (F.per_neg (F.per_nat h n))
theorem Fam.per_edge (F : Fam R z ps In) {a b : Str} (h : Adj ps a b) : Per R In fun u => ev a u + ev b u := by
  refine F.per_one (F.inR h).1 fun x => ?_
  rw [F.iff h x, F.iff h.symm]
  exact ⟨F.eq fun u _ => by omega, F.eq fun u _ => by omega⟩
theorem Fam.per_path (F : Fam R z ps In) {a b : Str} {n : Nat} (h : Path ps a b n) : Per R In fun u => ev b u - (1 - 2 * ((n : Int) % 2)) * ev a u := by
  induction h with
  | nil => exact F.per_eq (fun u _ => by simp) F.per_zero
  | @snoc b c n hp ha ih =>
    refine F.per_eq (fun u _ => ?_) (F.per_add (F.per_edge ha) (F.per_neg ih))
    rcases Int.emod_two_eq (n : Int) with e | e
    · have e2 : ((n + 1 : Nat) : Int) % 2 = 1 := by omega
      rw [e, e2]
      omega
    · have e2 : ((n + 1 : Nat) : Int) % 2 = 0 := by omega
      rw [e, e2]
      omega
/-- each vector is a multiple of one room's, but for what may be added -/
def wtV (sg : Str → Int) (l : List Str) (v : Vec) : Int := (l.map fun u => sg u * v u).sum
theorem Fam.per_all (F : Fam R z ps In) {sg : Str → Int} {r0 : Str} (hs : ∀ r ∈ R, Per R In fun u => ev r u - sg r * ev r0 u) (v : Vec) : ∀ l : List Str, l.Nodup → (∀ r ∈ l, r ∈ R) → Per R In fun u => (if u ∈ l then v u else 0) - wtV sg l v * ev r0 u
  | [], _, _ => F.per_eq (fun u _ => by simp [wtV]) F.per_zero
  | a :: l, nd, sub => by
    obtain ⟨n1, n2⟩ := List.nodup_cons.mp nd
    have ih := F.per_all hs v l n2 fun r hr => sub r (List.mem_cons_of_mem _ hr)
    refine F.per_eq (fun u _ => ?_) (F.per_add (F.per_mul (hs a (sub a List.mem_cons_self)) (v a)) ih)
    have e : wtV sg (a :: l) v = sg a * v a + wtV sg l v := by simp [wtV]
    rw [e, Int.mul_sub, Int.add_mul, ← Int.mul_assoc, Int.mul_comm (v a) (sg a)]
    by_cases ua : u = a
    · subst ua
      rw [if_neg n1, if_pos List.mem_cons_self, ev_same]
      omega
    · rw [ev_ne ua]
      by_cases ul : u ∈ l
      · rw [if_pos ul, if_pos (List.mem_cons_of_mem _ ul)]
        omega
      · rw [if_neg ul, if_neg (fun h => (List.mem_cons.mp h).elim ua ul)]
        omega
theorem Fam.per_vec (F : Fam R z ps In) (nd : R.Nodup) {sg : Str → Int} {r0 : Str} (hs : ∀ r ∈ R, Per R In fun u => ev r u - sg r * ev r0 u) (v : Vec) : Per R In fun u => v u - wtV sg R v * ev r0 u :=
  F.per_eq (fun u hu => by rw [if_pos hu]) (F.per_all hs v R nd fun r hr => hr)
theorem Fam.per_size (F : Fam R z ps In) {r : Str} : Per R In fun u => (z r : Int) * ev r u := fun q _ x => by
  have key : ∀ u, (z u : Int) ∣ (z r : Int) * ev r u := fun u => by
    by_cases e : u = r
    · subst e
      exact Int.dvd_mul_right _ _
    · rw [ev_ne e]
      simp
  constructor <;> refine F.full _ _ _ fun u _ => ?_
  · rw [show x u - (x u + (z r : Int) * ev r u) = -((z r : Int) * ev r u) by omega]
    exact Int.dvd_neg.mpr (key u)
  · rw [show x u + (z r : Int) * ev r u - x u = (z r : Int) * ev r u by omega]
    exact key u
def Jn (R : List Str) (In : Str → Vec → Prop) (r0 : Str) (k : Int) : Prop := Per R In fun u => k * ev r0 u
theorem Fam.j_size (F : Fam R z ps In) {sg : Str → Int} (hsg : ∀ r, sg r = 1 ∨ sg r = -1) {r0 : Str} (hs : ∀ r ∈ R, Per R In fun u => ev r u - sg r * ev r0 u) {r : Str} (hr : r ∈ R) : Jn R In r0 (z r) := by
  have h1 := F.per_mul (hs r hr) (-(z r : Int))
  have h2 := F.per_mul (F.per_add (F.per_size (r := r)) h1) (sg r)
  refine F.per_eq (fun u _ => ?_) h2
  rcases hsg r with e | e
  · rw [e, Int.mul_sub, Int.neg_mul, Int.neg_mul, Int.one_mul, Int.one_mul]
    omega
  · rw [e, Int.mul_sub, Int.neg_mul, Int.neg_mul, Int.neg_mul, Int.one_mul, Int.neg_mul, Int.one_mul, Int.mul_neg]
    omega
theorem Fam.j_gcd (F : Fam R z ps In) {r0 : Str} (m n : Nat) : Jn R In r0 m → Jn R In r0 n → Jn R In r0 (Nat.gcd m n) := by
  induction m, n using Nat.gcd.induction with
  | H0 n =>
    intro _ h
    rw [Nat.gcd_zero_left]
    exact h
  | H1 m n hm ih =>
    intro h1 h2
    rw [Nat.gcd_rec]
    refine ih ?_ h1
    refine F.per_eq (fun u _ => ?_) (F.per_add h2 (F.per_mul h1 (-((n / m : Nat) : Int))))
    have e : (n : Int) = (m : Int) * ((n / m : Nat) : Int) + ((n % m : Nat) : Int) := by
      have := Nat.div_add_mod n m
      exact_mod_cast this.symm
    rw [← Int.mul_assoc, ← Int.add_mul]
    congr 1
    rw [Int.neg_mul, Int.mul_comm ((n / m : Nat) : Int)]
    omega
theorem Fam.j_all (F : Fam R z ps In) {r0 : Str} : ∀ (l : List Nat) (a : Nat), Jn R In r0 a → (∀ b ∈ l, Jn R In r0 b) → Jn R In r0 (l.foldl Nat.gcd a : Nat)
  | [], _, h, _ => h
  | b :: l, a, h, hl => F.j_all l _ (F.j_gcd a b h (hl b List.mem_cons_self)) fun c hc => hl c (List.mem_cons_of_mem _ hc)
end
end Rd
/-! how many positions a residue leaves: plain -/
namespace Rd
open PySem PySem.Spec L2
open PyProof.Rows hiding St
def dot : List Int → List Int → Int
  | s :: ss, a :: c => s * a + dot ss c
  | _, _ => 0
theorem dot_map (sg : Str → Int) (x : Vec) : ∀ R : List Str, dot (R.map sg) (R.map x) = wtV sg R x
  | [] => rfl
  | r :: R => by
    have := dot_map sg x R
    simp only [List.map_cons, dot, this, wtV, List.sum_cons]
theorem boxes_nd : ∀ zs : List Nat, (boxes zs).Nodup
  | [] => by simp [boxes]
  | z :: zs => by
    rw [boxes, List.Nodup, List.pairwise_flatMap]
    refine ⟨fun c _ => List.pairwise_map.mpr (List.Pairwise.imp (fun {a b} h e => ?_) (List.nodup_range (n := z))), List.Pairwise.imp (fun {a b} h x hx y hy e => ?_) (boxes_nd zs)⟩
    · injection e with e1 _
      exact h (by omega)
    · obtain ⟨i, _, rfl⟩ := List.mem_map.mp hx
      obtain ⟨j, _, rfl⟩ := List.mem_map.mp hy
      injection e with _ e2
      exact h e2
theorem box_nd {p : Pln} (nd : p.R.Nodup) : (box p).Nodup := by
  rw [box, List.Nodup, List.pairwise_flatMap]
  refine ⟨fun r _ => List.pairwise_map.mpr (List.Pairwise.imp (fun {a b} h e => h (congrArg Prod.snd e)) (boxes_nd _)), List.Pairwise.imp (fun {a b} h x hx y hy e => ?_) nd⟩
  obtain ⟨c, _, rfl⟩ := List.mem_map.mp hx
  obtain ⟨d, _, rfl⟩ := List.mem_map.mp hy
  exact h (congrArg Prod.fst e)
theorem count_iff {α : Type} [DecidableEq α] {p : α → Bool} {a0 : α} : ∀ l : List α, (∀ a ∈ l, p a = true ↔ a = a0) → l.countP p = l.count a0 := fun l h => by
  rw [List.count]
  refine List.countP_congr fun a ha => ?_
  rw [h a ha]
  simp
/-- in a row of g numbers there is one -/
theorem count_g {g : Nat} (hg : 0 < g) {s t : Int} (hs : s = 1 ∨ s = -1) : (List.range g).countP (fun a : Nat => decide ((g : Int) ∣ s * a + t)) = 1 := by
  have hb := Int.emod_nonneg (-(s * t)) (show (g : Int) ≠ 0 by omega)
  have hl := Int.emod_lt_of_pos (-(s * t)) (show (0 : Int) < g by omega)
  have hd : (g : Int) ∣ -(s * t) - (-(s * t)) % g := ⟨-(s * t) / g, by have := Int.emod_def (-(s * t)) g; omega⟩
  rw [count_iff (a0 := ((-(s * t)) % (g : Int)).toNat) _ fun a ha => ?_]
  · rw [List.Nodup.count List.nodup_range, if_pos (List.mem_range.mpr (by omega))]
  · rw [decide_eq_true_iff]
    have hag := List.mem_range.mp ha
    have e1 : s * a + t = s * (a - -(s * t)) := by
      rcases hs with rfl | rfl <;> omega
    constructor
    · intro h
      have h2 : (g : Int) ∣ (a : Int) - (-(s * t)) % g := by
        have h3 : (g : Int) ∣ (a : Int) - -(s * t) := by
          rw [e1] at h
          rcases hs with rfl | rfl
          · rw [Int.one_mul] at h
            exact h
          · rw [Int.neg_one_mul] at h
            exact Int.dvd_neg.mp h
        have h4 := Int.dvd_add h3 hd
        rw [show (a : Int) - -(s * t) + (-(s * t) - -(s * t) % g) = a - -(s * t) % g by omega] at h4
        exact h4
      have h5 : (a : Int) - (-(s * t)) % g = 0 := Int.eq_zero_of_dvd_of_natAbs_lt_natAbs h2 (by omega)
      omega
    · intro h
      have h3 : (g : Int) ∣ (a : Int) - -(s * t) := by
        rw [show (a : Int) - -(s * t) = -(-(s * t) - -(s * t) % g) by omega]
        exact Int.dvd_neg.mpr hd
      rw [e1]
      exact Int.dvd_mul_of_dvd_right h3
theorem count_m {g : Nat} (hg : 0 < g) {s t : Int} (hs : s = 1 ∨ s = -1) : ∀ m : Nat, (List.range (g * m)).countP (fun a : Nat => decide ((g : Int) ∣ s * a + t)) = m
  | 0 => by simp
  | m + 1 => by
    rw [Nat.mul_succ, List.range_add, List.countP_append, count_m hg hs m, List.countP_map]
    have e : (List.range g).countP ((fun a : Nat => decide ((g : Int) ∣ s * a + t)) ∘ fun x => g * m + x) = (List.range g).countP (fun a : Nat => decide ((g : Int) ∣ s * a + (s * (g * m : Nat) + t))) := by
      refine List.countP_congr fun a _ => ?_
      simp only [Function.comp]
      rw [show s * ((g * m + a : Nat) : Int) + t = s * a + (s * (g * m : Nat) + t) by push_cast; rw [Int.mul_add]; omega]
    rw [e, count_g hg hs]
theorem count_boxes {g : Nat} (hg : 0 < g) {s : Int} (hs : s = 1 ∨ s = -1) (ss : List Int) (z m : Nat) (hz : z = g * m) (zs : List Nat) (t : Int) : (boxes (z :: zs)).countP (fun c => decide ((g : Int) ∣ dot (s :: ss) c + t)) = (boxes zs).length * m := by
  rw [boxes, List.countP_flatMap]
  have e : ∀ c ∈ boxes zs, (List.countP (fun c => decide ((g : Int) ∣ dot (s :: ss) c + t)) ∘ fun c => (List.range z).map fun a : Nat => (a : Int) :: c) c = m := fun c _ => by
    simp only [Function.comp, List.countP_map]
    rw [hz]
    refine Eq.trans (List.countP_congr fun a _ => ?_) (count_m (g := g) hg (s := s) (t := dot ss c + t) hs m)
    simp only [Function.comp, dot, Int.add_assoc]
  rw [List.map_congr_left e]
  generalize boxes zs = l
  induction l with
  | nil => simp
  | cons a l ih => simp only [List.map_cons, List.sum_cons, ih, List.length_cons, Nat.add_mul, Nat.one_mul]; omega
/-! ### positions by vectors -/
def posV (R : List Str) (z : Str → Nat) (x : Vec) : List Int := R.map fun u => x u % (z u : Int)
theorem map_put (f : Str → Int) (v : Int) (r : Str) : ∀ R : List Str, R.Nodup → r ∈ R → (R.map f).take (R.idxOf r) ++ v :: (R.map f).drop (R.idxOf r + 1) = R.map fun u => if u = r then v else f u
  | [], _, h => by simp at h
  | a :: R, nd, h => by
    obtain ⟨n1, n2⟩ := List.nodup_cons.mp nd
    by_cases e : a = r
    · subst e
      have : (R.map fun u => if u = a then v else f u) = R.map f := List.map_congr_left fun u hu => if_neg fun q => n1 (by rw [← q]; exact hu)
      simp [List.idxOf_cons, this]
    · have hr : r ∈ R := (List.mem_cons.mp h).elim (fun q => absurd q.symm e) id
      have ih := map_put f v r R n2 hr
      rw [List.idxOf_cons, show (a == r) = false from Bool.eq_false_iff.mpr fun q => e (beq_iff_eq.mp q)]
      simp only [cond_false, List.map_cons, List.take_succ_cons, List.drop_succ_cons, List.cons_append, if_neg e]
      rw [ih]
theorem getD_map (f : Str → Int) {R : List Str} {r : Str} (h : r ∈ R) : (R.map f).getD (R.idxOf r) 0 = f r := by
  have hl := List.idxOf_lt_length_of_mem h
  rw [List.getD_eq_getElem?_getD, List.getElem?_map, List.getElem?_eq_getElem hl]
  simp
theorem turn_pos {R : List Str} {z : Str → Nat} (nd : R.Nodup) {r : Str} (h : r ∈ R) (x : Vec) : turn R z r (posV R z x) = posV R z fun u => x u + ev r u := by
  unfold turn posV
  rw [getD_map _ h, map_put _ _ _ _ nd h]
  refine List.map_congr_left fun u _ => ?_
  by_cases e : u = r
  · subst e
    show _ = (x u + ev u u) % _
    rw [if_pos rfl, ev_same, Int.emod_add_emod]
  · show _ = (x u + ev r u) % _
    rw [if_neg e, ev_ne e, Int.add_zero]
theorem pos_full {R : List Str} {z : Str → Nat} {x y : Vec} (h : ∀ u ∈ R, (z u : Int) ∣ x u - y u) : posV R z x = posV R z y := by
  unfold posV
  refine List.map_congr_left fun u hu => ?_
  exact Int.emod_eq_emod_iff_emod_sub_eq_zero.mpr (Int.emod_eq_zero_of_dvd (h u hu))
def vecOf (R : List Str) (c : List Int) : Vec := fun u => c.getD (R.idxOf u) 0
theorem vec_map {R : List Str} (nd : R.Nodup) {c : List Int} (h : c.length = R.length) : c = R.map (vecOf R c) := by
  refine List.ext_getElem? fun i => ?_
  by_cases hi : i < R.length
  · rw [List.getElem?_map, List.getElem?_eq_getElem hi, List.getElem?_eq_getElem (by omega)]
    simp only [Option.map_some, vecOf, idx_get nd hi]
    rw [List.getD_eq_getElem?_getD, List.getElem?_eq_getElem (by omega)]
    rfl
  · rw [List.getElem?_eq_none (by omega), List.getElem?_eq_none (by rw [List.length_map]; omega)]
theorem inb_mod {z : Str → Nat} {f : Vec} : ∀ {R : List Str}, InB (R.map f) (R.map z) → R.map f = R.map fun u => f u % (z u : Int)
  | [], _ => rfl
  | r :: R, h => by
    rw [List.map_cons, List.map_cons] at h
    rw [List.map_cons, List.map_cons, ← inb_mod h.2, Int.emod_eq_of_lt h.1.1 h.1.2]
theorem vec_pos {R : List Str} {z : Str → Nat} (nd : R.Nodup) {c : List Int} (h : InB c (R.map z)) : c = posV R z (vecOf R c) := by
  have hl := h.len
  rw [List.length_map] at hl
  have e := vec_map nd hl
  have h' : InB (R.map (vecOf R c)) (R.map z) := by rw [← e]; exact h
  unfold posV
  rw [← inb_mod h']
  exact e
end Rd
/-! all positions told, counted: plain -/
namespace Rd
open PySem PySem.Spec L2
open PyProof.Rows hiding St
def InP (p : Pln) (first : Str) (r : Str) (x : Vec) : Prop := (r, posV p.R p.z x) ∈ allP p first
theorem PlOk.ne2 {p : Pln} (h : PlOk p) : ∀ e ∈ p.ps, e.1 ≠ e.2 := fun e he q => by
  have := h.ps.lt e he
  rw [q] at this
  exact absurd this (List.lt_irrefl _)
theorem PlOk.succ {p : Pln} (h : PlOk p) {q t : Pt} : t ∈ succs p q ↔ Adj p.ps q.1 t.1 ∧ t = (t.1, turn p.R p.z t.1 q.2) := by
  unfold succs
  rw [List.mem_map]
  constructor
  · rintro ⟨r, hr, rfl⟩
    exact ⟨(mem_nbl h.ne2).mp ((srtS_perm _).mem_iff.mp hr), rfl⟩
  · rintro ⟨h1, h2⟩
    exact ⟨t.1, (srtS_perm _).mem_iff.mpr ((mem_nbl h.ne2).mpr h1), h2.symm⟩
theorem fam_of {p : Pln} (h : PlOk p) {first : Str} (hf : first ∈ p.R) : Fam p.R p.z p.ps (InP p first) := by
  obtain ⟨s1, s2, s3, s4, s5⟩ := allP_spec h hf
  refine ⟨h.ps.sub, h.z1, h.con, fun q r x a hin => ?_, fun r x y e hin => ?_⟩
  · have hr : r ∈ p.R := by
      rcases a with a | a
      · exact (h.ps.sub _ a).2
      · exact (h.ps.sub _ a).1
    have := s4 _ hin (r, turn p.R p.z r (posV p.R p.z x)) (h.succ.mpr ⟨a, rfl⟩)
    rw [turn_pos h.nd hr] at this
    exact this
  · unfold InP at *
    rw [← pos_full e]
    exact hin
theorem wt_add (sg : Str → Int) (x y : Vec) : ∀ R : List Str, wtV sg R (fun u => x u + y u) = wtV sg R x + wtV sg R y
  | [] => rfl
  | r :: R => by
    have := wt_add sg x y R
    simp only [wtV, List.map_cons, List.sum_cons] at this ⊢
    rw [this, Int.mul_add]
    omega
theorem wt_ev0 (sg : Str → Int) (r : Str) : ∀ R : List Str, r ∉ R → wtV sg R (ev r) = 0
  | [], _ => rfl
  | a :: R, h => by
    have := wt_ev0 sg r R fun q => h (List.mem_cons_of_mem _ q)
    have ha : a ≠ r := fun q => h (by rw [q]; exact List.mem_cons_self)
    simp only [wtV, List.map_cons, List.sum_cons] at this ⊢
    rw [this, ev_ne ha, Int.mul_zero, Int.zero_add]
theorem wt_ev (sg : Str → Int) (r : Str) : ∀ R : List Str, R.Nodup → r ∈ R → wtV sg R (ev r) = sg r
  | [], _, h => by simp at h
  | a :: R, nd, h => by
    obtain ⟨n1, n2⟩ := List.nodup_cons.mp nd
    have e : wtV sg (a :: R) (ev r) = sg a * ev r a + wtV sg R (ev r) := by simp [wtV]
    rw [e]
    by_cases q : a = r
    · subst q
      rw [wt_ev0 sg a R n1, ev_same]
      omega
    · rw [wt_ev sg r R n2 ((List.mem_cons.mp h).elim (fun w => absurd w.symm q) id), ev_ne q]
      omega
theorem wt_mod {sg : Str → Int} {z : Str → Nat} {g : Nat} (x : Vec) : ∀ R : List Str, (∀ u ∈ R, g ∣ z u) → (g : Int) ∣ wtV sg R (fun u => x u % (z u : Int)) - wtV sg R x
  | [], _ => by simp [wtV]
  | r :: R, h => by
    have ih := wt_mod (sg := sg) x R fun u hu => h u (List.mem_cons_of_mem _ hu)
    obtain ⟨k, hk⟩ := h r List.mem_cons_self
    have e : wtV sg (r :: R) (fun u => x u % (z u : Int)) - wtV sg (r :: R) x = (g : Int) * (-(sg r * (k * (x r / (z r : Int))))) + (wtV sg R (fun u => x u % (z u : Int)) - wtV sg R x) := by
      simp only [wtV, List.map_cons, List.sum_cons]
      have h1 : sg r * (x r % (z r : Int)) - sg r * x r = (g : Int) * (-(sg r * (k * (x r / (z r : Int))))) := by
        rw [Int.emod_def, ← Int.mul_sub]
        have h2 : (z r : Int) = (g : Int) * (k : Int) := by rw [hk, Int.natCast_mul]
        rw [show x r - (z r : Int) * (x r / (z r : Int)) - x r = -((z r : Int) * (x r / (z r : Int))) by omega]
        generalize x r / (z r : Int) = y
        rw [h2, Int.mul_neg, Int.mul_neg]
        congr 1
        rw [Int.mul_left_comm (g : Int) (sg r), Int.mul_assoc]
      omega
    rw [e]
    exact Int.dvd_add (Int.dvd_mul_right _ _) ih
theorem foldl_gcd_dvd : ∀ (l : List Nat) (a : Nat), l.foldl Nat.gcd a ∣ a ∧ ∀ b ∈ l, l.foldl Nat.gcd a ∣ b
  | [], a => ⟨Nat.dvd_refl _, fun b h => by simp at h⟩
  | c :: l, a => by
    obtain ⟨h1, h2⟩ := foldl_gcd_dvd l (Nat.gcd a c)
    refine ⟨Nat.dvd_trans h1 (Nat.gcd_dvd_left _ _), fun b hb => ?_⟩
    rcases List.mem_cons.mp hb with rfl | hb
    · exact Nat.dvd_trans h1 (Nat.gcd_dvd_right _ _)
    · exact h2 b hb
theorem wt_const (sg : Str → Int) : ∀ R : List Str, wtV sg R (fun _ => 0) = 0
  | [] => rfl
  | r :: R => by
    have := wt_const sg R
    simp only [wtV, List.map_cons, List.sum_cons] at this ⊢
    rw [this]
    simp
theorem total_eq {ns : List Str} {z : Str → Nat} {ps : List (Str × Str)} (h : PlOk ⟨srtS ns, z, ps⟩) {first r0 : Str} (hf : first ∈ ns) {sd : Str → Int} (hr0 : r0 ∈ ns) (hp : ∀ r ∈ ns, ∃ n : Nat, Path ps r0 r n ∧ sd r = (n : Int) % 2) :
    ((∃ p ∈ ps, sd p.1 = sd p.2) → total ⟨srtS ns, z, ps⟩ first = ns.length * prd z ns) ∧ ((∀ p ∈ ps, sd p.1 ≠ sd p.2) → total ⟨srtS ns, z, ps⟩ first = ns.length * prd z ns / gcdz ns z) := by
  have hm : ∀ r, r ∈ srtS ns ↔ r ∈ ns := fun r => (srtS_perm ns).mem_iff
  have hln : (srtS ns).length = ns.length := (srtS_perm ns).length_eq
  have hpr : prd z (srtS ns) = prd z ns := prd_perm (srtS_perm ns)
  have hgz : (ns.map z).foldl Nat.gcd 0 = gcdz ns z := rfl
  have hgd := fun u (hu : u ∈ srtS ns) => (foldl_gcd_dvd (ns.map z) 0).2 (z u) (List.mem_map.mpr ⟨u, (hm u).mp hu, rfl⟩)
  have hgp : 0 < gcdz ns z := gcd_pos _ _ (.inl fun e => by
    have : ns = [] := List.map_eq_nil_iff.mp e
    rw [this] at hf
    simp at hf) fun x hx => by
    obtain ⟨r, hr, rfl⟩ := List.mem_map.mp hx
    exact h.z1 r ((hm r).mpr hr)
  have hjl : ∀ b ∈ ns.map z, ∃ r ∈ srtS ns, b = z r := fun b hb => by
    obtain ⟨r, hr, rfl⟩ := List.mem_map.mp hb
    exact ⟨r, (hm r).mpr hr, rfl⟩
  rw [hgz] at hgd
  rw [← hln, ← hpr]
  replace hp := fun r (hr : r ∈ srtS ns) => hp r ((hm r).mp hr)
  replace hf := (hm first).mpr hf
  replace hr0 := (hm r0).mpr hr0
  clear hln hpr hm
  generalize srtS ns = R at *
  have F := fam_of h hf
  obtain ⟨s1, s2, s3, s4, s5⟩ := allP_spec h hf
  have nd : R.Nodup := h.nd
  have sd01 : ∀ r ∈ R, sd r = 0 ∨ sd r = 1 := fun r hr => by
    obtain ⟨n, _, e⟩ := hp r hr
    rw [e]
    exact Int.emod_two_eq _
  obtain ⟨sg, hsg, hsd⟩ : ∃ sg : Str → Int, (∀ r, sg r = 1 ∨ sg r = -1) ∧ ∀ r ∈ R, sg r = 1 - 2 * sd r := ⟨fun r => if sd r = 0 then 1 else -1, fun r => by
    by_cases e : sd r = 0
    · exact .inl (if_pos e)
    · exact .inr (if_neg e), fun r hr => by
    rcases sd01 r hr with e | e <;> simp [e]⟩
  have hs : ∀ r ∈ R, Per R (InP ⟨R, z, ps⟩ first) fun u => ev r u - sg r * ev r0 u := fun r hr => by
    obtain ⟨n, h1, h2⟩ := hp r hr
    rw [hsd r hr, h2]
    exact F.per_path h1
  have hp0 : InP ⟨R, z, ps⟩ first first fun _ => 0 := by
    have e : posV R z (fun _ => 0) = List.replicate R.length 0 := by
      unfold posV
      rw [show (fun u => (0 : Int) % (z u : Int)) = fun _ => 0 from funext fun u => Int.zero_emod _, List.map_const']
    unfold InP
    show (first, posV R z fun _ => 0) ∈ _
    rw [e]
    exact s3
  have hex : ∀ r ∈ R, ∃ y, InP ⟨R, z, ps⟩ first r y := h.con (fun r => ∃ y, InP ⟨R, z, ps⟩ first r y) ⟨first, hf, _, hp0⟩ fun p hp => ⟨fun ⟨y, hy⟩ => ⟨_, F.step _ _ _ (.inl hp) hy⟩, fun ⟨y, hy⟩ => ⟨_, F.step _ _ _ (.inr hp) hy⟩⟩
  rw [total_len]
  refine ⟨fun ⟨p, hpm, hpe⟩ => ?_, fun h2 => ?_⟩
  · -- a ring of odd length: all of them
    obtain ⟨hu, hw⟩ := h.ps.sub p hpm
    have j2 : Jn R (InP ⟨R, z, ps⟩ first) r0 2 := by
      have k := F.per_add (F.per_edge (.inl hpm : Adj ps p.1 p.2)) (F.per_neg (F.per_add (hs p.1 hu) (hs p.2 hw)))
      refine F.per_eq (fun u _ => ?_) (F.per_mul k (sg p.1))
      have e2 : sg p.2 = sg p.1 := by rw [hsd _ hu, hsd _ hw, hpe]
      rw [e2]
      rcases hsg p.1 with e | e <;> rw [e] <;> omega
    have hs1 : ∀ r ∈ R, Per R (InP ⟨R, z, ps⟩ first) fun u => ev r u - ev r0 u := fun r hr => by
      rcases hsg r with e | e
      · refine F.per_eq (fun u _ => ?_) (hs r hr)
        rw [e, Int.one_mul]
      · refine F.per_eq (fun u _ => ?_) (F.per_add (hs r hr) (F.per_neg j2))
        rw [e]
        omega
    have one : ∀ {q r : Str}, Adj ps q r → ∀ x, InP ⟨R, z, ps⟩ first q x ↔ InP ⟨R, z, ps⟩ first r (fun u => x u + ev r0 u) := fun {q r} a x => by
      have hr := (F.inR a).2
      rw [F.iff a x, F.per_neg (hs1 r hr) r hr]
      exact ⟨F.eq fun u _ => by show x u + ev r u + -(ev r u - ev r0 u) = x u + ev r0 u; omega, F.eq fun u _ => by show x u + ev r0 u = x u + ev r u + -(ev r u - ev r0 u); omega⟩
    have walk : ∀ {b : Str} {n : Nat}, Path ps r0 b n → ∀ x, InP ⟨R, z, ps⟩ first r0 x ↔ InP ⟨R, z, ps⟩ first b (fun u => x u + n * ev r0 u) := fun {b n} w => by
      induction w with
      | nil => exact fun x => ⟨F.eq fun u _ => by simp, F.eq fun u _ => by simp⟩
      | @snoc b c n _ a ih =>
        intro x
        rw [ih x, one a]
        exact ⟨F.eq fun u _ => by push_cast; rw [Int.add_mul]; omega, F.eq fun u _ => by push_cast; rw [Int.add_mul]; omega⟩
    obtain ⟨n, w1, e1⟩ := hp p.1 hu
    obtain ⟨m, w2, e2⟩ := hp p.2 hw
    have j1 : Jn R (InP ⟨R, z, ps⟩ first) r0 ((n : Int) + 1 - m) := F.per_one hr0 fun x => by
      rw [walk w1 x, one (.inl hpm : Adj ps p.1 p.2), walk w2 fun u => x u + ((n : Int) + 1 - m) * ev r0 u]
      exact ⟨F.eq fun u _ => by rw [Int.sub_mul, Int.add_mul]; omega, F.eq fun u _ => by rw [Int.sub_mul, Int.add_mul]; omega⟩
    have j : Jn R (InP ⟨R, z, ps⟩ first) r0 1 := by
      have k := F.per_add j1 (F.per_mul j2 (-(((n : Int) - m) / 2)))
      refine F.per_eq (fun u _ => ?_) k
      rw [← Int.mul_assoc, ← Int.add_mul]
      congr 1
      have : (n : Int) % 2 = (m : Int) % 2 := by rw [← e1, ← e2, hpe]
      omega
    have all : ∀ q ∈ box ⟨R, z, ps⟩, q ∈ allP ⟨R, z, ps⟩ first := fun q hq => by
      obtain ⟨b1, b2⟩ := mem_box.mp hq
      obtain ⟨y, hy⟩ := hex q.1 b1
      have hv := F.per_add (F.per_vec nd hs fun u => vecOf R q.2 u - y u) (F.per_mul j (wtV sg R fun u => vecOf R q.2 u - y u))
      have h3 := (hv q.1 b1 y).mp hy
      have h4 : InP ⟨R, z, ps⟩ first q.1 (vecOf R q.2) := F.eq (fun u _ => by dsimp only; rw [Int.one_mul]; omega) h3
      unfold InP at h4
      rw [show posV (⟨R, z, ps⟩ : Pln).R (⟨R, z, ps⟩ : Pln).z (vecOf R q.2) = q.2 from (vec_pos nd b2).symm] at h4
      exact h4
    have k1 := nodup_le s1 s2
    have k2 := nodup_le (box_nd (p := ⟨R, z, ps⟩) nd) all
    rw [box_len] at k1 k2
    exact Nat.le_antisymm k1 k2
  · -- two-sided: those of one residue
    have fw : ∀ q ∈ allP ⟨R, z, ps⟩ first, q.1 ∈ R ∧ ∃ x, q.2 = posV R z x ∧ wtV sg R x + (sd q.1 - sd first) = 0 := by
      refine s5 (fun q => q.1 ∈ R ∧ ∃ x, q.2 = posV R z x ∧ wtV sg R x + (sd q.1 - sd first) = 0) ⟨hf, fun _ => 0, ?_, ?_⟩ fun q t ⟨hq, x, ex, wx⟩ ht => ?_
      · show List.replicate R.length 0 = _
        unfold posV
        rw [show (fun u => (0 : Int) % (z u : Int)) = fun _ => 0 from funext fun u => Int.zero_emod _, List.map_const']
      · rw [wt_const]
        show (0 : Int) + (sd first - sd first) = 0
        omega
      · obtain ⟨a, et⟩ := h.succ.mp ht
        have hr : t.1 ∈ R := (F.inR a).2
        refine ⟨hr, fun u => x u + ev t.1 u, ?_, ?_⟩
        · rw [et, ex]
          exact turn_pos nd hr x
        · rw [wt_add, wt_ev sg _ R nd hr, hsd _ hr]
          have hne : sd q.1 ≠ sd t.1 := by
            rcases a with a | a
            · exact h2 _ a
            · exact (h2 _ a).symm
          rcases sd01 _ hq with e | e <;> rcases sd01 _ hr with e' | e' <;> rw [e] at hne wx <;> rw [e'] at hne ⊢
          · exact absurd rfl hne
          · omega
          · omega
          · exact absurd rfl hne
    have jg : Jn R (InP ⟨R, z, ps⟩ first) r0 (gcdz ns z) := by
      refine F.j_all (ns.map z) 0 (F.per_eq (fun u _ => by simp) F.per_zero) fun b hb => ?_
      obtain ⟨r, hr, rfl⟩ := hjl b hb
      exact F.j_size hsg hs hr
    have iff : ∀ q : Pt, q ∈ allP ⟨R, z, ps⟩ first ↔ q ∈ box ⟨R, z, ps⟩ ∧ ((gcdz ns z : Nat) : Int) ∣ dot (R.map sg) q.2 + (sd q.1 - sd first) := fun q => by
      constructor
      · intro hq
        refine ⟨s2 q hq, ?_⟩
        obtain ⟨_, x, ex, wx⟩ := fw q hq
        have hmod := wt_mod (sg := sg) x R hgd
        rw [ex]
        unfold posV
        rw [dot_map sg (fun u => x u % (z u : Int)) R]
        rw [show wtV sg R (fun u => x u % (z u : Int)) + (sd q.1 - sd first) = wtV sg R (fun u => x u % (z u : Int)) - wtV sg R x by omega]
        exact hmod
      · rintro ⟨hq, hd⟩
        obtain ⟨b1, b2⟩ := mem_box.mp hq
        obtain ⟨y, hy⟩ := hex q.1 b1
        obtain ⟨_, x, ex, wx⟩ := fw _ hy
        have hx : InP ⟨R, z, ps⟩ first q.1 x := by
          unfold InP at hy ⊢
          rw [show posV (⟨R, z, ps⟩ : Pln).R (⟨R, z, ps⟩ : Pln).z x = posV R z y from ex.symm]
          exact hy
        have hl : q.2.length = R.length := by
          have := b2.len
          rw [List.length_map] at this
          exact this
        rw [vec_map nd hl, dot_map] at hd
        have wx' : wtV sg R x + (sd q.1 - sd first) = 0 := wx
        have ew : wtV sg R (fun u => vecOf R q.2 u - x u) = wtV sg R (vecOf R q.2) + (sd q.1 - sd first) := by
          have := wt_add sg (fun u => vecOf R q.2 u - x u) x R
          rw [show (fun u => vecOf R q.2 u - x u + x u) = vecOf R q.2 from funext fun u => by omega] at this
          omega
        obtain ⟨k, hk⟩ := hd
        have hv := F.per_add (F.per_vec nd hs fun u => vecOf R q.2 u - x u) (F.per_mul jg k)
        have h3 := (hv q.1 b1 x).mp hx
        have h4 : InP ⟨R, z, ps⟩ first q.1 (vecOf R q.2) := F.eq (fun u _ => by
          dsimp only
          rw [ew, hk, ← Int.mul_assoc, Int.mul_comm k]
          omega) h3
        unfold InP at h4
        rw [show posV (⟨R, z, ps⟩ : Pln).R (⟨R, z, ps⟩ : Pln).z (vecOf R q.2) = q.2 from (vec_pos nd b2).symm] at h4
        exact h4
    have hlen : (allP ⟨R, z, ps⟩ first).length = (box ⟨R, z, ps⟩).countP fun q => decide (((gcdz ns z : Nat) : Int) ∣ dot (R.map sg) q.2 + (sd q.1 - sd first)) := by
      rw [List.countP_eq_length_filter]
      refine Nat.le_antisymm (nodup_le s1 fun q hq => ?_) (nodup_le (List.Pairwise.filter _ (box_nd nd)) fun q hq => ?_)
      · exact List.mem_filter.mpr ⟨((iff q).mp hq).1, decide_eq_true ((iff q).mp hq).2⟩
      · obtain ⟨k1, k2⟩ := List.mem_filter.mp hq
        exact (iff q).mpr ⟨k1, of_decide_eq_true k2⟩
    rw [hlen, box, List.countP_flatMap]
    obtain ⟨r1, R', hR⟩ : ∃ r1 R', R = r1 :: R' := by
      cases R with
      | nil => exact absurd rfl h.ne
      | cons r1 R' => exact ⟨r1, R', rfl⟩
    obtain ⟨m, hm⟩ := hgd r1 (by rw [hR]; exact List.mem_cons_self)
    have each : ∀ r ∈ R, (List.countP (fun q : Pt => decide (((gcdz ns z : Nat) : Int) ∣ dot (R.map sg) q.2 + (sd q.1 - sd first))) ∘ fun r => (boxes (R.map z)).map fun c => (r, c)) r = prd z R' * m := fun r _ => by
      simp only [Function.comp, List.countP_map]
      rw [hR, List.map_cons, List.map_cons, ← boxes_len R' z]
      exact count_boxes hgp (hsg r1) (R'.map sg) (z r1) m hm (R'.map z) (sd r - sd first)
    show (R.map (List.countP (fun q : Pt => decide (((gcdz ns z : Nat) : Int) ∣ dot (R.map sg) q.2 + (sd q.1 - sd first))) ∘ fun r => (boxes (R.map z)).map fun c => (r, c))).sum = _
    rw [List.map_congr_left each]
    have hsum : ∀ l : List Str, (l.map fun _ => prd z R' * m).sum = l.length * (prd z R' * m) := fun l => by
      induction l with
      | nil => simp
      | cons a l ih => simp only [List.map_cons, List.sum_cons, ih, List.length_cons, Nat.add_mul, Nat.one_mul]; omega
    rw [hsum]
    have hprd : prd z R = gcdz ns z * (prd z R' * m) := by
      rw [hR, prd, hm, Nat.mul_assoc, Nat.mul_comm m]
    rw [hprd, Nat.mul_left_comm R.length (gcdz ns z), Nat.mul_div_cancel_left _ hgp]
end Rd
/-! repr(list of ints) -/
namespace Rd
open PySem PySem.Spec L2
open PyProof.Rows hiding St
def shI (ns : List Int) : Str := PyData.shown (.list (ns.map PyData.int))
theorem intl (ns : List Int) (h : ∀ n ∈ ns, n.natAbs < 10 ^ 12) (hl : ns.length ≤ 20000) : (PyData.list (ns.map PyData.int)).showable = true ∧ (PyData.list (ns.map PyData.int)).hasDict = false ∧ (PyData.list (ns.map PyData.int)).depth ≤ 1 ∧ (shI ns).length ≤ sizeLine := by
  have key : ∀ ns : List Int, (∀ n ∈ ns, n.natAbs < 10 ^ 12) → PyData.showableAll (ns.map PyData.int) = true ∧ PyData.hasDictAll (ns.map PyData.int) = false ∧ PyData.depthAll (ns.map PyData.int) = 0 ∧ PyData.leavesShortAll 13 (ns.map PyData.int) = true ∧ PyData.weightAll (ns.map PyData.int) ≤ 45 * ns.length := by
    intro ns
    induction ns with
    | nil => intro _; simp [PyData.showableAll, PyData.hasDictAll, PyData.depthAll, PyData.leavesShortAll, PyData.weightAll]
    | cons n ns ih =>
      intro h
      obtain ⟨i1, i2, i3, i4, i5⟩ := ih fun m hm => h m (List.mem_cons_of_mem _ hm)
      have hn := h n List.mem_cons_self
      have hs := PyData.shown_int_le hn
      have hlog : n.natAbs.log2 < 40 := by
        by_cases h0 : n.natAbs = 0
        · rw [h0]
          decide
        · rw [Nat.log2_lt h0]
          have : (10 : Nat) ^ 12 ≤ 2 ^ 40 := by decide
          omega
      refine ⟨?_, ?_, ?_, ?_, ?_⟩
      · simp only [List.map_cons, PyData.showableAll, i1, Bool.and_true]
        simp only [PyData.showable]
        exact decide_eq_true (by omega)
      · simp [PyData.hasDictAll, PyData.hasDict, i2]
      · simp [PyData.depthAll, PyData.depth, i3]
      · simp only [List.map_cons, PyData.leavesShortAll, i4, Bool.and_true]
        simp only [PyData.leavesShort]
        exact decide_eq_true hs
      · simp only [List.map_cons, PyData.weightAll, List.length_cons]
        have hw : (PyData.int n).weight ≤ 40 := by
          simp only [PyData.weight]
          split <;> omega
        omega
  obtain ⟨k1, k2, k3, k4, k5⟩ := key ns h
  have hsh : PyData.leavesShort 13 (.list (ns.map PyData.int)) = true := by simpa only [PyData.leavesShort] using k4
  have hwt : (PyData.list (ns.map PyData.int)).weight ≤ 2 ^ 20 := by
    simp only [PyData.weight]
    omega
  refine ⟨by simpa only [PyData.showable] using k1, by simpa only [PyData.hasDict] using k2, by simp only [PyData.depth]; omega, PyData.shown_fits (by decide) (by decide) hsh hwt⟩
theorem dp_intsR {K : PySem.W.Frag} {H : Hp} : ∀ c : List Int, DpAll K H (c.map V.int) (c.map PyData.int)
  | [] => .nil
  | a :: c => .cons (.int a) (dp_intsR c)
section
variable {X : Cx}
theorem cr_repr (hg : X.A.guards = some []) (hu : X.A.units + 64 < cLine) : CallR X (.builtin "repr") (fun vs H Q => ∃ (a : Addr) (ns : List Int), vs = [.ref a] ∧ SqL X.K H a (ns.map V.int) ∧ (∀ n ∈ ns, n.natAbs < 10 ^ 12) ∧ ns.length ≤ 20000 ∧ Q (.str (shI ns)) H) := by
  intro pins s σ H vs us Q I r q
  obtain ⟨a, ns, rfl, hd, hn, hl, q⟩ := q
  obtain ⟨u, rfl, rx⟩ := vals1 r
  cases rx
  obtain ⟨h1, h2, h3, h4⟩ := intl ns hn hl
  obtain ⟨as, rd⟩ := Dp.reads I (.list (ns.map PyData.int)) (.ref a) (Value.ref a) (.lst hd (dp_intsR ns)) rfl
  refine repr_of_reads' rd h1 (fun z => by rw [h2] at z; cases z) hg (by omega) (fun _ _ e => e) (fun h' u tk hk => ?_) h4
  exact ⟨.str _, H, I.kept (t' := tk) hk, ⟨u, rfl⟩, q⟩
end
end Rd
/-! the law's own body -/
namespace Rd
open PySem PySem.Spec L2
open PyProof.Rows hiding St
def spLaw (K : PySem.W.Frag) : Sp := fun vs H Q _ => ∃ (a : Addr) (ns : List Int), vs = [.ref a] ∧ SqL K H a (ns.map V.int) ∧ ∀ H', Q (.bl true) H'
theorem LawPl.but {K : PySem.W.Frag} {H H' : Hp} {pt : Addr} {ns : List Str} {z : Str → Nat} {ps : List (Str × Str)} {dp l : Addr} {bs : List (Addr × Str × Str)} {t c : Addr} {n : Nat} (h : LawPl K H pt ns z ps dp l bs) (ht : TpAt H t c n) (sb : SameBut t H H') : LawPl K H' pt ns z ps dp l bs := by
  obtain ⟨cells, pl, lf, g1, _⟩ := ht
  have dt : dp ≠ t := fun e => by
    have := h.sz
    rw [e, g1] at this
    injection this with this
    injection this with this
    cases hn : ns with
    | nil => exact h.sok.ne hn
    | cons r rs =>
      rw [hn] at this
      injection this with e1 _
      injection e1 with _ e2
      cases e2
  refine ⟨sb _ _ (ne_of h.tp g1 (by intro z; cases z)) h.tp, sb _ _ dt h.sz, ⟨sb _ _ (ne_of h.prs.lst g1 (by intro z; cases z)) h.prs.lst, fun b hb => ?_⟩, h.eps, h.sok, h.pok, h.con⟩
  obtain ⟨ob, o1, o2⟩ := h.prs.tup b hb
  exact ⟨ob, o1, sb _ _ (ne_of o2 g1 (by intro z; cases z)) o2⟩
def lensI (p : Pln) (first : Str) : List Int := (allLays p first).map fun l => (l.length : Int)
theorem lensI_map (p : Pln) (first : Str) : (lensI p first).map V.int = (allLays p first).map fun l => V.int (l.length : Nat) := by simp [lensI]
theorem lensI_sum (p : Pln) (first : Str) : (lensI p first).sum = ((total p first : Nat) : Int) := by
  unfold lensI total
  generalize allLays p first = ls
  induction ls with
  | nil => rfl
  | cons l ls ih => simp only [List.map_cons, List.sum_cons, ih, Int.natCast_add]
theorem lensI_len (p : Pln) (first : Str) : (lensI p first).length ≤ 10003 := by
  rw [lensI, List.length_map]
  exact (all_len p first).2
theorem le_sum : ∀ {l : List Nat} {x : Nat}, x ∈ l → x ≤ l.sum
  | [], x, h => by simp at h
  | y :: l, x, h => by
    rw [List.sum_cons]
    rcases List.mem_cons.mp h with q | q
    · omega
    · have := le_sum q
      omega
theorem rep_one (N : Nat) : (List.replicate N [V.int 0]).flatten = (List.range N).map fun _ => V.int 0 := by
  induction N with
  | zero => rfl
  | succ n ih =>
    rw [List.replicate_succ', List.flatten_append, ih, List.range_succ, List.map_append]
    rfl
theorem lensI_small {p : Pln} (h : PlOk p) {first : Str} (ht : total p first ≤ 10000) : ∀ n ∈ lensI p first, n.natAbs < 10 ^ 12 := fun n hn => by
  obtain ⟨l, hl, rfl⟩ := List.mem_map.mp hn
  have : l.length ≤ total p first := by
    unfold total
    exact le_sum (List.mem_map.mpr ⟨l, hl, rfl⟩)
  have h2 : (10000 : Nat) < 10 ^ 12 := by decide
  show (l.length : Int).natAbs < _
  omega
theorem ixNat {n j : Nat} (hj : j < n) : ixN n (j : Int) = some j := by
  unfold ixN
  rw [if_pos (Int.natCast_nonneg j)]
  simp [hj]
theorem shaped_ints (c : List Int) : SeqAt.shaped (.list (c.map PyData.int)) = true := by
  simp [SeqAt.shaped, PyData.canLay0, PyData.depth, (ints_ok c).1, (ints_ok c).2]
theorem eqv_ints (c : List Int) : (!PyData.eqv (.list (c.map PyData.int)) (.list (c.map PyData.int))) = false := by
  rw [SeqAt.eqv_refl _ (by simp [PyData.canLay0, (ints_ok c).1])]
  rfl
def SZS : List (List Nat) := [[50, 100], [2, 60], [99, 49], [4, 4, 4, 12], [1, 2, 3, 5, 8], [7, 7, 7], [6, 10, 15]]
def prL (l : List Nat) : Nat := l.foldr (· * ·) 1
theorem szs_ok : ∀ zs ∈ SZS, 2 ≤ zs.length ∧ zs.length ≤ 5 ∧ (∀ z ∈ zs, 1 ≤ z ∧ z ≤ 100) ∧ zs.length * prL zs ≤ 10000 := by decide
def lsN (zs : List Nat) : HO := .lst (zs.map fun (z : Nat) => V.int z)
def zAt (ys : List Str) (zs : List Nat) (r : Str) : Nat := zs.getD (ys.idxOf r) 0
theorem szKv_at {ys : List Str} {zs : List Nat} (nd : ys.Nodup) : szKv ys (zAt ys zs) = (List.range ys.length).map fun k => ((Sum.inr (ys.getD k "") : Key), V.int (zs.getD k 0 : Nat)) := by
  unfold szKv
  refine List.ext_getElem? fun k => ?_
  rw [List.getElem?_map, List.getElem?_map]
  by_cases h : k < ys.length
  · rw [List.getElem?_range h, List.getElem?_eq_getElem h]
    simp only [Option.map_some, zAt, idx_get nd h]
    rw [List.getD_eq_getElem?_getD (l := ys), List.getElem?_eq_getElem h]
    rfl
  · rw [List.getElem?_eq_none (by omega), List.getElem?_eq_none (by simpa using h)]
    rfl
theorem prd_at : ∀ {ys : List Str} {zs : List Nat}, ys.Nodup → ys.length = zs.length → prd (zAt ys zs) ys = prL zs
  | [], [], _, _ => rfl
  | [], _ :: _, _, h => by simp at h
  | _ :: _, [], _, h => by simp at h
  | y :: ys, z :: zs, nd, h => by
    obtain ⟨n1, n2⟩ := List.nodup_cons.mp nd
    have ih := prd_at (ys := ys) (zs := zs) n2 (by simpa using h)
    have e : ∀ l : List Str, (∀ r ∈ l, r ∈ ys) → prd (zAt (y :: ys) (z :: zs)) l = prd (zAt ys zs) l := by
      intro l
      induction l with
      | nil => intro _; rfl
      | cons r l il =>
        intro hl
        have hry : ¬ (y == r) = true := fun q => n1 (by rw [beq_iff_eq.mp q]; exact hl r List.mem_cons_self)
        rw [prd, prd, il fun q hq => hl q (List.mem_cons_of_mem _ hq)]
        congr 1
        unfold zAt
        rw [List.idxOf_cons, show (y == r) = false from Bool.eq_false_iff.mpr hry]
        simp
    rw [prd, e ys fun r hr => hr, ih]
    have e0 : zAt (y :: ys) (z :: zs) y = z := by simp [zAt, List.idxOf_cons]
    rw [e0]
    rfl
theorem paired_at {α β : Type} {R : α → β → Prop} : ∀ {as : List α} {bs : List β} {i : Nat} {a : α} {b : β}, Paired R as bs → as[i]? = some a → bs[i]? = some b → R a b
  | _, _, _, _, _, .nil, h, _ => by simp at h
  | _, _, 0, _, _, .cons r _, h, g => by
    simp at h g
    subst h g
    exact r
  | _, _, i + 1, _, _, .cons _ q, h, g => paired_at q (by simpa using h) (by simpa using g)
section
variable {P : Program} {w : World} {K : PySem.W.Frag} {mg : Str → Option Value} {base : Heap}
theorem law_body (T : Txt K mg) (cdv : Value) (A : Around) (outer : List Env) (s : Shared) (H : Hp) (vs : List V) (Q : VK) (E : XK) (hr : Room 7 (A.deeper (envOfC "law" (defScope s_law) s.heap.objs.size (a_law K) cdv))) (hg : A.guards = some []) (h : spLaw K vs H Q E) :
    ∃ t, PSs (cxOf CX0 P w K mg base N_law "law" (defScope s_law) (a_law K) cdv A outer s H E).nox (defBody s_law) t ∧ t { nx := fun _ H' => Q .non H', rt := Q } (start N_law vs) H := by
  have nd := sc_law.nd
  obtain ⟨a, script, rfl, ha, k⟩ := h
  have hu := hu_of hr
  refine ⟨_, (pss_cons (ps_set (i := 1) nd rfl (Or.inl rfl) (pe_call (ok_l_begin T) (hr.mono (by decide)) (by rfl) T.g_l_begin T.f_l_begin.kp T.b_l_begin .nil pass0 (pa_cons (pv 0) pa_nil))) (pss_cons (ps_for PassesOwn.never rfl (pi_range1 (by rfl) T.n_range (pa_cons pe_int pa_nil)) (pg_name (i := 2) nd rfl (Or.inl rfl)) (pss_cons (ps_set (i := 3) nd rfl (Or.inl rfl) (pe_call (ok_l_drawn T) (hr.mono (by decide)) (by rfl) T.g_l_drawn T.f_l_drawn.kp T.b_l_drawn .nil pass0 (pa_cons (pv 1) (pa_cons pe_int (pa_cons pe_int (pa_cons pe_int (pa_cons (pe_lst (pa_cons pe_int (pa_cons pe_int (pa_cons pe_int (pa_cons pe_int pa_nil))))) pa_nil))))))) (pss_cons (ps_par (i := 4) (j := 5) (by rfl) nd rfl rfl (by decide) rfl rfl (pa_cons (pe_call (ok_l_pick T) (hr.mono (by decide)) (by rfl) T.g_l_pick T.f_l_pick.kp T.b_l_pick .nil pass0 (pa_cons (pv 1) (pa_cons (pe_callB (cr_srtD rfl) (by rfl) T.n_sorted (by decide +kernel) (pa_cons (pe_ix ix_tup (pv 3) pe_int (fun _ _ => rfl)) pa_nil)) pa_nil))) (pa_cons (pe_call (ok_l_built T) (hr.mono (by decide)) (by rfl) T.g_l_built T.f_l_built.kp T.b_l_built .nil pass0 (pa_cons (pv 3) pa_nil)) pa_nil)) (by rfl)) (pss_cons (ps_set (i := 6) nd rfl (Or.inr rfl) (pe_call (ok_l_reach T) (hr.mono (by decide)) (by rfl) T.g_l_reach T.f_l_reach.kp T.b_l_reach .nil pass0 (pa_cons (pv 3) (pa_cons (pv 4) pa_nil)))) (pss_cons (ps_lock (ps_setLc (i := 7) (own := [("_law_there", 8)]) (g := (gName 8)) (tt := tYes) rfl nd rfl rfl (sw_true rfl rfl rfl (by decide +kernel)) (pi_ndK P w (pv 6)) (blkOk_by (own := [("_law_there", 8)]) (N := N_law) (sc := defScope s_law) (by decide +kernel)) (fun _ _ _ _ _ => (pg_name (i := 8) nd rfl (Or.inl rfl))) (fun _ _ _ _ _ => pts_nil) (fun _ _ _ _ _ => (pe_ix (ix_tupK K) (pe_ix (ix_ndK P w hr.units) (pv 6) (pv 8) (fun _ _ => rfl)) pe_int (fun _ _ => rfl))))) (pss_cons (ps_set (i := 9) nd rfl (Or.inl rfl) (pe_op op_rep (pe_lst (pa_cons pe_int pa_nil)) (pe_op op_add (pe_callB (cr_max rfl) (by rfl) T.n_max (by decide +kernel) (pa_cons (pv 7) pa_nil)) pe_int))) (pss_cons (ps_for PassesOwn.never rfl (pi_list (pv 7)) (pg_name (i := 10) nd rfl (Or.inl rfl)) (pss_one (ps_asg (pe_op op_add (pe_ix ix_list (pv 9) (pv 10) (fun _ _ => rfl)) pe_int) (pg_sub (pv 9) (pv 10) set_list)))) (pss_cons (ps_set (i := 11) nd rfl (Or.inl rfl) (pe_call (ok_layers T) (hr.mono (by decide)) (by rfl) T.g_layers T.f_layers.kp T.b_layers .nil pass0 (pa_cons (pv 5) (pa_cons (pv 4) pa_nil)))) (pss_cons (ps_if (PW.pt (pw_or (pt_cmpR op_ne (pe_callB (cr_repr hg hr.units) (by rfl) T.n_repr (by decide +kernel) (pa_cons (pv 11) pa_nil)) (pe_callB (cr_repr hg hr.units) (by rfl) T.n_repr (by decide +kernel) (pa_cons (pv 9) pa_nil)) (nomark _)) (pw_or1 (pt_cmpR op_ne (pe_callB (cr_sum rfl) (by rfl) T.n_sum (by decide +kernel) (pa_cons (pv 9) pa_nil)) (pe_call (ok_l_all_positions T) (hr.mono (by decide)) (by rfl) T.g_l_all_positions T.f_l_all_positions.kp T.b_l_all_positions .nil pass0 (pa_cons (pv 3) pa_nil)) (nomark _))))) (pss_one (ps_ret pe_bl)) pss_nil) (pss_cons (ps_expr (pe_bm PySem.F.plainAttrs_list PySem.F.slot_list_append PySem.F.type_list_append mt_append (pv 11) (pa_cons pe_int pa_nil))) (pss_one (ps_if (pt_cmpR (op_neD hr.units) (pe_call (ok_layers T) (hr.mono (by decide)) (by rfl) T.g_layers T.f_layers.kp T.b_layers .nil pass0 (pa_cons (pv 5) (pa_cons (pv 4) pa_nil))) (pv 9) (nomark _)) (pss_one (ps_ret pe_bl)) pss_nil)))))))))))) (pss_cons (ps_set (i := 12) nd rfl (Or.inr rfl) (pe_call (ok_l_pick T) (hr.mono (by decide)) (by rfl) T.g_l_pick T.f_l_pick.kp T.b_l_pick .nil pass0 (pa_cons (pv 1) (pa_cons (pe_lst (pa_cons (pe_lst (pa_cons pe_int (pa_cons pe_int pa_nil))) (pa_cons (pe_lst (pa_cons pe_int (pa_cons pe_int pa_nil))) (pa_cons (pe_lst (pa_cons pe_int (pa_cons pe_int pa_nil))) (pa_cons (pe_lst (pa_cons pe_int (pa_cons pe_int (pa_cons pe_int (pa_cons pe_int pa_nil))))) (pa_cons (pe_lst (pa_cons pe_int (pa_cons pe_int (pa_cons pe_int (pa_cons pe_int (pa_cons pe_int pa_nil)))))) (pa_cons (pe_lst (pa_cons pe_int (pa_cons pe_int (pa_cons pe_int pa_nil)))) (pa_cons (pe_lst (pa_cons pe_int (pa_cons pe_int (pa_cons pe_int pa_nil)))) pa_nil)))))))) pa_nil)))) (pss_cons (ps_set (i := 3) nd rfl (Or.inl rfl) (pe_call (ok_l_drawn T) (hr.mono (by decide)) (by rfl) T.g_l_drawn T.f_l_drawn.kp T.b_l_drawn .nil pass0 (pa_cons (pv 1) (pa_cons (pe_callB call_len (by rfl) T.n_len PySem.boot_len (pa_cons (pv 12) pa_nil)) (pa_cons (pe_callB call_len (by rfl) T.n_len PySem.boot_len (pa_cons (pv 12) pa_nil)) (pa_cons pe_int (pa_cons (pe_lst (pa_cons pe_int pa_nil)) pa_nil))))))) (pss_cons (ps_set (i := 13) nd rfl (Or.inr rfl) (pe_call (ok_l_shuffled T) (hr.mono (by decide)) (by rfl) T.g_l_shuffled T.f_l_shuffled.kp T.b_l_shuffled .nil pass0 (pa_cons (pv 1) (pa_cons (pe_callB (cr_srtD rfl) (by rfl) T.n_sorted (by decide +kernel) (pa_cons (pe_ix ix_tup (pv 3) pe_int (fun _ _ => rfl)) pa_nil)) pa_nil)))) (pss_cons (ps_set (i := 3) nd rfl (Or.inl rfl) (pe_tup (pa_cons (pe_callTy (call_dictP rfl) (by rfl) T.n_dict (by decide +kernel) (pa_cons (pe_lc (own := [("_law_k", 14)]) (g := (gName 14)) (tt := tYes) rfl nd (pi_range1 (by rfl) T.n_range (pa_cons (pe_callB call_len (by rfl) T.n_len PySem.boot_len (pa_cons (pv 13) pa_nil)) pa_nil)) (blkOk_by (own := [("_law_k", 14)]) (N := N_law) (sc := defScope s_law) (by decide +kernel)) (fun _ _ _ _ _ => (pg_name (i := 14) nd rfl (Or.inl rfl))) (fun _ _ _ _ _ => pts_nil) (fun _ _ _ _ _ => (pe_tup (pa_cons (pe_ix (ix_listK K) (pv 13) (pv 14) (fun _ _ => rfl)) (pa_cons (pe_ix (ix_listK K) (pv 12) (pv 14) (fun _ _ => rfl)) pa_nil))))) pa_nil)) (pa_cons (pe_ix ix_tup (pv 3) pe_int (fun _ _ => rfl)) pa_nil)))) (pss_cons (ps_set (i := 11) nd rfl (Or.inl rfl) (pe_call (ok_layers T) (hr.mono (by decide)) (by rfl) T.g_layers T.f_layers.kp T.b_layers .nil pass0 (pa_cons (pe_call (ok_l_built T) (hr.mono (by decide)) (by rfl) T.g_l_built T.f_l_built.kp T.b_l_built .nil pass0 (pa_cons (pv 3) pa_nil)) (pa_cons (pe_ix ix_list (pv 13) pe_int (fun _ _ => rfl)) pa_nil)))) (pss_one (ps_ret (pe_and (pe_cmpR op_eq (pe_callB (cr_sum rfl) (by rfl) T.n_sum (by decide +kernel) (pa_cons (pv 11) pa_nil)) (pe_call (ok_l_all_positions T) (hr.mono (by decide)) (by rfl) T.g_l_all_positions T.f_l_all_positions.kp T.b_l_all_positions .nil pass0 (pa_cons (pv 3) pa_nil)) (nomark _)) (pe_and (pe_cmpR op_eq (pe_ix ix_list (pv 11) pe_int (fun _ _ => rfl)) pe_int (nomark _)) (pe_one (pe_cmpR op_eq (pe_ix ix_list (pv 11) pe_int (fun _ _ => rfl)) (pe_callB call_len (by rfl) T.n_len PySem.boot_len (pa_cons (pe_call (ok_l_near T) (hr.mono (by decide)) (by rfl) T.g_l_near T.f_l_near.kp T.b_l_near .nil pass0 (pa_cons (pv 3) (pa_cons (pe_ix ix_list (pv 13) pe_int (fun _ _ => rfl)) pa_nil))) pa_nil)) (nomark _)))))))))))))), ?_⟩
  refine ⟨_, rfl, a, script, rfl, ha, fun H0 t c s0 t0 tp0 => ?_⟩
  refine ⟨2, rfl, by decide, by decide, ?_⟩
  refine for_it (walk_range (lo := 0) (n := 2)) (fun i σ H1 => (∃ x2 x3 x4 x5 x6 x7 x8 x9 x10 x11 x12 x13 x14, σ = [some (.ref a), some (.ref t), x2, x3, x4, x5, x6, x7, x8, x9, x10, x11, x12, x13, x14]) ∧ TpAt H1 t c (i * 1000)) ⟨⟨_, _, _, _, _, _, _, _, _, _, _, _, _, rfl⟩, tp0⟩ (fun _ _ _ _ _ => trivial) ?_ ?_
  · rintro i x σ H1 H2 hi ⟨⟨x2, x3, x4, x5, x6, x7, x8, x9, x10, x11, x12, x13, x14, rfl⟩, tp1⟩ ⟨rfl, rfl⟩
    refine ⟨_, rfl, by show 4 ≤ sizeLine; decide, fun sz hsz => ?_⟩
    refine ⟨t, c, i * 1000, sz, 1, 5, 3, [1, 2, 2, 3], rfl, tp1.same (same_new hsz), by omega, by decide, by decide, by decide, by decide, upd_same, by simp, by decide, by decide, fun H3 pt dp l ns z bs sb3 tp3 hpt hdp hprs hle hmo hsok hz hpok hcon hsrt => ?_⟩
    have hsm : ns.length * prd z ns ≤ 10000 := by
      have h3 : ∀ r ∈ ns, z r ≤ 3 := fun r hr => by
        have hzz := hz r hr
        simp only [List.mem_cons, List.not_mem_nil, or_false] at hzz
        omega
      have h4 := prd_le h3
      have h5 : 3 ^ ns.length ≤ 3 ^ 5 := Nat.pow_le_pow_right (by decide) hmo
      have h6 : (3 : Nat) ^ 5 = 243 := by decide
      have := Nat.mul_le_mul hmo (Nat.le_trans h4 h5)
      omega
    have hl : LawPl K H3 pt ns z (bs.map (·.2)) dp l bs := ⟨hpt, hdp, hprs, rfl, hsok, hpok, hcon⟩
    have hpl : PlOk ⟨srtS ns, z, bs.map (·.2)⟩ := plOk_of hsok hpok hcon hsm
    have hR : (srtS ns).length = ns.length := (srtS_perm ns).length_eq
    have hmem : ∀ r, r ∈ srtS ns ↔ r ∈ ns := fun r => (srtS_perm ns).mem_iff
    refine ⟨_, rfl, _, rfl, pt, _, _, .ref dp, rfl, rfl, SqT.of hl.tp, rfl, dp, _, ns, rfl, .inl hl.sz, sz_keys ns z, by omega, fun q hq => ?_⟩
    refine ⟨t, c, _, _, rfl, tp3.same (same_new hq), by omega, .inl ⟨q, _, rfl, upd_same, by simpa using hpl.ne, by rw [List.length_map, hR]; omega, fun H4 y hy sb4 tp4 => ?_⟩⟩
    obtain ⟨first, hfR, rfl⟩ := List.mem_map.mp hy
    have hf : first ∈ ns := (hmem first).mp hfR
    have hl4 := (hl.same (same_new hq)).but (tp3.same (same_new hq)) sb4
    refine ⟨_, rfl, pt, ns, z, _, dp, l, bs, rfl, hl4, fun H5 b s5 nb hb => ?_⟩
    rw [hsrt] at hb
    have hl5 := hl4.same s5
    refine ⟨_, _, rfl, ?_⟩
    refine ⟨_, rfl, _, rfl, pt, ns, z, _, dp, l, bs, first, rfl, hl5, hpl, hf, fun H6 d xs s6 d0 hd hkx hxe hxs => ?_⟩
    have tot := fun {sd : Str → Int} {r0 : Str} hr0 hp => total_eq hpl hf (sd := sd) (r0 := r0) hr0 hp
    have hlen := all_len ⟨srtS ns, z, bs.map (·.2)⟩ first
    have hne := all_ne ⟨srtS ns, z, bs.map (·.2)⟩ first
    have hxl : xs.length = total ⟨srtS ns, z, bs.map (·.2)⟩ first := by
      have := congrArg List.length hxe
      rw [List.length_map, List.length_flatten] at this
      exact this
    have hkn : (xs.map (·.1)).Nodup := by
      rw [hxe]
      exact (allP_spec hpl ((hmem first).mpr hf)).1
    have htot : total ⟨srtS ns, z, bs.map (·.2)⟩ first ≤ 10000 := total_le hpl ((hmem first).mpr hf)
    refine ⟨d, NdO P w d xs, hd, trivial, fun od => ?_⟩
    have hkx1 : ∀ x ∈ xs, PtAt (upd H6 d (.frz od (NdO P w d xs))) x.2.1 x.1 := fun x hx => pt_upd (hkx x hx) hd (fun _ z => by cases z)
    refine ⟨_, rfl, d, od, xs, rfl, upd_same, fun D hD => ?_⟩
    have dD : d ≠ D := ne_of_none upd_same hD
    generalize hL : allLays ⟨srtS ns, z, bs.map (·.2)⟩ first = L at hxe hxs hlen hne
    have hstl : (stepsOf L 0).length = xs.length := (Paired.length hxs).symm
    refine lc_it walk_nd (fun i H7 => H7 = upd (upd H6 d (.frz od (NdO P w d xs))) D (.lst (((stepsOf L 0).take i).map fun (t : Nat) => V.int t))) rfl (fun i H7 _ h => by rw [h, upd_ne dD]; exact upd_same) ?_ ?_
    · rintro i x H7 H8 hi rfl ⟨rfl, e, he, rfl⟩
      have hie : i < (stepsOf L 0).length := by omega
      have hex : e ∈ xs := List.mem_of_getElem? he
      obtain ⟨a1, v1, e1, e2⟩ := paired_at hxs he (List.getElem?_eq_getElem hie)
      have ht1 : upd (upd H6 d (.frz od (NdO P w d xs))) D (.lst (((stepsOf L 0).take i).map fun (t : Nat) => V.int t)) a1 = some (.tup [.int ((stepsOf L 0)[i] : Nat), v1]) := same_new hD _ _ (tup_upd e2 hd (fun _ z => by cases z))
      refine ⟨rfl, _, rfl, _, rfl, d, xs, e.2.1, e.1, e.2.2, rfl, rfl, (hkx1 e hex).same (same_new hD), ⟨.inr ⟨od, by rw [upd_ne dD]; exact upd_same⟩, fun x hx => (hkx1 x hx).same (same_new hD)⟩, nd_at hkn hex, ?_⟩
      rw [e1]
      refine ⟨_, _, _, _, rfl, rfl, SqT.of ht1, rfl, _, upd_same, szL (by rw [List.length_map, List.length_take]; omega), ?_⟩
      show upd _ D _ = _
      rw [upd_upd, List.take_succ_eq_append_getElem hie, List.map_append]
      rfl
    rintro H7 rfl
    refine ⟨by rw [upd_ne dD]; exact upd_same, ?_⟩
    rw [← hstl, List.take_length]
    have hD6 : H6 D = none := by
      rw [upd_ne dD.symm] at hD
      exact hD
    have e7 : upd (upd (upd H6 d (.frz od (NdO P w d xs))) D (.lst ((stepsOf L 0).map fun (t : Nat) => V.int t))) d (NdO P w d xs) = upd H6 D (.lst ((stepsOf L 0).map fun (t : Nat) => V.int t)) := by
      funext x
      by_cases x1 : x = d
      · subst x1
        rw [upd_same, upd_ne dD]
        exact hd.symm
      · rw [upd_ne x1]
        by_cases x2 : x = D
        · subst x2
          rw [upd_same, upd_same]
        · rw [upd_ne x2, upd_ne x2, upd_ne x1]
    rw [e7]
    have s7 : Same H6 (upd H6 D (.lst ((stepsOf L 0).map fun (t : Nat) => V.int t))) := same_new hD6
    have hD7 : upd H6 D (.lst ((stepsOf L 0).map fun (t : Nat) => V.int t)) D = some (.lst ((stepsOf L 0).map fun (t : Nat) => V.int t)) := upd_same
    generalize upd H6 D (.lst ((stepsOf L 0).map fun (t : Nat) => V.int t)) = H7 at s7 hD7
    refine ⟨by show 1 ≤ sizeLine; decide, fun o1 ho1 => ?_⟩
    have Do1 : D ≠ o1 := ne_of_none hD7 ho1
    have hLne : L ≠ [] := fun e => by
      rw [e] at hlen
      simp at hlen
    have hlast := stepsOf_last L 0 hLne hne
    have hbnd := stepsOf_mem L 0
    refine ⟨_, rfl, D, (stepsOf L 0).map fun (t : Nat) => (t : Int), rfl, SqL.of (by rw [upd_ne Do1, hD7, List.map_map]; rfl), by rw [List.length_map]; exact List.length_pos_of_mem hlast, fun m hm hmx => ?_⟩
    obtain rfl : m = ((L.length - 1 : Nat) : Int) := by
      obtain ⟨t1, ht1, rfl⟩ := List.mem_map.mp hm
      have h1 := hbnd t1 ht1
      have h2 := hmx _ (List.mem_map.mpr ⟨_, hlast, rfl⟩)
      omega
    have eN : ((L.length - 1 : Nat) : Int) + 1 = (L.length : Nat) := by omega
    refine ⟨_, _, rfl, rfl, ?_⟩
    have hsz1 : (10003 : Nat) ≤ sizeLine := by decide
    refine ⟨o1, (L.length : Nat), _, rfl, congrArg V.int eN, upd_same, by omega, by omega, by simp; omega, fun du hdu => ?_⟩
    rw [Int.toNat_natCast, rep_one]
    have sdu : Same H7 (upd (upd H7 o1 (.lst [.int 0])) du (.lst ((List.range L.length).map fun _ => V.int 0))) := (same_new ho1).trans (same_new hdu)
    have hdu1 : upd (upd H7 o1 (.lst [.int 0])) du (.lst ((List.range L.length).map fun _ => V.int 0)) du = some (.lst ((List.range L.length).map fun _ => V.int 0)) := upd_same
    have H7du : H7 du = none := by
      cases e : H7 du with
      | none => rfl
      | some o => rw [same_new ho1 _ _ e] at hdu; cases hdu
    generalize upd (upd H7 o1 (.lst [.int 0])) du (.lst ((List.range L.length).map fun _ => V.int 0)) = H8 at sdu hdu1
    have Ddu : D ≠ du := ne_of_none hD7 H7du
    have hDst : SqL K H8 D ((stepsOf L 0).map fun (t : Nat) => V.int t) := SqL.of (sdu _ _ hD7)
    refine ⟨_, rfl, D, rfl, ⟨_, hDst⟩, ?_⟩
    refine for_it (walk_list (xs := (stepsOf L 0).map fun (t : Nat) => V.int t)) (fun j σ H9 => (∃ x10, σ = [some (.ref a), some (.ref t), some (.int (0 + (i : Nat))), some (.ref pt), some (.str first), some (.ref b), some (.ref d), some (.ref D), x8, some (.ref du), x10, x11, x12, x13, x14]) ∧ H9 = upd H8 du (.lst ((List.range L.length).map fun k => V.int (((stepsOf L 0).take j).count k : Nat)))) ⟨⟨_, rfl⟩, ?_⟩ (fun j σ H9 _ h => ?_) ?_ ?_
    · funext x
      by_cases e : x = du
      · subst e
        rw [upd_same, hdu1, List.take_zero]
        rfl
      · rw [upd_ne e]
    · rw [h.2]
      exact SqL.of (by rw [upd_ne Ddu]; exact sdu _ _ hD7)
    · rintro j x σ H9 H10 hj ⟨⟨x10, rfl⟩, rfl⟩ ⟨rfl, hx⟩
      rw [List.length_map] at hj
      obtain rfl : V.int ((stepsOf L 0)[j] : Nat) = x := by simpa [hj] using hx
      have htb : (stepsOf L 0)[j] < L.length := by
        have := (hbnd _ (List.getElem_mem hj)).2
        omega
      have htk := List.take_succ_eq_append_getElem hj
      generalize (stepsOf L 0)[j] = tj at htb htk
      refine ⟨_, rfl, _, rfl, du, _, _, V.int (((stepsOf L 0).take j).count tj : Nat), rfl, rfl, SqL.of upd_same, atI_nat ?_, ?_⟩
      · rw [List.getElem?_map, List.getElem?_range htb]
        rfl
      refine ⟨_, _, rfl, rfl, ?_⟩
      refine ⟨_, rfl, _, rfl, du, _, _, tj, rfl, rfl, upd_same, ixNat (by simpa using htb), ⟨_, rfl⟩, ?_⟩
      rw [upd_upd, set_range, htk]
      congr 2
      refine List.map_congr_left fun k _ => ?_
      rw [List.count_append, List.count_singleton]
      by_cases e : k = tj
      · subst e
        simp
      · have : ¬ (tj == k) = true := fun q => e (beq_iff_eq.mp q).symm
        rw [if_neg e, if_neg this, Nat.add_zero]
    rintro σ9 H9 ⟨⟨x10', rfl⟩, rfl⟩
    have hsame9 : Same H7 (upd H8 du (.lst ((List.range L.length).map fun k => V.int (((stepsOf L 0).take ((stepsOf L 0).map fun (t : Nat) => V.int t).length).count k : Nat)))) := same_upd sdu H7du
    have edue : ((List.range L.length).map fun k => V.int (((stepsOf L 0).take ((stepsOf L 0).map fun (t : Nat) => V.int t).length).count k : Nat)) = (lensI ⟨srtS ns, z, bs.map (·.2)⟩ first).map V.int := by
      rw [lensI_map, hL, List.length_map, List.take_length]
      have h0 := counts_eq L 0
      have h1 := congrArg (fun l : List Nat => l.map fun n => V.int (n : Nat)) h0
      simp only [List.map_map, Nat.zero_add] at h1
      exact h1
    rw [edue] at hsame9 ⊢
    have hdu9 : upd H8 du (.lst ((lensI ⟨srtS ns, z, bs.map (·.2)⟩ first).map V.int)) du = some (.lst ((lensI ⟨srtS ns, z, bs.map (·.2)⟩ first).map V.int)) := upd_same
    generalize upd H8 du (.lst ((lensI ⟨srtS ns, z, bs.map (·.2)⟩ first).map V.int)) = H9 at hsame9 hdu9 ⊢
    have s59 := (s6.trans s7).trans hsame9
    have hb9 := hb.same s59
    have hl9 := hl5.same s59
    have hsml := lensI_small hpl htot
    have hll := Nat.le_trans (lensI_len ⟨srtS ns, z, bs.map (·.2)⟩ first) (show 10003 ≤ 20000 by decide)
    refine ⟨_, rfl, _, rfl, b, _, first, rfl, hb9, hpl, hfR, fun H11 q1 s11 nq1 hq1 => ?_⟩
    rw [← lensI_map] at hq1
    have hdu11 := s11 _ _ hdu9
    have duq : du ≠ q1 := ne_of_none hdu9 nq1
    refine ⟨_, rfl, q1, _, rfl, SqL.of hq1, hsml, hll, ?_⟩
    refine ⟨_, rfl, du, _, rfl, SqL.of hdu11, hsml, hll, ?_⟩
    refine ⟨rfl, _, rfl, iteNS rfl ?_⟩
    refine ⟨_, rfl, du, _, rfl, SqL.of hdu11, ?_⟩
    have hl11 := hl9.same s11
    refine ⟨_, rfl, pt, ns, z, _, dp, l, bs, rfl, hl11, hsm, fun H12 m sd r0 s12 hr0 hpth hor => ?_⟩
    have em : V.int (lensI ⟨srtS ns, z, bs.map (·.2)⟩ first).sum = V.int (m : Nat) := by
      rw [lensI_sum]
      obtain ⟨c1, c2⟩ := tot hr0 hpth
      rcases hor with ⟨h1, h2⟩ | ⟨h1, h2⟩
      · rw [h2, c1 h1]
      · rw [h2, c2 h1]
    refine ⟨rfl, _, rfl, iteNS em ?_⟩
    have hq12 := s12 _ _ hq1
    refine ⟨_, rfl, Or.inl ⟨rfl, _, SqL.of hq12⟩, ?_⟩
    refine ⟨q1, _, _, rfl, rfl, hq12, szL (by rw [List.length_map]; omega), ?_⟩
    have s913 : Same H9 (upd H12 q1 (.lst ((lensI ⟨srtS ns, z, bs.map (·.2)⟩ first).map V.int ++ [V.int 0]))) := same_upd (s11.trans s12) nq1
    generalize upd H12 q1 (.lst ((lensI ⟨srtS ns, z, bs.map (·.2)⟩ first).map V.int ++ [V.int 0])) = H13 at s913 ⊢
    refine ⟨_, rfl, _, rfl, b, _, first, rfl, hb9.same s913, hpl, hfR, fun H14 q2 s14 nq2 hq2 => ?_⟩
    rw [← lensI_map] at hq2
    have hdu14 := s14 _ _ (s913 _ _ hdu9)
    refine ⟨_, rfl, _, _, .lst (SqL.of hq2) (dp_intsR _), .lst (SqL.of hdu14) (dp_intsR _), shaped_ints _, shaped_ints _, _, rfl, ?_⟩
    rw [eqv_ints]
    have s414 := ((s5.trans s59).trans s913).trans s14
    exact ⟨⟨_, _, _, _, _, _, _, _, _, _, _, _, _, rfl⟩, (tp4.same s414).mono (by omega)⟩
  · rintro σ H1 ⟨⟨x2, x3, x4, x5, x6, x7, x8, x9, x10, x11, x12, x13, x14, rfl⟩, tp1⟩
    refine ⟨_, rfl, by show 2 ≤ sizeLine; decide, fun l1 n1 => ⟨by show 2 ≤ sizeLine; decide, fun l2 n2 => ⟨by show 2 ≤ sizeLine; decide, fun l3 n3 => ⟨by show 4 ≤ sizeLine; decide, fun l4 n4 => ⟨by show 5 ≤ sizeLine; decide, fun l5 n5 => ⟨by show 3 ≤ sizeLine; decide, fun l6 n6 => ⟨by show 3 ≤ sizeLine; decide, fun l7 n7 => ⟨by show 7 ≤ sizeLine; decide, fun lo no => ?_⟩⟩⟩⟩⟩⟩⟩⟩
    have q7 := same_new (o := .lst [.ref l1, .ref l2, .ref l3, .ref l4, .ref l5, .ref l6, .ref l7]) no
    have q6 := (same_new (o := lsN [6, 10, 15]) n7).trans q7
    have q5 := (same_new (o := lsN [7, 7, 7]) n6).trans q6
    have q4 := (same_new (o := lsN [1, 2, 3, 5, 8]) n5).trans q5
    have q3 := (same_new (o := lsN [4, 4, 4, 12]) n4).trans q4
    have q2 := (same_new (o := lsN [99, 49]) n3).trans q3
    have q1 := (same_new (o := lsN [2, 60]) n2).trans q2
    have q0 := (same_new (o := lsN [50, 100]) n1).trans q1
    refine ⟨t, c, _, _, rfl, tp1.same q0, by omega, .inl ⟨lo, _, rfl, upd_same, by simp, by show 7 ≤ 1000; decide, fun H2 y hy sb2 tp2 => ?_⟩⟩
    obtain ⟨sa, zs, rfl, hzs, hsa⟩ : ∃ sa zs, y = .ref sa ∧ zs ∈ SZS ∧ H2 sa = some (lsN zs) := by
      have key : ∀ {b : Addr} {zs : List Nat} {G : Hp}, G b = some (lsN zs) → Same G _ → H2 b = some (lsN zs) := fun {b zs G} hb hs => sb2 _ _ (by
        have := hs _ _ hb
        obtain ⟨cells, pl, lf, g1, _⟩ := tp1.same q0
        exact ne_of this g1 (by intro z; cases z)) (hs _ _ hb)
      simp only [List.mem_cons, List.not_mem_nil, or_false] at hy
      rcases hy with rfl | rfl | rfl | rfl | rfl | rfl | rfl
      · exact ⟨l1, [50, 100], rfl, by decide, key upd_same q1⟩
      · exact ⟨l2, [2, 60], rfl, by decide, key upd_same q2⟩
      · exact ⟨l3, [99, 49], rfl, by decide, key upd_same q3⟩
      · exact ⟨l4, [4, 4, 4, 12], rfl, by decide, key upd_same q4⟩
      · exact ⟨l5, [1, 2, 3, 5, 8], rfl, by decide, key upd_same q5⟩
      · exact ⟨l6, [7, 7, 7], rfl, by decide, key upd_same q6⟩
      · exact ⟨l7, [6, 10, 15], rfl, by decide, key upd_same q7⟩
    obtain ⟨z1, z2, z3, z4⟩ := szs_ok zs hzs
    have hzl : LenV K (.ref sa) H2 zs.length := .inl ⟨_, SqL.of hsa, by rw [List.length_map]⟩
    refine ⟨_, rfl, _, rfl, _, zs.length, rfl, hzl, _, rfl, _, zs.length, rfl, hzl, by show 1 ≤ sizeLine; decide, fun s1 hs1 => ?_⟩
    refine ⟨t, c, _, s1, zs.length, zs.length, 1, [1], rfl, tp2.same (same_new hs1), by omega, by omega, Nat.le_refl _, z2, by decide, upd_same, by simp, by decide, by decide, fun H3 pt dp l ns z bs sb3 tp3 hpt hdp hprs hle hmo hsok hz hpok hcon hsrt => ?_⟩
    have hln : ns.length = zs.length := Nat.le_antisymm hmo hle
    have sat : sa ≠ t := by
      obtain ⟨cells, pl, lf, g1, _⟩ := tp2
      exact ne_of hsa g1 (by intro z; cases z)
    have hsa3 := sb3 _ _ sat (same_new hs1 _ _ hsa)
    have hl3 : LawPl K H3 pt ns z (bs.map (·.2)) dp l bs := ⟨hpt, hdp, hprs, rfl, hsok, hpok, hcon⟩
    have hR : (srtS ns).length = ns.length := (srtS_perm ns).length_eq
    refine ⟨_, rfl, _, rfl, pt, _, _, .ref dp, rfl, rfl, SqT.of hl3.tp, rfl, dp, _, ns, rfl, .inl hl3.sz, sz_keys ns z, by omega, fun q hq => ?_⟩
    refine ⟨t, c, _, q, _, rfl, tp3.same (same_new hq), by omega, upd_same, by omega, fun x hx => hsok.nm x ((srtS_perm ns).mem_iff.mp hx), fun H4 yl ys sb4 tp4 nyl hyl hpm => ?_⟩
    have hpm2 : ys.Perm ns := hpm.trans (srtS_perm ns)
    have hyn : ys.length = zs.length := by rw [hpm2.length_eq, hln]
    have hl4 := (hl3.same (same_new hq)).but (tp3.same (same_new hq)) sb4
    have hsa4 := sb4 _ _ sat (same_new hq _ _ hsa3)
    have hnd : ys.Nodup := hpm2.nodup_iff.mpr hsok.nd
    refine ⟨_, rfl, _, zs.length, rfl, .inl ⟨_, SqL.of hyl, by rw [List.length_map, hyn]⟩, (zs.length : Nat), rfl, by omega, by omega, fun D hD => ?_⟩
    rw [Int.toNat_natCast]
    refine lc_it (walk_range (lo := 0) (n := zs.length)) (fun i H5 => Same H4 H5 ∧ ∃ ps : List Addr, H5 D = some (.lst (ps.map V.ref)) ∧ Paired (fun p (k : Nat) => H5 p = some (.tup [.str (ys.getD k ""), .int (zs.getD k 0 : Nat)])) ps (List.range i)) ⟨same_new hD, [], upd_same, .nil⟩ (fun _ _ _ _ => trivial) ?_ ?_
    · rintro i x H5 H6 hi ⟨s5, ps, hD5, hps⟩ ⟨rfl, rfl⟩
      have ei : (0 : Int) + (i : Nat) = (i : Nat) := by omega
      refine ⟨rfl, _, rfl, _, rfl, yl, _, (i : Nat), V.str (ys.getD i ""), rfl, congrArg V.int ei, SqL.of (s5 _ _ hyl), atI_nat ?_, _, rfl, _, rfl, sa, _, (i : Nat), V.int (zs.getD i 0 : Nat), rfl, congrArg V.int ei, SqL.of (s5 _ _ hsa4), atI_nat ?_, by show 2 ≤ sizeLine; decide, fun p hp => ?_⟩
      · rw [List.getElem?_map, List.getD_eq_getElem?_getD, List.getElem?_eq_getElem (by omega)]
        rfl
      · rw [List.getElem?_map, List.getD_eq_getElem?_getD, List.getElem?_eq_getElem (by omega)]
        rfl
      have Dp' : D ≠ p := ne_of_none hD5 hp
      have hpl := Paired.length hps
      rw [List.length_range] at hpl
      refine ⟨_, by rw [upd_ne Dp']; exact hD5, szL (by rw [List.length_map]; omega), same_upd (s5.trans (same_new hp)) hD, ps ++ [p], by rw [upd_same, List.map_append] <;> rfl, ?_⟩
      rw [List.range_succ]
      refine Paired.snoc (paired_imp hps fun a k _ h => ?_) ?_
      · rw [upd_ne (ne_of h hD5 (by intro z; cases z)), upd_ne (ne_of_none h hp)]
        exact h
      · rw [upd_ne Dp'.symm, upd_same]
    rintro H5 ⟨s5, ps, hD5, hps⟩
    have hkvs : Paired (fun p (kv : Key × V) => SqT K H5 p [kV kv.1, kv.2]) ps (szKv ys (zAt ys zs)) := by
      rw [szKv_at hnd, hyn]
      exact paired_map hps fun a r h => SqT.of h
    refine ⟨D, ps, szKv ys (zAt ys zs), rfl, SqL.of hD5, hkvs, fun dp2 hdp2 => ?_⟩
    rw [merge_nd (by rw [sz_keys]; exact List.Pairwise.map _ (fun a b (e : a ≠ b) (e2 : (Sum.inr a : Key) = Sum.inr b) => e (by injection e2)) hnd) (fun _ _ h => by simp at h), List.nil_append]
    have s6 : Same H4 (upd H5 dp2 (.dK (szKv ys (zAt ys zs)))) := s5.trans (same_new hdp2)
    have hdp6 : upd H5 dp2 (.dK (szKv ys (zAt ys zs))) dp2 = some (.dK (szKv ys (zAt ys zs))) := upd_same
    generalize upd H5 dp2 (.dK (szKv ys (zAt ys zs))) = H6 at s6 hdp6 ⊢
    refine ⟨_, rfl, pt, _, _, .ref l, rfl, rfl, SqT.of (hl4.same s6).tp, rfl, by show 2 ≤ sizeLine; decide, fun pt2 hpt2 => ?_⟩
    have s7 : Same H6 (upd H6 pt2 (.tup [.ref dp2, .ref l])) := same_new hpt2
    have hpt7 : upd H6 pt2 (.tup [.ref dp2, .ref l]) pt2 = some (.tup [.ref dp2, .ref l]) := upd_same
    generalize upd H6 pt2 (.tup [.ref dp2, .ref l]) = H7 at s7 hpt7 ⊢
    have hzb : ∀ r ∈ ys, 1 ≤ zAt ys zs r ∧ zAt ys zs r ≤ 100 := fun r hr => by
      have : ys.idxOf r < zs.length := by rw [← hyn]; exact List.idxOf_lt_length_of_mem hr
      unfold zAt
      rw [List.getD_eq_getElem?_getD, List.getElem?_eq_getElem this]
      exact z3 _ (List.getElem_mem this)
    have hys : ∀ r, r ∈ ys ↔ r ∈ ns := fun r => hpm2.mem_iff
    have hl7 : LawPl K H7 pt2 ys (zAt ys zs) (bs.map (·.2)) dp2 l bs := ⟨hpt7, s7 _ _ hdp6, (hl4.prs.same s6).same s7, rfl, ⟨hnd, fun r hr => hsok.nm r ((hys r).mp hr), fun r hr => (hzb r hr).1, fun r hr => (hzb r hr).2, fun e => by rw [e] at hyn; simp at hyn; omega, by omega⟩, ⟨fun e he => ⟨(hys _).mpr (hpok.sub e he).1, (hys _).mpr (hpok.sub e he).2⟩, hpok.lt, hpok.nd, hpok.len⟩, fun S ⟨r, hr, hS⟩ hc r' hr' => hcon S ⟨r, (hys r).mp hr, hS⟩ hc r' ((hys r').mp hr')⟩
    have hsm : ys.length * prd (zAt ys zs) ys ≤ 10000 := by
      rw [prd_at hnd hyn, hyn]
      exact z4
    have hpl := plOk_of hl7.sok hl7.pok hl7.con hsm
    obtain ⟨y0, hy0⟩ : ∃ y0, ys[0]? = some y0 := by
      cases e : ys with
      | nil => rw [e] at hyn; simp at hyn; omega
      | cons y0 yr => exact ⟨y0, rfl⟩
    have hy0m : y0 ∈ ys := List.mem_of_getElem? hy0
    have hat0 : atI (ys.map V.str) 0 = some (V.str y0) := atI_nat (j := 0) (by rw [List.getElem?_map, hy0]; rfl)
    have hRy : (srtS ys).length = ys.length := (srtS_perm ys).length_eq
    have hf0 : y0 ∈ srtS ys := (srtS_perm ys).mem_iff.mpr hy0m
    obtain ⟨la1, lrest, hlay, hla1⟩ := lay_one hpl hf0 (by show 2 ≤ (srtS ys).length; omega)
    have tot := fun {sd : Str → Int} {r0 : Str} hr0 hp => total_eq hpl hy0m (sd := sd) (r0 := r0) hr0 hp
    have hlens : (lensI ⟨srtS ys, zAt ys zs, bs.map (·.2)⟩ y0).map V.int = .int 1 :: .int (la1.length : Nat) :: (lrest.map fun l => V.int (l.length : Nat)) := by
      rw [lensI_map, hlay]
      rfl
    refine ⟨_, rfl, pt2, ys, zAt ys zs, _, dp2, l, bs, rfl, hl7, fun H8 b s8 nb hb => ?_⟩
    rw [hsrt] at hb
    have s48 := (s6.trans s7).trans s8
    refine ⟨_, rfl, yl, _, _, V.str y0, rfl, rfl, SqL.of (s48 _ _ hyl), hat0, ?_⟩
    refine ⟨b, _, y0, rfl, hb, hpl, hf0, fun H9 q9 s9 n9 hq9 => ?_⟩
    rw [← lensI_map] at hq9
    have hl9 := (hl7.same s8).same s9
    refine ⟨_, rfl, q9, _, rfl, SqL.of hq9, _, rfl, pt2, ys, zAt ys zs, _, dp2, l, bs, rfl, hl9, hsm, fun H10 m sd r0 s10 hr0 hpth hor => ?_⟩
    have em : V.int (lensI ⟨srtS ys, zAt ys zs, bs.map (·.2)⟩ y0).sum = V.int (m : Nat) := by
      rw [lensI_sum]
      obtain ⟨c1, c2⟩ := tot hr0 hpth
      rcases hor with ⟨h1, h2⟩ | ⟨h1, h2⟩
      · rw [h2, c1 h1]
      · rw [h2, c2 h1]
    have hq10 := s10 _ _ hq9
    rw [hlens] at hq10
    refine ⟨rfl, _, rfl, iteD em ?_⟩
    refine ⟨_, rfl, q9, _, _, V.int 1, rfl, rfl, SqL.of hq10, atI_nat (j := 0) rfl, rfl, _, rfl, iteD rfl ?_⟩
    refine ⟨_, rfl, q9, _, _, V.int (la1.length : Nat), rfl, rfl, SqL.of hq10, atI_nat (j := 1) rfl, ?_⟩
    refine ⟨_, rfl, _, rfl, yl, _, _, V.str y0, rfl, rfl, SqL.of (s10 _ _ (s9 _ _ (s48 _ _ hyl))), hat0, ?_⟩
    refine ⟨pt2, ys, zAt ys zs, _, dp2, l, bs, y0, rfl, hl9.same s10, fun H11 q11 s11 n11 hq11 => ?_⟩
    refine ⟨_, la1.length, rfl, .inl ⟨_, SqL.of hq11, by rw [List.length_map, (srtS_perm _).length_eq]; exact hla1⟩, rfl, ?_⟩
    rw [decide_eq_true rfl]
    exact k _
end
end Rd
/-! the law's end: its run where it is called (there, and only there, no repr is under way) -/
namespace Rd
open PySem PySem.Spec L2
open PyProof.Rows hiding St
section
variable {P : Program} {w : World} {K : PySem.W.Frag} {mg mb : Str → Option Value}
/-- the script, as it stands ahead of the call -/
abbrev scO (vs : List Value) (ns : List Int) : HO := .frz { cls := .type "list", data := .seq vs.toArray } (.lst (ns.map V.int))
theorem law_from {fa a : Addr} {s₁ : Shared} {vs : List Value} {ns : List Int} {H : Hp}
    (KX : K.In s₁.heap) (hns : s₁.heap.Ns mainGlobals mg) (hb : s₁.heap.Ns builtinsNs mb) (hbb : ∀ x : Str, x ≠ "__name__" → mb x = bootBuiltins x) (hlim : s₁.heap.NoLimit) (hg : s₁.gens = #[])
    (ha : s₁.heap.get? a = some { cls := .type "list", data := .seq vs.toArray }) (hi : IntsAre vs ns) (hl : ns.length ≤ sizeLine)
    (hA : ∀ b u, H b = some u → b = a ∧ K.lookup a = none ∧ u = scO vs ns)
    (R : ∀ base : Heap, K.In base → base.Ns mainGlobals mg → Env0 P w K mg base callerA [] s₁ H → codeAny (model P w) callerA (.call (.ref fa) ⟨[.ref a], []⟩) (CR CX0 [] P w H s₁ (fun v _ => v = .bl true) fun _ _ _ => False) s₁) :
    codeAny (model P w) callerA (.call (.ref fa) ⟨[.ref a], []⟩) (fun r s' => r = .ok (.ret (.bool true)) ∧ OldK s₁.heap s'.heap ∧ s'.os = s₁.os ∧ AllBare s'.gens) s₁ := by
  have hok : HOk P w H s₁.heap := fun b u z => by
    obtain ⟨rfl, _, rfl⟩ := hA b u z
    exact ⟨ha, by rw [List.length_map]; exact hl, vs, _, vals_ints hi, ha⟩
  have free : ∀ {b : Addr} {o : Obj}, s₁.heap.get? b = some o → (∀ its n, o.data ≠ .seq its n) → H b = none := fun {b o} e d => by
    cases q : H b with
    | none => rfl
    | some u =>
      obtain ⟨rfl, _, _⟩ := hA b u q
      rw [ha] at e
      cases e
      exact absurd rfl (d _ _)
  have nsK : ∀ {b : Addr} {m : Str → Option Value}, s₁.heap.Ns b m → (hidT s₁.heap H).Ns b m := fun {b m} ⟨o, es, ep, e, d, r⟩ => ⟨o, es, ep, hidT_get e (free e fun its n z => by rw [d] at z; cases z), d, r⟩
  have hK : K.In (hidT s₁.heap H) := fun b o e => hidT_get (KX b o e) (by
    cases q : H b with
    | none => rfl
    | some u =>
      obtain ⟨rfl, q2, _⟩ := hA b u q
      rw [q2] at e
      cases e)
  obtain ⟨mc, c1, c2⟩ := hlim
  have e0 : Env0 P w K mg (hidT s₁.heap H) callerA [] s₁ H := ⟨rfl, ⟨hK, nsK hns, ⟨mb, nsK hb, hbb⟩, ⟨mc, nsK c1, c2⟩⟩, fun b o e => of_hidT e, Nat.le_of_eq (hidT_size _ _), trivial, fun b q => absurd (show b ∈ ([] : List Addr) from q) (by simp), hok, .of_eq hg⟩
  refine codeAny_mono (R _ hK (nsK hns) e0) fun r s' z => ?_
  match r, z with
  | .error _, z => exact False.elim z
  | .ok .next, z => exact False.elim z
  | .ok .brk, z => exact False.elim z
  | .ok .cont, z => exact False.elim z
  | .ok (.ret u), z =>
    obtain ⟨v, H', os, bare, un, hok', rv, q⟩ := z
    have q' : v = .bl true := q
    subst q'
    obtain rfl : u = Value.bool true := rv
    refine ⟨rfl, OldK.of_keep fun b o e => ?_, os, bare⟩
    cases q : H b with
    | none => exact un.keep b o e q (by intro z; exact absurd (show b ∈ ([] : List Addr) from z) (by simp)) (by simp)
    | some u =>
      obtain ⟨rfl, _, rfl⟩ := hA b u q
      obtain ⟨e1, _⟩ := hok b _ q
      obtain ⟨e2, _⟩ := hok' b _ (un.frzs b _ _ q)
      rw [e] at e1
      cases e1
      exact e2
theorem law_at {fa a : Addr} {s₁ : Shared} {vs : List Value} {ns : List Int}
    (KX : K.In s₁.heap) (hns : s₁.heap.Ns mainGlobals mg) (hb : s₁.heap.Ns builtinsNs mb) (hbb : ∀ x : Str, x ≠ "__name__" → mb x = bootBuiltins x) (hlim : s₁.heap.NoLimit) (hg : s₁.gens = #[])
    (ha : s₁.heap.get? a = some { cls := .type "list", data := .seq vs.toArray }) (hi : IntsAre vs ns) (hl : ns.length ≤ sizeLine)
    (R : ∀ (base : Heap) (H : Hp), K.In base → base.Ns mainGlobals mg → Env0 P w K mg base callerA [] s₁ H → SqL K H a (ns.map V.int) → codeAny (model P w) callerA (.call (.ref fa) ⟨[.ref a], []⟩) (CR CX0 [] P w H s₁ (fun v _ => v = .bl true) fun _ _ _ => False) s₁) :
    codeAny (model P w) callerA (.call (.ref fa) ⟨[.ref a], []⟩) (fun r s' => r = .ok (.ret (.bool true)) ∧ OldK s₁.heap s'.heap ∧ s'.os = s₁.os ∧ AllBare s'.gens) s₁ := by
  cases hk : K.lookup a with
  | none =>
    refine law_from (H := fun b => if b = a then some (scO vs ns) else none) KX hns hb hbb hlim hg ha hi hl (fun b u z => ?_) fun base k1 k2 k3 => R base _ k1 k2 k3 (.inl (.inr ⟨_, if_pos rfl⟩))
    by_cases e : b = a
    · have z' := (if_pos e).symm.trans z
      injection z' with z'
      exact ⟨e, hk, z'.symm⟩
    · have z' := (if_neg e).symm.trans z
      cases z'
  | some o =>
    refine law_from (H := fun _ => none) KX hns hb hbb hlim hg ha hi hl (fun b u z => by cases z) fun base k1 k2 k3 => R base _ k1 k2 k3 (.inr ?_)
    have e := KX a o hk
    rw [ha] at e
    cases e
    exact ⟨_, vs.toArray, _, hk, rfl, rfl, rfl, by rw [List.size_toArray, hi.length]; exact hl, by simpa using vals_ints hi⟩
end
/-- the law walked: F gives the run where it is called -/
theorem walk_at {l : PySem.W.OpenLaw} {n : Nat} {q : Program} {loose : List Str} {XP : (Str → Option Value) → Heap → Prop} {YP : World → Heap → Prop} {d : DefRec}
    (hn : l.most = some n) (hn2 : n ≤ sizeLine) (hdf : d.params.defaults = [])
    (F : ∀ (w : World) (mg : Str → Option Value) (fa : Addr) (h : Heap), YP w h → h.Ns mainGlobals mg → mg d.name = some (.ref fa) →
      ∃ K : PySem.W.Frag, K.In h ∧ ∀ (base : Heap) (H : Hp) (s₁ : Shared) (a : Addr) (ns : List Int), K.In base → base.Ns mainGlobals mg → Env0 l.prog w K mg base callerA [] s₁ H → SqL K H a (ns.map V.int) →
        codeAny (model l.prog w) callerA (.call (.ref fa) ⟨[.ref a], []⟩) (CR CX0 [] l.prog w H s₁ (fun v _ => v = .bl true) fun _ _ _ => False) s₁) :
    PySem.W.WalkO q loose XP YP l.row.toRowW d [] (fun f vs => PySem.call f vs) := by
  refine Att.attach_call hn hdf fun w s₀ s₁ mg mb fa o pm cd doc a vs ns G Y ho hd hcd hmg hobj hints hlen hg => ?_
  obtain ⟨K, KX, hF⟩ := F w mg fa _ Y G.T.g hmg
  exact law_at KX G.T.g G.T.b G.T.builtins G.T.nolimit hg hobj hints (Nat.le_trans hlen hn2) fun base H k1 k2 k3 k4 => hF base H s₁ a ns k1 k2 k3 k4
end Rd
namespace Rd
open PySem PySem.Spec L2
open PyProof.Rows hiding St
theorem run_law {P : Program} {w : World} {K : PySem.W.Frag} {mg : Str → Option Value} {base : Heap} {H : Hp} {s₁ : Shared} {a : Addr} {ns : List Int} (T : Txt K mg) (e0 : Env0 P w K mg base callerA [] s₁ H) (hS : SqL K H a (ns.map V.int)) :
    codeAny (model P w) callerA (.call (.ref (a_law K)) ⟨[.ref a], []⟩) (CR CX0 [] P w H s₁ (fun v _ => v = .bl true) fun _ _ _ => False) s₁ := by
  have hb := FunD.bindsA (ps := P_law) T.f_law (fun _ _ _ _ _ _ us hl => match us, hl with | [_], _ => rfl) s₁ [.ref a] rfl
  obtain ⟨oc, od, dV, kV, doc, pm, an, cdv, ct, osl, e, lk, hcd, _, _⟩ := T.f_law.ex
  rw [e] at hb lk
  refine StX.run_bnd (k := 7) (N := N_law) (ps := P_law) (G := fun vs H2 => vs = [V.ref a] ∧ H2 = H) lk hcd sc_law ⟨rfl, by decide, by decide⟩ e0 (fun A' Ex Q' h => ?_) fun s2 H2 vs ⟨ev, eh⟩ hr => ?_
  · exact hb _ _ _ _ (h s₁ H [.ref a] [.ref a] e0 Un.refl rfl (fun _ _ z => z) (.cons rfl .nil) rfl ⟨rfl, rfl⟩)
  · subst ev eh
    obtain ⟨t, h1, h2⟩ := law_body (P := P) (w := w) (base := base) T cdv callerA [] s2 H2 [.ref a] (fun v _ => v = .bl true) (fun _ _ _ => False) hr rfl ⟨a, ns, rfl, hS, fun _ => rfl⟩
    exact ⟨t, h1.nox, h2⟩
end Rd
open PySem PySem.W PySem.Calls PyProof.Rows
set_option maxRecDepth 100000 in
set_option maxHeartbeats 0 in
theorem PySem.Challenge.cw_roomdials_k90_whole_layers_holds : PySem.Challenge.rw_roomdials_k90_whole_layers.Holds := by
  w_on; o_law
  refine HandSHeadRun.head_any (r := OpenLaw.row PySem.Challenge.rw_roomdials_k90_whole_layers) (q := view (OpenLaw.row PySem.Challenge.rw_roomdials_k90_whole_layers).prog [55]) (H := Rd.hk) (ob := Rd.ob) (M := 6000) (loose := Rd.loose) (d := HandSHeadRun.topDef (OpenLaw.row PySem.Challenge.rw_roomdials_k90_whole_layers).prog 55) (kwd := []) Rd.ob_eq
    (by kernel_rfl) (fun s => by kernel_rfl) Rd.run (by kernel_rfl) (by kernel_rfl) (by kernel_rfl) (by rfl) (by first | assumption | decide +kernel) (by decide +kernel) ⟨rfl, rfl, rfl, rfl, rfl, by decide +kernel⟩ ?hw ?hc
  case hw => w_witness2
  case hc =>
    refine Rd.walk_at (l := PySem.Challenge.rw_roomdials_k90_whole_layers) (n := 63) rfl (by decide) (by kernel_rfl) ?F
    intro w mg fa h Y G hmg0
    obtain ⟨K, KX, c⟩ := Y
    have hmg : mg ("law" : PySem.Str) = some (.ref fa) := by
      have e : (HandSHeadRun.topDef (OpenLaw.row PySem.Challenge.rw_roomdials_k90_whole_layers).prog 55).name = ("law" : PySem.Str) := by kernel_rfl
      rw [← e]
      exact hmg0
    have T := Rd.txt_of KX G c
    have e := hmg.symm.trans T.g_law
    cases e
    exact ⟨K, KX, fun base H s₁ a ns _ _ e0 hS => Rd.run_law T e0 hS⟩
