import PyProof.Rows.All
import Wide.All
import OpenK.AllK
import Wide.FinOn
import KE.KStateDown
import HandS.ForMost
import HandS.Head0
import HandS.Head1
import HandS.Head2
import HandS.HeadNt
import HandS.OwnEq
import HandS.Walk
import HandS.Codes
import HandS.Set
import HandS.Strs
import HandS.SetFor
import PyProof.Rows.SortShellAny
import PyProof.EqAt
import PyProof.EqKinds
import PyProof.TupleCall
import HandS.FStr
import PyProof.Rows.StrIntSpec
import PyProof.FString3
import HandS.Text
import HandS.Words
import HandS.Star
import HandS.Deep
import HandS.RaiseMore
import HandS.Property
import PyProof.AutoSeq1
import PyProof.EnumMake
import PyProof.Draws
import KE.GoesMore
import KE.GoesEnum
import HandS.Dict
import HandS.Zip
import KE.KDictPairs
import KE.KDictZip
import KE.KTurns
import PyProof.StrOps2
import HandS.Style
import HandS.Comp
import HandS.DictComp
import PyProof.DictCompW
import HandS.SortInts
import HandS.IsInst
import HandS.Conv
import PyProof.Rows.TupDisplay
import HandS.ClsMeth
import HandS.SlotsOwn
import HandS.GenYield
import HandS.GenCall
import HandS.GenList
import HandS.EndBits
import PyProof.ReprRoads
import PyProof.StrLawsRepr
import PySem.Challenge.RW_sixasone_k10_whole_laid_links
set_option Elab.async false
set_option linter.all false
set_option maxRecDepth 100000
namespace S6
open PySem L2
def top (i : Nat) : Stmt := PySem.Challenge.pw_sixasone_k10_whole_laid_links.main.body.getD i (.Pass ⟨0, 0, 0, 0⟩)
abbrev sWeb : Stmt := top 79
abbrev s_ordered : Stmt := top 13
def n_ordered : List Str := ["links", "turned", "rows", "name", "u", "v", "row"]
theorem sc_ordered : FnScope n_ordered ["links"] (defScope s_ordered) := ⟨rfl, rfl, rfl, by decide +kernel, rfl, by decide +kernel, by decide +kernel⟩
abbrev s_net_shape : Stmt := top 14
def n_net_shape : List Str := ["links"]
theorem sc_net_shape : FnScope n_net_shape ["links"] (defScope s_net_shape) := ⟨rfl, rfl, rfl, by decide +kernel, rfl, by decide +kernel, by decide +kernel⟩
abbrev s_joined_shape : Stmt := top 15
def n_joined_shape : List Str := ["kind", "shapes", "idle", "ruling", "flat", "shape", "kept"]
theorem sc_joined_shape : FnScope n_joined_shape ["kind", "shapes"] (defScope s_joined_shape) := ⟨rfl, rfl, rfl, by decide +kernel, rfl, by decide +kernel, by decide +kernel⟩
abbrev s_joints_of : Stmt := top 16
def n_joints_of : List Str := ["links", "touched", "name", "u", "v", "joint"]
theorem sc_joints_of : FnScope n_joints_of ["links"] (defScope s_joints_of) := ⟨rfl, rfl, rfl, by decide +kernel, rfl, by decide +kernel, by decide +kernel⟩
abbrev s_renamed_joints : Stmt := top 17
def n_renamed_joints : List Str := ["links", "left", "right", "inner", "numbers", "name", "u", "v"]
theorem sc_renamed_joints : FnScope n_renamed_joints ["links", "left", "right", "inner"] (defScope s_renamed_joints) := ⟨rfl, rfl, rfl, by decide +kernel, rfl, by decide +kernel, by decide +kernel⟩
abbrev s_laid_between : Stmt := top 18
def n_laid_between : List Str := ["shape", "left", "right", "fresh", "later", "found", "begin", "parts", "at", "part", "end", "links"]
theorem sc_laid_between : FnScope n_laid_between ["shape", "left", "right", "fresh"] (defScope s_laid_between) := ⟨rfl, rfl, rfl, by decide +kernel, rfl, by decide +kernel, by decide +kernel⟩
abbrev s_laid : Stmt := top 19
def n_laid : List Str := ["shape"]
theorem sc_laid : FnScope n_laid ["shape"] (defScope s_laid) := ⟨rfl, rfl, rfl, by decide +kernel, rfl, by decide +kernel, by decide +kernel⟩
abbrev s_places_in : Stmt := top 20
def n_places_in : List Str := ["shape", "name", "u", "v"]
theorem sc_places_in : FnScope n_places_in ["shape"] (defScope s_places_in) := ⟨rfl, rfl, rfl, by decide +kernel, rfl, by decide +kernel, by decide +kernel⟩
abbrev s_shape_text : Stmt := top 21
def n_shape_text : List Str := ["shape", "words", "sign", "name", "u", "v", "part"]
theorem sc_shape_text : FnScope n_shape_text ["shape"] (defScope s_shape_text) := ⟨rfl, rfl, rfl, by decide +kernel, rfl, by decide +kernel, by decide +kernel⟩
abbrev s_is_whole : Stmt := top 27
def n_is_whole : List Str := ["thing"]
theorem sc_is_whole : FnScope n_is_whole ["thing"] (defScope s_is_whole) := ⟨rfl, rfl, rfl, by decide +kernel, rfl, by decide +kernel, by decide +kernel⟩
abbrev s_is_name : Stmt := top 28
def n_is_name : List Str := ["thing", "sign"]
theorem sc_is_name : FnScope n_is_name ["thing"] (defScope s_is_name) := ⟨rfl, rfl, rfl, by decide +kernel, rfl, by decide +kernel, by decide +kernel⟩
abbrev s_is_joint : Stmt := top 29
def n_is_joint : List Str := ["thing"]
theorem sc_is_joint : FnScope n_is_joint ["thing"] (defScope s_is_joint) := ⟨rfl, rfl, rfl, by decide +kernel, rfl, by decide +kernel, by decide +kernel⟩
abbrev s_is_link : Stmt := top 30
def n_is_link : List Str := ["thing"]
theorem sc_is_link : FnScope n_is_link ["thing"] (defScope s_is_link) := ⟨rfl, rfl, rfl, by decide +kernel, rfl, by decide +kernel, by decide +kernel⟩
abbrev s_names_once : Stmt := top 31
def n_names_once : List Str := ["names", "name"]
theorem sc_names_once : FnScope n_names_once ["names"] (defScope s_names_once) := ⟨rfl, rfl, rfl, by decide +kernel, rfl, by decide +kernel, by decide +kernel⟩
abbrev s_far_end : Stmt := top 43
def n_far_end : List Str := ["link", "joint"]
theorem sc_far_end : FnScope n_far_end ["link", "joint"] (defScope s_far_end) := ⟨rfl, rfl, rfl, by decide +kernel, rfl, by decide +kernel, by decide +kernel⟩
abbrev s_reached : Stmt := top 44
def n_reached : List Str := ["links", "start", "found", "at", "link"]
theorem sc_reached : FnScope n_reached ["links", "start"] (defScope s_reached) := ⟨rfl, rfl, rfl, by decide +kernel, rfl, by decide +kernel, by decide +kernel⟩
abbrev s_walks_from : Stmt := top 46
def n_walks_from : List Str := ["links", "joint", "passed", "found", "at", "link", "far", "rest"]
theorem sc_walks_from : FnScope n_walks_from ["links", "joint", "passed"] (defScope s_walks_from) := ⟨rfl, rfl, rfl, by decide +kernel, rfl, by decide +kernel, by decide +kernel⟩
abbrev s_walks : Stmt := top 47
def n_walks : List Str := ["links"]
theorem sc_walks : FnScope n_walks ["links"] (defScope s_walks) := ⟨rfl, rfl, rfl, by decide +kernel, rfl, by decide +kernel, by decide +kernel⟩
abbrev s_on_walks : Stmt := top 48
def n_on_walks : List Str := ["links", "places", "walk", "at", "link"]
theorem sc_on_walks : FnScope n_on_walks ["links"] (defScope s_on_walks) := ⟨rfl, rfl, rfl, by decide +kernel, rfl, by decide +kernel, by decide +kernel⟩
abbrev s_count_of : Stmt := top 51
def n_count_of : List Str := ["links", "places", "at"]
theorem sc_count_of : FnScope n_count_of ["links", "places"] (defScope s_count_of) := ⟨rfl, rfl, rfl, by decide +kernel, rfl, by decide +kernel, by decide +kernel⟩
abbrev s_in_order : Stmt := top 52
def n_in_order : List Str := ["counts", "texts", "text", "count"]
theorem sc_in_order : FnScope n_in_order ["counts"] (defScope s_in_order) := ⟨rfl, rfl, rfl, by decide +kernel, rfl, by decide +kernel, by decide +kernel⟩
abbrev s_shape_of : Stmt := top 73
def n_shape_of : List Str := ["thing", "at"]
theorem sc_shape_of : FnScope n_shape_of ["thing", "at"] (defScope s_shape_of) := ⟨rfl, rfl, rfl, by decide +kernel, rfl, by decide +kernel, by decide +kernel⟩
abbrev s_need_few : Stmt := top 74
def n_need_few : List Str := ["many"]
theorem sc_need_few : FnScope n_need_few ["many"] (defScope s_need_few) := ⟨rfl, rfl, rfl, by decide +kernel, rfl, by decide +kernel, by decide +kernel⟩
abbrev s_joined_web : Stmt := top 75
def n_joined_web : List Str := ["kind", "parts", "shape", "at", "part"]
theorem sc_joined_web : FnScope n_joined_web ["kind", "parts"] (defScope s_joined_web) := ⟨rfl, rfl, rfl, by decide +kernel, rfl, by decide +kernel, by decide +kernel⟩
abbrev s_W_init : Stmt := inClass sWeb 1
def n_W_init : List Str := ["self", "shape"]
theorem sc_W_init : FnScope n_W_init ["self", "shape"] (defScope s_W_init) := ⟨rfl, rfl, rfl, by decide +kernel, rfl, by decide +kernel, by decide +kernel⟩
abbrev s_W_link : Stmt := inClass sWeb 2
def n_W_link : List Str := ["name"]
theorem sc_W_link : FnScope n_W_link ["name"] (defScope s_W_link) := ⟨rfl, rfl, rfl, by decide +kernel, rfl, by decide +kernel, by decide +kernel⟩
abbrev s_W_net : Stmt := inClass sWeb 3
def n_W_net : List Str := ["links", "at", "thing"]
theorem sc_W_net : FnScope n_W_net ["links"] (defScope s_W_net) := ⟨rfl, rfl, rfl, by decide +kernel, rfl, by decide +kernel, by decide +kernel⟩
abbrev s_W_always : Stmt := inClass sWeb 6
def n_W_always : List Str := []
theorem sc_W_always : FnScope n_W_always [] (defScope s_W_always) := ⟨rfl, rfl, rfl, by decide +kernel, rfl, by decide +kernel, by decide +kernel⟩
abbrev s_W_never : Stmt := inClass sWeb 7
def n_W_never : List Str := []
theorem sc_W_never : FnScope n_W_never [] (defScope s_W_never) := ⟨rfl, rfl, rfl, by decide +kernel, rfl, by decide +kernel, by decide +kernel⟩
abbrev s_W_kind : Stmt := inClass sWeb 9
def n_W_kind : List Str := ["self"]
theorem sc_W_kind : FnScope n_W_kind ["self"] (defScope s_W_kind) := ⟨rfl, rfl, rfl, by decide +kernel, rfl, by decide +kernel, by decide +kernel⟩
abbrev s_W_links : Stmt := inClass sWeb 11
def n_W_links : List Str := ["self"]
theorem sc_W_links : FnScope n_W_links ["self"] (defScope s_W_links) := ⟨rfl, rfl, rfl, by decide +kernel, rfl, by decide +kernel, by decide +kernel⟩
abbrev s_W_joints : Stmt := inClass sWeb 12
def n_W_joints : List Str := ["self"]
theorem sc_W_joints : FnScope n_W_joints ["self"] (defScope s_W_joints) := ⟨rfl, rfl, rfl, by decide +kernel, rfl, by decide +kernel, by decide +kernel⟩
abbrev s_W_names : Stmt := inClass sWeb 13
def n_W_names : List Str := ["self"]
theorem sc_W_names : FnScope n_W_names ["self"] (defScope s_W_names) := ⟨rfl, rfl, rfl, by decide +kernel, rfl, by decide +kernel, by decide +kernel⟩
abbrev s_W_net_of : Stmt := inClass sWeb 20
def n_W_net_of : List Str := ["self"]
theorem sc_W_net_of : FnScope n_W_net_of ["self"] (defScope s_W_net_of) := ⟨rfl, rfl, rfl, by decide +kernel, rfl, by decide +kernel, by decide +kernel⟩
abbrev s_W_str : Stmt := inClass sWeb 21
def n_W_str : List Str := ["self"]
theorem sc_W_str : FnScope n_W_str ["self"] (defScope s_W_str) := ⟨rfl, rfl, rfl, by decide +kernel, rfl, by decide +kernel, by decide +kernel⟩
abbrev s_W_len : Stmt := inClass sWeb 22
def n_W_len : List Str := ["self"]
theorem sc_W_len : FnScope n_W_len ["self"] (defScope s_W_len) := ⟨rfl, rfl, rfl, by decide +kernel, rfl, by decide +kernel, by decide +kernel⟩
abbrev s_W_abs : Stmt := inClass sWeb 23
def n_W_abs : List Str := ["self"]
theorem sc_W_abs : FnScope n_W_abs ["self"] (defScope s_W_abs) := ⟨rfl, rfl, rfl, by decide +kernel, rfl, by decide +kernel, by decide +kernel⟩
abbrev s_W_eq : Stmt := inClass sWeb 25
def n_W_eq : List Str := ["self", "other"]
theorem sc_W_eq : FnScope n_W_eq ["self", "other"] (defScope s_W_eq) := ⟨rfl, rfl, rfl, by decide +kernel, rfl, by decide +kernel, by decide +kernel⟩
abbrev s_W_and : Stmt := inClass sWeb 26
def n_W_and : List Str := ["self", "other"]
theorem sc_W_and : FnScope n_W_and ["self", "other"] (defScope s_W_and) := ⟨rfl, rfl, rfl, by decide +kernel, rfl, by decide +kernel, by decide +kernel⟩
abbrev s_W_or : Stmt := inClass sWeb 28
def n_W_or : List Str := ["self", "other"]
theorem sc_W_or : FnScope n_W_or ["self", "other"] (defScope s_W_or) := ⟨rfl, rfl, rfl, by decide +kernel, rfl, by decide +kernel, by decide +kernel⟩
abbrev s_next_joints : Stmt := top 81
def n_next_joints : List Str := ["links", "side", "found", "link", "joint"]
theorem sc_next_joints : FnScope n_next_joints ["links", "side"] (defScope s_next_joints) := ⟨rfl, rfl, rfl, by decide +kernel, rfl, by decide +kernel, by decide +kernel⟩
abbrev s_sides_of : Stmt := top 82
def n_sides_of : List Str := ["links", "found", "known", "at", "joint", "side", "one"]
theorem sc_sides_of : FnScope n_sides_of ["links"] (defScope s_sides_of) := ⟨rfl, rfl, rfl, by decide +kernel, rfl, by decide +kernel, by decide +kernel⟩
abbrev s_leaving : Stmt := top 83
def n_leaving : List Str := ["links", "side", "at", "link"]
theorem sc_leaving : FnScope n_leaving ["links", "side"] (defScope s_leaving) := ⟨rfl, rfl, rfl, by decide +kernel, rfl, by decide +kernel, by decide +kernel⟩
abbrev s_is_least : Stmt := top 84
def n_is_least : List Str := ["links", "side", "beyond", "link", "joint"]
theorem sc_is_least : FnScope n_is_least ["links", "side"] (defScope s_is_least) := ⟨rfl, rfl, rfl, by decide +kernel, rfl, by decide +kernel, by decide +kernel⟩
abbrev s_cut_counts : Stmt := top 85
def n_cut_counts : List Str := ["web", "links", "side"]
theorem sc_cut_counts : FnScope n_cut_counts ["web"] (defScope s_cut_counts) := ⟨rfl, rfl, rfl, by decide +kernel, rfl, by decide +kernel, by decide +kernel⟩
abbrev s_cuts : Stmt := top 86
def n_cuts : List Str := ["web"]
abbrev s_walks_of : Stmt := top 88
def n_walks_of : List Str := ["web"]
theorem sc_walks_of : FnScope n_walks_of ["web"] (defScope s_walks_of) := ⟨rfl, rfl, rfl, by decide +kernel, rfl, by decide +kernel, by decide +kernel⟩
abbrev s_way_counts : Stmt := top 89
def n_way_counts : List Str := ["web", "walk"]
theorem sc_way_counts : FnScope n_way_counts ["web"] (defScope s_way_counts) := ⟨rfl, rfl, rfl, by decide +kernel, rfl, by decide +kernel, by decide +kernel⟩
abbrev s_ways : Stmt := top 90
def n_ways : List Str := ["web"]
abbrev s_law_pen : Stmt := top 92
def n_law_pen : List Str := ["_law_script"]
theorem sc_law_pen : FnScope n_law_pen ["_law_script"] (defScope s_law_pen) := ⟨rfl, rfl, rfl, by decide +kernel, rfl, by decide +kernel, by decide +kernel⟩
abbrev s_law_draw : Stmt := top 93
def n_law_draw : List Str := ["_law_pen_here", "_law_many", "_law_digit", "_law_at", "_law_cell", "_law_great", "_law_blend"]
theorem sc_law_draw : FnScope n_law_draw ["_law_pen_here", "_law_many"] (defScope s_law_draw) := ⟨rfl, rfl, rfl, by decide +kernel, rfl, by decide +kernel, by decide +kernel⟩
abbrev s_law_pick : Stmt := top 94
def n_law_pick : List Str := ["_law_pen_here", "_law_some"]
theorem sc_law_pick : FnScope n_law_pick ["_law_pen_here", "_law_some"] (defScope s_law_pick) := ⟨rfl, rfl, rfl, by decide +kernel, rfl, by decide +kernel, by decide +kernel⟩
abbrev s_law_words : Stmt := top 95
def n_law_words : List Str := ["_law_pen_here", "_law_many", "_law_letters", "_law_k", "_law_stem", "_law_spot", "_law_front", "_law_found", "_law_word"]
theorem sc_law_words : FnScope n_law_words ["_law_pen_here", "_law_many"] (defScope s_law_words) := ⟨rfl, rfl, rfl, by decide +kernel, rfl, by decide +kernel, by decide +kernel⟩
abbrev s_law_net : Stmt := top 96
def n_law_net : List Str := ["_law_pen_here", "_law_names", "_law_room", "_law_inner", "_law_many", "_law_found", "_law_k", "_law_joints"]
theorem sc_law_net : FnScope n_law_net ["_law_pen_here", "_law_names", "_law_room"] (defScope s_law_net) := ⟨rfl, rfl, rfl, by decide +kernel, rfl, by decide +kernel, by decide +kernel⟩
abbrev s_law_plan : Stmt := top 97
def n_law_plan : List Str := ["_law_pen_here", "_law_names", "_law_room", "_law_deep", "_law_way", "_law_left", "_law_parts", "_law_k", "_law_part"]
theorem sc_law_plan : FnScope n_law_plan ["_law_pen_here", "_law_names", "_law_room", "_law_deep"] (defScope s_law_plan) := ⟨rfl, rfl, rfl, by decide +kernel, rfl, by decide +kernel, by decide +kernel⟩
abbrev s_law_size : Stmt := top 98
def n_law_size : List Str := ["_law_plan_here", "_law_part"]
theorem sc_law_size : FnScope n_law_size ["_law_plan_here"] (defScope s_law_size) := ⟨rfl, rfl, rfl, by decide +kernel, rfl, by decide +kernel, by decide +kernel⟩
abbrev s_law_joined : Stmt := top 99
def n_law_joined : List Str := ["_law_kind", "_law_parts", "_law_idle_one", "_law_ruling", "_law_flat", "_law_part", "_law_kept"]
theorem sc_law_joined : FnScope n_law_joined ["_law_kind", "_law_parts"] (defScope s_law_joined) := ⟨rfl, rfl, rfl, by decide +kernel, rfl, by decide +kernel, by decide +kernel⟩
abbrev s_law_in_rows : Stmt := top 100
def n_law_in_rows : List Str := ["_law_links_here", "_law_texts", "_law_name", "_law_u", "_law_v", "_law_low", "_law_high", "_law_cut_up", "_law_line"]
theorem sc_law_in_rows : FnScope n_law_in_rows ["_law_links_here"] (defScope s_law_in_rows) := ⟨rfl, rfl, rfl, by decide +kernel, rfl, by decide +kernel, by decide +kernel⟩
abbrev s_law_netted : Stmt := top 101
def n_law_netted : List Str := ["_law_links_here"]
theorem sc_law_netted : FnScope n_law_netted ["_law_links_here"] (defScope s_law_netted) := ⟨rfl, rfl, rfl, by decide +kernel, rfl, by decide +kernel, by decide +kernel⟩
abbrev s_law_made : Stmt := top 102
def n_law_made : List Str := ["_law_plan_here", "_law_part"]
theorem sc_law_made : FnScope n_law_made ["_law_plan_here"] (defScope s_law_made) := ⟨rfl, rfl, rfl, by decide +kernel, rfl, by decide +kernel, by decide +kernel⟩
abbrev s_law_shown : Stmt := top 103
def n_law_shown : List Str := ["_law_plan_here", "_law_name", "_law_u", "_law_v", "_law_part"]
theorem sc_law_shown : FnScope n_law_shown ["_law_plan_here"] (defScope s_law_shown) := ⟨rfl, rfl, rfl, by decide +kernel, rfl, by decide +kernel, by decide +kernel⟩
abbrev s_law_web : Stmt := top 104
def n_law_web : List Str := ["_law_plan_here", "_law_found", "_law_part"]
theorem sc_law_web : FnScope n_law_web ["_law_plan_here"] (defScope s_law_web) := ⟨rfl, rfl, rfl, by decide +kernel, rfl, by decide +kernel, by decide +kernel⟩
abbrev s_law_between : Stmt := top 105
def n_law_between : List Str := ["_law_plan_here", "_law_left", "_law_right_here", "_law_fresh", "_law_numbers", "_law_joint", "_law_found", "_law_begin", "_law_parts", "_law_at", "_law_end", "_law_name", "_law_u", "_law_v", "_law_one"]
theorem sc_law_between : FnScope n_law_between ["_law_plan_here", "_law_left", "_law_right_here", "_law_fresh"] (defScope s_law_between) := ⟨rfl, rfl, rfl, by decide +kernel, rfl, by decide +kernel, by decide +kernel⟩
abbrev s_law_links : Stmt := top 106
def n_law_links : List Str := ["_law_plan_here"]
theorem sc_law_links : FnScope n_law_links ["_law_plan_here"] (defScope s_law_links) := ⟨rfl, rfl, rfl, by decide +kernel, rfl, by decide +kernel, by decide +kernel⟩
abbrev s_law_wide_net : Stmt := top 107
def n_law_wide_net : List Str := ["_law_pen_here", "_law_names", "_law_front", "_law_step", "_law_found", "_law_k", "_law_u", "_law_v"]
theorem sc_law_wide_net : FnScope n_law_wide_net ["_law_pen_here", "_law_names"] (defScope s_law_wide_net) := ⟨rfl, rfl, rfl, by decide +kernel, rfl, by decide +kernel, by decide +kernel⟩
abbrev s_law_drawn : Stmt := top 108
def n_law_drawn : List Str := ["_law_pen_here", "_law_names", "_law_way", "_law_some"]
theorem sc_law_drawn : FnScope n_law_drawn ["_law_pen_here", "_law_names"] (defScope s_law_drawn) := ⟨rfl, rfl, rfl, by decide +kernel, rfl, by decide +kernel, by decide +kernel⟩
abbrev s_law_right : Stmt := top 109
def n_law_right : List Str := ["_law_plan_here", "_law_due", "_law_made_here", "_law_links_here", "_law_joints", "_law_called", "_law_wanted", "_law_again", "_law_net_here", "_law_kind", "_law_one"]
theorem sc_law_right : FnScope n_law_right ["_law_plan_here"] (defScope s_law_right) := ⟨rfl, rfl, rfl, by decide +kernel, rfl, by decide +kernel, by decide +kernel⟩
abbrev s_law : Stmt := top 110
def n_law : List Str := ["_law_script", "_law_pen_here", "_law_again", "_law_called", "_law_plan_here"]
theorem sc_law : FnScope n_law ["_law_script"] (defScope s_law) := ⟨rfl, rfl, rfl, by decide +kernel, rfl, by decide +kernel, by decide +kernel⟩
end S6

set_option maxHeartbeats 4000000
/-! S6Data: what stands at a value, as data; heaps that grow; a heap with one address left out. -/
namespace S6
open PySem PySem.Spec PyProof.Rows L2
abbrev Frg := PySem.W.Frag
mutual
inductive Da (K : Frg) (H : Hp) : V → PyData → Prop
  | non : Da K H .non .none
  | bl (b : Bool) : Da K H (.bl b) (.bool b)
  | int (i : Int) : Da K H (.int i) (.int i)
  | str (x : Str) : Da K H (.str x) (.str x)
  | lst {a : Addr} {xs : List V} {ds : List PyData} : H a = some (.lst xs) → DaAll K H xs ds → Da K H (.ref a) (.list ds)
  | tup {a : Addr} {xs : List V} {ds : List PyData} : SqT K H a xs → DaAll K H xs ds → Da K H (.ref a) (.tuple ds)
  | web {C a dx : Addr} {v : V} {d : PyData} : H a = some (.ins C dx [("shape", v)]) → Da K H v d → Da K H (.ref a) (.dict [(.int (C : Nat), d)])
inductive DaAll (K : Frg) (H : Hp) : List V → List PyData → Prop
  | nil : DaAll K H [] []
  | cons {v : V} {vs : List V} {d : PyData} {ds : List PyData} : Da K H v d → DaAll K H vs ds → DaAll K H (v :: vs) (d :: ds)
end
theorem sqt_same {K : Frg} {H H' : Hp} {a : Addr} {xs : List V} (e : Same H H') (h : SqT K H a xs) : SqT K H' a xs := SqT.ext h e
mutual
theorem Da.mono {K : Frg} {H H' : Hp} (e : Same H H') : ∀ {d : PyData} {v : V}, Da K H v d → Da K H' v d
  | .none, _, h => by cases h; exact .non
  | .bool b, _, h => by cases h; exact .bl b
  | .int i, _, h => by cases h; exact .int i
  | .str x, _, h => by cases h; exact .str x
  | .list ds, _, h => by
    cases h with
    | lst ha hs => exact .lst (e _ _ ha) (DaAll.mono e hs)
  | .tuple ds, _, h => by
    cases h with
    | tup ha hs => exact .tup (sqt_same e ha) (DaAll.mono e hs)
  | .dict kvs, _, h => by
    cases h with
    | web ha hd => exact .web (e _ _ ha) (Da.mono e hd)
theorem DaAll.mono {K : Frg} {H H' : Hp} (e : Same H H') : ∀ {ds : List PyData} {vs : List V}, DaAll K H vs ds → DaAll K H' vs ds
  | [], _, h => by cases h; exact .nil
  | d :: ds, _, h => by
    cases h with
    | cons h1 h2 => exact .cons (Da.mono e h1) (DaAll.mono e h2)
end
mutual
theorem Da.dp {K : Frg} {H : Hp} : ∀ {d : PyData} {v : V}, Da K H v d → d.hasDict = false → Dp K H v d
  | .none, _, h, _ => by cases h; exact .non
  | .bool b, _, h, _ => by cases h; exact .bl b
  | .int i, _, h, _ => by cases h; exact .int i
  | .str x, _, h, _ => by cases h; exact .str x
  | .list ds, _, h, n => by
    cases h with
    | lst ha hs => exact .lst (SqL.of ha) (DaAll.dp hs n)
  | .tuple ds, _, h, n => by
    cases h with
    | tup ha hs => exact .tup ha (DaAll.dp hs n)
  | .dict kvs, _, h, n => by cases n
theorem DaAll.dp {K : Frg} {H : Hp} : ∀ {ds : List PyData} {vs : List V}, DaAll K H vs ds → PyData.hasDictAll ds = false → DpAll K H vs ds
  | [], _, h, _ => by cases h; exact .nil
  | d :: ds, _, h, n => by
    rw [PyData.hasDictAll, Bool.or_eq_false_iff] at n
    cases h with
    | cons h1 h2 => exact .cons (Da.dp h1 n.1) (DaAll.dp h2 n.2)
end
section
variable {K : Frg} {H H' : Hp}
theorem Da.int_inv {v : V} {i : Int} (h : Da K H v (.int i)) : v = .int i := by cases h; rfl
theorem Da.str_inv {v : V} {x : Str} (h : Da K H v (.str x)) : v = .str x := by cases h; rfl
theorem Da.bl_inv {v : V} {b : Bool} (h : Da K H v (.bool b)) : v = .bl b := by cases h; rfl
theorem Da.lst_inv {v : V} {ds : List PyData} (h : Da K H v (.list ds)) : ∃ a xs, v = .ref a ∧ H a = some (.lst xs) ∧ DaAll K H xs ds := by
  cases h with
  | lst ha hs => exact ⟨_, _, rfl, ha, hs⟩
theorem Da.tup_inv {v : V} {ds : List PyData} (h : Da K H v (.tuple ds)) : ∃ a xs, v = .ref a ∧ SqT K H a xs ∧ DaAll K H xs ds := by
  cases h with
  | tup ha hs => exact ⟨_, _, rfl, ha, hs⟩
theorem DaAll.len : ∀ {ds : List PyData} {vs : List V}, DaAll K H vs ds → vs.length = ds.length
  | [], _, h => by cases h; rfl
  | d :: ds, _, h => by
    cases h with
    | cons h1 h2 => rw [List.length_cons, List.length_cons, DaAll.len h2]
theorem DaAll.get : ∀ {ds : List PyData} {vs : List V} {i : Nat} {d : PyData}, DaAll K H vs ds → ds[i]? = some d → ∃ v, vs[i]? = some v ∧ Da K H v d
  | [], _, i, d, h, e => by simp at e
  | _ :: ds, _, 0, d, h, e => by
    cases h with
    | cons h1 h2 =>
      simp at e
      subst e
      exact ⟨_, rfl, h1⟩
  | _ :: ds, _, i + 1, d, h, e => by
    cases h with
    | cons h1 h2 =>
      obtain ⟨v, e1, e2⟩ := DaAll.get (i := i) (d := d) h2 (by simpa using e)
      exact ⟨v, by simpa using e1, e2⟩
theorem DaAll.at : ∀ {ds : List PyData} {vs : List V} {i : Nat} {v : V}, DaAll K H vs ds → vs[i]? = some v → ∃ d, ds[i]? = some d ∧ Da K H v d := fun {ds vs i v} h e => by
  have hi : i < vs.length := (List.getElem?_eq_some_iff.mp e).1
  have hd : i < ds.length := by rw [← h.len]; exact hi
  obtain ⟨w, e1, e2⟩ := h.get (List.getElem?_eq_getElem hd)
  rw [e] at e1
  cases e1
  exact ⟨_, List.getElem?_eq_getElem hd, e2⟩
theorem DaAll.append : ∀ {ds : List PyData} {vs : List V} {ds' : List PyData} {vs' : List V}, DaAll K H vs ds → DaAll K H vs' ds' → DaAll K H (vs ++ vs') (ds ++ ds')
  | [], _, _, _, h, h' => by cases h; exact h'
  | d :: ds, _, _, _, h, h' => by
    cases h with
    | cons h1 h2 => exact .cons h1 (DaAll.append h2 h')
theorem DaAll.one {v : V} {d : PyData} (h : Da K H v d) : DaAll K H [v] [d] := .cons h .nil
theorem DaAll.two {v v' : V} {d d' : PyData} (h : Da K H v d) (h' : Da K H v' d') : DaAll K H [v, v'] [d, d'] := .cons h (.cons h' .nil)
theorem DaAll.three {v v' v'' : V} {d d' d'' : PyData} (h : Da K H v d) (h' : Da K H v' d') (h'' : Da K H v'' d'') : DaAll K H [v, v', v''] [d, d', d''] := .cons h (.cons h' (.cons h'' .nil))
theorem DaAll.snoc {ds : List PyData} {vs : List V} {v : V} {d : PyData} (h : DaAll K H vs ds) (h' : Da K H v d) : DaAll K H (vs ++ [v]) (ds ++ [d]) := h.append (.one h')
theorem DaAll.take : ∀ {ds : List PyData} {vs : List V} (n : Nat), DaAll K H vs ds → DaAll K H (vs.take n) (ds.take n)
  | [], _, n, h => by cases h; simp; exact .nil
  | d :: ds, _, 0, h => by simp; exact .nil
  | d :: ds, _, n + 1, h => by
    cases h with
    | cons h1 h2 => exact .cons h1 (DaAll.take n h2)
theorem DaAll.drop : ∀ {ds : List PyData} {vs : List V} (n : Nat), DaAll K H vs ds → DaAll K H (vs.drop n) (ds.drop n)
  | [], _, n, h => by cases h; simp; exact .nil
  | d :: ds, _, 0, h => h
  | d :: ds, _, n + 1, h => by
    cases h with
    | cons h1 h2 => exact DaAll.drop n h2
theorem DaAll.ints : ∀ {ns : List Int} {vs : List V}, DaAll K H vs (ns.map PyData.int) → vs = ns.map V.int
  | [], _, h => by cases h; rfl
  | n :: ns, _, h => by
    cases h with
    | cons h1 h2 => rw [List.map_cons, h1.int_inv, DaAll.ints h2]
theorem DaAll.ofInts : ∀ (ns : List Int), DaAll K H (ns.map V.int) (ns.map PyData.int)
  | [] => .nil
  | n :: ns => .cons (.int n) (DaAll.ofInts ns)
theorem DaAll.strs : ∀ {ns : List Str} {vs : List V}, DaAll K H vs (ns.map PyData.str) → vs = ns.map V.str
  | [], _, h => by cases h; rfl
  | n :: ns, _, h => by
    cases h with
    | cons h1 h2 => rw [List.map_cons, h1.str_inv, DaAll.strs h2]
theorem DaAll.ofStrs : ∀ (ns : List Str), DaAll K H (ns.map V.str) (ns.map PyData.str)
  | [] => .nil
  | n :: ns => .cons (.str n) (DaAll.ofStrs ns)
theorem DaAll.bls : ∀ {ns : List Bool} {vs : List V}, DaAll K H vs (ns.map PyData.bool) → vs = ns.map V.bl
  | [], _, h => by cases h; rfl
  | n :: ns, _, h => by
    cases h with
    | cons h1 h2 => rw [List.map_cons, h1.bl_inv, DaAll.bls h2]
/-- a list of ints, of texts -/
theorem Da.lstInts {v : V} {ns : List Int} (h : Da K H v (.list (ns.map .int))) : ∃ a, v = .ref a ∧ H a = some (.lst (ns.map V.int)) := by
  obtain ⟨a, xs, e1, e2, e3⟩ := h.lst_inv
  rw [e3.ints] at e2
  exact ⟨a, e1, e2⟩
theorem Da.lstStrs {v : V} {ns : List Str} (h : Da K H v (.list (ns.map .str))) : ∃ a, v = .ref a ∧ H a = some (.lst (ns.map V.str)) := by
  obtain ⟨a, xs, e1, e2, e3⟩ := h.lst_inv
  rw [e3.strs] at e2
  exact ⟨a, e1, e2⟩
theorem Da.tupInts {v : V} {ns : List Int} (h : Da K H v (.tuple (ns.map .int))) : ∃ a, v = .ref a ∧ SqT K H a (ns.map V.int) := by
  obtain ⟨a, xs, e1, e2, e3⟩ := h.tup_inv
  rw [e3.ints] at e2
  exact ⟨a, e1, e2⟩
theorem Da.tupStrs {v : V} {ns : List Str} (h : Da K H v (.tuple (ns.map .str))) : ∃ a, v = .ref a ∧ SqT K H a (ns.map V.str) := by
  obtain ⟨a, xs, e1, e2, e3⟩ := h.tup_inv
  rw [e3.strs] at e2
  exact ⟨a, e1, e2⟩
end
/-! ### a heap with some addresses left out -/
def hM (M : List Addr) (H : Hp) : Hp := fun b => if b ∈ M then none else H b
/-- what is left out stands there -/
def Lv (M : List Addr) (H : Hp) : Prop := ∀ b ∈ M, H b ≠ none
section
variable {H H' H1 : Hp} {p q : Addr} {o : HO} {K : Frg} {M : List Addr}
theorem hM_in (h : q ∈ M) : hM M H q = none := by unfold hM; rw [if_pos h]
theorem hM_out (h : q ∉ M) : hM M H q = H q := by unfold hM; rw [if_neg h]
theorem hM_nil : hM [] H = H := by
  funext b
  exact hM_out (by simp)
theorem hM_sub : Same (hM M H) H := fun b u e => by
  by_cases hb : b ∈ M
  · rw [hM_in hb] at e; cases e
  · rw [hM_out hb] at e; exact e
theorem hM_weak {M' : List Addr} (h : ∀ b ∈ M', b ∈ M) : Same (hM M H) (hM M' H) := fun b u e => by
  by_cases hb : b ∈ M
  · rw [hM_in hb] at e; cases e
  · rw [hM_out hb] at e
    rw [hM_out (fun z => hb (h b z))]
    exact e
theorem hM_cons : Same (hM (p :: M) H) (hM M H) := hM_weak fun b hb => List.mem_cons_of_mem _ hb
theorem same_hM (e : Same H H') : Same (hM M H) (hM M H') := fun b u x => by
  by_cases hb : b ∈ M
  · rw [hM_in hb] at x; cases x
  · rw [hM_out hb] at x ⊢
    exact e b u x
theorem hM_upd (h : p ∈ M) : hM M (upd H p o) = hM M H := by
  funext b
  by_cases hb : b ∈ M
  · rw [hM_in hb, hM_in hb]
  · rw [hM_out hb, hM_out hb, upd_ne (fun z => hb (by rw [z]; exact h))]
theorem hM_upd_ne (h : p ∉ M) : hM M (upd H p o) = upd (hM M H) p o := by
  funext b
  by_cases hb : b = p
  · rw [hb, hM_out h, upd_same, upd_same]
  · by_cases hm : b ∈ M
    · rw [hM_in hm, upd_ne hb, hM_in hm]
    · rw [hM_out hm, upd_ne hb, upd_ne hb, hM_out hm]
theorem Lv.nil : Lv [] H := fun _ h => nomatch h
theorem Lv.cons {u : HO} (l : Lv M H) (h : H p = some u) : Lv (p :: M) H := fun b hb => by
  rcases List.mem_cons.mp hb with e | e
  · rw [e, h]; exact fun z => nomatch z
  · exact l b e
theorem Lv.same (l : Lv M H) (e : Same H H') : Lv M H' := fun b hb z => by
  cases q : H b with
  | none => exact l b hb q
  | some u =>
    rw [e b u q] at z
    cases z
theorem Lv.new (l : Lv M H) (h : H p = none) : p ∉ M := fun z => l p z h
theorem Lv.upd (l : Lv M H) : Lv M (L2.upd H p o) := fun b hb z => by
  by_cases e : b = p
  · rw [e, upd_same] at z; cases z
  · rw [upd_ne e] at z; exact l b hb z
theorem Lv.tail (l : Lv (p :: M) H) : Lv M H := fun b hb => l b (List.mem_cons_of_mem _ hb)
/-- facts of a heap ahead of p's making -/
theorem same_new (h : H p = none) : Same H (upd H p o) := fun b u x => by rw [upd_ne (ne_of_none x h)]; exact x
theorem same_to_hM (e : Same (hM M H) H1) (h : hM M H p = none) : Same (hM M H) (hM [p] H1) := fun b u x => by
  rw [hM_out (by simp only [List.mem_singleton]; exact ne_of_none x h)]
  exact e b u x
theorem ne_new {u : HO} (h : H q = none) (e : H p = some u) : q ≠ p := fun z => by rw [z, e] at h; cases h
/-- all facts of ahead of D's making stand without D -/
theorem same_skip (e : Same H H') (h : H p = none) : Same (hM M H) (hM (p :: M) H') := fun b u x => by
  by_cases hb : b ∈ M
  · rw [hM_in hb] at x; cases x
  · rw [hM_out hb] at x
    rw [hM_out (fun z => ?_)]
    · exact e b u x
    · rcases List.mem_cons.mp z with z | z
      · rw [z, h] at x; cases x
      · exact hb z
/-- a new tuple, a new list -/
theorem da_tup {xs : List V} {ds : List PyData} (l : Lv M H) (h : H p = none) (hs : DaAll K (hM M H) xs ds) : Da K (hM M (upd H p (.tup xs))) (.ref p) (.tuple ds) := by
  rw [hM_upd_ne (l.new h)]
  exact .tup (.inl (.inl upd_same)) (hs.mono (same_new (by
    by_cases hb : p ∈ M
    · exact hM_in hb
    · rw [hM_out hb]; exact h)))
theorem da_lst {xs : List V} {ds : List PyData} (l : Lv M H) (h : H p = none) (hs : DaAll K (hM M H) xs ds) : Da K (hM M (upd H p (.lst xs))) (.ref p) (.list ds) := by
  rw [hM_upd_ne (l.new h)]
  exact .lst upd_same (hs.mono (same_new (by
    by_cases hb : p ∈ M
    · exact hM_in hb
    · rw [hM_out hb]; exact h)))
/-- a list that stands, its items told without it -/
theorem da_lst_at {xs : List V} {ds : List PyData} (h : H p = some (.lst xs)) (hp : p ∉ M) (hs : DaAll K (hM (p :: M) H) xs ds) : Da K (hM M H) (.ref p) (.list ds) :=
  .lst (by rw [hM_out hp]; exact h) (hs.mono hM_cons)
theorem Da.up {v : V} {d : PyData} (h : Da K (hM M H) v d) : Da K H v d := h.mono hM_sub
theorem DaAll.up {vs : List V} {ds : List PyData} (h : DaAll K (hM M H) vs ds) : DaAll K H vs ds := h.mono hM_sub
end
/-! ### promises by data -/
/-- from arguments that are read as ds (without looking at M) to an answer that is read as d; the heap only grows -/
def spR (K : Frg) (R : List PyData → PyData → Prop) : Sp := fun vs H Q _ => ∃ M ds d, Lv M H ∧ DaAll K (hM M H) vs ds ∧ R ds d ∧ ∀ v H', Same H H' → Da K (hM M H') v d → Q v H'
theorem spR_len {K : Frg} {R : List PyData → PyData → Prop} {n : Nat} (hR : ∀ ds d, R ds d → ds.length = n) : ∀ vs H Q E, spR K R vs H Q E → vs.length = n := fun vs H Q E h => by
  obtain ⟨M, ds, d, _, h1, h2, _⟩ := h
  rw [h1.len]
  exact hR ds d h2
/-! ### a comprehension over data -/
/-- ahead of turn i of a comprehension whose list stands at D: f tells what each turn adds -/
structure LcI (K : Frg) (M : List Addr) (H1 : Hp) (D : Addr) (f : Nat → Option PyData) (i : Nat) (H : Hp) : Prop where
  grow : Same H1 H
  lv : Lv (D :: M) H
  facts : Same (hM M H1) (hM (D :: M) H)
  acc : ∃ acc, H D = some (.lst acc) ∧ acc.length ≤ i ∧ DaAll K (hM (D :: M) H) acc ((List.range i).filterMap f)
section
variable {K : Frg} {M : List Addr} {H1 H H4 : Hp} {D : Addr} {f : Nat → Option PyData} {i n : Nat}
theorem LcI.start (l : Lv M H1) (hD : H1 D = none) : LcI K M H1 D f 0 (upd H1 D (.lst [])) :=
  ⟨same_new hD, (l.upd).cons upd_same, same_skip (same_new hD) hD, [], upd_same, Nat.le_refl _, .nil⟩
theorem LcI.step {y : V} {d : PyData} (P : LcI K M H1 D f i H) (e : Same H H4) (hf : f i = some d) (hd : Da K (hM (D :: M) H4) y d) (hi : i < n) (hn : n ≤ sizeLine) (hD : H1 D = none) :
    ∃ acc, H4 D = some (.lst acc) ∧ acc.length < sizeLine ∧ LcI K M H1 D f (i + 1) (upd H4 D (.lst (acc ++ [y]))) := by
  obtain ⟨acc, h1, h2, h3⟩ := P.acc
  have q : hM (D :: M) (upd H4 D (.lst (acc ++ [y]))) = hM (D :: M) H4 := hM_upd List.mem_cons_self
  refine ⟨acc, e _ _ h1, by omega, ?_, ((P.lv.same e).upd), ?_, acc ++ [y], upd_same, by rw [List.length_append, List.length_singleton]; omega, ?_⟩
  · intro b u x
    rw [upd_ne (ne_of_none x hD)]
    exact e _ _ (P.grow b u x)
  · rw [q]
    exact P.facts.trans (same_hM e)
  · rw [q, List.range_succ, List.filterMap_append]
    refine (h3.mono (same_hM e)).append ?_
    rw [List.filterMap_cons, hf]
    exact .one hd
theorem LcI.skip (P : LcI K M H1 D f i H) (e : Same H H4) (hf : f i = none) : LcI K M H1 D f (i + 1) H4 := by
  obtain ⟨acc, h1, h2, h3⟩ := P.acc
  refine ⟨P.grow.trans e, P.lv.same e, P.facts.trans (same_hM e), acc, e _ _ h1, by omega, ?_⟩
  rw [List.range_succ, List.filterMap_append, List.filterMap_cons, hf, List.filterMap_nil, List.append_nil]
  exact h3.mono (same_hM e)
theorem LcI.done (P : LcI K M H1 D f n H) (l : Lv M H1) (hD : H1 D = none) : Same H1 H ∧ Da K (hM M H) (.ref D) (.list ((List.range n).filterMap f)) := by
  obtain ⟨acc, h1, h2, h3⟩ := P.acc
  exact ⟨P.grow, da_lst_at h1 (l.new hD) h3⟩
end
theorem range_get {α β : Type} (g : α → Option β) : ∀ (ls : List α), (List.range ls.length).filterMap (fun i => (ls[i]?).bind g) = ls.filterMap g := by
  intro ls
  have e : ∀ (k : Nat) (l : List α), ls.drop k = l → (List.range' k l.length).filterMap (fun i => (ls[i]?).bind g) = l.filterMap g := by
    intro k l
    induction l generalizing k with
    | nil => intro _; rfl
    | cons x r ih =>
      intro h
      have h1 : ls[k]? = some x := by
        have := congrArg (fun z : List α => z[0]?) h
        simpa using this
      have h2 : ls.drop (k + 1) = r := by
        have := congrArg (fun z : List α => z.drop 1) h
        simpa [List.drop_drop] using this
      rw [List.length_cons, List.range'_succ, List.filterMap_cons, List.filterMap_cons, h1, ih (k + 1) h2]
      rfl
  have := e 0 ls rfl
  rwa [← List.range_eq_range'] at this
theorem range_map {α β : Type} (g : α → β) (ls : List α) : (List.range ls.length).filterMap (fun i => (ls[i]?).map g) = ls.map g := by
  have h := range_get (fun x => some (g x)) ls
  have e : (fun i : Nat => (ls[i]?).map g) = fun i => (ls[i]?).bind fun x => some (g x) := by
    funext i
    cases ls[i]? <;> rfl
  rw [e, h]
  exact congrFun (List.filterMap_eq_map' (f := g)) ls
end S6

/-! RD: set(xs) of a list of ints or texts, ready to be sorted; sorted(set of texts) of any length. -/
namespace S6
open PySem PySem.Spec PyProof.Rows L2
namespace St
abbrev KS (P : Program) (w : World) := PySem.strKind P w
def keyS (e : Int × Value) : Str := match e.2 with | .str k _ => k | _ => Str.empty
def GoodS (w : World) (e : Int × Value) : Prop := ∃ k tk, e.2 = Value.str k tk ∧ e.1 = hashStr w k
/-- the set of texts at a, its members l (in some order) -/
def SetS (w : World) (h : Heap) (a : Addr) (S : Str → Bool) (n : Nat) : Prop :=
  ∃ o es ep t, h.get? a = some o ∧ o.ExactSet ∧ o.data = .set es ep t ∧ (∀ e ∈ es.toList, GoodS w e) ∧ (es.toList.map keyS).Nodup ∧ (∀ k, S k = true ↔ k ∈ es.toList.map keyS) ∧
    es.size < scanBound ∧ t.fits es.size = true ∧ es.size = n ∧ Ris t.place.toList ∧ (w.params.followText "set-order" = true ∨ t.led = true)
section
variable {P : Program} {w : World} {h h' : Heap} {a : Addr} {S : Str → Bool} {n : Nat}
theorem SetS.at (R : SetS w h a S n) (k : ∀ o, h.get? a = some o → h'.get? a = some o) : SetS w h' a S n := by
  obtain ⟨o, es, ep, t, ho, r⟩ := R
  exact ⟨o, es, ep, t, k o ho, r⟩
theorem SetS.congr {S' : Str → Bool} (R : SetS w h a S n) (e : ∀ k, S' k = S k) : SetS w h a S' n := by
  have q : S' = S := funext e
  rw [q]; exact R
theorem good_elems {l : List (Int × Value)} (g : ∀ e ∈ l, GoodS w e) : ElemsOf (KS P w) l := fun e he => by
  obtain ⟨k, tk, h1, h2⟩ := g e he
  exact ⟨⟨k, by rw [h1]; exact PySem.strKind_is P w k tk, h2⟩, by rw [h1] <;> rfl⟩
theorem good_is {e : Int × Value} (g : GoodS w e) (k : Str) : (KS P w).is k e.2 = true ↔ keyS e = k := by
  obtain ⟨k0, tk, h1, _⟩ := g
  unfold keyS
  rw [h1]
  constructor
  · intro z
    exact ((KS P w).inj _ _ _ (PySem.strKind_is P w k0 tk) z)
  · intro z
    subst z
    exact PySem.strKind_is P w k0 tk
theorem good_mem {l : List (Int × Value)} (g : ∀ e ∈ l, GoodS w e) (k : Str) : k ∈ l.map keyS ↔ ∃ e ∈ l, (KS P w).is k e.2 = true := by
  rw [List.mem_map]
  constructor
  · rintro ⟨e, he, q⟩
    exact ⟨e, he, (good_is (g e he) k).2 q⟩
  · rintro ⟨e, he, q⟩
    exact ⟨e, he, (good_is (g e he) k).1 q⟩
end
section
variable {P : Program} {w : World} {A : Around} {E : Value → Shared → Prop} {s : Shared} {a : Addr} {S : Str → Bool} {n : Nat}
theorem setS_add_tail {g : Bool → Sem Unit} (hg : ∀ (b : Bool) (s₁ : Shared) (Q' : Unit → Shared → Prop), Q' () s₁ → wpAny (model P w) A (g b) Q' E s₁)
    {o : Obj} {es : Array (Int × Value)} {ep : Nat} {t : SetTable} (ho : s.heap.get? a = some o) (hex : o.ExactSet) (hd : o.data = .set es ep t)
    {es1 : Array (Int × Value)} {t2 : SetTable} {S' : Str → Bool} (g1 : ∀ e ∈ es1.toList, GoodS w e) (nd1 : (es1.toList.map keyS).Nodup) (m1 : ∀ k, S' k = true ↔ k ∈ es1.toList.map keyS)
    (hb1 : es1.size < scanBound) (hf2 : t2.fits es1.size = true) (hr : Ris t2.place.toList) (hl : w.params.followText "set-order" = true ∨ t2.led = true) {wasDummy : Bool} {R : Option Bool → Shared → Prop}
    (hR : ∀ h', Heap.SameBut a s.heap h' → SetS w h' a S' es1.size → R (some true) { s with heap := h' }) :
    wpAny (model P w) A (do
        storeSet a es1 t2
        if (!wasDummy && t2.tooFull) = true then do
            g (relayAll t2 es1 (SetTable.grown es1.size)).2.2
            storeSet a (relayAll t2 es1 (SetTable.grown es1.size)).1 (relayAll t2 es1 (SetTable.grown es1.size)).2.1
            pure (some true)
          else pure (some true)) R E s := by
  refine wpAny_bind (wpAny_storeSet_of ho hd ?_ (fits_of_scanBound hb1))
  have ho1 := store_at (es' := es1) (t' := t2) ho hd
  have sb1 := Heap.SameBut.update s.heap a (Obj.putSet es1 t2)
  split
  · have pm := relayAll_perm t2 es1 (SetTable.grown es1.size)
    have hf3 := relayAll_fits t2 es1 (SetTable.grown es1.size)
    have hr3 := relayAll_ris t2 es1 (SetTable.grown es1.size)
    have hl3 := relayAll_led t2 es1 (SetTable.grown es1.size)
    generalize relayAll t2 es1 (SetTable.grown es1.size) = Z at pm hf3 hr3 hl3 ⊢
    obtain ⟨es2, t3, gave⟩ := Z
    dsimp only at pm hf3 hr3 hl3 ⊢
    have hsz : es2.size = es1.size := by rw [← Array.length_toList, pm.length_eq, Array.length_toList]
    have hb2 : es2.size < scanBound := by rw [hsz]; exact hb1
    refine wpAny_bind (hg _ _ _ ?_)
    refine wpAny_bind (wpAny_storeSet_of ho1 rfl ?_ (fits_of_scanBound hb2))
    have ho2 := store_at (es' := es2) (t' := t3) ho1 rfl
    refine wpAny_pure (hR _ (sb1.trans (Heap.SameBut.update _ a _)) ?_)
    exact ⟨_, es2, _, t3, ho2, hex, rfl, fun e he => g1 e (pm.mem_iff.mp he), (pm.map keyS).nodup_iff.mpr nd1, fun k => (m1 k).trans (pm.map keyS).mem_iff.symm, hb2, hf3, hsz, hr3,
      hl.imp id fun z => by rw [hl3]; exact z⟩
  · exact wpAny_pure (hR _ sb1 ⟨_, es1, _, t2, ho1, hex, rfl, g1, nd1, m1, hb1, hf2, rfl, hr, hl⟩)
theorem setS_add_hashed {k : Str} {tk : Tok} {Q : Bool → Shared → Prop} (R : SetS w s.heap a S n) (room : n + 1 < scanBound)
    (hQ : ∀ h', Heap.SameBut a s.heap h' → SetS w h' a (fun j => S j || decide (j = k)) (if S k = true then n else n + 1) → Q (!S k) { s with heap := h' }) :
    wpAny (model P w) A (setAddHashed a (.str k tk) ((KS P w).hash k)) Q E s := by
  obtain ⟨o, es, ep, t, ho, hex, hd, g, nd, hm, hb, hf, hn, hr, hl⟩ := R
  have hkey : (KS P w).is k (.str k tk) = true := PySem.strKind_is P w k tk
  have hsc : (Value.str k tk).scannable = true := rfl
  have hel : ElemsOf (KS P w) es.toList := good_elems g
  unfold setAddHashed setAddHashedIn
  refine wpAny_holding (wpAny_bind (wpAny_setState_of ho hd hf ?_))
  dsimp only
  rw [byScan_of hsc hb hel]
  simp only [↓reduceIte]
  unfold setAddByScan
  refine wpAny_bind ?_
  refine wpAny_bind (wpAny_rule ?_)
  refine wpAny_bind (wpAny_setScan_of hkey ho hd hf hel ?_)
  cases hfi : List.findIdx? (fun e => (KS P w).is k e.2) es.toList with
  | some j =>
    dsimp only
    obtain ⟨hj, pj, _⟩ := List.findIdx?_eq_some_iff_getElem.mp hfi
    have hSk : S k = true := (hm k).2 ((good_mem (P := P) (w := w) g k).2 ⟨es.toList[j], List.getElem_mem hj, pj⟩)
    refine wpAny_pure (wpAny_pure ?_)
    have q := hQ s.heap (Heap.SameBut.refl a s.heap) ⟨o, es, ep, t, ho, hex, hd, g, nd, fun i => by
      rw [Bool.or_eq_true, decide_eq_true_eq, ← hm i]
      exact ⟨fun z => z.elim id (fun e => e ▸ hSk), .inl⟩, hb, hf, by rw [if_pos hSk]; exact hn, hr, hl⟩
    rw [hSk] at q
    exact q
  | none =>
    dsimp only
    have hnk : k ∉ es.toList.map keyS := fun z => by
      obtain ⟨e, he, q⟩ := (good_mem (P := P) (w := w) g k).1 z
      have c := List.findIdx?_eq_none_iff.mp hfi e he
      rw [q] at c
      cases c
    have hSk : S k = false := by
      cases q : S k with
      | false => rfl
      | true => exact absurd ((hm k).1 q) hnk
    have hgw : ∀ (b : Bool) {s₁ : Shared} {Q' : Unit → Shared → Prop}, Q' () s₁ → wpAny (model P w) A (match b with | true => rule "set.scan.the-table-gave-way" | false => pure ()) Q' E s₁ :=
      fun b s₁ Q' q => by cases b <;> first | exact wpAny_pure q | exact wpAny_rule q
    have pm := layNew_perm t es ((KS P w).hash k) (.str k tk)
    have hf1 := layNew_fits t es ((KS P w).hash k) (.str k tk)
    have hr1 := layNew_ris t es ((KS P w).hash k) (.str k tk) hr
    have hl1 := layNew_led t es ((KS P w).hash k) (.str k tk)
    generalize layNew t es ((KS P w).hash k) (.str k tk) = Z at pm hf1 hr1 hl1 ⊢
    obtain ⟨es1, t1, wasDummy, gave⟩ := Z
    dsimp only at pm hf1 hr1 hl1 ⊢
    rw [Array.toList_push] at pm
    have pc : es1.toList.Perm (((KS P w).hash k, Value.str k tk) :: es.toList) := pm.trans (List.perm_append_singleton _ _)
    have pk : (es1.toList.map keyS).Perm (k :: es.toList.map keyS) := pc.map keyS
    have g1 : ∀ e ∈ es1.toList, GoodS w e := fun e he => by
      rcases List.mem_cons.mp (pc.mem_iff.mp he) with z | z
      · rw [z]; exact ⟨k, tk, rfl, rfl⟩
      · exact g e z
    have nd1 : (es1.toList.map keyS).Nodup := pk.nodup_iff.mpr (List.nodup_cons.mpr ⟨hnk, nd⟩)
    have m1 : ∀ i, (S i || decide (i = k)) = true ↔ i ∈ es1.toList.map keyS := fun i => by
      rw [Bool.or_eq_true, decide_eq_true_eq, hm i, pk.mem_iff, List.mem_cons]
      exact Or.comm
    have hsz : es1.size = n + 1 := by rw [← Array.length_toList, pc.length_eq, List.length_cons, Array.length_toList, hn]
    have hb1 : es1.size < scanBound := by rw [hsz]; exact room
    have hled : w.params.followText "set-order" = true ∨ t1.led = true := hl.imp id fun z => by rw [hl1]; exact z
    have fin : ∀ h', Heap.SameBut a s.heap h' → SetS w h' a (fun j => S j || decide (j = k)) es1.size → Q true { s with heap := h' } := fun h' sb r => by
      have q := hQ h' sb
      rw [hSk] at q
      rw [hsz] at r
      exact q r
    refine wpAny_bind (hgw _ ?_)
    split
    · refine wpAny_bind ?_
      rw [hashByValue_scannable 8 hsc]
      refine wpAny_pure ?_
      refine setS_add_tail ?_ ho hex hd g1 nd1 m1 hb1 ?_ ?_ ?_ ?_
      · intro b s₁ Q' q; cases b <;> first | exact wpAny_pure q | exact wpAny_rule q
      · first | (split <;> first | exact hf1 | exact SetTable.fits_plain_off hf1) | exact hf1
      · first | (split <;> exact hr1) | exact hr1
      · first | (split <;> exact hled) | exact hled
      · intro h' sb r; dsimp only; exact wpAny_pure (fin h' sb r)
    · refine wpAny_bind (wpAny_pure ?_)
      simp only [↓reduceIte]
      refine setS_add_tail ?_ ho hex hd g1 nd1 m1 hb1 hf1 hr1 hled ?_
      · intro b s₁ Q' q; cases b <;> first | exact wpAny_pure q | exact wpAny_rule q
      · intro h' sb r; dsimp only; exact wpAny_pure (fin h' sb r)
end
/-! ### set(list) in general -/
abbrev fresh (w : World) : Obj := { cls := .type "set", dict := none, data := .set #[] 0 (.fresh 0 0 (!w.params.followText "set-order")) }
/-- what a set is behind i of n items -/
structure Fam (P : Program) (w : World) (n : Nat) (Pv : Nat → Value → Prop) (SP : Nat → Heap → Addr → Prop) : Prop where
  new : ∀ (h : Heap) (a : Addr), h.get? a = some (fresh w) → SP 0 h a
  keep : ∀ (i : Nat) (h h' : Heap) (a : Addr), SP i h a → (∀ o, h.get? a = some o → h'.get? a = some o) → SP i h' a
  add : ∀ (A : Around) (E : Value → Shared → Prop) (s : Shared) (a : Addr) (i : Nat) (v : Value) (Q : Bool → Shared → Prop), i < n → Pv i v → SP i s.heap a →
    (∀ (h' : Heap) (b : Bool), Heap.SameBut a s.heap h' → SP (i + 1) h' a → Q b { s with heap := h', toks := s.toks + 1 }) → wpAny (model P w) A (setAdd a v) Q E s
section
variable {P : Program} {w : World} {A : Around} {E : Value → Shared → Prop} {s : Shared}
theorem upd_loop {I : Addr} {fp wr : List Addr} {G : Array GenState → Array GenState → Prop} {n : Nat} {Pv : Nat → Value → Prop} {SP : Nat → Heap → Addr → Prop} {St : Nat → Shared → Prop} {R : Result → Shared → Prop}
    (Fm : Fam P w n Pv SP) (W : WalksS P w A.in1 I fp wr G n Pv St) (S : Addr) (hSf : S ∉ fp) :
    ∀ (k i : Nat) (s : Shared), n - i = k → i ≤ n → St i s → SP i s.heap S →
      (∀ s', Moved (S :: wr) G s s' → SP n s'.heap S → R (.ok (.ret .none)) s') →
      codeAny (model P w) A (.builtin "set.update.loop" ⟨[.ref S, .ref I], []⟩) R s := by
  have hSw : S ∉ wr := fun h => hSf (W.sub _ h)
  have hsub : ∀ b ∈ wr, b ∈ S :: wr := fun b hb => List.mem_cons_of_mem _ hb
  intro k
  induction k with
  | zero =>
    intro i s hk' hi hst hS hR
    have hin : i = n := by omega
    subst hin
    refine codeAny_builtin F.entry_set_update_loop ?_
    rw [Around.under_plainId F.plain_set_update_loop _]
    show wpAny _ A.in1 (pyNext (.ref I) >>= _) _ _ s
    refine wpAny_bind (W.done s _ _ hst fun s' hm => ?_)
    show wpAny _ A.in1 (ret Value.none) _ _ s'
    exact wpAny_pure (hR s' (hm.mono hsub) (Fm.keep _ _ _ _ hS fun o e => hm.heap S o hSw e))
  | succ k ih =>
    intro i s hk' hi hst hS hR
    have hlt : i < n := by omega
    refine codeAny_builtin F.entry_set_update_loop ?_
    rw [Around.under_plainId F.plain_set_update_loop _]
    show wpAny _ A.in1 (pyNext (.ref I) >>= _) _ _ s
    refine wpAny_bind (W.item i s _ _ hlt hst fun v s' hP hst' hm => ?_)
    have hS' : SP i s'.heap S := Fm.keep _ _ _ _ hS fun o e => hm.heap S o hSw e
    show wpAny _ A.in1 (holding [v] (setAdd S v) >>= _) _ _ s'
    refine wpAny_bind (wpAny_holding ?_)
    refine Fm.add _ _ s' S i v _ hlt hP hS' fun h' b hsb hS2 => ?_
    refine wpAny_pure ⟨plainId_quiet F.plain_set_update_loop _, ih (i + 1) _ (by omega) hlt (W.frame _ s' _ _ hst' (Nat.le_succ _) fun b hb o e => ?_) hS2 fun s'' hm'' hS'' => ?_⟩
    · rw [hsb.2 b (fun h : b = S => hSf (by rw [← h]; exact hb))]; exact e
    · refine hR s'' (Moved.trans W.gtrans ((hm.mono hsub).then_heap (Nat.le_succ _) fun b o hb e => ?_) hm'') hS''
      rw [hsb.2 b (fun h : b = S => hb (by rw [h]; exact List.mem_cons_self))]; exact e
set_option maxRecDepth 100000 in
set_option maxHeartbeats 3200000 in
theorem call_set {l : Addr} {items : Array Value} {SP : Nat → Heap → Addr → Prop} {Q : Value → Shared → Prop} (Fm : Fam P w items.size (fun i v => items[i]? = some v) SP) (hh : A.handled = none) (hl : s.heap.IsList l items)
    (h : ∀ (h' : Heap) (tk : Nat), SP items.size h' s.heap.objs.size → (∀ b o, s.heap.get? b = some o → h'.get? b = some o) → Q (.ref s.heap.objs.size) { s with heap := h', toks := tk }) :
    wpAny (model P w) A (call (.type "set") [.ref l]) Q E s := by
  obtain ⟨c, tl, hmro⟩ := F.called_set.mro
  have hmade := F.called_set.made
  have hsub := F.called_set.sub
  refine wpAny_call (codeAny_of_tree ?_)
  show wpAny _ _ (callAny (.type "set") _) _ _ _
  refine wpAny_pure ⟨Code.quiet_builtin _ (by decide +kernel), codeAny_builtin F.entry_type_call ?_⟩
  rw [Around.under_plain (weight_type_call_type "set" [.ref l] []) rfl]
  have h1 := F.called_set.notType
  have h2 := F.called_set.canCreate
  have hct := F.typeCall_set_1 (.ref l)
  repeat (any_goals (first | assumption | wp_step))
  refine codeAny_mono (code_set_led1 (.ref l) (E := E) (Q₁ := fun obj s₁ => obj = .ref s.heap.objs.size ∧ s₁ = { s with heap := s.heap.push (fresh w) }) ⟨rfl, rfl⟩) fun r s₁ hr => ?_
  cases r with
  | error e => exact hr
  | ok fl =>
    cases fl with
    | ret obj =>
      obtain ⟨rfl, rfl⟩ := hr
      have hS : (s.heap.push (fresh w)).get? s.heap.objs.size = some (fresh w) := Heap.get?_push_size _ rfl
      have hT : Shared.TypeIs { s with heap := s.heap.push (fresh w) } (.ref s.heap.objs.size) "set" := ⟨_, hS, rfl⟩
      have hli := F.called_set.init.lookup
      have hbi := F.called_set.init.bind (.ref s.heap.objs.size)
      repeat (any_goals (first | assumption | wp_step))
      refine codeAny_mono (codeAny_call_builtin (R := wants (fun r s₂ => r = .none ∧ ∃ h' tk, s₂ = { s with heap := h', toks := tk } ∧ SP items.size h' s.heap.objs.size ∧
          (∀ b o, s.heap.get? b = some o → h'.get? b = some o)) E) F.called_set.init.plain F.entry_set_init (check_set_init_1 hT ?_)) fun r₂ s₂ hr₂ => ?_
      · obtain ⟨ol, hol, hcl, nl, hdl⟩ := hl
        obtain ⟨ocls, odict, odata, oslots⟩ := ol
        simp only at hcl hdl
        subst hcl; subst hdl
        have hol' : (s.heap.push (fresh w)).get? l = some { cls := .type "list", dict := odict, data := .seq items nl, slots := oslots } := Heap.get?_push_of_some _ hol
        have hsls := F.sub_list_set
        have hslf := F.sub_list_frozenset
        have hne : (Value.type "list" == Value.type "dict") = false := by decide
        have hl1 : (s.heap.push (fresh w)).IsList l items := ⟨_, hol', rfl, nl, rfl⟩
        unfold Builtin.«set.__init__» noKeywords Builtin.Frozenset.updateFrom
        generalize hPI : pyIter = PI
        wp_walk
        subst hPI
        refine wpAny_pyIter_list hl1 ?_
        refine wpAny_bind (wpAny_runValue ?_)
        have hlS : l < s.heap.objs.size := Heap.lt_size hol
        have hh3 : A.in1.in1.in1.handled = none := by simp [hh]
        have hneI : l ≠ (s.heap.push (fresh w)).objs.size := by
          rw [Heap.size_push]; exact Nat.ne_of_lt (Nat.lt_succ_of_lt hlS)
        have hSf : s.heap.objs.size ∉ [(s.heap.push (fresh w)).objs.size, l] := by
          rw [Heap.size_push]; simp only [List.mem_cons, List.mem_singleton, List.not_mem_nil, or_false, not_or]
          exact ⟨Nat.ne_of_lt (Nat.lt_succ_self _), Nat.ne_of_gt hlS⟩
        refine upd_loop Fm ((Walks.list hh3 _ l hneI items).toS) s.heap.objs.size
          hSf (items.size - 0) 0 _ (by omega) (Nat.zero_le _)
          ⟨⟨_, Heap.get?_push_size _ rfl, rfl, rfl⟩, (hl1.push _)⟩ ?hS0 ?hR
        case hS0 =>
          have hget : ((s.heap.push (fresh w)).push { cls := .type "list_iterator", data := .fields #[.ref l, .int 0 0] }).get? s.heap.objs.size
              = some (fresh w) := Heap.get?_push_of_some _ hS
          exact Fm.new _ _ hget
        case hR =>
          intro s' hm hS'
          obtain ⟨h', g2, d', tk', os'⟩ := s'
          have eg : g2 = s.gens := hm.gens
          have ed : d' = s.drawn := hm.drawn
          have eo : os' = s.os := hm.os
          subst eg; subst ed; subst eo
          show wpAny _ _ _ _ _ _
          refine wpAny_pure ?_
          show wpAny _ _ (ret Value.none) _ _ _
          refine wpAny_pure ⟨rfl, h', tk', rfl, hS', fun b o e => ?_⟩
          have hb0 : b < s.heap.objs.size := Heap.lt_size e
          have hb1 : b ≠ s.heap.objs.size := Nat.ne_of_lt hb0
          have hb2 : b ≠ (s.heap.push (fresh w)).objs.size := by
            rw [Heap.size_push]; exact Nat.ne_of_lt (Nat.lt_succ_of_lt hb0)
          exact hm.heap b o (by simp only [List.mem_cons, List.mem_singleton, List.not_mem_nil, or_false, not_or]; exact ⟨hb1, hb2⟩) (Heap.get?_push_of_some _ (Heap.get?_push_of_some _ e))
      · cases r₂ with
        | error e => exact hr₂
        | ok fl₂ =>
          cases fl₂ with
          | ret r =>
            obtain ⟨rfl, h', tk, rfl, hS', hk'⟩ := hr₂
            repeat (any_goals (first | assumption | wp_step))
            exact h _ _ hS' hk'
          | _ => exact hr₂.elim
    | _ => exact hr.elim
/-- ints -/
def SPi (w : World) (ns : List Int) (i : Nat) (h : Heap) (a : Addr) : Prop := ∃ c, c ≤ i ∧ SetR w h a (fun j => decide (j ∈ ns.take i)) c
theorem fam_ints {items : Array Value} {ns : List Int} (hi : IntsAre items.toList ns) (hb : ns.length + 1 < scanBound) : Fam P w items.size (fun i v => items[i]? = some v) (SPi w ns) where
  new := fun h a e => ⟨0, Nat.le_refl _, setR_new_at e⟩
  keep := fun i h h' a ⟨c, hc, R⟩ k => ⟨c, hc, R.at k⟩
  add := fun A E s a i v Q hlt hv ⟨c, hc, R⟩ q => by
    have hil := IntsAre.length hi
    have hi' : i < ns.length := by rw [← hil, Array.length_toList]; exact hlt
    obtain ⟨t, e⟩ := PyProof.Rows.IntsAre.int_at hi i v (by rw [Array.getElem?_toList]; exact hv)
    have e2 : v = .int ns[i] t := by rw [e, List.getD_eq_getElem?_getD, List.getElem?_eq_getElem hi'] <;> rfl
    subst e2
    unfold setAdd
    refine wpAny_holding ?_
    refine wpAny_bind ((intKind P w).pyHash (k := ns[i]) (intKind_is _ _ _ _) ?_)
    refine setR_add_hashed (s := { s with toks := s.toks + 1 }) R (by omega) fun h' hsb hS2 => ?_
    have hS3 : SetR w h' a (fun j => decide (j ∈ ns.take (i + 1))) (if decide (ns[i] ∈ ns.take i) = true then c else c + 1) := hS2.congr fun j => by
      rw [List.take_add_one, List.getElem?_eq_getElem hi']
      simp only [Option.toList_some, List.mem_append, List.mem_singleton, Bool.decide_or]
    exact q h' _ hsb ⟨_, by split <;> omega, hS3⟩
/-- texts -/
def SPs (w : World) (ns : List Str) (i : Nat) (h : Heap) (a : Addr) : Prop := ∃ c, c ≤ i ∧ SetS w h a (fun j => decide (j ∈ ns.take i)) c
theorem setS_new_at {h : Heap} {a : Addr} {ns : List Str} (ho : h.get? a = some (fresh w)) : SetS w h a (fun j => decide (j ∈ ns.take 0)) 0 :=
  ⟨_, #[], 0, _, ho, ⟨rfl, rfl, rfl⟩, rfl, (fun e he => by simp at he), (by simp), (fun k => by simp), (by decide), (by rfl), rfl, List.Pairwise.nil, by
    show _ ∨ (!w.params.followText "set-order") = true
    cases w.params.followText "set-order"
    · exact .inr rfl
    · exact .inl rfl⟩
theorem fam_strs {items : Array Value} {ns : List Str} (hi : StrsAre items.toList ns) (hb : ns.length + 1 < scanBound) : Fam P w items.size (fun i v => items[i]? = some v) (SPs w ns) where
  new := fun h a e => ⟨0, Nat.le_refl _, setS_new_at e⟩
  keep := fun i h h' a ⟨c, hc, R⟩ k => ⟨c, hc, R.at k⟩
  add := fun A E s a i v Q hlt hv ⟨c, hc, R⟩ q => by
    have hil := StrsAre.length hi
    have hi' : i < ns.length := by rw [← hil, Array.length_toList]; exact hlt
    obtain ⟨t, e⟩ := SS.strs_at hi i v (by rw [Array.getElem?_toList]; exact hv)
    have e2 : v = .str ns[i] t := by rw [e, List.getD_eq_getElem?_getD, List.getElem?_eq_getElem hi'] <;> rfl
    subst e2
    unfold setAdd
    refine wpAny_holding ?_
    refine wpAny_bind ((KS P w).pyHash (k := ns[i]) (PySem.strKind_is _ _ _ _) ?_)
    refine setS_add_hashed (s := { s with toks := s.toks + 1 }) R (by omega) fun h' hsb hS2 => ?_
    have hS3 : SetS w h' a (fun j => decide (j ∈ ns.take (i + 1))) (if decide (ns[i] ∈ ns.take i) = true then c else c + 1) := hS2.congr fun j => by
      rw [List.take_add_one, List.getElem?_eq_getElem hi']
      simp only [Option.toList_some, List.mem_append, List.mem_singleton, Bool.decide_or]
    exact q h' _ hsb ⟨_, by split <;> omega, hS3⟩
end
end St
end S6

namespace S6
open PySem PySem.Spec PyProof.Rows L2
namespace St
section
variable {P : Program} {w : World} {A : Around} {E : Value → Shared → Prop} {s : Shared} {a : Addr}
theorem strs_of : ∀ (l : List Value), (∀ v ∈ l, ∃ k tk, v = Value.str k tk) → StrsAre l (l.map PyProof.Rows.strOf)
  | [], _ => .nil
  | v :: l, h => by
    obtain ⟨k, tk, rfl⟩ := h v List.mem_cons_self
    exact .cons k tk (strs_of l fun u hu => h u (List.mem_cons_of_mem _ hu))
theorem sorted_setS {S : Str → Bool} {n : Nat} {Q : Value → Shared → Prop} (R : SetS w s.heap a S n) (hh : A.handled = none)
    (hQ : ∀ s' p (out : Array Value) (c : Nat) (ns : List Str), (∀ b o, s.heap.get? b = some o → s'.heap.get? b = some o) → s'.gens = s.gens → s'.os = s.os → s.heap.objs.size ≤ p →
      s'.heap.get? p = some (seqObj "list" out c) → StrsAre out.toList ns → sortedS ns = true → ns.Nodup → (∀ k, k ∈ ns ↔ S k = true) → ns.length = n → Q (.ref p) s') :
    wpAny (model P w) A (call (.builtin "sorted") [.ref a]) Q E s := by
  obtain ⟨o, es, ep, t, ho, hex, hd, g, nd, hm, hb, hf, hn, hr, hl⟩ := R
  refine Calls.call_function_entry kind_sorted plain_sorted entry_sorted (args_sorted1 _) ?_
  unfold Builtin.«sorted»
  refine wpAny_bind (m := checkCount "sorted" 1 1 _) (wpAny_pure ?_)
  refine wpAny_bind (collect_set (A := A.in1) hh ⟨o, ho, hex.1, hd⟩ hf hb hr hl fun s1 vs k1 hz g1 o1 pm => ?_)
  have hvl : vs.length = n := by rw [pm.length_eq, List.length_map, Array.length_toList]; exact hn
  have hvz : vs.length ≤ sizeLine := by
    rw [pm.length_eq, List.length_map, Array.length_toList]
    exact fits_of_scanBound hb
  have hI : StrsAre vs (vs.map PyProof.Rows.strOf) := strs_of vs fun v hv => by
    obtain ⟨e, he, q⟩ := List.mem_map.mp (pm.mem_iff.mp hv)
    obtain ⟨k, tk, h1, _⟩ := g e he
    exact ⟨k, tk, by rw [← q]; exact h1⟩
  have pk : (vs.map PyProof.Rows.strOf).Perm (es.toList.map keyS) := by
    have q := pm.map PyProof.Rows.strOf
    rw [List.map_map] at q
    refine q.trans (List.Perm.of_eq (List.map_congr_left fun e he => ?_))
    obtain ⟨k, tk, h1, _⟩ := g e he
    unfold keyS
    rw [Function.comp_apply, h1] <;> rfl
  refine wpAny_bind (wpAny_newList ?_ hvz)
  have hoL : (s1.heap.push (seqObj "list" vs.toArray 0)).get? s1.heap.objs.size = some (seqObj "list" vs.toArray 0) := Heap.get?_push_size _ rfl
  refine wpAny_bind (wpAny_holding (wpAny_call_entry slot_list_sort ⟨_, hoL, rfl⟩ entry_list_sort (list_sort_treeKAny strKind_oneLt hoL hI.keysOf (fun v₁ v₂ rest e => keyKind_strs (by rw [← e]; exact hI)) hvz fun st' hp hs => ⟨_, rfl, ?_⟩) (args_list_sort _)))
  obtain ⟨ns', a1, a2, a3⟩ := sorted_out_str hI hp hs
  obtain ⟨c, hc⟩ := sortedHeap_at (vs := vs) (out := (arrOf st').map (·.2)) hoL
  have pn : ns'.Perm (es.toList.map keyS) := a2.trans pk
  refine wpAny_pure ⟨_, rfl, hQ _ s1.heap.objs.size _ c ns' (fun b u e => ?_) g1 o1 hz hc a1 a3 (pn.nodup_iff.mpr nd) (fun k => by rw [pn.mem_iff, ← hm k]) ?_⟩
  · have q := k1 b u e
    have hlt := Heap.lt_size q
    show (sortedHeap (s1.heap.push (seqObj "list" vs.toArray 0)) s1.heap.objs.size vs _).get? b = some u
    rw [sortedHeap_old (Nat.ne_of_lt hlt) (by rw [size_push']; exact Nat.lt_succ_of_lt hlt)]
    exact Heap.get?_push_of_some _ q
  · rw [pn.length_eq, List.length_map, Array.length_toList]; exact hn
end
/-! ### over the layer -/
def SetSO (w : World) (a : Addr) (S : Str → Bool) (n : Nat) : HO := .ext fun h => SetS w h a S n
section
variable {X : Cx}
theorem setSO_new {w : World} {P : Program} {H : Hp} {h : Heap} {a : Addr} {S : Str → Bool} {n : Nat} (R : SetS w h a S n) : ObjOk P w H h a (SetSO w a S n) := by
  have ⟨o, _, _, _, ho, _⟩ := R
  exact ⟨R, ⟨o, ho⟩, fun h1 h2 p k => SetS.at p k⟩
theorem setSO_get {pins : List (Addr × Obj)} {σ : L2.St} {H : Hp} {s : Shared} {a : Addr} {S : Str → Bool} {n : Nat} (I : Inv X pins σ H s) (ha : H a = some (SetSO X.w a S n)) : SetS X.w s.heap a S n := (I.hok a _ ha).1
/-- set(xs), xs a list of ints -/
def rSetL (K : Frg) (w : World) : List V → Hp → VK → Prop := fun vs H Q => ∃ (l : Addr) (ns : List Int), vs = [.ref l] ∧ SqL K H l (ns.map V.int) ∧ ns.length + 1 < scanBound ∧
  ∀ p c, H p = none → c ≤ ns.length → Q (.ref p) (upd H p (SetO w p (fun j => decide (j ∈ ns)) c))
theorem cr_setL (hc : X.calm = true) : CallR X (.type "set") (rSetL X.K X.w) := by
  intro pins s σ H vs us Q I r h
  obtain ⟨l, ns, rfl, hs, hb, q⟩ := h
  obtain ⟨its, rv, hl, _⟩ := I.list hs
  rw [Vals.ref1 r]
  have hz : its.toArray.size = ns.length := by rw [List.size_toArray, ← rv.length, List.length_map]
  refine call_set (SP := SPi X.w ns) (fam_ints (by simpa using rv.ints) hb) (I.ok.hd hc) hl.isList fun h' tk ⟨c, hc', R⟩ k => ?_
  rw [hz] at hc' R
  rw [List.take_length] at R
  exact ⟨.ref _, _, I.laid (t' := tk) k (Nat.le_refl _) (setO_new R), rfl, q _ c (I.hok.fresh (Nat.le_refl _)) hc'⟩
/-- set(xs), xs a list of texts -/
def rSetS (K : Frg) (w : World) : List V → Hp → VK → Prop := fun vs H Q => ∃ (l : Addr) (ns : List Str), vs = [.ref l] ∧ SqL K H l (ns.map V.str) ∧ ns.length + 1 < scanBound ∧
  ∀ p c, H p = none → c ≤ ns.length → Q (.ref p) (upd H p (SetSO w p (fun j => decide (j ∈ ns)) c))
theorem cr_setS (hc : X.calm = true) : CallR X (.type "set") (rSetS X.K X.w) := by
  intro pins s σ H vs us Q I r h
  obtain ⟨l, ns, rfl, hs, hb, q⟩ := h
  obtain ⟨its, rv, hl, _⟩ := I.list hs
  rw [Vals.ref1 r]
  have hz : its.toArray.size = ns.length := by rw [List.size_toArray, ← rv.length, List.length_map]
  refine call_set (SP := SPs X.w ns) (fam_strs (by simpa using rv.strs) hb) (I.ok.hd hc) hl.isList fun h' tk ⟨c, hc', R⟩ k => ?_
  rw [hz] at hc' R
  rw [List.take_length] at R
  exact ⟨.ref _, _, I.laid (t' := tk) k (Nat.le_refl _) (setSO_new R), rfl, q _ c (I.hok.fresh (Nat.le_refl _)) hc'⟩
/-- sorted(found), texts -/
def rSortedSetS (w : World) : List V → Hp → VK → Prop := fun vs H Q => ∃ (a : Addr) (S : Str → Bool) (n : Nat), vs = [V.ref a] ∧ H a = some (SetSO w a S n) ∧ n ≤ sizeLine ∧
  ∀ (ns : List Str) (p : Addr), sortedS ns = true → ns.Nodup → (∀ k : Str, k ∈ ns ↔ S k = true) → H p = none → Q (.ref p) (upd H p (.lst (ns.map V.str)))
theorem cr_sortedSetS (hc : X.calm = true) : CallR X (.builtin "sorted") (rSortedSetS X.w) := by
  intro pins s σ H vs us Q I r h
  obtain ⟨a, S, n, rfl, ha, h64, q⟩ := h
  have R := setSO_get I ha
  rw [Vals.ref1 r]
  refine sorted_setS R (I.ok.hd hc) fun s' p out c ns k g o hp hg hi hs hd hm hl => ?_
  have hlen : (ns.map V.str).length ≤ sizeLine := by rw [List.length_map, hl]; exact h64
  have hn : H p = none := I.hok.fresh hp
  have J : Inv X pins σ (upd H p (.lst (ns.map V.str))) { s with heap := s'.heap, gens := s'.gens, drawn := s'.drawn, toks := s'.toks } :=
    I.call (ch := []) (Un.laid k hp hn) (I.hok.laid k hp ⟨hlen, out.toList, c, vals_of_strs hi, hg⟩) (by rw [g]; exact I.bare) (fun _ z => nomatch z)
  have e : s' = { s with heap := s'.heap, gens := s'.gens, drawn := s'.drawn, toks := s'.toks } := by
    cases s'
    cases s
    cases o
    rfl
  rw [e]
  exact ⟨.ref p, _, J, rfl, q ns p hs hd hm hn⟩
end
end St
/-! ### the order of texts, plainly -/
theorem ltCps_irr : ∀ l : List Nat, ltCps l l = false := fun l => by
  rw [ltCps_eq]; exact decide_eq_false (List.lt_irrefl l)
theorem str_cps {x y : Str} (h : x.cps.toList = y.cps.toList) : x = y := by
  obtain ⟨⟨a⟩⟩ := x
  obtain ⟨⟨b⟩⟩ := y
  simp only at h
  subst h
  rfl
/-- one text stands ahead of another -/
def sLe (a b : Str) : Bool := !ltCps b.cps.toList a.cps.toList
theorem sLe_refl (a : Str) : sLe a a = true := by unfold sLe; rw [ltCps_irr]; rfl
theorem sLe_iff {a b : Str} : sLe a b = true ↔ a.cps.toList ≤ b.cps.toList := by
  unfold sLe
  rw [ltCps_eq, Bool.not_eq_true', decide_eq_false_iff_not]
  exact List.not_lt
theorem sLe_trans {a b c : Str} (h1 : sLe a b = true) (h2 : sLe b c = true) : sLe a c = true := sLe_iff.mpr (List.le_trans (sLe_iff.mp h1) (sLe_iff.mp h2))
theorem sLe_anti {a b : Str} (h1 : sLe a b = true) (h2 : sLe b a = true) : a = b := str_cps (List.le_antisymm (sLe_iff.mp h1) (sLe_iff.mp h2))
theorem sLe_total (a b : Str) : (sLe a b || sLe b a) = true := by
  rcases List.le_total a.cps.toList b.cps.toList with h | h
  · rw [sLe_iff.mpr h]; rfl
  · rw [sLe_iff.mpr h, Bool.or_true]
theorem risingS_iff : ∀ (l : List Str) (p : Str), risingS p l = true ↔ (p :: l).Pairwise (fun a b => sLe a b = true)
  | [], p => by simp [risingS]
  | x :: r, p => by
    have e : risingS p (x :: r) = (sLe p x && risingS x r) := rfl
    rw [e, Bool.and_eq_true, risingS_iff r x, List.pairwise_cons (a := p)]
    constructor
    · rintro ⟨h1, h2⟩
      refine ⟨fun y hy => ?_, h2⟩
      rcases List.mem_cons.mp hy with z | z
      · rw [z]; exact h1
      · exact sLe_trans h1 ((List.pairwise_cons.mp h2).1 y z)
    · rintro ⟨h1, h2⟩
      exact ⟨h1 x List.mem_cons_self, h2⟩
theorem sortedS_iff (l : List Str) : sortedS l = true ↔ l.Pairwise (fun a b => sLe a b = true) := by
  cases l with
  | nil => simp [sortedS]
  | cons x r => exact risingS_iff r x
/-- the same texts in order: one list -/
def srtS (l : List Str) : List Str := l.mergeSort sLe
theorem srtS_perm (l : List Str) : (srtS l).Perm l := List.mergeSort_perm l sLe
theorem srtS_pw (l : List Str) : (srtS l).Pairwise (fun a b => sLe a b = true) := List.pairwise_mergeSort (le := sLe) (fun _ _ _ => sLe_trans) sLe_total l
theorem srt_uni {l m : List Str} (p : l.Perm m) (h1 : l.Pairwise (fun a b => sLe a b = true)) (h2 : m.Pairwise (fun a b => sLe a b = true)) : l = m :=
  List.Perm.eq_of_pairwise (fun a b _ _ x y => sLe_anti x y) h1 h2 p
theorem srtS_of {l m : List Str} (p : m.Perm l) (h : sortedS m = true) : m = srtS l := srt_uni (p.trans (srtS_perm l).symm) ((sortedS_iff m).mp h) (srtS_pw l)
theorem srtS_self {l : List Str} (h : l.Pairwise (fun a b => sLe a b = true)) : srtS l = l := srt_uni (srtS_perm l) (srtS_pw l) h
theorem srtS_congr {l m : List Str} (p : l.Perm m) : srtS l = srtS m := srt_uni ((srtS_perm l).trans (p.trans (srtS_perm m).symm)) (srtS_pw l) (srtS_pw m)
/-- each once -/
def dd {α : Type} [DecidableEq α] : List α → List α
  | [] => []
  | x :: l => if x ∈ dd l then dd l else x :: dd l
section
variable {α : Type} [DecidableEq α]
theorem mem_dd {k : α} : ∀ {l : List α}, k ∈ dd l ↔ k ∈ l
  | [] => Iff.rfl
  | x :: l => by
    unfold dd
    by_cases h : x ∈ dd l
    · rw [if_pos h, mem_dd, List.mem_cons]
      exact ⟨.inr, fun z => z.elim (fun e => e ▸ mem_dd.mp h) id⟩
    · rw [if_neg h, List.mem_cons, List.mem_cons, mem_dd]
theorem dd_nd : ∀ (l : List α), (dd l).Nodup
  | [] => List.nodup_nil
  | x :: l => by
    unfold dd
    by_cases h : x ∈ dd l
    · rw [if_pos h]; exact dd_nd l
    · rw [if_neg h]; exact List.nodup_cons.mpr ⟨h, dd_nd l⟩
theorem dd_len : ∀ (l : List α), (dd l).length ≤ l.length
  | [] => Nat.le_refl _
  | x :: l => by
    unfold dd
    have := dd_len l
    by_cases h : x ∈ dd l
    · rw [if_pos h, List.length_cons]; omega
    · rw [if_neg h, List.length_cons, List.length_cons]; omega
theorem dd_self : ∀ {l : List α}, l.Nodup → dd l = l
  | [], _ => rfl
  | x :: l, h => by
    obtain ⟨h1, h2⟩ := List.nodup_cons.mp h
    unfold dd
    rw [dd_self h2, if_neg h1]
end
theorem perm_nd {α : Type} [DecidableEq α] {l m : List α} (h1 : l.Nodup) (h2 : m.Nodup) (h : ∀ k, k ∈ l ↔ k ∈ m) : l.Perm m := (List.perm_ext_iff_of_nodup h1 h2).mpr h
/-- the texts, each once, in order -/
def setS (l : List Str) : List Str := srtS (dd l)
theorem setS_of {l m : List Str} (h : sortedS m = true) (d : m.Nodup) (e : ∀ k, k ∈ m ↔ k ∈ l) : m = setS l :=
  srtS_of (perm_nd d (dd_nd _) fun k => by rw [e k, mem_dd]) h
/-- the ints, each once, in order -/
def setI (l : List Int) : List Int := (dd l).mergeSort (fun a b => decide (a ≤ b))
theorem int_le_tot (a b : Int) : (decide (a ≤ b) || decide (b ≤ a)) = true := by
  rcases Int.le_total a b with h | h <;> simp [h]
theorem setI_pw (l : List Int) : (setI l).Pairwise (· ≤ ·) := by
  have h := List.pairwise_mergeSort (le := fun a b : Int => decide (a ≤ b)) (fun a b c h1 h2 => by simp at *; omega) int_le_tot (dd l)
  exact h.imp fun x => of_decide_eq_true x
theorem setI_mem {l : List Int} {k : Int} : k ∈ setI l ↔ k ∈ l := by
  rw [setI, (List.mergeSort_perm _ _).mem_iff, mem_dd]
theorem setI_nd (l : List Int) : (setI l).Nodup := ((List.mergeSort_perm _ _).nodup_iff).mpr (dd_nd _)
theorem setI_of {l m : List Int} (h : m.Pairwise (· < ·)) (e : ∀ k, k ∈ m ↔ k ∈ l) : m = setI l := by
  have d : m.Nodup := h.imp fun x => Int.ne_of_lt x
  refine List.Perm.eq_of_pairwise (le := (· ≤ ·)) (fun a b _ _ x y => Int.le_antisymm x y) (h.imp fun x => Int.le_of_lt x) (setI_pw l) (perm_nd d (setI_nd l) fun k => by rw [e k, setI_mem])
theorem setI_len (l : List Int) : (setI l).length ≤ l.length := by
  rw [setI, List.length_mergeSort]
  exact dd_len l
end S6

namespace S6
open PySem PySem.Spec PyProof.Rows L2
open Builtin Builtin.Str Builtin.Int
/-- two signs of a number below 100 -/
def p2 (n : Nat) : Str := ⟨#[48 + n / 10, 48 + n % 10]⟩
theorem p2_small : ∀ n : Nat, n < 100 → intSpecTextOf ("02d" : Str) (n : Int) = p2 n := by
  decide +kernel
set_option exponentiation.threshold 3000 in
theorem small_log {n : Nat} (h : n < 100) : ((n : Int)).natAbs.log2 < 1920 := by
  have e : ((n : Int)).natAbs = n := Int.natAbs_natCast n
  rw [e]
  by_cases h0 : n = 0
  · subst h0; decide
  · exact (Nat.log2_lt h0).mpr (Nat.lt_trans h (by decide))
def f02 : Float.FormatSpec := match Float.parseFormatSpec (Str.ofString "02d").cps.toList "int" 62 with
  | .ok f => f
  | .error _ => { align := 0 }
theorem f02_at : Float.parseFormatSpec (Str.ofString "02d").cps.toList "int" 62 = .ok f02 := by kernel_rfl
theorem f02_text : ∀ n : Nat, n < 100 → intSpecText f02 (n : Int) = p2 n := by decide +kernel
theorem gives_02d (n : Nat) (hn : n < 100) (t u : Tok) : Gives («int.__format__» ⟨[.int (n : Int) t, .str ("02d" : Str) u], []⟩) (.str (p2 n)) := by
  intro prog w A R s hq
  have ho := PySem.overDigitLimit_small (a := (n : Int)) (small_log hn)
  have hpt : f02.precision = none := by decide +kernel
  have hz : f02.noNeg0 = false := by decide +kernel
  have hty : f02.type = some 100 := by decide +kernel
  have hal : f02.alt = false := by decide +kernel
  have hgr : f02.grouping = none := by decide +kernel
  have hsg : f02.sign = none := by decide +kernel
  have hw : ¬ (f02.width.getD 0 > 100000) := by decide +kernel
  have hx := f02_text n hn
  have hp := f02_at
  generalize f02 = f at hpt hz hty hal hgr hsg hw hx hp
  unfold Builtin.«int.__format__»
  simp only [selfAndOne, noKeywords, Int.intOfSelf, asInt?,
    asStr?, List.isEmpty_nil, if_true, pure_bind, bind_pure, bind_assoc]
  rw [if_neg (show ¬ (Value.str (Str.ofString "02d") u == Value.none) = true from fun z => Bool.noConfusion z)]
  refine wpAny_bind (wpAny_typeNameOf (T := "str") (typeIs_str _ _ _) (by decide) fun _ => ?_)
  rw [if_neg (by decide), if_neg (by decide)]
  refine wpAny_bind (wpAny_typeNameOfCut_int ?_)
  rw [hp]
  simp only [hty, Option.getD_some]
  rw [if_pos (by decide)]
  show wpAny _ _ (if _ then _ else _) _ _ _
  rw [if_neg (by simp [hpt])]
  show wpAny _ _ (if _ then _ else _) _ _ _
  rw [if_neg (by simp [hz])]
  show wpAny _ _ (if _ then _ else _) _ _ _
  rw [if_neg (by decide)]
  show wpAny _ _ (do let r ← Builtin.overDigitLimit? (n : Int); _) _ _ _
  rw [ho]
  refine wpAny_bind (wpAny_pure ?_)
  show wpAny _ _ (if _ then _ else _) _ _ _
  rw [if_neg (by simpa using hw)]
  have hy : (p2 n).length ≤ sizeLine := Nat.le_trans (show (p2 n).length ≤ 2 from Nat.le_refl _) (by decide)
  have hq2 := hq.2
  rw [← hx] at hy hq2
  show wpAny _ _ (retStr _) _ _ _
  unfold retStr
  refine wpAny_bind (wpAny_mkStr (wpAny_pure ?_) ?hs2)
  case hs2 =>
    simp only [hal, Bool.false_eq_true, if_false, show ((10 : Nat) == 10) = true by decide, if_true]
    conv => lhs; arg 1; whnf
    simp only [intSpecText, intField', hgr, hsg, hal, Bool.false_eq_true,
      if_false, show ((10 : Nat) == 10) = true by decide, if_true] at hy ⊢
    exact hy
  · refine Eq.mp (congrArg (fun z => R (.ok (.ret (.str z s.toks))) { s with toks := s.toks + 1 }) ?_) hq2
    simp only [hal, Bool.false_eq_true, if_false, show ((10 : Nat) == 10) = true by decide, if_true]
    conv => rhs; whnf
    simp only [intSpecText, intField', hgr, hsg, hal, Bool.false_eq_true,
      if_false, show ((10 : Nat) == 10) = true by decide, if_true]
    rfl
section
variable {X : Cx}
/-- {u:02d}, u below 100 -/
def tFmt02 (te : TE) : TE := fun σ H Q => te σ H fun x H1 => ∃ n : Nat, x = .int (n : Int) ∧ n < 100 ∧ Q (.str (p2 n)) H1
theorem pe_fmt02 {e : Expr} {te : TE} {k : Int} {p1 p2 pos : Pos} (he : PE X e te) : PE X (.FormattedValue e (-1) (some (.JoinedStr [.Constant (.str "02d") 0 p1] p2)) pos) (tFmt02 te) := by
  refine ⟨fun pins s σ H Q I h => ?_⟩
  refine wpAny_FormattedValue_spec (thn (he.run pins s σ H _ I h) fun v s1 hv => ?_)
  obtain ⟨x, H1, I1, r1, n, rfl, hn, q⟩ := hv
  obtain ⟨t, rfl⟩ := r1
  refine wpAny_JoinedStr_one (thn ((pe_str (x := "02d")).run pins s1 σ H1 (fun y H2 => y = .str "02d" ∧ Q (.str (S6.p2 n)) H2) I1 ⟨rfl, q⟩) fun r s2 hr => ?_)
  obtain ⟨y, H2, I2, r2, rfl, q2⟩ := hr
  obtain ⟨tk, rfl⟩ := r2
  refine ⟨_, tk, rfl, ?_⟩
  exact wpAny_formatField_spec (by decide) (fun s' => typeIs_int s' _ _) PySem.F.slot_int_format PySem.F.entry_int_format PySem.F.args_int_format_2 (fun u => gives_02d n hn t u)
    ⟨.str (S6.p2 n), H2, I2.tok _, ⟨_, rfl⟩, q2⟩ (by decide) (Nat.le_trans (show (S6.p2 n).length ≤ 2 from Nat.le_refl _) (by decide))
end
end S6

/-! M1: shapes and plans, plainly. -/
namespace S6
open PySem PySem.Spec PyProof.Rows
abbrev Lk := Str × Int × Int
inductive Shp where
  | opn
  | sht
  | lnk (x : Str)
  | net (ls : List Lk)
  | jn (k : Bool) (ps : List Shp)
def lkD (l : Lk) : PyData := .tuple [.str l.1, .int l.2.1, .int l.2.2]
def kwd (k : Bool) : Str := if k = true then "row" else "bunch"
mutual
/-- as the program writes it, as the law does -/
def Shp.dT : Shp → PyData
  | .opn => .tuple [.str "open"]
  | .sht => .tuple [.str "shut"]
  | .lnk x => .tuple [.str "link", .str x]
  | .net ls => .tuple [.str "net", .tuple (ls.map lkD)]
  | .jn k ps => .tuple [.str (kwd k), .tuple (dTs ps)]
def dTs : List Shp → List PyData
  | [] => []
  | p :: ps => p.dT :: dTs ps
end
mutual
def Shp.dL : Shp → PyData
  | .opn => .tuple [.str "open"]
  | .sht => .tuple [.str "shut"]
  | .lnk x => .tuple [.str "link", .str x]
  | .net ls => .tuple [.str "net", .list (ls.map lkD)]
  | .jn k ps => .tuple [.str (kwd k), .list (dLs ps)]
def dLs : List Shp → List PyData
  | [] => []
  | p :: ps => p.dL :: dLs ps
end
theorem dTs_map : ∀ ps : List Shp, dTs ps = ps.map Shp.dT
  | [] => rfl
  | p :: ps => by rw [dTs, dTs_map ps]; rfl
theorem dLs_map : ∀ ps : List Shp, dLs ps = ps.map Shp.dL
  | [] => rfl
  | p :: ps => by rw [dLs, dLs_map ps]; rfl
/-! ### links in order -/
def nrm (l : Lk) : Lk := if l.2.1 ≤ l.2.2 then l else (l.1, l.2.2, l.2.1)
def fmtL (l : Lk) : Str := l.1 ++ (" " : Str) ++ p2 l.2.1.toNat ++ (" " : Str) ++ p2 l.2.2.toNat
def leL (a b : Lk) : Bool := sLe (fmtL a) (fmtL b)
def ordL (ls : List Lk) : List Lk := (ls.map nrm).mergeSort leL
theorem leL_trans {a b c : Lk} (h1 : leL a b = true) (h2 : leL b c = true) : leL a c = true := sLe_trans h1 h2
theorem leL_total (a b : Lk) : (leL a b || leL b a) = true := sLe_total _ _
theorem ordL_perm (ls : List Lk) : (ordL ls).Perm (ls.map nrm) := List.mergeSort_perm _ _
theorem ordL_pw (ls : List Lk) : (ordL ls).Pairwise (fun a b => leL a b = true) := List.pairwise_mergeSort (le := leL) (fun _ _ _ => leL_trans) leL_total _
theorem ordL_len (ls : List Lk) : (ordL ls).length = ls.length := by rw [(ordL_perm ls).length_eq, List.length_map]
theorem nrm_nrm (l : Lk) : nrm (nrm l) = nrm l := by
  unfold nrm
  by_cases h : l.2.1 ≤ l.2.2
  · rw [if_pos h, if_pos h]
  · rw [if_neg h, if_pos (by show l.2.2 ≤ l.2.1; omega)]
theorem nrm_self {l : Lk} (h : l.2.1 ≤ l.2.2) : nrm l = l := if_pos h
theorem ordL_nrm {ls : List Lk} {l : Lk} (h : l ∈ ordL ls) : nrm l = l := by
  obtain ⟨x, _, rfl⟩ := List.mem_map.mp ((ordL_perm ls).mem_iff.mp h)
  exact nrm_nrm x
theorem map_self {α : Type} {f : α → α} : ∀ {l : List α}, (∀ x ∈ l, f x = x) → l.map f = l
  | [], _ => rfl
  | x :: l, h => by rw [List.map_cons, h x List.mem_cons_self, map_self fun y hy => h y (List.mem_cons_of_mem _ hy)]
theorem ordL_ordL (ls : List Lk) : ordL (ordL ls) = ordL ls := by
  have e : (ordL ls).map nrm = ordL ls := map_self fun l h => ordL_nrm h
  have q := ordL_pw ls
  show ((ordL ls).map nrm).mergeSort leL = ordL ls
  rw [e]
  exact List.mergeSort_of_pairwise q
/-- the rows, sorted as texts -/
theorem ordL_texts (ls : List Lk) : srtS ((ls.map nrm).map fmtL) = (ordL ls).map fmtL := by
  refine srt_uni ((srtS_perm _).trans ((ordL_perm ls).map fmtL).symm) (srtS_pw _) ?_
  rw [List.pairwise_map]
  exact ordL_pw ls
theorem ordL_nil {ls : List Lk} : ordL ls = [] ↔ ls = [] := by
  rw [← List.length_eq_zero_iff, ordL_len, List.length_eq_zero_iff]
/-! ### joints, new numbers -/
def jts (ls : List Lk) : List Int := setI ([0, 1] ++ (ls.map (·.2.1) ++ ls.map (·.2.2)))
def upFrom (f : Int) (n : Nat) : List Int := (List.range n).map fun i => f + (i : Nat)
def ren (js vals : List Int) (u : Int) : Int := vals.getD (js.idxOf u) 0
def renL (js vals : List Int) (l : Lk) : Lk := (l.1, ren js vals l.2.1, ren js vals l.2.2)
mutual
/-- the links of a shape between two joints, and the next new number -/
def lay : Shp → Int → Int → Int → List Lk × Int
  | .opn, _, _, f => ([], f)
  | .sht, _, _, f => ([], f)
  | .lnk x, l, r, f => ([(x, l, r)], f)
  | .net ls, l, r, f => (ls.map (renL (jts ls) (l :: r :: upFrom f ((jts ls).length - 2))), f + ((jts ls).length - 2 : Nat))
  | .jn k ps, l, r, f => match k with
    | true => layR ps l r f
    | false => layB ps l r f
def layR : List Shp → Int → Int → Int → List Lk × Int
  | [], _, _, f => ([], f)
  | [p], b, r, f => lay p b r f
  | p :: q :: ps, b, r, f => ((lay p b f (f + 1)).1 ++ (layR (q :: ps) f r (lay p b f (f + 1)).2).1, (layR (q :: ps) f r (lay p b f (f + 1)).2).2)
def layB : List Shp → Int → Int → Int → List Lk × Int
  | [], _, _, f => ([], f)
  | p :: ps, l, r, f => ((lay p l r f).1 ++ (layB ps l r (lay p l r f).2).1, (layB ps l r (lay p l r f).2).2)
end
def laidS : Shp → List Lk
  | .net ls => ls
  | s => ordL (lay s 0 1 2).1
/-! ### joining -/
def isI (k : Bool) : Shp → Bool
  | .opn => k
  | .sht => !k
  | _ => false
def idl (k : Bool) : Shp := if k = true then .opn else .sht
def flat1 (k : Bool) : Shp → List Shp
  | .jn k' ps => if k' = k then ps else [.jn k' ps]
  | s => [s]
theorem flat1_jn (k k' : Bool) (ps : List Shp) : flat1 k (.jn k' ps) = if k' = k then ps else [.jn k' ps] := rfl
def fin (k : Bool) (l : List Shp) : Shp := if l.any (isI !k) = true then idl !k else match l.filter (fun s => !isI k s) with
  | [] => idl k
  | [x] => x
  | x :: y :: r => .jn k (x :: y :: r)
def joinS (k : Bool) (ss : List Shp) : Shp := fin k (ss.flatMap (flat1 k))
def mkN (ls : List Lk) : Shp := if ls = [] then .sht else .net (ordL ls)
mutual
def made : Shp → Shp
  | .opn => .opn
  | .sht => .sht
  | .lnk x => .lnk x
  | .net ls => mkN ls
  | .jn k ps => joinS k (mades ps)
def mades : List Shp → List Shp
  | [] => []
  | p :: ps => made p :: mades ps
end
theorem mades_map : ∀ ps : List Shp, mades ps = ps.map made
  | [] => rfl
  | p :: ps => by rw [mades, mades_map ps]; rfl
/-! ### sizes -/
mutual
def siz : Shp → Nat
  | .opn => 0
  | .sht => 0
  | .lnk _ => 1
  | .net ls => ls.length
  | .jn _ ps => sizs ps
def sizs : List Shp → Nat
  | [] => 0
  | p :: ps => siz p + sizs ps
end
mutual
def dep : Shp → Nat
  | .opn => 0
  | .sht => 0
  | .lnk _ => 0
  | .net _ => 0
  | .jn _ ps => deps ps + 1
def deps : List Shp → Nat
  | [] => 0
  | p :: ps => max (dep p) (deps ps)
end
theorem sizs_append : ∀ (a b : List Shp), sizs (a ++ b) = sizs a + sizs b
  | [], b => by simp [sizs]
  | p :: a, b => by rw [List.cons_append, sizs, sizs, sizs_append a b]; omega
theorem siz_mem : ∀ {ps : List Shp} {p : Shp}, p ∈ ps → siz p ≤ sizs ps
  | q :: ps, p, h => by
    rw [sizs]
    rcases List.mem_cons.mp h with e | e
    · rw [e]; omega
    · have := siz_mem e; omega
theorem dep_mem : ∀ {ps : List Shp} {p : Shp}, p ∈ ps → dep p ≤ deps ps
  | q :: ps, p, h => by
    rw [deps]
    rcases List.mem_cons.mp h with e | e
    · rw [e]; omega
    · have := dep_mem e; omega
theorem deps_le {n : Nat} : ∀ {ps : List Shp}, (∀ p ∈ ps, dep p ≤ n) → deps ps ≤ n
  | [], _ => Nat.zero_le _
  | p :: ps, h => by
    rw [deps]
    have h1 := h p List.mem_cons_self
    have h2 := deps_le fun q hq => h q (List.mem_cons_of_mem _ hq)
    omega
theorem sizs_filter (f : Shp → Bool) : ∀ ps : List Shp, sizs (ps.filter f) ≤ sizs ps
  | [] => Nat.le_refl _
  | p :: ps => by
    have := sizs_filter f ps
    rw [List.filter_cons]
    by_cases h : f p = true
    · rw [if_pos h, sizs, sizs]; omega
    · rw [if_neg h, sizs]; omega
theorem sizs_one {ps : List Shp} {x : Shp} (h : ps = [x]) : siz x = sizs ps := by rw [h, sizs, sizs]; rfl
theorem flat1_siz (k : Bool) (s : Shp) : sizs (flat1 k s) = siz s := by
  cases s <;> try rfl
  rename_i k' ps
  rw [flat1_jn]
  by_cases h : k' = k
  · simp [h, siz]
  · simp [h, sizs]
theorem flat_siz (k : Bool) : ∀ ss : List Shp, sizs (ss.flatMap (flat1 k)) = sizs ss
  | [] => rfl
  | s :: ss => by rw [List.flatMap_cons, sizs_append, flat1_siz, flat_siz k ss, sizs]
theorem idl_siz (k : Bool) : siz (idl k) = 0 := by cases k <;> rfl
theorem idl_dep (k : Bool) : dep (idl k) = 0 := by cases k <;> rfl
theorem fin_siz (k : Bool) (l : List Shp) : siz (fin k l) ≤ sizs l := by
  unfold fin
  by_cases h : l.any (isI !k) = true
  · rw [if_pos h, idl_siz]; omega
  · rw [if_neg h]
    have q := sizs_filter (fun s => !isI k s) l
    generalize l.filter (fun s => !isI k s) = m at q
    match m, q with
    | [], _ => dsimp only; rw [idl_siz]; omega
    | [x], q => dsimp only; rw [sizs, sizs] at q; omega
    | x :: y :: r, q => exact q
theorem joinS_siz (k : Bool) (ss : List Shp) : siz (joinS k ss) ≤ sizs ss := by
  have := fin_siz k (ss.flatMap (flat1 k))
  rw [flat_siz] at this
  exact this
theorem joinS_dep {k : Bool} {ss : List Shp} {n : Nat} (h : ∀ s ∈ ss, dep s ≤ n) : dep (joinS k ss) ≤ n + 1 := by
  have hm : ∀ s ∈ ss.flatMap (flat1 k), dep s ≤ n := fun s hs => by
    obtain ⟨t, ht, hs⟩ := List.mem_flatMap.mp hs
    have q := h t ht
    cases t with
    | jn k' ps =>
      rw [flat1_jn] at hs
      by_cases e : k' = k
      · rw [if_pos e] at hs
        have := dep_mem hs
        rw [dep] at q
        omega
      · rw [if_neg e] at hs
        rw [List.mem_singleton.mp hs]
        exact q
    | _ => rw [List.mem_singleton.mp hs]; exact q
  unfold joinS fin
  generalize ss.flatMap (flat1 k) = l at hm
  by_cases e : l.any (isI !k) = true
  · rw [if_pos e, idl_dep]; omega
  · rw [if_neg e]
    have q : ∀ s ∈ l.filter (fun s => !isI k s), dep s ≤ n := fun s hs => hm s (List.mem_filter.mp hs).1
    generalize l.filter (fun s => !isI k s) = m at q
    match m, q with
    | [], _ => dsimp only; rw [idl_dep]; omega
    | [x], q => dsimp only; have := q x List.mem_cons_self; omega
    | x :: y :: r, q => dsimp only; rw [dep]; have := deps_le q; omega
mutual
theorem made_siz : ∀ p : Shp, siz (made p) ≤ siz p
  | .opn => Nat.le_refl _
  | .sht => Nat.le_refl _
  | .lnk _ => Nat.le_refl _
  | .net ls => by
    rw [made, mkN]
    by_cases h : ls = []
    · rw [if_pos h]; exact Nat.zero_le _
    · rw [if_neg h, siz, siz, ordL_len]; exact Nat.le_refl _
  | .jn k ps => by
    rw [made, siz]
    exact Nat.le_trans (joinS_siz k _) (mades_siz ps)
theorem mades_siz : ∀ ps : List Shp, sizs (mades ps) ≤ sizs ps
  | [] => Nat.le_refl _
  | p :: ps => by
    rw [mades, sizs, sizs]
    have := made_siz p
    have := mades_siz ps
    omega
end
mutual
theorem made_dep : ∀ p : Shp, dep (made p) ≤ dep p
  | .opn => Nat.le_refl _
  | .sht => Nat.le_refl _
  | .lnk _ => Nat.le_refl _
  | .net ls => by
    rw [made, mkN]
    by_cases h : ls = []
    · rw [if_pos h]; exact Nat.zero_le _
    · rw [if_neg h]; exact Nat.zero_le _
  | .jn k ps => by
    rw [made, dep]
    exact joinS_dep fun s hs => mades_dep ps s hs
theorem mades_dep : ∀ (ps : List Shp) (s : Shp), s ∈ mades ps → dep s ≤ deps ps
  | p :: ps, s, h => by
    rw [mades] at h
    rw [deps]
    rcases List.mem_cons.mp h with e | e
    · have := made_dep p
      rw [e]; omega
    · have := mades_dep ps s e
      omega
end
/-! ### joining two by two -/
/-- what stands in a joined shape of kind k -/
def kOk (k : Bool) : Shp → Prop
  | .jn k' ps => k' = k → 2 ≤ ps.length ∧ ∀ p ∈ ps, isI true p = false ∧ isI false p = false ∧ (∀ qs, p ≠ .jn k qs)
  | _ => True
theorem isI_idl (k : Bool) : isI k (idl k) = true := by cases k <;> rfl
theorem isI_idl' (k : Bool) : isI (!k) (idl k) = false := by cases k <;> rfl
theorem flat1_ne {k : Bool} {s : Shp} (h : ∀ qs, s ≠ .jn k qs) : flat1 k s = [s] := by
  cases s with
  | jn k' ps =>
    rw [flat1_jn]
    rw [if_neg fun e => h ps (by rw [e])]
  | _ => rfl
theorem idl_ne (k k' : Bool) (qs : List Shp) : idl k ≠ .jn k' qs := by cases k <;> exact fun z => nomatch z
/-- in the flat list no joined shape of kind k -/
theorem flat_ne {k : Bool} {ss : List Shp} (h : ∀ s ∈ ss, kOk k s) : ∀ x ∈ ss.flatMap (flat1 k), ∀ qs, x ≠ .jn k qs := fun x hx qs => by
  obtain ⟨s, hs, hx⟩ := List.mem_flatMap.mp hx
  have q := h s hs
  cases s with
  | jn k' ps =>
    rw [flat1_jn] at hx
    by_cases e : k' = k
    · rw [if_pos e] at hx
      exact ((q e).2 x hx).2.2 qs
    · rw [if_neg e] at hx
      rw [List.mem_singleton.mp hx]
      intro z
      cases z
      exact e rfl
  | _ => rw [List.mem_singleton.mp hx]; exact fun z => nomatch z
theorem flat_fin {k : Bool} {l m : List Shp} (h : ∀ x ∈ l, ∀ qs, x ≠ .jn k qs) : fin k (flat1 k (fin k l) ++ m) = fin k (l ++ m) := by
  by_cases e : l.any (isI !k) = true
  · have e1 : fin k l = idl !k := by unfold fin; rw [if_pos e]
    rw [e1, flat1_ne fun qs => idl_ne _ _ qs]
    unfold fin
    rw [if_pos (by rw [List.any_append, List.any_cons, isI_idl]; rfl), if_pos (by rw [List.any_append, e]; rfl)]
  · have e' : l.any (isI !k) = false := by simpa using e
    have e2 : ∀ x ∈ l, isI (!k) x = false := fun x hx => by
      have := List.any_eq_false.mp e' x hx
      simpa using this
    have key : (flat1 k (fin k l)).any (isI !k) = false ∧ (flat1 k (fin k l)).filter (fun s => !isI k s) = l.filter (fun s => !isI k s) := by
      have e1 : fin k l = match l.filter (fun s => !isI k s) with
        | [] => idl k
        | [x] => x
        | x :: y :: r => .jn k (x :: y :: r) := by
        conv => lhs; unfold fin
        rw [if_neg e]
      have hm : ∀ x ∈ l.filter (fun s => !isI k s), x ∈ l ∧ isI k x = false := fun x hx => by
        obtain ⟨a, b⟩ := List.mem_filter.mp hx
        exact ⟨a, by simpa using b⟩
      rw [e1]
      generalize hq : l.filter (fun s => !isI k s) = f at hm
      match f, hm with
      | [], hm =>
        dsimp only
        rw [flat1_ne fun qs => idl_ne _ _ qs]
        refine ⟨by rw [List.any_cons, isI_idl']; rfl, ?_⟩
        rw [List.filter_cons, isI_idl]
        rfl
      | [x], hm =>
        dsimp only
        obtain ⟨a, b⟩ := hm x List.mem_cons_self
        rw [flat1_ne (h x a)]
        refine ⟨by rw [List.any_cons, e2 x a]; rfl, ?_⟩
        rw [List.filter_cons, b]
        rfl
      | x :: y :: r, hm =>
        dsimp only
        have ef : flat1 k (.jn k (x :: y :: r)) = x :: y :: r := by rw [flat1_jn, if_pos rfl]
        rw [ef]
        refine ⟨List.any_eq_false.mpr fun z hz => by rw [e2 z (hm z hz).1]; simp, List.filter_eq_self.mpr fun z hz => by rw [(hm z hz).2]; rfl⟩
    obtain ⟨k1, k2⟩ := key
    generalize flat1 k (fin k l) = z at k1 k2 ⊢
    unfold fin
    rw [List.any_append, List.any_append, k1, e', List.filter_append, List.filter_append, k2]
theorem joinS_two {k : Bool} {as : List Shp} {b : Shp} (h : ∀ s ∈ as, kOk k s) : joinS k [joinS k as, b] = joinS k (as ++ [b]) := by
  unfold joinS
  rw [List.flatMap_cons, List.flatMap_cons, List.flatMap_append, List.flatMap_cons]
  exact flat_fin (flat_ne h)
theorem joinS_nil (k : Bool) : joinS k [] = idl k := rfl
/-! ### good names, links, shapes -/
structure GN (x : Str) : Prop where
  lo : 1 ≤ x.length
  hi : x.length ≤ 8
  az : ∀ c ∈ x.cps.toList, 97 ≤ c ∧ c ≤ 122
  b1 : x ≠ "open"
  b2 : x ≠ "shut"
  b3 : x ≠ "net"
structure GL (l : Lk) : Prop where
  nm : GN l.1
  u0 : 0 ≤ l.2.1
  u1 : l.2.1 ≤ 99
  v0 : 0 ≤ l.2.2
  v1 : l.2.2 ≤ 99
theorem GL.nrm {l : Lk} (g : GL l) : GL (nrm l) := by
  unfold S6.nrm
  by_cases h : l.2.1 ≤ l.2.2
  · rw [if_pos h]; exact g
  · rw [if_neg h]; exact ⟨g.nm, g.v0, g.v1, g.u0, g.u1⟩
theorem GL.ord {ls : List Lk} (h : ∀ l ∈ ls, GL l) : ∀ l ∈ ordL ls, GL l := fun l hl => by
  obtain ⟨x, hx, rfl⟩ := List.mem_map.mp ((ordL_perm ls).mem_iff.mp hl)
  exact (h x hx).nrm
mutual
/-- a plan -/
def PW : Shp → Prop
  | .opn => True
  | .sht => True
  | .lnk x => GN x
  | .net ls => ∀ l ∈ ls, GL l
  | .jn _ ps => PWs ps
def PWs : List Shp → Prop
  | [] => True
  | p :: ps => PW p ∧ PWs ps
end
theorem PWs_iff : ∀ {ps : List Shp}, PWs ps ↔ ∀ p ∈ ps, PW p
  | [] => by simp [PWs]
  | p :: ps => by rw [PWs, PWs_iff]; simp
mutual
/-- a shape of a web -/
def NW : Shp → Prop
  | .opn => True
  | .sht => True
  | .lnk x => GN x
  | .net ls => ls ≠ [] ∧ ordL ls = ls ∧ ∀ l ∈ ls, GL l
  | .jn k ps => 2 ≤ ps.length ∧ NWs k ps
def NWs (k : Bool) : List Shp → Prop
  | [] => True
  | p :: ps => (NW p ∧ isI true p = false ∧ isI false p = false ∧ ∀ qs, p ≠ .jn k qs) ∧ NWs k ps
end
theorem NWs_iff {k : Bool} : ∀ {ps : List Shp}, NWs k ps ↔ ∀ p ∈ ps, NW p ∧ isI true p = false ∧ isI false p = false ∧ ∀ qs, p ≠ .jn k qs
  | [] => by simp [NWs]
  | p :: ps => by rw [NWs, NWs_iff]; simp
theorem NW.kOk {s : Shp} (h : NW s) (k : Bool) : S6.kOk k s := by
  cases s with
  | jn k' ps =>
    intro e
    subst e
    rw [NW] at h
    exact ⟨h.1, fun p hp => (NWs_iff.mp h.2 p hp).2⟩
  | _ => trivial
theorem NW.idl (k : Bool) : NW (idl k) := by cases k <;> simp [S6.idl, NW]
theorem NW.join {k : Bool} {ss : List Shp} (h : ∀ s ∈ ss, NW s) : NW (joinS k ss) := by
  have hn := flat_ne fun s hs => (h s hs).kOk k
  have hm : ∀ s ∈ ss.flatMap (flat1 k), NW s := fun s hs => by
    obtain ⟨t, ht, hs⟩ := List.mem_flatMap.mp hs
    have q := h t ht
    cases t with
    | jn k' ps =>
      rw [flat1_jn] at hs
      by_cases e : k' = k
      · rw [if_pos e] at hs
        rw [NW] at q
        exact (NWs_iff.mp q.2 s hs).1
      · rw [if_neg e] at hs
        rw [List.mem_singleton.mp hs]
        exact q
    | _ => rw [List.mem_singleton.mp hs]; exact q
  unfold joinS fin
  generalize ss.flatMap (flat1 k) = l at hm hn
  by_cases e : l.any (isI !k) = true
  · rw [if_pos e]; exact NW.idl _
  · rw [if_neg e]
    have e' : l.any (isI !k) = false := by simpa using e
    have q : ∀ s ∈ l.filter (fun s => !isI k s), (NW s ∧ isI true s = false ∧ isI false s = false ∧ ∀ qs, s ≠ .jn k qs) := fun s hs => by
      obtain ⟨h1, h2⟩ := List.mem_filter.mp hs
      have h3 := List.any_eq_false.mp e' s h1
      refine ⟨hm s h1, ?_, ?_, hn s h1⟩
      · cases k
        · simpa using h3
        · simpa using h2
      · cases k
        · simpa using h2
        · simpa using h3
    generalize l.filter (fun s => !isI k s) = m at q
    match m, q with
    | [], _ => exact NW.idl _
    | [x], q => exact (q x List.mem_cons_self).1
    | x :: y :: r, q => rw [NW]; exact ⟨by simp, NWs_iff.mpr q⟩
theorem NW.mkN {ls : List Lk} (h : ∀ l ∈ ls, GL l) : NW (mkN ls) := by
  unfold S6.mkN
  by_cases e : ls = []
  · rw [if_pos e]; simp [NW]
  · rw [if_neg e, NW]
    exact ⟨fun z => e (ordL_nil.mp z), ordL_ordL ls, GL.ord h⟩
mutual
theorem made_NW : ∀ {p : Shp}, PW p → NW (made p)
  | .opn, _ => by simp [made, NW]
  | .sht, _ => by simp [made, NW]
  | .lnk x, h => by rw [made, NW]; rw [PW] at h; exact h
  | .net ls, h => by rw [made]; rw [PW] at h; exact NW.mkN h
  | .jn k ps, h => by rw [made]; rw [PW] at h; exact NW.join (mades_NW h)
theorem mades_NW : ∀ {ps : List Shp}, PWs ps → ∀ s ∈ mades ps, NW s
  | p :: ps, h, s, hs => by
    rw [mades] at hs
    rw [PWs] at h
    rcases List.mem_cons.mp hs with e | e
    · rw [e]; exact made_NW h.1
    · exact mades_NW h.2 s e
end
end S6

/-! S6Glo: the module's names. -/
namespace S6
open PySem PySem.Spec PyProof.Rows L2
/-- a name of the module that stands for v -/
abbrev GV (mg : Str → Option Value) (x : Str) (v : V) : Prop := ∃ u, mg x = some u ∧ RelV v u
def abc : Str := "abcdefghijklmnopqrstuvwxyz"
structure Glo (K : Frg) (mg : Str → Option Value) (aO aS aB : Addr) : Prop where
  len : mg "len" = none
  sorted : mg "sorted" = none
  set : mg "set" = none
  tuple : mg "tuple" = none
  list : mg "list" = none
  dict : mg "dict" = none
  zip : mg "zip" = none
  range : mg "range" = none
  enumerate : mg "enumerate" = none
  int : mg "int" = none
  bool : mg "bool" = none
  str : mg "str" = none
  abs : mg "abs" = none
  all : mg "all" = none
  sum : mg "sum" = none
  repr : mg "repr" = none
  isinstance : mg "isinstance" = none
  LEFT : GV mg "LEFT" (.int 0)
  RIGHT : GV mg "RIGHT" (.int 1)
  FIRST_INNER : GV mg "FIRST_INNER" (.int 2)
  MOST_LETTERS : GV mg "MOST_LETTERS" (.int 8)
  LAST_JOINT : GV mg "LAST_JOINT" (.int 99)
  MOST_PLACES_webs : GV mg "MOST_PLACES_webs" (.int 14)
  LETTERS : GV mg "LETTERS" (.str abc)
  OPEN : GV mg "OPEN" (.ref aO)
  SHUT : GV mg "SHUT" (.ref aS)
  BARRED : GV mg "BARRED" (.ref aB)
  tO : ∀ H, SqT K H aO [.str "open"]
  tS : ∀ H, SqT K H aS [.str "shut"]
  tB : ∀ H, SqT K H aB [.str "open", .str "shut", .str "net"]
section
variable {K : Frg} {mg : Str → Option Value} {aO aS aB : Addr}
theorem Glo.dO (G : Glo K mg aO aS aB) (H : Hp) : Da K H (.ref aO) Shp.opn.dT := .tup (G.tO H) (.one (.str _))
theorem Glo.dS (G : Glo K mg aO aS aB) (H : Hp) : Da K H (.ref aS) Shp.sht.dT := .tup (G.tS H) (.one (.str _))
end
end S6

/-! S6Call: defs and methods by their promises. -/
namespace S6
open PySem PySem.Spec PyProof.Rows L2
section
variable {P : Program} {w : World} {K : Frg} {mg : Str → Option Value} {base : Heap}
/-- a def of the module -/
structure Dfn (K : Frg) (mg : Str → Option Value) (x : Str) (st : Stmt) : Prop where
  ex : ∃ (f : Addr) (fd : FuncData), L2.Fun K x x st f fd ∧ mg x = some (.ref f)
/-- a def that may be called by its name -/
structure Cl (P : Program) (w : World) (K : Frg) (mg : Str → Option Value) (base : Heap) (k : Nat) (x : Str) (sp : Sp) : Prop where
  ex : ∃ (f : Addr) (fd : FuncData) (ps : List Str), FnOk P w K mg base L2.CX0 k f fd ps sp ∧ mg x = some (.ref f) ∧ PySem.W.keepIn K (.ref f) = true ∧ Binds K fd ps []
theorem Cl.mono {k j : Nat} {x : Str} {sp : Sp} (c : Cl P w K mg base k x sp) (h : k ≤ j) : Cl P w K mg base j x sp := by
  obtain ⟨f, fd, ps, F, r⟩ := c.ex
  exact ⟨f, fd, ps, F.mono h, r⟩
/-- how a def's arguments bind -/
abbrev BndOf (x qual : Str) (st : Stmt) (ps : List Str) : Prop :=
  ∀ (kV doc pm : Value) (an : Option Addr) (cdv ct : Value) (us : List Value), us.length = ps.length → bindArgs (PySem.W.fnOf x qual (defArgs st) (defBody st) (defScope st) .none kV doc pm an cdv ct) ⟨us, []⟩ = pure (ps.zip us)
/-- a def's body, for each heap that its promise speaks of -/
abbrev BodyOk (P : Program) (w : World) (K : Frg) (mg : Str → Option Value) (base : Heap) (k : Nat) (qual : Str) (st : Stmt) (N : List Str) (sp : Sp) (f : Addr) : Prop :=
  ∀ (cdv : Value) (A : Around) (outer : List Env) (s : Shared) (H : Hp) (vs : List V) (Q : VK) (E : XK), Room k (A.deeper (envOfC qual (defScope st) s.heap.objs.size f cdv)) → sp vs H Q E →
    ∃ t, PSs (cxOf L2.CX0 P w K mg base N qual (defScope st) f cdv A outer s H E).nox (defBody st) t ∧ t { nx := fun _ H' => Q .non H', rt := Q } (start N vs) H
theorem cl_of {x : Str} {st : Stmt} {N ps : List Str} {k : Nat} {sp : Sp} (D : Dfn K mg x st) (b : BndOf x x st ps) (S : FnScope N ps (defScope st)) (len : ∀ vs H Q E, sp vs H Q E → vs.length = ps.length)
    (body : ∀ f, BodyOk P w K mg base k x st N sp f) : Cl P w K mg base (k + 1) x sp := by
  obtain ⟨f, fd, F, hm⟩ := D.ex
  exact ⟨f, fd, ps, F.ok S len (body f), hm, F.kp, F.binds b⟩
end
section
variable {X : Cx} {k j : Nat} {C : Addr} {x m : Str} {sp : Sp} {p pos apos : Pos} {e o : Expr} {es : List Expr} {ta : TE} {t : TA}
theorem pe_cl (c : Cl X.prog X.w X.K X.mg X.base k x sp) (hr : Room j X.A) (hk : k ≤ j) (hg : Gl X x) (ha : PA X (e :: es) t)
    (hdb : (x == ("__debug__" : Str)) = false := by decide) (he : starEach (e :: es) X.env = (false, eval e X.env) :: starEach es X.env := by rfl) (hpl : (backTo pos (starEach es X.env)).any (·.1) = false := by rfl) :
    PE X (.Call (.Name x p) (e :: es) [] pos) (tCall sp [] L2.E0 t) := by
  obtain ⟨f, fd, ps, F, hm, kp, b⟩ := c.ex
  exact pe_call F (hr.mono hk) hg hm kp b .nil L2.pass0 ha hdb he hpl
end
end S6

/-! DE: expressions that give data and only lay new things; statements by what is wanted behind them. -/
namespace S6
open PySem PySem.Spec PyProof.Rows L2
section
variable {X : Cx}
structure EW (X : Cx) (e : Expr) (σ : L2.St) (H : Hp) (Q : VK) : Prop where
  run : ∀ (pins : List (Addr × Obj)) (s : Shared), Inv X pins σ H s → wpAny (model X.prog X.w) X.A (eval e X.env) (EP X pins σ Q) X.xe s
structure TW (X : Cx) (e : Expr) (σ : L2.St) (H : Hp) (Q : Bool → Hp → Prop) : Prop where
  run : ∀ (pins : List (Addr × Obj)) (s : Shared), Inv X pins σ H s → wpAny (model X.prog X.w) X.A (isTrue e X.env (eval e X.env)) (TP X pins σ Q) X.xe s
structure AW (X : Cx) (es : List Expr) (σ : L2.St) (H : Hp) (Q : List V → Hp → Prop) : Prop where
  run : ∀ (pos : Pos) (pins : List (Addr × Obj)) (s : Shared), Inv X pins σ H s → wpAny (model X.prog X.w) X.A (spliced (backTo pos (starEach es X.env))) (AP X pins σ Q) X.xe s
structure SW (X : Cx) (sts : List Stmt) (D : Ends) (σ : L2.St) (H : Hp) : Prop where
  run : ∀ (pins : List (Addr × Obj)) (s : Shared), Inv X pins σ H s → wpAny (model X.prog X.w) X.A (execs sts X.env) (SP X pins D) X.xe s
theorem pe_w {e : Expr} : PE X e (fun σ H Q => EW X e σ H Q) := ⟨fun pins s σ H Q I h => h.run pins s I⟩
theorem pt_w {e : Expr} : PT X e (fun σ H Q => TW X e σ H Q) := ⟨fun pins s σ H Q I h => h.run pins s I⟩
theorem pa_w {es : List Expr} : PA X es (fun σ H Q => AW X es σ H Q) := ⟨fun pos pins s σ H Q I h => h.run pos pins s I⟩
theorem pss_w {sts : List Stmt} : PSs X sts (fun D σ H => SW X sts D σ H) := ⟨fun pins s σ H D I h => h.run pins s I⟩
theorem ew_of {e : Expr} {t : TE} {σ : L2.St} {H : Hp} {Q : VK} (p : PE X e t) (h : t σ H Q) : EW X e σ H Q := ⟨fun pins s I => p.run pins s σ H Q I h⟩
theorem tw_of {e : Expr} {t : TT} {σ : L2.St} {H : Hp} {Q : Bool → Hp → Prop} (p : PT X e t) (h : t σ H Q) : TW X e σ H Q := ⟨fun pins s I => p.run pins s σ H Q I h⟩
theorem aw_of {es : List Expr} {t : TA} {σ : L2.St} {H : Hp} {Q : List V → Hp → Prop} (p : PA X es t) (h : t σ H Q) : AW X es σ H Q := ⟨fun pos pins s I => p.run pos pins s σ H Q I h⟩
theorem sw_of {sts : List Stmt} {t : TS} {D : Ends} {σ : L2.St} {H : Hp} (p : PSs X sts t) (h : t D σ H) : SW X sts D σ H := ⟨fun pins s I => p.run pins s σ H D I h⟩
theorem sw_1 {st : Stmt} {rest : List Stmt} {t : TS} {D : Ends} {σ : L2.St} {H : Hp} (p : PS X st t) (h : t { D with nx := fun σ H => SW X rest D σ H } σ H) : SW X (st :: rest) D σ H := sw_of (pss_cons p pss_w) h
theorem sw_nil {D : Ends} {σ : L2.St} {H : Hp} (h : D.nx σ H) : SW X [] D σ H := sw_of pss_nil h
theorem EW.mono {e : Expr} {σ : L2.St} {H : Hp} {Q Q' : VK} (h : EW X e σ H Q) (q : ∀ v H', Q v H' → Q' v H') : EW X e σ H Q' := ⟨fun pins s I => thn (h.run pins s I) fun u s' ⟨v, H', J, r, z⟩ => ⟨v, H', J, r, q v H' z⟩⟩
theorem TW.mono {e : Expr} {σ : L2.St} {H : Hp} {Q Q' : Bool → Hp → Prop} (h : TW X e σ H Q) (q : ∀ v H', Q v H' → Q' v H') : TW X e σ H Q' := ⟨fun pins s I => thn (h.run pins s I) fun b s' ⟨H', J, z⟩ => ⟨H', J, q b H' z⟩⟩
theorem AW.mono {es : List Expr} {σ : L2.St} {H : Hp} {Q Q' : List V → Hp → Prop} (h : AW X es σ H Q) (q : ∀ v H', Q v H' → Q' v H') : AW X es σ H Q' := ⟨fun pos pins s I => thn (h.run pos pins s I) fun u s' ⟨v, H', J, r, z⟩ => ⟨v, H', J, r, q v H' z⟩⟩
theorem SW.mono {sts : List Stmt} {σ : L2.St} {H : Hp} {D D' : Ends} (h : SW X sts D σ H) (h1 : ∀ σ H, D.nx σ H → D'.nx σ H) (h2 : ∀ v H, D.rt v H → D'.rt v H) (h3 : ∀ σ H, D.bk σ H → D'.bk σ H) (h4 : ∀ σ H, D.ct σ H → D'.ct σ H) : SW X sts D' σ H := ⟨fun pins s I => thn (h.run pins s I) fun f s' q => by
  cases f with
  | next => obtain ⟨σ', H', J, z⟩ := q; exact ⟨σ', H', J, h1 _ _ z⟩
  | brk => obtain ⟨σ', H', J, z⟩ := q; exact ⟨σ', H', J, h3 _ _ z⟩
  | cont => obtain ⟨σ', H', J, z⟩ := q; exact ⟨σ', H', J, h4 _ _ z⟩
  | ret u => obtain ⟨v, σ', H', J, r, z⟩ := q; exact ⟨v, σ', H', J, r, h2 _ _ z⟩⟩
/-! ### data -/
/-- from any heap that has grown from H0, e gives the data d -/
def ED (X : Cx) (σ : L2.St) (M : List Addr) (H0 : Hp) (e : Expr) (d : PyData) : Prop := ∀ H, Same H0 H → EW X e σ H fun v H' => Same H H' ∧ Da X.K (hM M H') v d
/-- .. a thing of which P is true -/
def EV (X : Cx) (σ : L2.St) (H0 : Hp) (e : Expr) (P : Hp → V → Prop) : Prop := ∀ H, Same H0 H → EW X e σ H fun v H' => Same H H' ∧ P H' v
def TD (X : Cx) (σ : L2.St) (H0 : Hp) (e : Expr) (b : Bool) : Prop := ∀ H, Same H0 H → TW X e σ H fun c H' => Same H H' ∧ c = b
def AD (X : Cx) (σ : L2.St) (M : List Addr) (H0 : Hp) (es : List Expr) (ds : List PyData) : Prop := ∀ H, Same H0 H → AW X es σ H fun vs H' => Same H H' ∧ DaAll X.K (hM M H') vs ds
variable {σ : L2.St} {M : List Addr} {H0 H1 : Hp} {e a b c : Expr} {d d' : PyData} {pos : Pos}
theorem ED.from (h : ED X σ M H0 e d) (g : Same H0 H1) : ED X σ M H1 e d := fun H s => h H (g.trans s)
theorem ED.cast (h : ED X σ M H0 e d) (g : d = d') : ED X σ M H0 e d' := g ▸ h
theorem ed_cast (h : ED X σ M H0 e d) (g : d = d') : ED X σ M H0 e d' := g ▸ h
theorem td_cast {x y : Bool} (h : TD X σ H0 c x) (g : x = y) : TD X σ H0 c y := g ▸ h
theorem ED.at (h : ED X σ M H0 e d) {Q : VK} (q : ∀ v H', Same H0 H' → Da X.K (hM M H') v d → Q v H') : EW X e σ H0 Q := (h H0 (Same.refl H0)).mono fun v H' z => q v H' z.1 z.2
theorem TD.cast {x y : Bool} (h : TD X σ H0 c x) (g : x = y) : TD X σ H0 c y := g ▸ h
theorem ed_v (i : Nat) {x : Str} {v : V} (hv : σ[i]? = some (some v)) (hd : Da X.K (hM M H0) v d) (hN : X.N[i]? = some x := by rfl) (hs : Vis X.env.scope x := by first | exact Or.inl rfl | exact Or.inr (Or.inl rfl) | exact Or.inr (Or.inr rfl))
    (hb : (x == ("__debug__" : Str)) = false := by decide) (hb2 : (x == ("__classdict__" : Str)) = false := by decide) : ED X σ M H0 (.Name x pos) d := fun H s => ew_of (pv i hN hs hb hb2) ⟨v, hv, Same.refl H, hd.mono (same_hM s)⟩
theorem ev_v (i : Nat) {x : Str} {v : V} (hv : σ[i]? = some (some v)) (hN : X.N[i]? = some x := by rfl) (hs : Vis X.env.scope x := by first | exact Or.inl rfl | exact Or.inr (Or.inl rfl) | exact Or.inr (Or.inr rfl))
    (hb : (x == ("__debug__" : Str)) = false := by decide) (hb2 : (x == ("__classdict__" : Str)) = false := by decide) : EV X σ H0 (.Name x pos) fun _ u => u = v := fun H s => ew_of (pv i hN hs hb hb2) ⟨v, hv, Same.refl H, rfl⟩
theorem ed_int {i : Int} {j : Nat} : ED X σ M H0 (.Constant (.int i) j pos) (.int i) := fun H s => ew_of pe_int ⟨Same.refl H, .int i⟩
theorem ed_str {x : Str} {j : Nat} : ED X σ M H0 (.Constant (.str x) j pos) (.str x) := fun H s => ew_of pe_str ⟨Same.refl H, .str x⟩
theorem ed_bl {x : Bool} {j : Nat} : ED X σ M H0 (.Constant (.bool x) j pos) (.bool x) := fun H s => ew_of pe_bl ⟨Same.refl H, .bl x⟩
theorem ed_gc {x : Str} {v : V} (hg : Gl X x) (h : ∃ u, X.mg x = some u ∧ RelV v u) (hd : ∀ H, Da X.K H v d) (hb : (x == ("__debug__" : Str)) = false := by decide) : ED X σ M H0 (.Name x pos) d := fun H s => ew_of (C8.pe_gc hg h hb) ⟨Same.refl H, hd _⟩
/-! the rules that take parts -/
/-- what a rule must give at the end -/
abbrev Out (X : Cx) (M : List Addr) (H : Hp) (d : PyData) (Q : VK) : Prop := ∀ v H', Same H H' → Da X.K (hM M H') v d → Q v H'
theorem ed_bin {r : R2} {da db : PyData} {w : Expr} (hp : ∀ σ H Q, (EW X a σ H fun x H1 => EW X b σ H1 fun y H2 => r x y H2 Q) → EW X w σ H Q) (ha : ED X σ M H0 a da) (hb : ED X σ M H0 b db)
    (h : ∀ x y H Q, Same H0 H → Da X.K (hM M H) x da → Da X.K (hM M H) y db → Out X M H d Q → r x y H Q) : ED X σ M H0 w d := fun H s =>
  hp σ H _ ((ha H s).mono fun x H1 ⟨g1, d1⟩ => (hb H1 (s.trans g1)).mono fun y H2 ⟨g2, d2⟩ => h x y H2 _ (s.trans (g1.trans g2)) (d1.mono (same_hM g2)) d2 fun v H' g z => ⟨g1.trans (g2.trans g), z⟩)
theorem ed_op {op : Operator} {r : R2} {da db : PyData} (ho : OpR X (binaryOp op) r) (ha : ED X σ M H0 a da) (hb : ED X σ M H0 b db)
    (h : ∀ x y H Q, Same H0 H → Da X.K (hM M H) x da → Da X.K (hM M H) y db → Out X M H d Q → r x y H Q) : ED X σ M H0 (.BinOp a op b pos) d := ed_bin (fun _ _ _ q => ew_of (pe_op ho pe_w pe_w) q) ha hb h
theorem ed_cmp {op : CmpOp} {r : R2} {da db : PyData} (ho : OpR X (compareOp op) r) (ha : ED X σ M H0 a da) (hb : ED X σ M H0 b db)
    (h : ∀ x y H Q, Same H0 H → Da X.K (hM M H) x da → Da X.K (hM M H) y db → Out X M H d Q → r x y H Q) (hm : behindInMarks op b = false := by exact nomark _) : ED X σ M H0 (.Compare a [op] [b] pos) d := ed_bin (fun _ _ _ q => ew_of (pe_cmpR ho pe_w pe_w hm) q) ha hb h
theorem td_cmp {op : CmpOp} {r : R2} {da db : PyData} {k : Bool} (ho : OpR X (compareOp op) r) (ha : ED X σ M H0 a da) (hb : ED X σ M H0 b db)
    (h : ∀ x y H Q, Same H0 H → Da X.K (hM M H) x da → Da X.K (hM M H) y db → Out X M H (.bool k) Q → r x y H Q) (hm : behindInMarks op b = false := by exact nomark _) : TD X σ H0 (.Compare a [op] [b] pos) k := fun H s =>
  tw_of (pt_cmpR ho pe_w pe_w hm) ((ha H s).mono fun x H1 ⟨g1, d1⟩ => (hb H1 (s.trans g1)).mono fun y H2 ⟨g2, d2⟩ => h x y H2 _ (s.trans (g1.trans g2)) (d1.mono (same_hM g2)) d2 fun v H' g z => ⟨k, z.bl_inv, g1.trans (g2.trans g), rfl⟩)
theorem td_of {k : Bool} (h : ED X σ M H0 a (.bool k)) (he : ∀ whole, isTrue a X.env whole = (do let v ← whole; standAt a.pos; holding [v] (truthy v)) := by intro _; rfl) : TD X σ H0 a k := fun H s =>
  tw_of (pt_val pe_w he) ((h H s).mono fun v H' ⟨g, z⟩ => ⟨k, z.bl_inv, g, rfl⟩)
theorem td_not {k : Bool} (h : TD X σ H0 a k) : TD X σ H0 (.UnaryOp .Not a pos) (!k) := fun H s => tw_of (pt_not pt_w) ((h H s).mono fun c H' ⟨g, z⟩ => ⟨g, by rw [z]⟩)
theorem ed_if {k : Bool} (hc : TD X σ H0 c k) (ha : k = true → ED X σ M H0 a d) (hb : k = false → ED X σ M H0 b d) : ED X σ M H0 (.IfExp c a b pos) d := fun H s =>
  ew_of (pe_ifExp pt_w pe_w pe_w) ((hc H s).mono fun k' H1 ⟨g, z⟩ => by
    subst z
    cases k' with
    | true =>
      rw [if_pos rfl]
      exact (ha rfl H1 (s.trans g)).mono fun v H' ⟨g2, y⟩ => ⟨g.trans g2, y⟩
    | false =>
      rw [if_neg Bool.false_ne_true]
      exact (hb rfl H1 (s.trans g)).mono fun v H' ⟨g2, y⟩ => ⟨g.trans g2, y⟩)
theorem ed_ifT (hc : TD X σ H0 c true) (ha : ED X σ M H0 a d) : ED X σ M H0 (.IfExp c a b pos) d := ed_if hc (fun _ => ha) fun z => nomatch z
theorem ed_ifF (hc : TD X σ H0 c false) (hb : ED X σ M H0 b d) : ED X σ M H0 (.IfExp c a b pos) d := ed_if hc (fun z => nomatch z) fun _ => hb
theorem ed_not {k : Bool} (h : ED X σ M H0 a (.bool k)) : ED X σ M H0 (.UnaryOp .Not a pos) (.bool !k) := fun H s => ew_of (pe_not pe_w) ((h H s).mono fun v H' ⟨g, z⟩ => ⟨k, z.bl_inv, g, .bl _⟩)
theorem ed_one {op : PySem.BoolOp} (h : ED X σ M H0 a d) : ED X σ M H0 (.BoolOp op [a] pos) d := fun H s => ew_of (pe_one pe_w) (h H s)
theorem ed_and {rest : List Expr} {k : Bool} (ha : ED X σ M H0 a (.bool k)) (h1 : k = true → ED X σ M H0 (.BoolOp .And (b :: rest) pos) d) (h2 : k = false → d = .bool false) : ED X σ M H0 (.BoolOp .And (a :: b :: rest) pos) d := fun H s =>
  ew_of (pe_and pe_w pe_w) ((ha H s).mono fun v H1 ⟨g, z⟩ => ⟨k, z.bl_inv, by
    cases k with
    | true =>
      rw [if_pos rfl]
      exact (h1 rfl H1 (s.trans g)).mono fun v H' ⟨g2, y⟩ => ⟨g.trans g2, y⟩
    | false =>
      rw [if_neg Bool.false_ne_true, h2 rfl]
      exact ⟨g, .bl _⟩⟩)
theorem ed_or {rest : List Expr} {k : Bool} (ha : ED X σ M H0 a (.bool k)) (h1 : k = false → ED X σ M H0 (.BoolOp .Or (b :: rest) pos) d) (h2 : k = true → d = .bool true) : ED X σ M H0 (.BoolOp .Or (a :: b :: rest) pos) d := fun H s =>
  ew_of (pe_or pe_w pe_w) ((ha H s).mono fun v H1 ⟨g, z⟩ => ⟨k, z.bl_inv, by
    cases k with
    | false =>
      rw [if_neg Bool.false_ne_true]
      exact (h1 rfl H1 (s.trans g)).mono fun v H' ⟨g2, y⟩ => ⟨g.trans g2, y⟩
    | true =>
      rw [if_pos rfl, h2 rfl]
      exact ⟨g, .bl _⟩⟩)
/-! places -/
theorem ed_ixT {ds : List PyData} {n : Nat} (h : ED X σ M H0 a (.tuple ds)) (hb : ED X σ M H0 b (.int (n : Nat))) (hd : ds[n]? = some d) (hp : PlainIx b := by exact fun _ _ => rfl) : ED X σ M H0 (.Subscript a b pos) d :=
  ed_bin (fun _ _ _ q => ew_of (pe_ix ix_tup pe_w pe_w hp) q) h hb fun x y H Q s h1 h2 q => by
    obtain ⟨p, xs, rfl, hs, hx⟩ := h1.tup_inv
    obtain ⟨v, e1, e2⟩ := hx.get hd
    exact ⟨p, xs, n, v, rfl, h2.int_inv, hs.ext hM_sub, atI_nat e1, q _ _ (Same.refl _) e2⟩
theorem ed_ixL {ds : List PyData} {n : Nat} (h : ED X σ M H0 a (.list ds)) (hb : ED X σ M H0 b (.int (n : Nat))) (hd : ds[n]? = some d) (hp : PlainIx b := by exact fun _ _ => rfl) : ED X σ M H0 (.Subscript a b pos) d :=
  ed_bin (fun _ _ _ q => ew_of (pe_ix ix_list pe_w pe_w hp) q) h hb fun x y H Q s h1 h2 q => by
    obtain ⟨p, xs, rfl, hs, hx⟩ := h1.lst_inv
    obtain ⟨v, e1, e2⟩ := hx.get hd
    exact ⟨p, xs, n, v, rfl, h2.int_inv, SqL.of (hM_sub _ _ hs), atI_nat e1, q _ _ (Same.refl _) e2⟩
/-! comparing -/
theorem vstr_eq {x y : Str} : decide (V.str x = V.str y) = decide (x = y) := by
  by_cases h : x = y
  · rw [h, decide_eq_true rfl, decide_eq_true rfl]
  · rw [decide_eq_false h, decide_eq_false fun z => h (V.str.inj z)]
theorem vint_eq {x y : Int} : decide (V.int x = V.int y) = decide (x = y) := by
  by_cases h : x = y
  · rw [h, decide_eq_true rfl, decide_eq_true rfl]
  · rw [decide_eq_false h, decide_eq_false fun z => h (V.int.inj z)]
section
variable {x y : Str} {i j : Int}
theorem rd_eqS {Q : VK} {H : Hp} {u v : V} (h1 : Da X.K (hM M H) u (.str x)) (h2 : Da X.K (hM M H) v (.str y)) (q : Out X M H (.bool (decide (x = y))) Q) : rEq u v H Q := by
  rw [h1.str_inv, h2.str_inv]
  exact ⟨rfl, q _ _ (Same.refl _) (by rw [vstr_eq]; exact .bl _)⟩
theorem rd_eqI {Q : VK} {H : Hp} {u v : V} (h1 : Da X.K (hM M H) u (.int i)) (h2 : Da X.K (hM M H) v (.int j)) (q : Out X M H (.bool (decide (i = j))) Q) : rEq u v H Q := by
  rw [h1.int_inv, h2.int_inv]
  exact ⟨rfl, q _ _ (Same.refl _) (by rw [vint_eq]; exact .bl _)⟩
theorem rd_neS {Q : VK} {H : Hp} {u v : V} (h1 : Da X.K (hM M H) u (.str x)) (h2 : Da X.K (hM M H) v (.str y)) (q : Out X M H (.bool (!decide (x = y))) Q) : rNe u v H Q := by
  rw [h1.str_inv, h2.str_inv]
  exact ⟨rfl, q _ _ (Same.refl _) (by rw [vstr_eq]; exact .bl _)⟩
theorem rd_neI {Q : VK} {H : Hp} {u v : V} (h1 : Da X.K (hM M H) u (.int i)) (h2 : Da X.K (hM M H) v (.int j)) (q : Out X M H (.bool (!decide (i = j))) Q) : rNe u v H Q := by
  rw [h1.int_inv, h2.int_inv]
  exact ⟨rfl, q _ _ (Same.refl _) (by rw [vint_eq]; exact .bl _)⟩
theorem rd_I0 {Q : VK} {H : Hp} {u v : V} {f : Int → Int → V} (h1 : Da X.K (hM M H) u (.int i)) (h2 : Da X.K (hM M H) v (.int j)) (hd : Da X.K (hM M H) (f i j) d) (q : Out X M H d Q) : rI0 f u v H Q := by
  rw [h1.int_inv, h2.int_inv]
  exact ⟨i, j, rfl, rfl, q _ _ (Same.refl _) hd⟩
theorem td_eqS (ha : ED X σ M H0 a (.str x)) (hb : ED X σ M H0 b (.str y)) (hm : behindInMarks .Eq b = false := by exact nomark _) : TD X σ H0 (.Compare a [.Eq] [b] pos) (decide (x = y)) := td_cmp op_eq ha hb (fun _ _ _ _ _ h1 h2 q => rd_eqS h1 h2 q) hm
theorem td_neS (ha : ED X σ M H0 a (.str x)) (hb : ED X σ M H0 b (.str y)) (hm : behindInMarks .NotEq b = false := by exact nomark _) : TD X σ H0 (.Compare a [.NotEq] [b] pos) (!decide (x = y)) := td_cmp op_ne ha hb (fun _ _ _ _ _ h1 h2 q => rd_neS h1 h2 q) hm
theorem td_eqI (ha : ED X σ M H0 a (.int i)) (hb : ED X σ M H0 b (.int j)) (hm : behindInMarks .Eq b = false := by exact nomark _) : TD X σ H0 (.Compare a [.Eq] [b] pos) (decide (i = j)) := td_cmp op_eq ha hb (fun _ _ _ _ _ h1 h2 q => rd_eqI h1 h2 q) hm
theorem td_lt (ha : ED X σ M H0 a (.int i)) (hb : ED X σ M H0 b (.int j)) (hm : behindInMarks .Lt b = false := by exact nomark _) : TD X σ H0 (.Compare a [.Lt] [b] pos) (decide (i < j)) := td_cmp op_lt ha hb (fun _ _ _ _ _ h1 h2 q => rd_I0 h1 h2 (.bl _) q) hm
theorem td_le (ha : ED X σ M H0 a (.int i)) (hb : ED X σ M H0 b (.int j)) (hm : behindInMarks .LtE b = false := by exact nomark _) : TD X σ H0 (.Compare a [.LtE] [b] pos) (decide (i ≤ j)) := td_cmp op_le ha hb (fun _ _ _ _ _ h1 h2 q => rd_I0 h1 h2 (.bl _) q) hm
theorem td_gt (ha : ED X σ M H0 a (.int i)) (hb : ED X σ M H0 b (.int j)) (hm : behindInMarks .Gt b = false := by exact nomark _) : TD X σ H0 (.Compare a [.Gt] [b] pos) (decide (j < i)) := td_cmp op_gt ha hb (fun _ _ _ _ _ h1 h2 q => rd_I0 h1 h2 (.bl _) q) hm
theorem ed_eqS (ha : ED X σ M H0 a (.str x)) (hb : ED X σ M H0 b (.str y)) (hm : behindInMarks .Eq b = false := by exact nomark _) : ED X σ M H0 (.Compare a [.Eq] [b] pos) (.bool (decide (x = y))) := ed_cmp op_eq ha hb (fun _ _ _ _ _ h1 h2 q => rd_eqS h1 h2 q) hm
theorem ed_eqI (ha : ED X σ M H0 a (.int i)) (hb : ED X σ M H0 b (.int j)) (hm : behindInMarks .Eq b = false := by exact nomark _) : ED X σ M H0 (.Compare a [.Eq] [b] pos) (.bool (decide (i = j))) := ed_cmp op_eq ha hb (fun _ _ _ _ _ h1 h2 q => rd_eqI h1 h2 q) hm
theorem ed_neI (ha : ED X σ M H0 a (.int i)) (hb : ED X σ M H0 b (.int j)) (hm : behindInMarks .NotEq b = false := by exact nomark _) : ED X σ M H0 (.Compare a [.NotEq] [b] pos) (.bool (!decide (i = j))) := ed_cmp op_ne ha hb (fun _ _ _ _ _ h1 h2 q => rd_neI h1 h2 q) hm
theorem ed_lt (ha : ED X σ M H0 a (.int i)) (hb : ED X σ M H0 b (.int j)) (hm : behindInMarks .Lt b = false := by exact nomark _) : ED X σ M H0 (.Compare a [.Lt] [b] pos) (.bool (decide (i < j))) := ed_cmp op_lt ha hb (fun _ _ _ _ _ h1 h2 q => rd_I0 h1 h2 (.bl _) q) hm
theorem ed_add (ha : ED X σ M H0 a (.int i)) (hb : ED X σ M H0 b (.int j)) : ED X σ M H0 (.BinOp a .Add b pos) (.int (i + j)) := ed_op op_add ha hb fun _ _ _ _ _ h1 h2 q => rd_I0 h1 h2 (.int _) q
theorem ed_sub (ha : ED X σ M H0 a (.int i)) (hb : ED X σ M H0 b (.int j)) : ED X σ M H0 (.BinOp a .Sub b pos) (.int (i - j)) := ed_op op_sub ha hb fun _ _ _ _ _ h1 h2 q => rd_I0 h1 h2 (.int _) q
theorem ed_addS (ha : ED X σ M H0 a (.str x)) (hb : ED X σ M H0 b (.str y)) (hz : x.length + y.length ≤ sizeLine) : ED X σ M H0 (.BinOp a .Add b pos) (.str (x ++ y)) := ed_op op_add_str ha hb fun _ _ _ _ _ h1 h2 q => ⟨x, y, h1.str_inv, h2.str_inv, hz, q _ _ (Same.refl _) (.str _)⟩
end
theorem nodict {d : PyData} (h : SeqAt.shaped d = true) : d.hasDict = false := PyData.hasDict_of_canLay d (SeqAt.canLay_of_shaped h)
/-- == of data -/
theorem td_eqD {da db : PyData} (hu : X.A.units + 65 < cLine) (sa : SeqAt.shaped da = true) (sb : SeqAt.shaped db = true) (ha : ED X σ M H0 a da) (hb : ED X σ M H0 b db) (hm : behindInMarks .Eq b = false := by exact nomark _) : TD X σ H0 (.Compare a [.Eq] [b] pos) (PyData.eqv da db) :=
  td_cmp (op_eqD (by omega)) ha hb (fun _ _ _ _ _ h1 h2 q => ⟨da, db, h1.up.dp (nodict sa), h2.up.dp (nodict sb), sa, sb, q _ _ (Same.refl _) (.bl _)⟩) hm
theorem ed_eqD {da db : PyData} (hu : X.A.units + 65 < cLine) (sa : SeqAt.shaped da = true) (sb : SeqAt.shaped db = true) (ha : ED X σ M H0 a da) (hb : ED X σ M H0 b db) (hm : behindInMarks .Eq b = false := by exact nomark _) : ED X σ M H0 (.Compare a [.Eq] [b] pos) (.bool (PyData.eqv da db)) :=
  ed_cmp (op_eqD (by omega)) ha hb (fun _ _ _ _ _ h1 h2 q => ⟨da, db, h1.up.dp (nodict sa), h2.up.dp (nodict sb), sa, sb, q _ _ (Same.refl _) (.bl _)⟩) hm
theorem td_neD {da db : PyData} (hu : X.A.units + 65 < cLine) (sa : SeqAt.shaped da = true) (sb : SeqAt.shaped db = true) (ha : ED X σ M H0 a da) (hb : ED X σ M H0 b db) (hm : behindInMarks .NotEq b = false := by exact nomark _) : TD X σ H0 (.Compare a [.NotEq] [b] pos) (!PyData.eqv da db) :=
  td_cmp (op_neD (by omega)) ha hb (fun _ _ _ _ _ h1 h2 q => ⟨da, db, h1.up.dp (nodict sa), h2.up.dp (nodict sb), sa, sb, q _ _ (Same.refl _) (.bl _)⟩) hm
theorem td_inD {da : PyData} {ds : List PyData} (hu : X.A.units + 65 < cLine) (sa : SeqAt.shaped da = true) (sb : SeqAt.shaped (.list ds) = true) (ha : ED X σ M H0 a da) (hb : ED X σ M H0 b (.list ds)) (hm : behindInMarks .In b = false := by rfl) : TD X σ H0 (.Compare a [.In] [b] pos) (ds.any fun z => PyData.eqv z da) :=
  td_cmp (op_inD hu) ha hb (fun _ _ _ _ _ h1 h2 q => ⟨da, ds, h1.up.dp (nodict sa), h2.up.dp (nodict sb), sa, sb, q _ _ (Same.refl _) (.bl _)⟩) hm
/-! argument lists, displays -/
theorem ad_nil : AD X σ M H0 [] [] := fun H s => aw_of pa_nil ⟨Same.refl H, .nil⟩
theorem ad_cons {es : List Expr} {ds : List PyData} (h : ED X σ M H0 a d) (r : AD X σ M H0 es ds) (hs : starEach (a :: es) X.env = (false, eval a X.env) :: starEach es X.env := by rfl) : AD X σ M H0 (a :: es) (d :: ds) := fun H s =>
  aw_of (pa_cons pe_w pa_w hs) ((h H s).mono fun v H1 ⟨g1, d1⟩ => (r H1 (s.trans g1)).mono fun vs H2 ⟨g2, d2⟩ => ⟨g1.trans g2, .cons (d1.mono (same_hM g2)) d2⟩)
theorem ad_starT {es : List Expr} {ds ds' : List PyData} {p : Pos} (h : ED X σ M H0 a (.tuple ds)) (r : AD X σ M H0 es ds') (hs : starEach (.Starred a p :: es) X.env = (true, eval a X.env) :: starEach es X.env := by rfl) : AD X σ M H0 (.Starred a p :: es) (ds ++ ds') := fun H s =>
  aw_of (StX.pa_star pe_w pa_w hs) ((h H s).mono fun v H1 ⟨g1, d1⟩ => by
    obtain ⟨q, xs, rfl, hq, hx⟩ := d1.tup_inv
    exact ⟨q, xs, rfl, .inl (hq.ext hM_sub), (r H1 (s.trans g1)).mono fun vs H2 ⟨g2, d2⟩ => ⟨g1.trans g2, (hx.mono (same_hM g2)).append d2⟩⟩)
theorem ad_starL {es : List Expr} {ds ds' : List PyData} {p : Pos} (h : ED X σ M H0 a (.list ds)) (r : AD X σ M H0 es ds') (hs : starEach (.Starred a p :: es) X.env = (true, eval a X.env) :: starEach es X.env := by rfl) : AD X σ M H0 (.Starred a p :: es) (ds ++ ds') := fun H s =>
  aw_of (StX.pa_star pe_w pa_w hs) ((h H s).mono fun v H1 ⟨g1, d1⟩ => by
    obtain ⟨q, xs, rfl, hq, hx⟩ := d1.lst_inv
    exact ⟨q, xs, rfl, .inr (SqL.of (hM_sub _ _ hq)), (r H1 (s.trans g1)).mono fun vs H2 ⟨g2, d2⟩ => ⟨g1.trans g2, (hx.mono (same_hM g2)).append d2⟩⟩)
theorem ed_tup {es : List Expr} {ds : List PyData} {x1} (l : Lv M H0) (h : AD X σ M H0 es ds) (hz : ds.length ≤ sizeLine) : ED X σ M H0 (.Tuple es x1 pos) (.tuple ds) := fun H s =>
  ew_of (pe_tup pa_w) ((h H s).mono fun vs H1 ⟨g, hd⟩ => ⟨by rw [hd.len]; exact hz, fun p hp => ⟨g.trans (same_new hp), da_tup (l.same (s.trans g)) hp hd⟩⟩)
theorem ed_lst {es : List Expr} {ds : List PyData} (l : Lv M H0) (h : AD X σ M H0 es ds) (hz : ds.length ≤ sizeLine) : ED X σ M H0 (.List es pos) (.list ds) := fun H s =>
  ew_of (pe_lst pa_w) ((h H s).mono fun vs H1 ⟨g, hd⟩ => ⟨by rw [hd.len]; exact hz, fun p hp => ⟨g.trans (same_new hp), da_lst (l.same (s.trans g)) hp hd⟩⟩)
/-! calls -/
theorem ed_cl {R : List PyData → PyData → Prop} {k j : Nat} {x : Str} {es : List Expr} {ds : List PyData} {p : Pos} (cl : Cl X.prog X.w X.K X.mg X.base k x (spR X.K R)) (hr : Room j X.A) (hk : k ≤ j) (l : Lv M H0) (ha : AD X σ M H0 (e :: es) ds) (hR : R ds d) (hg : Gl X x := by rfl)
    (hdb : (x == ("__debug__" : Str)) = false := by decide) (he : starEach (e :: es) X.env = (false, eval e X.env) :: starEach es X.env := by rfl) (hpl : (backTo pos (starEach es X.env)).any (·.1) = false := by rfl) :
    ED X σ M H0 (.Call (.Name x p) (e :: es) [] pos) d := fun H s =>
  ew_of (pe_cl cl hr hk hg pa_w hdb he hpl) ((ha H s).mono fun vs H1 ⟨g, hd⟩ => by
    rw [List.append_nil]
    exact ⟨M, ds, d, l.same (s.trans g), hd, hR, fun v H' g2 z => ⟨g.trans g2, z⟩⟩)
/-- a built-in function, a built-in type -/
theorem ed_blt {r : List V → Hp → VK → Prop} {id : String} {x : Str} {es : List Expr} {ds : List PyData} {p : Pos} (hc : CallR X (.builtin id) r) (hm : X.mg x = none) (ha : AD X σ M H0 (e :: es) ds)
    (h : ∀ vs H Q, Same H0 H → DaAll X.K (hM M H) vs ds → Out X M H d Q → r vs H Q) (hv : bootBuiltins x = some (.builtin id) := by decide +kernel) (hg : Gl X x := by rfl) (hn : x ≠ "__name__" := by decide) (hdb : (x == ("__debug__" : Str)) = false := by decide)
    (he : starEach (e :: es) X.env = (false, eval e X.env) :: starEach es X.env := by rfl) (hpl : (backTo pos (starEach es X.env)).any (·.1) = false := by rfl) : ED X σ M H0 (.Call (.Name x p) (e :: es) [] pos) d := fun H s =>
  ew_of (pe_callB hc hg hm hv pa_w hn hdb he hpl) ((ha H s).mono fun vs H1 ⟨g, hd⟩ => h vs H1 _ (s.trans g) hd fun v H' g2 z => ⟨g.trans g2, z⟩)
theorem ed_blT {r : List V → Hp → VK → Prop} {id : String} {x : Str} {es : List Expr} {ds : List PyData} {p : Pos} (hc : CallR X (.type id) r) (hm : X.mg x = none) (ha : AD X σ M H0 (e :: es) ds)
    (h : ∀ vs H Q, Same H0 H → DaAll X.K (hM M H) vs ds → Out X M H d Q → r vs H Q) (hv : bootBuiltins x = some (.type id) := by decide +kernel) (hg : Gl X x := by rfl) (hn : x ≠ "__name__" := by decide) (hdb : (x == ("__debug__" : Str)) = false := by decide)
    (he : starEach (e :: es) X.env = (false, eval e X.env) :: starEach es X.env := by rfl) (hpl : (backTo pos (starEach es X.env)).any (·.1) = false := by rfl) : ED X σ M H0 (.Call (.Name x p) (e :: es) [] pos) d := fun H s =>
  ew_of (pe_callTy hc hg hm hv pa_w hn hdb he hpl) ((ha H s).mono fun vs H1 ⟨g, hd⟩ => h vs H1 _ (s.trans g) hd fun v H' g2 z => ⟨g.trans g2, z⟩)
theorem DaAll.inv1 {K : Frg} {H : Hp} {vs : List V} (h : DaAll K H vs [d]) : ∃ v, vs = [v] ∧ Da K H v d := by
  cases h with
  | cons h1 h2 => cases h2; exact ⟨_, rfl, h1⟩
section
variable {p : Pos} {x : Str} {i : Int} {ds : List PyData}
theorem ed_lenL (hm : X.mg "len" = none) (h : ED X σ M H0 a (.list ds)) (hg : Gl X "len" := by rfl) (na : starEach [a] X.env = (false, eval a X.env) :: starEach [] X.env := by rfl) : ED X σ M H0 (.Call (.Name "len" p) [a] [] pos) (.int ds.length) :=
  ed_blt call_len_seq hm (ad_cons h ad_nil na) (fun vs H Q s hd q => by
    obtain ⟨v, rfl, h1⟩ := hd.inv1
    obtain ⟨l, xs, rfl, hq, hx⟩ := h1.lst_inv
    exact ⟨l, xs, rfl, .inl (SqL.of (hM_sub _ _ hq)), q _ _ (Same.refl _) (by rw [hx.len]; exact .int _)⟩) (hg := hg) (he := na)
theorem ed_lenT (hm : X.mg "len" = none) (h : ED X σ M H0 a (.tuple ds)) (hg : Gl X "len" := by rfl) (na : starEach [a] X.env = (false, eval a X.env) :: starEach [] X.env := by rfl) : ED X σ M H0 (.Call (.Name "len" p) [a] [] pos) (.int ds.length) :=
  ed_blt call_len_seq hm (ad_cons h ad_nil na) (fun vs H Q s hd q => by
    obtain ⟨v, rfl, h1⟩ := hd.inv1
    obtain ⟨l, xs, rfl, hq, hx⟩ := h1.tup_inv
    exact ⟨l, xs, rfl, .inr (hq.ext hM_sub), q _ _ (Same.refl _) (by rw [hx.len]; exact .int _)⟩) (hg := hg) (he := na)
theorem ed_intI (hm : X.mg "int" = none) (h : ED X σ M H0 a (.int i)) (hg : Gl X "int" := by rfl) (na : starEach [a] X.env = (false, eval a X.env) :: starEach [] X.env := by rfl) : ED X σ M H0 (.Call (.Name "int" p) [a] [] pos) (.int i) :=
  ed_blT call_int1 hm (ad_cons h ad_nil na) (fun vs H Q s hd q => by
    obtain ⟨v, rfl, h1⟩ := hd.inv1
    rw [h1.int_inv]
    exact .inl ⟨i, rfl, q _ _ (Same.refl _) (.int _)⟩) (hg := hg) (he := na)
theorem ed_intB {k : Bool} (hm : X.mg "int" = none) (h : ED X σ M H0 a (.bool k)) (hg : Gl X "int" := by rfl) (na : starEach [a] X.env = (false, eval a X.env) :: starEach [] X.env := by rfl) : ED X σ M H0 (.Call (.Name "int" p) [a] [] pos) (.int (if k then 1 else 0)) :=
  ed_blT call_int1 hm (ad_cons h ad_nil na) (fun vs H Q s hd q => by
    obtain ⟨v, rfl, h1⟩ := hd.inv1
    rw [h1.bl_inv]
    exact .inr ⟨k, rfl, q _ _ (Same.refl _) (.int _)⟩) (hg := hg) (he := na)
theorem ed_intS (hm : X.mg "int" = none) (h : ED X σ M H0 a (.str x)) (ht : PySem.intText? x = some i) (hz : x.length ≤ 640) (hg : Gl X "int" := by rfl) (na : starEach [a] X.env = (false, eval a X.env) :: starEach [] X.env := by rfl) : ED X σ M H0 (.Call (.Name "int" p) [a] [] pos) (.int i) :=
  ed_blT call_int_str hm (ad_cons h ad_nil na) (fun vs H Q s hd q => by
    obtain ⟨v, rfl, h1⟩ := hd.inv1
    rw [h1.str_inv]
    exact ⟨x, i, rfl, ht, hz, q _ _ (Same.refl _) (.int _)⟩) (hg := hg) (he := na)
theorem ed_strS (hm : X.mg "str" = none) (h : ED X σ M H0 a (.str x)) (hg : Gl X "str" := by rfl) (na : starEach [a] X.env = (false, eval a X.env) :: starEach [] X.env := by rfl) : ED X σ M H0 (.Call (.Name "str" p) [a] [] pos) (.str x) :=
  ed_blT SkE.call_str_str hm (ad_cons h ad_nil na) (fun vs H Q s hd q => by
    obtain ⟨v, rfl, h1⟩ := hd.inv1
    rw [h1.str_inv]
    exact ⟨x, rfl, q _ _ (Same.refl _) (.str _)⟩) (hg := hg) (he := na)
theorem ed_strI (hm : X.mg "str" = none) (h : ED X σ M H0 a (.int i)) (hz : i.natAbs.log2 < 1920) (hg : Gl X "str" := by rfl) (na : starEach [a] X.env = (false, eval a X.env) :: starEach [] X.env := by rfl) : ED X σ M H0 (.Call (.Name "str" p) [a] [] pos) (.str (toString i)) :=
  ed_blT call_str_int hm (ad_cons h ad_nil na) (fun vs H Q s hd q => by
    obtain ⟨v, rfl, h1⟩ := hd.inv1
    rw [h1.int_inv]
    exact ⟨i, rfl, hz, q _ _ (Same.refl _) (.str _)⟩) (hg := hg) (he := na)
theorem ed_tupL (l : Lv M H0) (hm : X.mg "tuple" = none) (h : ED X σ M H0 a (.list ds)) (hg : Gl X "tuple" := by rfl) (na : starEach [a] X.env = (false, eval a X.env) :: starEach [] X.env := by rfl) : ED X σ M H0 (.Call (.Name "tuple" p) [a] [] pos) (.tuple ds) :=
  ed_blT call_tuple_of hm (ad_cons h ad_nil na) (fun vs H Q s hd q => by
    obtain ⟨v, rfl, h1⟩ := hd.inv1
    obtain ⟨b, xs, rfl, hq, hx⟩ := h1.lst_inv
    exact ⟨b, xs, rfl, .inl ⟨SqL.of (hM_sub _ _ hq), fun t ht => q _ _ (same_new ht) (da_tup (l.same s) ht hx)⟩⟩) (hg := hg) (he := na)
theorem ed_lstL (l : Lv M H0) (hm : X.mg "list" = none) (h : ED X σ M H0 a (.list ds)) (hg : Gl X "list" := by rfl) (na : starEach [a] X.env = (false, eval a X.env) :: starEach [] X.env := by rfl) : ED X σ M H0 (.Call (.Name "list" p) [a] [] pos) (.list ds) :=
  ed_blT call_list_of hm (ad_cons h ad_nil na) (fun vs H Q s hd q => by
    obtain ⟨v, rfl, h1⟩ := hd.inv1
    obtain ⟨b, xs, rfl, hq, hx⟩ := h1.lst_inv
    exact ⟨b, xs, rfl, .inl (SqL.of (hM_sub _ _ hq)), fun t ht => q _ _ (same_new ht) (da_lst (l.same s) ht hx)⟩) (hg := hg) (he := na)
/-- sorted(xs), texts -/
theorem ed_sortS {xs : List Str} (l : Lv M H0) (hm : X.mg "sorted" = none) (h : ED X σ M H0 a (.list (xs.map .str))) (hz : xs.length < 64) (hg : Gl X "sorted" := by rfl) (na : starEach [a] X.env = (false, eval a X.env) :: starEach [] X.env := by rfl) : ED X σ M H0 (.Call (.Name "sorted" p) [a] [] pos) (.list ((srtS xs).map .str)) :=
  ed_blt cr_sortedS hm (ad_cons h ad_nil na) (fun vs H Q s hd q => by
    obtain ⟨v, rfl, h1⟩ := hd.inv1
    obtain ⟨b, rfl, hq⟩ := h1.lstStrs
    refine ⟨b, xs, rfl, SqL.of (hM_sub _ _ hq), hz, fun ys t hp hs ht => ?_⟩
    rw [srtS_of hp hs]
    exact q _ _ (same_new ht) (da_lst (l.same s) ht (.ofStrs _))) (hg := hg) (he := na)
/-- sorted(set(xs)), ints -/
theorem ed_setI {ns : List Int} {q2 : Pos} (l : Lv M H0) (hc : X.calm = true) (hm : X.mg "sorted" = none) (hm2 : X.mg "set" = none) (h : ED X σ M H0 a (.list (ns.map .int))) (hz : ns.length < 63) (hg : Gl X "sorted" := by rfl) (hg2 : Gl X "set" := by rfl)
    (na : starEach [a] X.env = (false, eval a X.env) :: starEach [] X.env := by rfl) (na2 : starEach [Expr.Call (.Name "set" q2) [a] [] pos] X.env = (false, eval (.Call (.Name "set" q2) [a] [] pos) X.env) :: starEach [] X.env := by rfl) {pos' : Pos} :
    ED X σ M H0 (.Call (.Name "sorted" p) [.Call (.Name "set" q2) [a] [] pos] [] pos') (.list ((setI ns).map .int)) := fun H s =>
  ew_of (pe_callB (cr_sortedSet hc) hg hm (by decide +kernel) (pa_cons (pe_callTy (St.cr_setL hc) hg2 hm2 (by decide +kernel) (pa_cons pe_w pa_nil na) (he := na)) pa_nil na2) (he := na2)) ((h H s).mono fun v H1 ⟨g, h1⟩ => by
    obtain ⟨b, rfl, hq⟩ := h1.lstInts
    refine ⟨b, ns, rfl, SqL.of (hM_sub _ _ hq), by unfold scanBound; omega, fun t c ht hc' => ?_⟩
    refine ⟨t, _, c, rfl, upd_same, by omega, fun ms t2 hpw hmem hlen ht2 => ?_⟩
    have e : ms = setI ns := setI_of hpw fun k => by rw [hmem k, decide_eq_true_eq]
    rw [e]
    exact ⟨g.trans ((same_new ht).trans (same_new ht2)), da_lst (l.same (s.trans (g.trans (same_new ht)))) ht2 (.ofInts _)⟩)
/-- sorted(set(xs)), texts -/
theorem ed_setS {ns : List Str} {q2 : Pos} (l : Lv M H0) (hc : X.calm = true) (hm : X.mg "sorted" = none) (hm2 : X.mg "set" = none) (h : ED X σ M H0 a (.list (ns.map .str))) (hz : ns.length < 4000) (hg : Gl X "sorted" := by rfl) (hg2 : Gl X "set" := by rfl)
    (na : starEach [a] X.env = (false, eval a X.env) :: starEach [] X.env := by rfl) (na2 : starEach [Expr.Call (.Name "set" q2) [a] [] pos] X.env = (false, eval (.Call (.Name "set" q2) [a] [] pos) X.env) :: starEach [] X.env := by rfl) {pos' : Pos} :
    ED X σ M H0 (.Call (.Name "sorted" p) [.Call (.Name "set" q2) [a] [] pos] [] pos') (.list ((setS ns).map .str)) := fun H s =>
  ew_of (pe_callB (St.cr_sortedSetS hc) hg hm (by decide +kernel) (pa_cons (pe_callTy (St.cr_setS hc) hg2 hm2 (by decide +kernel) (pa_cons pe_w pa_nil na) (he := na)) pa_nil na2) (he := na2)) ((h H s).mono fun v H1 ⟨g, h1⟩ => by
    obtain ⟨b, rfl, hq⟩ := h1.lstStrs
    refine ⟨b, ns, rfl, SqL.of (hM_sub _ _ hq), by unfold scanBound; omega, fun t c ht hc' => ?_⟩
    refine ⟨t, _, c, rfl, upd_same, by rw [sizeLine_eq]; omega, fun ms t2 hpw hnd hmem ht2 => ?_⟩
    have e : ms = setS ns := setS_of hpw hnd fun k => by rw [hmem k, decide_eq_true_eq]
    rw [e]
    exact ⟨g.trans ((same_new ht).trans (same_new ht2)), da_lst (l.same (s.trans (g.trans (same_new ht)))) ht2 (.ofStrs _)⟩)
end
end
end S6

namespace S6
namespace Low
open PySem
open AutoSeq1 (wpAny_loadPart' sub_tuple_tuple sub_list_list sub_tuple_list sub_list_tuple idx_int)
theorem ext_tup (l : Addr) (items : Array Value) (n : Nat) (b : Addr) (items2 : Array Value) (n2 : Nat) (dd : Option Addr) (sl : Array (Option Value))
    (hs0 : ¬(!items.isEmpty && Builtin.List.listTooLong (items.size + items2.size)) = true) (hs1 : items.size ≤ sizeLine) (hs2 : items.size + items2.size ≤ sizeLine + 1) :
    Meets (Builtin.«list.extend» ⟨[.ref l, .ref b], []⟩) (fun _ R s =>
      s.heap.get? l = some { cls := .type "list", dict := none, data := .seq items n, slots := #[] } ∧
      s.heap.get? b = some { cls := .type "tuple", dict := dd, data := .seq items2 n2, slots := sl } ∧
      R (.ok (.ret Value.none)) { s with heap := s.heap.update l (Obj.mapSeq fun x => x ++ items2), toks := s.toks }) :=
  .of_wp fun prog w A R s h => by
    obtain ⟨hp, g, d, tk, os⟩ := s
    obtain ⟨hl, hb, h⟩ := h
    have f1 := idx_int
    have f2 := sub_tuple_tuple
    have f3 := sub_list_list
    have f4 := sub_tuple_list
    have f5 := sub_list_tuple
    have hz' : (items ++ items2).size ≤ sizeLine + 1 := by
      rw [Array.size_append]
      exact hs2
    wp_walk using (wpAny_updateSeq hl rfl (hz := hs1) (_hz' := hz')), wpAny_loadPart' hl, wpAny_loadPart' hb
    exact ⟨_, rfl, h⟩
end Low
open PySem PySem.Spec PyProof.Rows L2
section
variable {X : Cx}
/-- xs.extend(t), t a tuple -/
def rExtT (K : PySem.W.Frag) : V → List V → Hp → VK → Prop := fun x vs H Q => ∃ l b xs zs, x = .ref l ∧ vs = [.ref b] ∧ H l = some (.lst xs) ∧ SqT K H b zs ∧ xs.length + zs.length ≤ sizeLine ∧ Q .non (upd H l (.lst (xs ++ zs)))
theorem mt_extT : MtR X "list.extend" (rExtT X.K) := by
  intro pins s σ H x vs v us Q I rx rv h
  obtain ⟨l, b, xs, zs, rfl, rfl, hH, hB, hz, q⟩ := h
  cases rx
  obtain ⟨u, rfl, ru⟩ := rv.one
  cases ru
  obtain ⟨z, its, n, r, hl, e⟩ := I.lstM hH
  obtain ⟨its2, r2, ⟨⟨oc, od, dt, sl⟩, e2, hc, n2, hd⟩, z2⟩ := I.tuple hB
  simp only at hc hd
  subst hc hd
  have l2 := r2.length
  have hsz : its.toArray.size + its2.toArray.size ≤ sizeLine := by rw [List.size_toArray, List.size_toArray]; omega
  have hlong : ¬ (!its.toArray.isEmpty && Builtin.List.listTooLong (its.toArray.size + its2.toArray.size)) = true := by
    rw [notLongL hsz, Bool.and_false]
    exact Bool.false_ne_true
  refine call_meets F.slot_list_extend ⟨_, e, rfl⟩ F.entry_list_extend (F.args_list_extend_2 _ _)
    (Low.ext_tup l its.toArray n b its2.toArray n2 od sl hlong (by rw [List.size_toArray]; omega) (by omega)) ⟨e, e2, ?_⟩
  exact ⟨.non, _, I.lset (its' := its ++ its2) hH e (by simp) (r.append r2) (by rw [List.length_append]; omega), rfl, q⟩
end
end S6

/-! RA3: enumerate(t), t a tuple. -/
namespace S6
namespace Low
open PySem
open AutoSeq1 (wpAny_loadPart')
theorem enum_new_tup (l : Addr) (items : Array Value) :
    Meets (Builtin.«enumerate.__new__» ⟨[.type "enumerate", .ref l], []⟩) (fun _ R s => s.heap.IsTuple l items ∧
      R (.ok (.ret (.ref (s.heap.push { cls := .type "tuple_iterator", data := .fields #[.ref l, .int 0 0] }).objs.size)))
        { s with heap := (s.heap.push { cls := .type "tuple_iterator", data := .fields #[.ref l, .int 0 0] }).push { cls := .type "enumerate", data := .fields #[.none, .bool false, .ref s.heap.objs.size, rawInt 0, .none, .none] } }) :=
  .of_wp fun prog w A R s h => by
    obtain ⟨hp, g, d, tk, os⟩ := s
    obtain ⟨hL, h⟩ := h
    have hsub := sub_enumerate
    obtain ⟨⟨oc, dct, dt, sl⟩, hl, hc, n, hd⟩ := id hL
    simp only at hc hd
    subst hc hd
    wp_walk using wpAny_loadPart' hl
    refine wpAny_stack_any fun st => wpAny_pure ?_
    split
    · rename_i c _ _ _ _ _
      cases (c == Value.type "enumerate")
      · wp_walk using wpAny_loadPart' hl, wpAny_pyIter_tuple hL
        exact ⟨_, rfl, h⟩
      · wp_walk using wpAny_loadPart' hl, wpAny_pyIter_tuple hL
        exact ⟨_, rfl, h⟩
    · wp_walk using wpAny_loadPart' hl, wpAny_pyIter_tuple hL
      exact ⟨_, rfl, h⟩
variable {prog : Program} {w : World} {A : Around} {E : Value → Shared → Prop} {s : Shared}
theorem call_enum_tup {l : Addr} {items : Array Value} {Q : Value → Shared → Prop} (hL : s.heap.IsTuple l items)
    (h : ∀ h', IsEnum h' (s.heap.objs.size + 1) s.heap.objs.size 0 .none → h'.IsTupleIter s.heap.objs.size l 0 →
      (∀ b o, s.heap.get? b = some o → h'.get? b = some o) → Q (.ref (s.heap.objs.size + 1)) { s with heap := h' }) :
    wpAny (model prog w) A (call (.type "enumerate") [.ref l]) Q E s := by
  refine callType_new F.called_enumerate (by decide) (F.typeCall_enumerate_1 _) (F.newCall_enumerate_1 _) (fun obj => F.args_object_init_2 obj _) F.entry_enumerate_new
    (enum_new_tup l items) ⟨hL, ?_⟩
  have hz : (s.heap.push { cls := .type "tuple_iterator", data := .fields #[.ref l, .int 0 0] }).objs.size = s.heap.objs.size + 1 := Heap.size_push ..
  show _ ∧ _
  rw [hz]
  have he : IsEnum ((s.heap.push { cls := .type "tuple_iterator", data := .fields #[.ref l, .int 0 0] }).push
      { cls := .type "enumerate", data := .fields #[.none, .bool false, .ref s.heap.objs.size, rawInt 0, .none, .none] }) (s.heap.objs.size + 1) s.heap.objs.size 0 .none := by
    have q := Heap.get?_push_size (s.heap.push { cls := .type "tuple_iterator", data := .fields #[.ref l, .int 0 0] })
      (o := { cls := .type "enumerate", data := .fields #[.none, .bool false, .ref s.heap.objs.size, rawInt 0, .none, .none] }) rfl
    rw [hz] at q
    exact q
  exact ⟨⟨_, he, rfl⟩, h _ he ⟨_, Heap.get?_push_of_some _ (Heap.get?_push_size _ rfl), rfl, rfl⟩ fun b o x => Heap.get?_push_of_some _ (Heap.get?_push_of_some _ x)⟩
end Low
open PySem PySem.Spec PyProof.Rows L2
/-- the tuple at a, each item in a new pair -/
def IteT (K : PySem.W.Frag) (a : Addr) : It :=
  ⟨fun i H => ∃ (xs : List V) (x : V), SqT K H a xs ∧ xs[i]? = some x, fun i H v H' => ∃ T x, v = .ref T ∧ H T = none ∧ H' = upd H T (.tup [.int (i : Nat), x]) ∧ ∀ xs, SqT K H a xs → xs[i]? = some x, fun i H => ∃ xs : List V, SqT K H a xs ∧ xs.length = i⟩
theorem turn_enumT {P : Program} {w : World} {K : PySem.W.Frag} {elts : List Expr} {kk : Nat} {tpos : Pos} (a e it : Addr) (items : Array Value) (hai : a ≠ it) :
    Turn P w K (.Tuple elts kk tpos) (IteT K a) [e, it] e (fun i h => (∃ old, IsEnum h e it ((i : Nat) : Int) old) ∧ h.IsTupleIter it a i ∧ e ≠ it ∧ e ≠ a) where
  mem := by simp
  obj := fun i h st b hb => by
    obtain ⟨⟨old, he⟩, ⟨o, ho, hc, hd⟩, _⟩ := st
    have e' : b = e ∨ b = it := by simpa using hb
    rcases e' with z | z
    · rw [z]
      exact ⟨_, he, fun v q => nomatch q⟩
    · rw [z]
      exact ⟨o, ho, fun v q => by rw [hd] at q; cases q⟩
  keep := fun i h h' st k => by
    obtain ⟨⟨old, he⟩, hi, hne⟩ := st
    exact ⟨⟨old, k e (by simp) _ he⟩, hi.at fun o q => k it (by simp) o q, hne⟩
  item := by
    intro X hP hw hK hc i pins s σ H E I hf st hg
    subst hP hw hK
    obtain ⟨⟨old, he⟩, hit, hne, hea⟩ := st
    obtain ⟨xs, x, hq, hx⟩ := hg
    obtain ⟨its, rv, p, hz⟩ := I.tuple hq
    obtain ⟨u, hu, ru⟩ := rv.get hx
    have hel : e < s.heap.objs.size := Heap.lt_size he
    have hil : it < s.heap.objs.size := by obtain ⟨_, q, _⟩ := hit; exact Heap.lt_size q
    have hlt : i < its.toArray.size := by
      rw [List.size_toArray, ← rv.length]
      exact (List.getElem?_eq_some_iff.mp hx).1
    refine wpAny_pyNext_enum_itemD (Draws.tuple (A := X.A.in1) (I.ok.hd hc) it a hai its.toArray) he ⟨hit, p⟩ hlt hne (by simp only [List.mem_cons, List.not_mem_nil, or_false, not_or]; exact ⟨hne, hea⟩) fun x' h' tk hP ho hit' hT hsz hk => ?_
    have hxu : x' = u := by
      have h1 : its[i]? = some x' := by simpa using hP
      rw [hu] at h1
      exact (Option.some.inj h1).symm
    subst hxu
    refine ⟨_, rfl, wpAny_letOwnedTupleGo_enum (s := { s with heap := h', toks := tk + 1 }) ho fun h'' he' sb => ?_⟩
    have hT2 : h''.get? s.heap.objs.size = some { cls := .type "tuple", data := .seq #[.int i tk, x'] } := (sb.2 _ (Nat.ne_of_gt hel)).trans hT
    have new : ObjOk X.prog X.w (upd H s.heap.objs.size (.tup [.int (i : Nat), x])) h'' s.heap.objs.size (.tup [.int (i : Nat), x]) :=
      ⟨by show 2 ≤ sizeLine; decide, [.int i tk, x'], .cons ⟨_, rfl⟩ (.cons ru .nil), ⟨_, hT2, rfl, _, rfl⟩⟩
    have I1 : Inv X pins σ (upd H s.heap.objs.size (.tup [.int (i : Nat), x])) { s with heap := h'', toks := tk + 1 } :=
      I.turnedNew (ch := [e, it]) (fun b ob hb q => (sb.2 b (fun z => hb (by simp [z]))).trans (hk b ob (fun z => hb (by simp [z])) (fun z => hb (by simp [z])) q)) hf (Nat.le_refl _) new
    refine ⟨.ref s.heap.objs.size, _, I1, rfl, ⟨_, x, rfl, I.hok.fresh (Nat.le_refl _), rfl, fun ys hy => by rw [I.tuple_inj hy hq]; exact hx⟩, ⟨⟨x', ?_⟩, ?_, hne, hea⟩, fun b hb => ?_⟩
    · have e1 : ((i + 1 : Nat) : Int) = (i : Int) + 1 := by omega
      rw [e1]
      exact he'
    · exact hit'.1.at fun o q => (sb.2 it (Ne.symm hne)).trans q
    · have hb' : b < s.heap.objs.size := by
        have e' : b = e ∨ b = it := by simpa using hb
        rcases e' with z | z
        · rw [z]; exact hel
        · rw [z]; exact hil
      rw [upd_ne (Nat.ne_of_lt hb')]
      exact (hf b hb).1
  done := by
    intro X hP hw hK hc i pins s σ H E I hf st hg
    subst hP hw hK
    obtain ⟨⟨old, he⟩, hit, hne, hea⟩ := st
    obtain ⟨xs, hq, hx⟩ := hg
    obtain ⟨its, rv, p, hz⟩ := I.tuple hq
    obtain ⟨f0, f1, f2, f3, f4, f5⟩ := hf it (by simp)
    have hl := rv.length
    have D := Draws.tuple (prog := X.prog) (w := X.w) (A := X.A.in1) (I.ok.hd hc) it a hai its.toArray
    have ei : its.toArray.size = i := by rw [List.size_toArray, ← hl]; exact hx
    refine wpAny_pyNext_enum_endD D he (by rw [ei]; exact ⟨hit, p⟩) fun h' eb => ⟨rfl, I.turned (t' := s.toks) (fun b o hb q => eb b o hb q) f0 f1 f3 f4 f5⟩
  self := fun A i s Q E st h => let ⟨⟨_, he⟩, _⟩ := st; wpAny_pyIter_enum he h
def iEnumT (K : PySem.W.Frag) (ta : TA) : TI := fun σ H R => ta σ H fun vs H1 => ∃ a xs, vs = [.ref a] ∧ SqT K H1 a xs ∧ R (IteT K a) H1
theorem pi_enumT {X : Cx} {e : Expr} {ta : TA} {p pos tpos : Pos} {elts : List Expr} {kk : Nat} (hg : Gl X "enumerate") (hm : X.mg "enumerate" = none) (ha : PA X [e] ta) (hs : starEach [e] X.env = [(false, eval e X.env)] := by rfl) :
    PI X (.Tuple elts kk tpos) (.Call (.Name "enumerate" p) [e] [] pos) (iEnumT X.K ta) := by
  refine ⟨fun pins s σ H R I h => ?_⟩
  refine Call_ (ld_blt I hg hm boot_enumerate (PyProof.Rows.callWith_type1 (thn (ha.run pos pins s σ H _ I h) fun us s1 ⟨vs, H1, I1, r1, q1⟩ => ?_) hs rfl))
  obtain ⟨a, xs, ex, hq, q⟩ := q1
  subst ex
  obtain ⟨u, eu, r⟩ := Vals.one r1
  subst eu
  cases r
  obtain ⟨its, rv, p', hz⟩ := I1.tuple hq
  have hal : a < s1.heap.objs.size := p'.lt
  refine Low.call_enum_tup p' fun h' he hit hk => wpAny_pyIter_enum he ?_
  have I2 : Inv X pins σ H1 { s1 with heap := h' } := I1.kept (t' := s1.toks) hk
  refine ⟨s1.heap.objs.size + 1, [s1.heap.objs.size + 1, s1.heap.objs.size], _, _, H1, rfl, I2, turn_enumT a (s1.heap.objs.size + 1) s1.heap.objs.size its.toArray (Nat.ne_of_lt hal),
    ⟨⟨.none, he⟩, hit, Nat.succ_ne_self _, Nat.ne_of_gt (Nat.lt_succ_of_lt hal)⟩, fun b hb => ?_, q⟩
  have e' : b = s1.heap.objs.size + 1 ∨ b = s1.heap.objs.size := by simpa using hb
  have hle : s1.heap.objs.size ≤ b := by
    rcases e' with z | z
    · rw [z]; exact Nat.le_add_right _ _
    · rw [z]; exact Nat.le_refl _
  exact I1.fpOk hle (I1.hok.fresh hle)
theorem walk_enumT {K : PySem.W.Frag} {a : Addr} {xs : List V} : Walk (IteT K a) xs.length (fun H => SqT K H a xs) (YPair (fun i => some (.int (i : Nat))) (fun i => xs[i]?)) := by
  refine ⟨fun i _ hi q => ⟨xs, xs[i], q, by simp [hi]⟩, fun _ q => ⟨xs, q, rfl⟩, fun i H v H' _ q y => ?_⟩
  obtain ⟨T, x, h1, h2, h3, h4⟩ := y
  exact ⟨T, .int (i : Nat), x, h1, h2, h3, rfl, h4 xs q⟩
end S6

/-! DE2: comprehensions and loops over data; statements. -/
namespace S6
open PySem PySem.Spec PyProof.Rows L2
/-! ### slots -/
theorem wipe_comm {σ : L2.St} {i : Nat} {x : Option V} : ∀ {vs : List Nat}, i ∉ vs → wipe (σ.set i x) vs = (wipe σ vs).set i x
  | [], _ => rfl
  | v :: vs, h => by
    have h1 : i ≠ v := fun e => h (by rw [e]; exact List.mem_cons_self)
    have h2 : i ∉ vs := fun m => h (List.mem_cons_of_mem _ m)
    show (wipe (σ.set i x) vs).set v none = ((wipe σ vs).set v none).set i x
    rw [wipe_comm h2, List.set_comm _ _ h1]
theorem wipe_in {σ : L2.St} {i : Nat} {x : Option V} : ∀ {vs : List Nat}, i ∈ vs → wipe (σ.set i x) vs = wipe σ vs
  | v :: vs, h => by
    show (wipe (σ.set i x) vs).set v none = (wipe σ vs).set v none
    by_cases hi : i ∈ vs
    · rw [wipe_in hi]
    · rcases List.mem_cons.mp h with e | e
      · subst e
        rw [wipe_comm hi, List.set_set]
      · exact absurd e hi
theorem wipe_idem {σ : L2.St} : ∀ {vs : List Nat}, wipe (wipe σ vs) vs = wipe σ vs := by
  have key : ∀ (vs ws : List Nat), (∀ v ∈ ws, v ∈ vs) → wipe (wipe σ ws) vs = wipe σ vs := by
    intro vs ws
    induction ws with
    | nil => intro _; rfl
    | cons w ws ih =>
      intro h
      show wipe ((wipe σ ws).set w none) vs = _
      rw [wipe_in (h w List.mem_cons_self), ih fun v hv => h v (List.mem_cons_of_mem _ hv)]
  exact fun {vs} => key vs vs fun _ h => h
/-- values into slots, from the left -/
def sets (σ : L2.St) : List Nat → List V → L2.St
  | i :: is, v :: vs => sets (σ.set i (some v)) is vs
  | _, _ => σ
theorem wipe_sets {ws : List Nat} : ∀ {is : List Nat} {vs : List V} {σ : L2.St}, (∀ i ∈ is, i ∈ ws) → wipe (sets σ is vs) ws = wipe σ ws
  | [], vs, σ, _ => by cases vs <;> rfl
  | i :: is, [], σ, _ => rfl
  | i :: is, v :: vs, σ, h => by
    show wipe (sets (σ.set i (some v)) is vs) ws = _
    rw [wipe_sets fun j hj => h j (List.mem_cons_of_mem _ hj), wipe_in (h i List.mem_cons_self)]
/-! ### what a loop draws from -/
/-- a turn's item: at the heap behind it it reads as ds says, whatever is left out -/
def YD (K : Frg) (M : List Addr) (H1 : Hp) (ds : List PyData) : Nat → Hp → V → Hp → Prop := fun i H x H' => Same H H' ∧ ∀ M' d, Lv M' H → Same (hM M H1) (hM M' H) → ds[i]? = some d → Da K (hM M' H') x d
/-- iter draws the items ds -/
def Src (X : Cx) (tg : Expr) (σ : L2.St) (M : List Addr) (H0 : Hp) (iter : Expr) (ds : List PyData) : Prop := ∃ wi, PI X tg iter wi ∧ ∀ (H : Hp) (R : It → Hp → Prop), Same H0 H →
  (∀ (J : It) (H1 : Hp), Same H H1 → Walk J ds.length (fun H' => Same (hM M H1) (hM M H')) (YD X.K M H1 ds) → R J H1) → wi σ H R
section
variable {X : Cx} {tg iter a : Expr} {σ : L2.St} {M : List Addr} {H0 : Hp} {ds : List PyData}
theorem src_list (h : ED X σ M H0 iter (.list ds)) : Src X tg σ M H0 iter ds := by
  refine ⟨_, pi_list pe_w, fun H R s q => (h H s).mono fun v H1 ⟨g, z⟩ => ?_⟩
  obtain ⟨b, xs, rfl, hq, hx⟩ := z.lst_inv
  refine ⟨b, rfl, ⟨xs, SqL.of (hM_sub _ _ hq)⟩, q _ H1 g ?_⟩
  rw [← hx.len]
  refine (walk_list (K := X.K) (a := b) (xs := xs)).mono (fun H' g' => SqL.of (hM_sub _ _ (g' _ _ hq))) fun i H' x H'' hi _ y => ?_
  obtain ⟨rfl, y⟩ := y
  refine ⟨Same.refl _, fun M' d l' g' hd => ?_⟩
  obtain ⟨u, e1, e2⟩ := hx.get hd
  rw [y] at e1
  cases e1
  exact e2.mono g'
theorem src_tup (h : ED X σ M H0 iter (.tuple ds)) : Src X tg σ M H0 iter ds := by
  refine ⟨_, pi_tup pe_w, fun H R s q => (h H s).mono fun v H1 ⟨g, z⟩ => ?_⟩
  obtain ⟨b, xs, rfl, hq, hx⟩ := z.tup_inv
  refine ⟨b, rfl, ⟨xs, hq.ext hM_sub⟩, q _ H1 g ?_⟩
  rw [← hx.len]
  refine (walk_tup (K := X.K) (a := b) (xs := xs)).mono (fun H' g' => (hq.ext g').ext hM_sub) fun i H' x H'' hi _ y => ?_
  obtain ⟨rfl, y⟩ := y
  refine ⟨Same.refl _, fun M' d l' g' hd => ?_⟩
  obtain ⟨u, e1, e2⟩ := hx.get hd
  rw [y] at e1
  cases e1
  exact e2.mono g'
/-- the items with their places -/
def enu (ds : List PyData) : List PyData := (ds.zipIdx).map fun p => .tuple [.int (p.2 : Nat), p.1]
theorem enu_len (ds : List PyData) : (enu ds).length = ds.length := by unfold enu; rw [List.length_map, List.length_zipIdx]
theorem enu_get {ds : List PyData} {i : Nat} {d : PyData} (h : (enu ds)[i]? = some d) : ∃ e, ds[i]? = some e ∧ d = .tuple [.int (i : Nat), e] := by
  unfold enu at h
  rw [List.getElem?_map, List.getElem?_zipIdx] at h
  cases q : ds[i]? with
  | none => rw [q] at h; cases h
  | some e =>
    rw [q] at h
    refine ⟨e, rfl, ?_⟩
    have h' := Option.some.inj h
    rw [← h']
    simp
theorem yd_pair {xs : List V} {H1 : Hp} (hx : DaAll X.K (hM M H1) xs ds) {i : Nat} {H' H'' : Hp} {x : V} (y : YPair (fun i => some (.int (i : Nat))) (fun i => xs[i]?) i H' x H'') : YD X.K M H1 (enu ds) i H' x H'' := by
  obtain ⟨T, u, v, rfl, hT, rfl, e1, e2⟩ := y
  refine ⟨same_new hT, fun M' d l' g' hd => ?_⟩
  obtain ⟨e, he, rfl⟩ := enu_get hd
  obtain ⟨v', f1, f2⟩ := hx.get he
  have e2 : xs[i]? = some v := e2
  rw [e2] at f1
  cases f1
  cases e1
  exact da_tup l' hT (.two (.int _) (f2.mono g'))
theorem src_enumL {p pos tpos : Pos} {elts : List Expr} {kk : Nat} (hm : X.mg "enumerate" = none) (h : ED X σ M H0 a (.list ds)) (hg : Gl X "enumerate" := by rfl) (hs : starEach [a] X.env = [(false, eval a X.env)] := by rfl) :
    Src X (.Tuple elts kk tpos) σ M H0 (.Call (.Name "enumerate" p) [a] [] pos) (enu ds) := by
  refine ⟨_, pi_enum hg hm (pa_cons pe_w pa_nil (by rw [hs]; rfl)) hs, fun H R s q => (h H s).mono fun v H1 ⟨g, z⟩ => ?_⟩
  obtain ⟨b, xs, rfl, hq, hx⟩ := z.lst_inv
  refine ⟨b, xs, rfl, SqL.of (hM_sub _ _ hq), q _ H1 g ?_⟩
  rw [enu_len, ← hx.len]
  exact (walk_enum (K := X.K) (a := b) (xs := xs)).mono (fun H' g' => SqL.of (hM_sub _ _ (g' _ _ hq))) fun i H' x H'' hi _ y => yd_pair hx y
theorem src_enumT {p pos tpos : Pos} {elts : List Expr} {kk : Nat} (hm : X.mg "enumerate" = none) (h : ED X σ M H0 a (.tuple ds)) (hg : Gl X "enumerate" := by rfl) (hs : starEach [a] X.env = [(false, eval a X.env)] := by rfl) :
    Src X (.Tuple elts kk tpos) σ M H0 (.Call (.Name "enumerate" p) [a] [] pos) (enu ds) := by
  refine ⟨_, pi_enumT hg hm (pa_cons pe_w pa_nil (by rw [hs]; rfl)) hs, fun H R s q => (h H s).mono fun v H1 ⟨g, z⟩ => ?_⟩
  obtain ⟨b, xs, rfl, hq, hx⟩ := z.tup_inv
  refine ⟨b, xs, rfl, hq.ext hM_sub, q _ H1 g ?_⟩
  rw [enu_len, ← hx.len]
  exact (walk_enumT (K := X.K) (a := b) (xs := xs)).mono (fun H' g' => (hq.ext g').ext hM_sub) fun i H' x H'' hi _ y => yd_pair hx y
/-- range(n) -/
theorem src_range {p pos : Pos} {n : Nat} (hm : X.mg "range" = none) (h : ED X σ M H0 a (.int (n : Nat))) (hn : n < 1000000) (hg : Gl X "range" := by rfl) (hs : starEach [a] X.env = [(false, eval a X.env)] := by rfl) :
    Src X tg σ M H0 (.Call (.Name "range" p) [a] [] pos) ((List.range n).map fun i => .int (i : Nat)) := by
  refine ⟨_, pi_range1 hg hm (pa_cons pe_w pa_nil (by rw [hs]; rfl)) hs, fun H R s q => (h H s).mono fun v H1 ⟨g, z⟩ => ?_⟩
  obtain rfl := z.int_inv
  have e2 : ((n : Int)).toNat = n := Int.toNat_natCast n
  refine ⟨(n : Int), rfl, ?_⟩
  have w : Walk (Itr 0 n) ((List.range n).map fun i => PyData.int (i : Nat)).length (fun H' => Same (hM M H1) (hM M H')) (YD X.K M H1 ((List.range n).map fun i => PyData.int (i : Nat))) := by
    rw [List.length_map, List.length_range]
    refine (walk_range (lo := 0) (n := n)).mono (fun _ _ => trivial) fun i H' x H'' hi _ y => ?_
    obtain ⟨rfl, rfl⟩ := y
    refine ⟨Same.refl _, fun M' d l' g' hd => ?_⟩
    rw [List.getElem?_map, List.getElem?_range hi] at hd
    cases hd
    show Da _ _ (V.int (0 + (i : Int))) (.int (i : Nat))
    rw [Int.zero_add]
    exact .int _
  have e3 : (n : Int).toNat = n := e2
  first
    | exact ⟨by omega, by omega, by rw [e3]; exact q _ H1 g w⟩
    | exact ⟨by decide, by omega, by rw [e3]; exact q _ H1 g w⟩
    | (rw [e3]; exact q _ H1 g w)
end
/-! ### targets -/
/-- the store of a thing that reads as d puts things that read as ds into the slots is -/
structure TgR (K : Frg) (g : TG) (is : List Nat) (ok : PyData → List PyData → Prop) : Prop where
  run : ∀ (M : List Addr) (H : Hp) (v : V) (d : PyData) (ds : List PyData) (σ : L2.St) (Q : L2.St → Hp → Prop), Da K (hM M H) v d → ok d ds → (∀ vs, vs.length = ds.length → DaAll K (hM M H) vs ds → Q (sets σ is vs) H) → g v σ H Q
theorem tg_name {K : Frg} {i : Nat} : TgR K (gName i) [i] (fun d ds => ds = [d]) := ⟨fun M H v d ds σ Q h e q => by
  subst e
  exact q [v] rfl (.one h)⟩
theorem tg_2 {K : Frg} {i j : Nat} : TgR K (gTup K 2 (gCons (gName i) (gCons (gName j) gNil))) [i, j] (fun d ds => d = .tuple ds ∧ ds.length = 2) := ⟨fun M H v d ds σ Q h e q => by
  obtain ⟨rfl, hl⟩ := e
  obtain ⟨a, xs, rfl, hq, hx⟩ := h.tup_inv
  have hl2 := hx.len
  match xs, hl2 with
  | [x, y], hl2 => exact ⟨a, [x, y], rfl, hq.ext hM_sub, rfl, x, [y], rfl, y, [], rfl, rfl, q [x, y] hl2 hx⟩
  | [], hl2 => rw [hl] at hl2; cases hl2
  | [x], hl2 => rw [hl] at hl2; cases hl2
  | x :: y :: z :: r, hl2 => rw [hl] at hl2; simp at hl2⟩
theorem tg_3 {K : Frg} {i j k : Nat} : TgR K (gTup K 3 (gCons (gName i) (gCons (gName j) (gCons (gName k) gNil)))) [i, j, k] (fun d ds => d = .tuple ds ∧ ds.length = 3) := ⟨fun M H v d ds σ Q h e q => by
  obtain ⟨rfl, hl⟩ := e
  obtain ⟨a, xs, rfl, hq, hx⟩ := h.tup_inv
  have hl2 := hx.len
  match xs, hl2 with
  | [x, y, z], hl2 => exact ⟨a, [x, y, z], rfl, hq.ext hM_sub, rfl, x, [y, z], rfl, y, [z], rfl, z, [], rfl, rfl, q [x, y, z] hl2 hx⟩
  | [], hl2 => rw [hl] at hl2; cases hl2
  | [x], hl2 => rw [hl] at hl2; cases hl2
  | [x, y], hl2 => rw [hl] at hl2; cases hl2
  | x :: y :: z :: u :: r, hl2 => rw [hl] at hl2; simp at hl2⟩
/-! ### comprehensions -/
section
variable {X : Cx} {tg iter elt : Expr} {σ : L2.St} {M : List Addr} {H0 : Hp} {α : Type} {ls : List α} {enc : α → PyData} {scope : Scope} {own : List (Str × Nat)} {pos : Pos} {g : TG} {is : List Nat} {okd : PyData → List PyData → Prop} {fs : α → List PyData}
/-- the block of a comprehension -/
abbrev Blk (X : Cx) (scope : Scope) (s : Shared) (H : Hp) (C : Addr) (cl : List (Str × Addr)) (fp : List Addr) : Cx := X.blk s H scope (compEnvC scope cl C X.env) fp
def allE (X : Cx) (scope : Scope) (e : Expr) : TE := fun σ H Q => ∀ s0 h0 C cl fp, EW (Blk X scope s0 h0 C cl fp) e σ H Q
def allT (X : Cx) (scope : Scope) (e : Expr) : TT := fun σ H Q => ∀ s0 h0 C cl fp, TW (Blk X scope s0 h0 C cl fp) e σ H Q
theorem rd_lc {f : α → PyData} (hc : X.calm = true) (nd : X.N.Nodup) (l : Lv M H0) (src : Src X tg σ M H0 iter (ls.map enc)) (ok : BlkOk X.N X.env.scope scope own) (hg : ∀ (s : Shared) (H : Hp) (C : Addr) (cl : List (Str × Addr)) (fp : List Addr), PG (Blk X scope s H C cl fp) tg g)
    (tr : TgR X.K g is okd) (hz : ls.length ≤ sizeLine) (hi : ∀ i ∈ is, i ∈ own.map (·.2)) (hk : ∀ x ∈ ls, okd (enc x) (fs x))
    (body : ∀ x ∈ ls, ∀ (vs : List V) (D : Addr) (H : Hp) (s0 : Shared) (h0 : Hp) (C : Addr) (cl : List (Str × Addr)) (fp : List Addr), Same (hM M H0) (hM (D :: M) H) → Lv (D :: M) H → DaAll X.K (hM (D :: M) H) vs (fs x) →
      ED (Blk X scope s0 h0 C cl fp) (sets (wipe σ (own.map (·.2))) is vs) (D :: M) H elt (f x)) : ∃ wi, PI X tg iter wi ∧ ∀ (H : Hp) (Q : VK), Same H0 H → Out X M H (.list (ls.map f)) Q → tLc wi g tYes (allE X scope elt) (own.map (·.2)) σ H Q := by
  obtain ⟨wi, pi, hw⟩ := src
  refine ⟨wi, pi, fun H Q s qo => ?_⟩
  refine hw H _ s fun J H1 gr w D hD => ?_
  have l1 := l.same (s.trans gr)
  have g01 : Same (hM M H0) (hM M H1) := same_hM (s.trans gr)
  rw [List.length_map] at w
  refine lc_it w (LcI X.K M H1 D fun i => (ls[i]?).map f) (LcI.start l1 hD) (fun i H' _ P => P.facts.trans hM_cons) (fun i x H' H'' hi' P y => ?_) (fun H' P => ?_)
  · obtain ⟨gy, hy⟩ := y
    obtain ⟨a, ha⟩ : ∃ a, ls[i]? = some a := ⟨_, List.getElem?_eq_getElem hi'⟩
    have hmem : a ∈ ls := List.mem_of_getElem? ha
    have hd := hy (D :: M) (enc a) P.lv P.facts (by rw [List.getElem?_map, ha]; rfl)
    refine tr.run (D :: M) H'' x (enc a) (fs a) _ _ hd (hk a hmem) fun vs hl hvs => ⟨?_, ?_⟩
    · rw [wipe_sets hi, wipe_idem]
    · dsimp only [tYes]
      rw [if_pos rfl]
      intro s0 h0 C cl fp
      have gf : Same (hM M H0) (hM (D :: M) H'') := g01.trans (P.facts.trans (same_hM gy))
      refine (body a hmem vs D H'' s0 h0 C cl fp gf (P.lv.same gy) hvs H'' (Same.refl _)).mono fun v H4 ⟨g4, z⟩ => ?_
      exact P.step (d := f a) (gy.trans g4) (by rw [ha]; rfl) z hi' hz hD
  · obtain ⟨q1, q2⟩ := P.done l1 hD
    rw [range_map] at q2
    exact qo _ _ (gr.trans q1) q2
theorem ed_lc {f : α → PyData} (hc : X.calm = true) (nd : X.N.Nodup) (l : Lv M H0) (src : Src X tg σ M H0 iter (ls.map enc)) (ok : BlkOk X.N X.env.scope scope own) (hg : ∀ (s : Shared) (H : Hp) (C : Addr) (cl : List (Str × Addr)) (fp : List Addr), PG (Blk X scope s H C cl fp) tg g)
    (tr : TgR X.K g is okd) (hz : ls.length ≤ sizeLine) (hi : ∀ i ∈ is, i ∈ own.map (·.2)) (hk : ∀ x ∈ ls, okd (enc x) (fs x))
    (body : ∀ x ∈ ls, ∀ (vs : List V) (D : Addr) (H : Hp) (s0 : Shared) (h0 : Hp) (C : Addr) (cl : List (Str × Addr)) (fp : List Addr), Same (hM M H0) (hM (D :: M) H) → Lv (D :: M) H → DaAll X.K (hM (D :: M) H) vs (fs x) →
      ED (Blk X scope s0 h0 C cl fp) (sets (wipe σ (own.map (·.2))) is vs) (D :: M) H elt (f x)) (hs : ∀ x, foldedSetIterable iter X.env x = pure x := by intro _; rfl) :
    ED X σ M H0 (.ListComp elt [⟨tg, iter, [], 0⟩] scope pos) (.list (ls.map f)) := fun H s => by
  obtain ⟨wi, pi, q⟩ := rd_lc hc nd l src ok hg tr hz hi hk body
  exact ew_of (pe_lc (own := own) (g := g) (tt := tYes) (te := allE X scope elt) hc nd pi ok hg (fun _ _ _ _ _ => pts_nil) (fun s0 h0 C cl fp => ⟨fun pins s σ H Q I h => (h s0 h0 C cl fp).run pins s I⟩) hs) (q H _ s fun v H' g z => ⟨g, z⟩)
theorem sw_setLc {D0 : Ends} {rest : List Stmt} (i0 : Nat) {y : Str} {py spos : Pos} {f : α → PyData} (hc : X.calm = true) (nd : X.N.Nodup) (l : Lv M H0) (src : Src X tg σ M H0 iter (ls.map enc)) (ok : BlkOk X.N X.env.scope scope own) (hg : ∀ (s : Shared) (H : Hp) (C : Addr) (cl : List (Str × Addr)) (fp : List Addr), PG (Blk X scope s H C cl fp) tg g)
    (tr : TgR X.K g is okd) (hz : ls.length ≤ sizeLine) (hi : ∀ i ∈ is, i ∈ own.map (·.2)) (hk : ∀ x ∈ ls, okd (enc x) (fs x))
    (body : ∀ x ∈ ls, ∀ (vs : List V) (D : Addr) (H : Hp) (s0 : Shared) (h0 : Hp) (C : Addr) (cl : List (Str × Addr)) (fp : List Addr), Same (hM M H0) (hM (D :: M) H) → Lv (D :: M) H → DaAll X.K (hM (D :: M) H) vs (fs x) →
      ED (Blk X scope s0 h0 C cl fp) (sets (wipe σ (own.map (·.2))) is vs) (D :: M) H elt (f x)) (q : ∀ v H', Same H0 H' → Da X.K (hM M H') v (.list (ls.map f)) → SW X rest D0 (σ.set i0 (some v)) H')
    (hy : X.N[i0]? = some y := by rfl) (hyl : X.env.scope.names.lookup y = some .local := by rfl) (hsw : swapsWith (.ListComp elt [⟨tg, iter, [], 0⟩] scope pos) (some (.Name y py)) spos.line X.env = pure true := by exact sw_true rfl rfl rfl rfl) (hs : ∀ x, foldedSetIterable iter X.env x = pure x := by intro _; rfl) :
    SW X (.Assign [.Name y py] (.ListComp elt [⟨tg, iter, [], 0⟩] scope pos) spos :: rest) D0 σ H0 := by
  obtain ⟨wi, pi, q0⟩ := rd_lc hc nd l src ok hg tr hz hi hk body
  exact sw_1 (ps_setLc (i := i0) (own := own) (g := g) (tt := tYes) (te := allE X scope elt) hc nd hy hyl hsw pi ok hg (fun _ _ _ _ _ => pts_nil) (fun s0 h0 C cl fp => ⟨fun pins s σ H Q I h => (h s0 h0 C cl fp).run pins s I⟩) hs) (q0 H0 _ (Same.refl H0) q)
theorem filt_range {β : Type} (p : α → Bool) (f : α → β) (ls : List α) : (List.range ls.length).filterMap (fun i => (ls[i]?).bind fun x => if p x = true then some (f x) else none) = (ls.filter p).map f := by
  rw [range_get]
  induction ls with
  | nil => rfl
  | cons x r ih =>
    rw [List.filterMap_cons, List.filter_cons]
    by_cases h : p x = true
    · rw [if_pos h, if_pos h, List.map_cons, ih]
    · rw [if_neg h, if_neg h, ih]
theorem rd_lcIf {f : α → PyData} {p : α → Bool} {c : Expr} (hc : X.calm = true) (nd : X.N.Nodup) (l : Lv M H0) (src : Src X tg σ M H0 iter (ls.map enc)) (ok : BlkOk X.N X.env.scope scope own) (hg : ∀ (s : Shared) (H : Hp) (C : Addr) (cl : List (Str × Addr)) (fp : List Addr), PG (Blk X scope s H C cl fp) tg g)
    (tr : TgR X.K g is okd) (hz : ls.length ≤ sizeLine) (hi : ∀ i ∈ is, i ∈ own.map (·.2)) (hk : ∀ x ∈ ls, okd (enc x) (fs x))
    (test : ∀ x ∈ ls, ∀ (vs : List V) (D : Addr) (H : Hp) (s0 : Shared) (h0 : Hp) (C : Addr) (cl : List (Str × Addr)) (fp : List Addr), Same (hM M H0) (hM (D :: M) H) → Lv (D :: M) H → DaAll X.K (hM (D :: M) H) vs (fs x) →
      TD (Blk X scope s0 h0 C cl fp) (sets (wipe σ (own.map (·.2))) is vs) H c (p x))
    (body : ∀ x ∈ ls, p x = true → ∀ (vs : List V) (D : Addr) (H : Hp) (s0 : Shared) (h0 : Hp) (C : Addr) (cl : List (Str × Addr)) (fp : List Addr), Same (hM M H0) (hM (D :: M) H) → Lv (D :: M) H → DaAll X.K (hM (D :: M) H) vs (fs x) →
      ED (Blk X scope s0 h0 C cl fp) (sets (wipe σ (own.map (·.2))) is vs) (D :: M) H elt (f x)) : ∃ wi, PI X tg iter wi ∧ ∀ (H : Hp) (Q : VK), Same H0 H → Out X M H (.list ((ls.filter p).map f)) Q → tLc wi g (allT X scope c) (allE X scope elt) (own.map (·.2)) σ H Q := by
  obtain ⟨wi, pi, hw⟩ := src
  refine ⟨wi, pi, fun H Q s qo => ?_⟩
  refine hw H _ s fun J H1 gr w D hD => ?_
  have l1 := l.same (s.trans gr)
  have g01 : Same (hM M H0) (hM M H1) := same_hM (s.trans gr)
  rw [List.length_map] at w
  refine lc_it w (LcI X.K M H1 D fun i => (ls[i]?).bind fun x => if p x = true then some (f x) else none) (LcI.start l1 hD) (fun i H' _ P => P.facts.trans hM_cons) (fun i x H' H'' hi' P y => ?_) (fun H' P => ?_)
  · obtain ⟨gy, hy⟩ := y
    obtain ⟨a, ha⟩ : ∃ a, ls[i]? = some a := ⟨_, List.getElem?_eq_getElem hi'⟩
    have hmem : a ∈ ls := List.mem_of_getElem? ha
    have hd := hy (D :: M) (enc a) P.lv P.facts (by rw [List.getElem?_map, ha]; rfl)
    refine tr.run (D :: M) H'' x (enc a) (fs a) _ _ hd (hk a hmem) fun vs hl hvs => ⟨?_, ?_⟩
    · rw [wipe_sets hi, wipe_idem]
    · intro s0 h0 C cl fp
      have gf : Same (hM M H0) (hM (D :: M) H'') := g01.trans (P.facts.trans (same_hM gy))
      refine (test a hmem vs D H'' s0 h0 C cl fp gf (P.lv.same gy) hvs H'' (Same.refl _)).mono fun b H3 ⟨g3, eb⟩ => ?_
      subst eb
      by_cases hp : p a = true
      · rw [if_pos hp]
        intro s1 h1 C1 cl1 fp1
        refine (body a hmem hp vs D H'' s1 h1 C1 cl1 fp1 gf (P.lv.same gy) hvs H3 g3).mono fun v H4 ⟨g4, z⟩ => ?_
        exact P.step (d := f a) (gy.trans (g3.trans g4)) (by rw [ha, Option.bind_some, if_pos hp]) z hi' hz hD
      · rw [if_neg hp]
        exact P.skip (gy.trans g3) (by rw [ha, Option.bind_some, if_neg hp])
  · obtain ⟨q1, q2⟩ := P.done l1 hD
    rw [filt_range] at q2
    exact qo _ _ (gr.trans q1) q2
theorem ed_lcIf {f : α → PyData} {p : α → Bool} {c : Expr} (hc : X.calm = true) (nd : X.N.Nodup) (l : Lv M H0) (src : Src X tg σ M H0 iter (ls.map enc)) (ok : BlkOk X.N X.env.scope scope own) (hg : ∀ (s : Shared) (H : Hp) (C : Addr) (cl : List (Str × Addr)) (fp : List Addr), PG (Blk X scope s H C cl fp) tg g)
    (tr : TgR X.K g is okd) (hz : ls.length ≤ sizeLine) (hi : ∀ i ∈ is, i ∈ own.map (·.2)) (hk : ∀ x ∈ ls, okd (enc x) (fs x))
    (test : ∀ x ∈ ls, ∀ (vs : List V) (D : Addr) (H : Hp) (s0 : Shared) (h0 : Hp) (C : Addr) (cl : List (Str × Addr)) (fp : List Addr), Same (hM M H0) (hM (D :: M) H) → Lv (D :: M) H → DaAll X.K (hM (D :: M) H) vs (fs x) →
      TD (Blk X scope s0 h0 C cl fp) (sets (wipe σ (own.map (·.2))) is vs) H c (p x))
    (body : ∀ x ∈ ls, p x = true → ∀ (vs : List V) (D : Addr) (H : Hp) (s0 : Shared) (h0 : Hp) (C : Addr) (cl : List (Str × Addr)) (fp : List Addr), Same (hM M H0) (hM (D :: M) H) → Lv (D :: M) H → DaAll X.K (hM (D :: M) H) vs (fs x) →
      ED (Blk X scope s0 h0 C cl fp) (sets (wipe σ (own.map (·.2))) is vs) (D :: M) H elt (f x)) (hs : ∀ x, foldedSetIterable iter X.env x = pure x := by intro _; rfl) :
    ED X σ M H0 (.ListComp elt [⟨tg, iter, [c], 0⟩] scope pos) (.list ((ls.filter p).map f)) := fun H s => by
  obtain ⟨wi, pi, q⟩ := rd_lcIf hc nd l src ok hg tr hz hi hk test body
  exact ew_of (pe_lc (own := own) (g := g) (tt := (allT X scope c)) (te := allE X scope elt) hc nd pi ok hg (fun s0 h0 C cl fp => pts_one ⟨fun pins s σ H Q I h => (h s0 h0 C cl fp).run pins s I⟩) (fun s0 h0 C cl fp => ⟨fun pins s σ H Q I h => (h s0 h0 C cl fp).run pins s I⟩) hs) (q H _ s fun v H' g z => ⟨g, z⟩)
theorem sw_setLcIf {D0 : Ends} {rest : List Stmt} (i0 : Nat) {y : Str} {py spos : Pos} {f : α → PyData} {p : α → Bool} {c : Expr} (hc : X.calm = true) (nd : X.N.Nodup) (l : Lv M H0) (src : Src X tg σ M H0 iter (ls.map enc)) (ok : BlkOk X.N X.env.scope scope own) (hg : ∀ (s : Shared) (H : Hp) (C : Addr) (cl : List (Str × Addr)) (fp : List Addr), PG (Blk X scope s H C cl fp) tg g)
    (tr : TgR X.K g is okd) (hz : ls.length ≤ sizeLine) (hi : ∀ i ∈ is, i ∈ own.map (·.2)) (hk : ∀ x ∈ ls, okd (enc x) (fs x))
    (test : ∀ x ∈ ls, ∀ (vs : List V) (D : Addr) (H : Hp) (s0 : Shared) (h0 : Hp) (C : Addr) (cl : List (Str × Addr)) (fp : List Addr), Same (hM M H0) (hM (D :: M) H) → Lv (D :: M) H → DaAll X.K (hM (D :: M) H) vs (fs x) →
      TD (Blk X scope s0 h0 C cl fp) (sets (wipe σ (own.map (·.2))) is vs) H c (p x))
    (body : ∀ x ∈ ls, p x = true → ∀ (vs : List V) (D : Addr) (H : Hp) (s0 : Shared) (h0 : Hp) (C : Addr) (cl : List (Str × Addr)) (fp : List Addr), Same (hM M H0) (hM (D :: M) H) → Lv (D :: M) H → DaAll X.K (hM (D :: M) H) vs (fs x) →
      ED (Blk X scope s0 h0 C cl fp) (sets (wipe σ (own.map (·.2))) is vs) (D :: M) H elt (f x)) (q : ∀ v H', Same H0 H' → Da X.K (hM M H') v (.list ((ls.filter p).map f)) → SW X rest D0 (σ.set i0 (some v)) H')
    (hy : X.N[i0]? = some y := by rfl) (hyl : X.env.scope.names.lookup y = some .local := by rfl) (hsw : swapsWith (.ListComp elt [⟨tg, iter, [c], 0⟩] scope pos) (some (.Name y py)) spos.line X.env = pure true := by exact sw_true rfl rfl rfl rfl) (hs : ∀ x, foldedSetIterable iter X.env x = pure x := by intro _; rfl) :
    SW X (.Assign [.Name y py] (.ListComp elt [⟨tg, iter, [c], 0⟩] scope pos) spos :: rest) D0 σ H0 := by
  obtain ⟨wi, pi, q0⟩ := rd_lcIf hc nd l src ok hg tr hz hi hk test body
  exact sw_1 (ps_setLc (i := i0) (own := own) (g := g) (tt := (allT X scope c)) (te := allE X scope elt) hc nd hy hyl hsw pi ok hg (fun s0 h0 C cl fp => pts_one ⟨fun pins s σ H Q I h => (h s0 h0 C cl fp).run pins s I⟩) (fun s0 h0 C cl fp => ⟨fun pins s σ H Q I h => (h s0 h0 C cl fp).run pins s I⟩) hs) (q0 H0 _ (Same.refl H0) q)
end
/-! ### statements -/
section
variable {X : Cx} {σ : L2.St} {M : List Addr} {H : Hp} {D : Ends} {rest : List Stmt} {e a b c : Expr} {d : PyData} {pos : Pos}
theorem sw_ret (h : ED X σ M H e d) (q : ∀ v H', Same H H' → Da X.K (hM M H') v d → D.rt v H') : SW X (.Return (some e) pos :: rest) D σ H := sw_1 (ps_ret pe_w) (h.at fun v H' g z => q v H' g z)
theorem sw_set (i : Nat) {x : Str} {p : Pos} (nd : X.N.Nodup) (h : ED X σ M H e d) (q : ∀ v H', Same H H' → Da X.K (hM M H') v d → SW X rest D (σ.set i (some v)) H') (hi : X.N[i]? = some x := by rfl) (hx : Loc X.env.scope x := by first | exact Or.inl rfl | exact Or.inr rfl)
    (hs : swapsWith e (some (.Name x p)) pos.line X.env = pure false := by rfl) (hf : X.fn x = true ∨ X.env.scope.names.lookup x = some .local := by first | exact .inl rfl | exact .inr rfl) : SW X (.Assign [.Name x p] e pos :: rest) D σ H :=
  sw_1 (ps_set (i := i) nd hi hx pe_w hs hf) (h.at fun v H' g z => q v H' g z)
theorem sw_if {k : Bool} {st sf : List Stmt} (h : TD X σ H c k) (h1 : k = true → ∀ H', Same H H' → SW X st { D with nx := fun σ H => SW X rest D σ H } σ H') (h2 : k = false → ∀ H', Same H H' → SW X sf { D with nx := fun σ H => SW X rest D σ H } σ H') : SW X (.If c st sf pos :: rest) D σ H :=
  sw_1 (ps_if pt_w pss_w pss_w) ((h H (Same.refl H)).mono fun k' H' ⟨g, z⟩ => by
    subst z
    cases k' with
    | true => rw [if_pos rfl]; exact h1 rfl H' g
    | false => rw [if_neg Bool.false_ne_true]; exact h2 rfl H' g)
/-- if c: .. that is not gone into -/
theorem sw_ifF {st : List Stmt} (h : TD X σ H c false) (h2 : ∀ H', Same H H' → SW X rest D σ H') : SW X (.If c st [] pos :: rest) D σ H := sw_if h (fun z => nomatch z) fun _ H' g => sw_nil (h2 H' g)
theorem sw_ifT {st sf : List Stmt} (h : TD X σ H c true) (h1 : ∀ H', Same H H' → SW X st { D with nx := fun σ H => SW X rest D σ H } σ H') : SW X (.If c st sf pos :: rest) D σ H := sw_if h (fun _ => h1) fun z => nomatch z
section
variable {tg iter : Expr} {α : Type} {ls : List α} {enc : α → PyData} {g : TG} {is : List Nat} {okd : PyData → List PyData → Prop} {fs : α → List PyData} {body : List Stmt}
theorem sw_for (hp : PassesOwn (model X.prog X.w) X.A X.env X.xe) (hc : X.calm = true) (src : Src X tg σ M H iter (ls.map enc)) (hg : PG X tg g) (tr : TgR X.K g is okd) (hk : ∀ x ∈ ls, okd (enc x) (fs x))
    (q : ∀ H1, Same H H1 → ∃ Pv : Nat → L2.St → Hp → Prop, Pv 0 σ H1 ∧ (∀ i σ' H', Pv i σ' H' → Same (hM M H1) (hM M H') ∧ Lv M H') ∧
      (∀ i x σ' H' H'' vs, ls[i]? = some x → Pv i σ' H' → Same H' H'' → DaAll X.K (hM M H'') vs (fs x) → SW X body { D with nx := Pv (i + 1), ct := Pv (i + 1), bk := fun σ H => SW X rest D σ H } (sets σ' is vs) H'') ∧ ∀ σ' H', Pv ls.length σ' H' → SW X rest D σ' H')
    (hs : ∀ x, foldedSetIterable iter X.env x = pure x := by intro _; rfl) : SW X (.For tg iter body [] pos :: rest) D σ H := by
  obtain ⟨wi, pi, hw⟩ := src
  refine sw_1 (ps_for hp hc pi hg pss_w hs) ?_
  refine hw H _ (Same.refl H) fun J H1 gr w => ?_
  obtain ⟨Pv, p0, pg, pt, pe⟩ := q H1 gr
  rw [List.length_map] at w
  refine for_it w Pv p0 (fun i σ' H' _ p => (pg i σ' H' p).1) (fun i x σ' H' H'' hi p y => ?_) pe
  obtain ⟨gy, hy⟩ := y
  obtain ⟨u, hu⟩ : ∃ u, ls[i]? = some u := ⟨_, List.getElem?_eq_getElem hi⟩
  obtain ⟨p1, p2⟩ := pg i σ' H' p
  have hd := hy M (enc u) p2 p1 (by rw [List.getElem?_map, hu]; rfl)
  exact tr.run M H'' x (enc u) (fs u) _ _ hd (hk u (List.mem_of_getElem? hu)) fun vs hl hvs => pt i u σ' H' H'' vs hu p gy hvs
end
/-- while c: .. by an invariant and a measure -/
theorem sw_while {body : List Stmt} (hp : PassesOwn (model X.prog X.w) X.A X.env X.xe) (Pv : L2.St → Hp → Prop) (μ : L2.St → Hp → Nat) (h0 : Pv σ H)
    (ht : ∀ σ' H', Pv σ' H' → ∃ k, TD X σ' H' c k ∧ (k = true → ∀ H'', Same H' H'' → SW X body { D with nx := fun σ2 H2 => Pv σ2 H2 ∧ μ σ2 H2 < μ σ' H', ct := fun σ2 H2 => Pv σ2 H2 ∧ μ σ2 H2 < μ σ' H', bk := fun σ H => SW X rest D σ H } σ' H'') ∧
      (k = false → ∀ H'', Same H' H'' → SW X rest D σ' H'')) : SW X (.While c body [] pos :: rest) D σ H := by
  refine sw_1 (ps_while hp pt_w pss_w) (while_by Pv μ h0 (fun σ' H' p => ?_) fun σ' H' Q Q' hq h => h.mono hq)
  obtain ⟨k, h1, h2, h3⟩ := ht σ' H' p
  refine (h1 H' (Same.refl _)).mono fun k' H'' ⟨g, z⟩ => ?_
  subst z
  cases k' with
  | true => rw [if_pos rfl]; exact h2 rfl H'' g
  | false => rw [if_neg Bool.false_ne_true]; exact h3 rfl H'' g
end
/-! ### defs -/
section
variable {P : Program} {w : World} {K : Frg} {mg : Str → Option Value} {base : Heap}
/-- a def by its body's walk -/
theorem cl_w {x : Str} {st : Stmt} {N ps : List Str} {k : Nat} {sp : Sp} (D : Dfn K mg x st) (b : BndOf x x st ps) (S : FnScope N ps (defScope st)) (len : ∀ vs H Q E, sp vs H Q E → vs.length = ps.length)
    (body : ∀ (f : Addr) (cdv : Value) (A : Around) (outer : List Env) (s : Shared) (H : Hp) (vs : List V) (Q : VK) (E : XK), Room k (A.deeper (envOfC x (defScope st) s.heap.objs.size f cdv)) → sp vs H Q E →
      SW (cxOf L2.CX0 P w K mg base N x (defScope st) f cdv A outer s H E).nox (defBody st) { nx := fun _ H' => Q .non H', rt := Q } (start N vs) H) : Cl P w K mg base (k + 1) x sp :=
  cl_of D b S len fun f cdv A outer s H vs Q E hr h => ⟨_, pss_w, body f cdv A outer s H vs Q E hr h⟩
end
end S6

/-! DE3: texts. -/
namespace S6
open PySem PySem.Spec PyProof.Rows L2
section
variable {X : Cx} {σ : L2.St} {M : List Addr} {H0 : Hp} {e a : Expr} {d : PyData} {pos : Pos}
theorem ed_fmtS {x : Str} (h : ED X σ M H0 e (.str x)) (hz : x.length ≤ sizeLine) : ED X σ M H0 (.FormattedValue e (-1) none pos) (.str x) := fun H s =>
  ew_of (pe_fmt pe_w) ((h H s).mono fun v H' ⟨g, z⟩ => .inl ⟨x, z.str_inv, hz, g, .str _⟩)
theorem ed_fmtI {i : Int} (h : ED X σ M H0 e (.int i)) (hz : i.natAbs.log2 < 1920) : ED X σ M H0 (.FormattedValue e (-1) none pos) (.str (toString i)) := fun H s =>
  ew_of (pe_fmt pe_w) ((h H s).mono fun v H' ⟨g, z⟩ => .inr ⟨i, z.int_inv, hz, g, .str _⟩)
theorem ed_fmt02 {n : Nat} {k : Int} {p1 p3 : Pos} (h : ED X σ M H0 e (.int (n : Int))) (hn : n < 100) : ED X σ M H0 (.FormattedValue e (-1) (some (.JoinedStr [.Constant (.str "02d") 0 p1] p3)) pos) (.str (p2 n)) := fun H s =>
  ew_of (pe_fmt02 (k := k) pe_w) ((h H s).mono fun v H' ⟨g, z⟩ => ⟨n, z.int_inv, hn, g, .str _⟩)
/-- the parts of a written text -/
def JD (X : Cx) (σ : L2.St) (M : List Addr) (H0 : Hp) : List Expr → List Str → Prop
  | [], [] => True
  | e :: es, y :: ys => ED X σ M H0 e (.str y) ∧ JD X σ M H0 es ys
  | _, _ => False
def catS (acc : Str) (ys : List Str) : Str := ys.foldl (· ++ ·) acc
theorem catS_cons (y : Str) (ys : List Str) : catS Str.empty (y :: ys) = ys.foldl (· ++ ·) y := by
  have e : Str.empty ++ y = y := TL.ext_tl (by rw [TL.tl_append]; rfl)
  show (ys.foldl (· ++ ·) (Str.empty ++ y)) = _
  rw [e]
theorem len_sp : (" " : Str).length = 1 := by decide +kernel
theorem catS_len : ∀ (ys : List Str) (acc : Str), (catS acc ys).length = acc.length + (ys.map (·.length)).sum
  | [], acc => by simp [catS]
  | y :: ys, acc => by
    show (catS (acc ++ y) ys).length = _
    rw [catS_len ys, List.map_cons, List.sum_cons, TL.len_tl, TL.tl_append, List.length_append, ← TL.len_tl, ← TL.len_tl]
    omega
abbrev wE (X : Cx) (e : Expr) : TE := fun σ H Q => EW X e σ H Q
theorem pj_w : ∀ (es : List Expr), PJ X es (es.map (wE X))
  | [] => .nil
  | e :: es => .cons pe_w (pj_w es)
theorem jd_run : ∀ {es : List Expr} {ys : List Str} (acc : Str) (H : Hp) (Q : Str → Hp → Prop), JD X σ M H0 es ys → Same H0 H → acc.length + (ys.map (·.length)).sum ≤ sizeLine → (∀ H', Same H H' → Q (catS acc ys) H') →
    tJs (es.map (wE X)) acc σ H Q
  | [], [], acc, H, Q, _, s, hz, q => q H (Same.refl H)
  | e :: es, y :: ys, acc, H, Q, ⟨h1, h2⟩, s, hz, q => by
    rw [List.map_cons, List.sum_cons] at hz
    refine (h1 H s).mono fun v H1 ⟨g, z⟩ => ⟨y, z.str_inv, ?_, jd_run (acc ++ y) H1 Q h2 (s.trans g) ?_ fun H' g' => q H' (g.trans g')⟩
    · rw [TL.len_tl, TL.tl_append, List.length_append, ← TL.len_tl, ← TL.len_tl]; omega
    · rw [TL.len_tl, TL.tl_append, List.length_append, ← TL.len_tl, ← TL.len_tl]; omega
  | [], _ :: _, _, _, _, h, _, _, _ => h.elim
  | _ :: _, [], _, _, _, h, _, _, _ => h.elim
theorem ed_js {v1 v2 : Expr} {rest : List Expr} {ys : List Str} (h : JD X σ M H0 (v1 :: v2 :: rest) ys) (hz : (ys.map (·.length)).sum ≤ sizeLine) : ED X σ M H0 (.JoinedStr (v1 :: v2 :: rest) pos) (.str (catS Str.empty ys)) := fun H s =>
  ew_of (pe_joined (pj_w _)) (jd_run Str.empty H _ h s (by rw [show Str.empty.length = 0 from rfl, Nat.zero_add]; exact hz) fun H' g => ⟨g, .str _⟩)
/-- s.split(t) -/
theorem ed_split {x y : Str} {apos : Pos} (l : Lv M H0) (ho : ED X σ M H0 a (.str x)) (he : ED X σ M H0 e (.str y)) (hy : (y.length == 0) = false) (hz : x.length + 2 ≤ sizeLine)
    (hs : starEach [e] X.env = [(false, eval e X.env)] := by rfl) (hbase : attributeBase a "split" X.env (eval a X.env) = eval a X.env := by rfl) (hline : (apos.endLine == pos.line) = true := by rfl) :
    ED X σ M H0 (.Call (.Attribute a "split" apos) [e] [] pos) (.list ((Txt.split x y).map .str)) := fun H s =>
  ew_of (pe_split pe_w pe_w hs hbase hline) ((ho H s).mono fun v H1 ⟨g, z⟩ => ⟨⟨x, z.str_inv⟩, (he H1 (s.trans g)).mono fun u H2 ⟨g2, z2⟩ => ⟨x, y, z.str_inv, by rw [z2.str_inv], hy, hz, fun p hp =>
    ⟨g.trans (g2.trans (same_new hp)), da_lst (l.same (s.trans (g.trans g2))) hp (.ofStrs _)⟩⟩⟩)
/-- s.split() -/
theorem ed_words {x : Str} {apos : Pos} (l : Lv M H0) (ho : ED X σ M H0 a (.str x)) (hz : x.length + 2 ≤ sizeLine)
    (hbase : attributeBase a "split" X.env (eval a X.env) = eval a X.env := by rfl) (hline : (apos.endLine == pos.line) = true := by rfl) :
    ED X σ M H0 (.Call (.Attribute a "split" apos) [] [] pos) (.list ((Txt.words x).map .str)) := fun H s =>
  ew_of (pe_words pe_w hbase hline) ((ho H s).mono fun v H1 ⟨g, z⟩ => ⟨⟨x, z.str_inv⟩, ⟨x, z.str_inv, rfl, hz, fun p hp => ⟨g.trans (same_new hp), da_lst (l.same (s.trans g)) hp (.ofStrs _)⟩⟩⟩)
/-- s.join(xs) -/
theorem ed_join {x : Str} {ys : List Str} {apos : Pos} (ho : ED X σ M H0 a (.str x)) (he : ED X σ M H0 e (.list (ys.map .str))) (hz : (ys.map (·.length)).sum + ys.length * x.length ≤ 16777216)
    (hs : starEach [e] X.env = [(false, eval e X.env)] := by rfl) (hbase : attributeBase a "join" X.env (eval a X.env) = eval a X.env := by rfl) (hline : (apos.endLine == pos.line) = true := by rfl) :
    ED X σ M H0 (.Call (.Attribute a "join" apos) [e] [] pos) (.str (Txt.join x ys)) := fun H s =>
  ew_of (pe_join pe_w pe_w hs hbase hline) ((ho H s).mono fun v H1 ⟨g, z⟩ => ⟨⟨x, z.str_inv⟩, (he H1 (s.trans g)).mono fun u H2 ⟨g2, z2⟩ => by
    obtain ⟨b, rfl, hq⟩ := z2.lstStrs
    exact ⟨x, b, ys, z.str_inv, rfl, .inl (SqL.of (hM_sub _ _ hq)), hz, g.trans g2, .str _⟩⟩)
theorem ed_joinT {x : Str} {ys : List Str} {apos : Pos} (ho : ED X σ M H0 a (.str x)) (he : ED X σ M H0 e (.tuple (ys.map .str))) (hz : (ys.map (·.length)).sum + ys.length * x.length ≤ 16777216)
    (hs : starEach [e] X.env = [(false, eval e X.env)] := by rfl) (hbase : attributeBase a "join" X.env (eval a X.env) = eval a X.env := by rfl) (hline : (apos.endLine == pos.line) = true := by rfl) :
    ED X σ M H0 (.Call (.Attribute a "join" apos) [e] [] pos) (.str (Txt.join x ys)) := fun H s =>
  ew_of (pe_join pe_w pe_w hs hbase hline) ((ho H s).mono fun v H1 ⟨g, z⟩ => ⟨⟨x, z.str_inv⟩, (he H1 (s.trans g)).mono fun u H2 ⟨g2, z2⟩ => by
    obtain ⟨b, rfl, hq⟩ := z2.tupStrs
    exact ⟨x, b, ys, z.str_inv, rfl, .inr (hq.ext hM_sub), hz, g.trans g2, .str _⟩⟩)
end
/-! ### targets by their names -/
section
variable {X : Cx} {x y z : Str} {p1 p2 p3 pos : Pos} {kk : Nat}
theorem pg1 (i : Nat) (hN : X.N.Nodup) (hi : X.N[i]? = some x := by rfl) (hx : Loc X.env.scope x := by exact Or.inl rfl) (hf : X.fn x = true ∨ X.env.scope.names.lookup x = some .local := by first | exact .inl rfl | exact .inr rfl) : PG X (.Name x p1) (gName i) := pg_name hN hi hx hf
theorem pg2 (hc : X.calm = true) (i j : Nat) (h1 : PG X (.Name x p1) (gName i)) (h2 : PG X (.Name y p2) (gName j)) : PG X (.Tuple [.Name x p1, .Name y p2] kk pos) (gTup X.K 2 (gCons (gName i) (gCons (gName j) gNil))) := pg_tup hc (pgs_cons h1 (pgs_cons h2 pgs_nil))
theorem pg3 (hc : X.calm = true) (i j k : Nat) (h1 : PG X (.Name x p1) (gName i)) (h2 : PG X (.Name y p2) (gName j)) (h3 : PG X (.Name z p3) (gName k)) : PG X (.Tuple [.Name x p1, .Name y p2, .Name z p3] kk pos) (gTup X.K 3 (gCons (gName i) (gCons (gName j) (gCons (gName k) gNil)))) := pg_tup hc (pgs_cons h1 (pgs_cons h2 (pgs_cons h3 pgs_nil)))
end
/-! ### what stands at values, by number -/
section
variable {K : Frg} {H : Hp} {vs : List V} {d1 d2 d3 d4 : PyData}
theorem DaAll.inv0 (h : DaAll K H vs []) : vs = [] := by cases h; rfl
theorem DaAll.inv2 (h : DaAll K H vs [d1, d2]) : ∃ v1 v2, vs = [v1, v2] ∧ Da K H v1 d1 ∧ Da K H v2 d2 := by
  cases h with
  | cons a1 r => cases r with
    | cons a2 r => cases r; exact ⟨_, _, rfl, a1, a2⟩
theorem DaAll.inv3 (h : DaAll K H vs [d1, d2, d3]) : ∃ v1 v2 v3, vs = [v1, v2, v3] ∧ Da K H v1 d1 ∧ Da K H v2 d2 ∧ Da K H v3 d3 := by
  cases h with
  | cons a1 r => cases r with
    | cons a2 r => cases r with
      | cons a3 r => cases r; exact ⟨_, _, _, rfl, a1, a2, a3⟩
theorem DaAll.inv4 (h : DaAll K H vs [d1, d2, d3, d4]) : ∃ v1 v2 v3 v4, vs = [v1, v2, v3, v4] ∧ Da K H v1 d1 ∧ Da K H v2 d2 ∧ Da K H v3 d3 ∧ Da K H v4 d4 := by
  cases h with
  | cons a1 r => cases r with
    | cons a2 r => cases r with
      | cons a3 r => cases r with
        | cons a4 r => cases r; exact ⟨_, _, _, _, rfl, a1, a2, a3, a4⟩
end
/-! ### a link's row -/
theorem catS_tl : ∀ (ys : List Str) (acc : Str), TL.tl (catS acc ys) = TL.tl acc ++ (ys.map TL.tl).flatten
  | [], acc => by simp [catS]
  | y :: ys, acc => by
    show TL.tl (catS (acc ++ y) ys) = _
    rw [catS_tl ys, TL.tl_append, List.map_cons, List.flatten_cons, List.append_assoc]
theorem p2_len (n : Nat) : (p2 n).length = 2 := rfl
theorem p2_num : ∀ n : Nat, n < 100 → PySem.intText? (p2 n) = some (n : Int) := by decide +kernel
theorem p2_free {n c : Nat} (h : n < 100) (hc : c = 32) : c ∉ TL.tl (p2 n) := by
  subst hc
  show (32 : Nat) ∉ [48 + n / 10, 48 + n % 10]
  simp only [List.mem_cons, List.not_mem_nil, or_false]
  omega
theorem fmtL_tl (l : Lk) : TL.tl (fmtL l) = TL.tl l.1 ++ [32] ++ TL.tl (p2 l.2.1.toNat) ++ [32] ++ TL.tl (p2 l.2.2.toNat) := by
  unfold fmtL
  rw [TL.tl_append, TL.tl_append, TL.tl_append, TL.tl_append]
  rfl
theorem fmtL_len (l : Lk) : (fmtL l).length = l.1.length + 6 := by
  rw [TL.len_tl, fmtL_tl]
  simp only [List.length_append, ← TL.len_tl, p2_len, List.length_singleton]
theorem gn_sp {x : Str} (g : GN x) : (32 : Nat) ∉ TL.tl x := fun h => by
  have := g.az 32 h
  omega
theorem fmtL_split {l : Lk} (g : GL l) : Txt.split (fmtL l) (" " : Str) = [l.1, p2 l.2.1.toNat, p2 l.2.2.toNat] := by
  have e : fmtL l = Txt.join (" " : Str) [l.1, p2 l.2.1.toNat, p2 l.2.2.toNat] := by
    refine TL.ext_tl ?_
    rw [fmtL_tl, TL.join_eq, TL.tl_join]
    show _ = TL.tl l.1 ++ ([32] ++ (TL.tl (p2 l.2.1.toNat) ++ ([32] ++ TL.tl (p2 l.2.2.toNat))))
    simp only [List.append_assoc]
  have h1 := g.u0
  have h2 := g.u1
  have h3 := g.v0
  have h4 := g.v1
  rw [e]
  refine TL.split_join (s := 32) (S := []) rfl (by decide +kernel) (by simp) fun p hp => ?_
  rcases List.mem_cons.mp hp with z | hp
  · rw [z]; exact gn_sp g.nm
  · rcases List.mem_cons.mp hp with z | hp
    · rw [z]; exact p2_free (by omega) rfl
    · rw [List.mem_singleton.mp hp]; exact p2_free (by omega) rfl
end S6

/-! M2: shapes as data; joints. -/
namespace S6
open PySem PySem.Spec PyProof.Rows
open PyData (canLay0 canLayAll0 depth depthAll)
theorem gn_ok {x : Str} (g : GN x) : PyData.strOk x = true := by
  unfold PyData.strOk
  rw [← Array.all_toList, List.all_eq_true]
  intro c hc
  have := g.az c hc
  exact decide_eq_true (by omega)
theorem lk_ok {l : Lk} (g : GL l) : canLay0 (lkD l) = true ∧ depth (lkD l) = 1 := by
  refine ⟨?_, by simp [lkD, depth, depthAll]⟩
  simp [lkD, canLay0, canLayAll0, gn_ok g.nm]
theorem lks_ok : ∀ {ls : List Lk}, (∀ l ∈ ls, GL l) → canLayAll0 (ls.map lkD) = true ∧ depthAll (ls.map lkD) ≤ 1
  | [], _ => ⟨rfl, Nat.zero_le _⟩
  | l :: ls, h => by
    obtain ⟨a, b⟩ := lk_ok (h l List.mem_cons_self)
    obtain ⟨c, d⟩ := lks_ok fun x hx => h x (List.mem_cons_of_mem _ hx)
    rw [List.map_cons, canLayAll0, depthAll, a, c, b]
    exact ⟨rfl, by omega⟩
theorem lit_ok {x : Str} (h : PyData.strOk x = true) : canLay0 (.str x) = true := h
mutual
theorem dT_ok : ∀ {s : Shp}, NW s → canLay0 s.dT = true ∧ depth s.dT ≤ 2 * dep s + 3
  | .opn, _ => ⟨by decide +kernel, by simp [Shp.dT, depth, depthAll]⟩
  | .sht, _ => ⟨by decide +kernel, by simp [Shp.dT, depth, depthAll]⟩
  | .lnk x, h => by
    rw [NW] at h
    refine ⟨?_, by simp [Shp.dT, depth, depthAll]⟩
    have e : canLay0 (.str "link") = true := by decide +kernel
    rw [Shp.dT, canLay0, canLayAll0, canLayAll0, canLayAll0, e, lit_ok (gn_ok h)]
    rfl
  | .net ls, h => by
    rw [NW] at h
    obtain ⟨a, b⟩ := lks_ok h.2.2
    have e : canLay0 (.str "net") = true := by decide +kernel
    refine ⟨?_, ?_⟩
    · rw [Shp.dT, canLay0, canLayAll0, canLayAll0, canLayAll0, e, canLay0, a]
      rfl
    · rw [Shp.dT, depth, depthAll, depthAll, depthAll, depth, depth]
      omega
  | .jn k ps, h => by
    rw [NW] at h
    obtain ⟨a, b⟩ := dTs_ok h.2
    have e : canLay0 (.str (kwd k)) = true := by cases k <;> decide +kernel
    refine ⟨?_, ?_⟩
    · rw [Shp.dT, canLay0, canLayAll0, canLayAll0, canLayAll0, e, canLay0, a]
      rfl
    · rw [Shp.dT, depth, depthAll, depthAll, depthAll, depth, depth, dep]
      omega
theorem dTs_ok : ∀ {k : Bool} {ps : List Shp}, NWs k ps → canLayAll0 (dTs ps) = true ∧ depthAll (dTs ps) ≤ 2 * deps ps + 3
  | _, [], _ => ⟨rfl, Nat.zero_le _⟩
  | k, p :: ps, h => by
    rw [NWs] at h
    obtain ⟨a, b⟩ := dT_ok h.1.1
    obtain ⟨c, d⟩ := dTs_ok h.2
    rw [dTs, canLayAll0, depthAll, a, c, deps]
    exact ⟨rfl, by omega⟩
end
mutual
theorem dL_ok : ∀ {s : Shp}, NW s → canLay0 s.dL = true ∧ depth s.dL ≤ 2 * dep s + 3
  | .opn, _ => ⟨by decide +kernel, by simp [Shp.dL, depth, depthAll]⟩
  | .sht, _ => ⟨by decide +kernel, by simp [Shp.dL, depth, depthAll]⟩
  | .lnk x, h => by
    rw [NW] at h
    refine ⟨?_, by simp [Shp.dL, depth, depthAll]⟩
    have e : canLay0 (.str "link") = true := by decide +kernel
    rw [Shp.dL, canLay0, canLayAll0, canLayAll0, canLayAll0, e, lit_ok (gn_ok h)]
    rfl
  | .net ls, h => by
    rw [NW] at h
    obtain ⟨a, b⟩ := lks_ok h.2.2
    have e : canLay0 (.str "net") = true := by decide +kernel
    refine ⟨?_, ?_⟩
    · rw [Shp.dL, canLay0, canLayAll0, canLayAll0, canLayAll0, e, canLay0, a]
      rfl
    · rw [Shp.dL, depth, depthAll, depthAll, depthAll, depth, depth]
      omega
  | .jn k ps, h => by
    rw [NW] at h
    obtain ⟨a, b⟩ := dLs_ok h.2
    have e : canLay0 (.str (kwd k)) = true := by cases k <;> decide +kernel
    refine ⟨?_, ?_⟩
    · rw [Shp.dL, canLay0, canLayAll0, canLayAll0, canLayAll0, e, canLay0, a]
      rfl
    · rw [Shp.dL, depth, depthAll, depthAll, depthAll, depth, depth, dep]
      omega
theorem dLs_ok : ∀ {k : Bool} {ps : List Shp}, NWs k ps → canLayAll0 (dLs ps) = true ∧ depthAll (dLs ps) ≤ 2 * deps ps + 3
  | _, [], _ => ⟨rfl, Nat.zero_le _⟩
  | k, p :: ps, h => by
    rw [NWs] at h
    obtain ⟨a, b⟩ := dL_ok h.1.1
    obtain ⟨c, d⟩ := dLs_ok h.2
    rw [dLs, canLayAll0, depthAll, a, c, deps]
    exact ⟨rfl, by omega⟩
end
theorem shaped_of {d : PyData} (h : canLay0 d = true) (g : depth d ≤ 64) : SeqAt.shaped d = true := by
  unfold SeqAt.shaped
  rw [h, decide_eq_true g]
  rfl
theorem sh_dT {s : Shp} (h : NW s) (g : dep s ≤ 20) : SeqAt.shaped s.dT = true := shaped_of (dT_ok h).1 (by have := (dT_ok h).2; omega)
theorem sh_dL {s : Shp} (h : NW s) (g : dep s ≤ 20) : SeqAt.shaped s.dL = true := shaped_of (dL_ok h).1 (by have := (dL_ok h).2; omega)
theorem sh_list {ds : List PyData} (h : ∀ d ∈ ds, canLay0 d = true ∧ depth d ≤ 50) : SeqAt.shaped (.list ds) = true := by
  have : ∀ ds : List PyData, (∀ d ∈ ds, canLay0 d = true ∧ depth d ≤ 50) → canLayAll0 ds = true ∧ depthAll ds ≤ 50 := by
    intro ds
    induction ds with
    | nil => intro _; exact ⟨rfl, Nat.zero_le _⟩
    | cons d ds ih =>
      intro h
      obtain ⟨a, b⟩ := h d List.mem_cons_self
      obtain ⟨c, e⟩ := ih fun x hx => h x (List.mem_cons_of_mem _ hx)
      rw [canLayAll0, depthAll, a, c]
      exact ⟨rfl, by omega⟩
  obtain ⟨a, b⟩ := this ds h
  exact shaped_of (by rw [canLay0]; exact a) (by rw [depth]; omega)
theorem sh_listT {ss : List Shp} (h : ∀ s ∈ ss, NW s ∧ dep s ≤ 20) : SeqAt.shaped (.list (ss.map Shp.dT)) = true := sh_list fun d hd => by
  obtain ⟨s, hs, rfl⟩ := List.mem_map.mp hd
  have := dT_ok (h s hs).1
  have := (h s hs).2
  exact ⟨(dT_ok (h s hs).1).1, by omega⟩
theorem sh_listL {ss : List Shp} (h : ∀ s ∈ ss, NW s ∧ dep s ≤ 20) : SeqAt.shaped (.list (ss.map Shp.dL)) = true := sh_list fun d hd => by
  obtain ⟨s, hs, rfl⟩ := List.mem_map.mp hd
  have := dL_ok (h s hs).1
  have := (h s hs).2
  exact ⟨(dL_ok (h s hs).1).1, by omega⟩
/-! ### a shape against an idle one -/
theorem eq_idlT (k : Bool) (s : Shp) : PyData.eqv s.dT (idl k).dT = isI k s := by
  cases s with
  | opn => cases k <;> decide +kernel
  | sht => cases k <;> decide +kernel
  | lnk x => cases k <;> simp [Shp.dT, idl, isI, PyData.eqv, PyData.eqvAll]
  | net ls => cases k <;> simp [Shp.dT, idl, isI, PyData.eqv, PyData.eqvAll]
  | jn k' ps => cases k <;> simp [Shp.dT, idl, isI, PyData.eqv, PyData.eqvAll]
theorem eq_idlL (k : Bool) (s : Shp) : PyData.eqv s.dL (idl k).dL = isI k s := by
  cases s with
  | opn => cases k <;> decide +kernel
  | sht => cases k <;> decide +kernel
  | lnk x => cases k <;> simp [Shp.dL, idl, isI, PyData.eqv, PyData.eqvAll]
  | net ls => cases k <;> simp [Shp.dL, idl, isI, PyData.eqv, PyData.eqvAll]
  | jn k' ps => cases k <;> simp [Shp.dL, idl, isI, PyData.eqv, PyData.eqvAll]
theorem idl_dTL (k : Bool) : (idl k).dT = (idl k).dL := by cases k <;> rfl
theorem kwd_row : kwd true = "row" := rfl
theorem kwd_bunch : kwd false = "bunch" := rfl
theorem kwd_ne : kwd false ≠ kwd true := by decide +kernel
theorem kwd_eq {a b : Bool} : kwd a = kwd b ↔ a = b := by
  cases a <;> cases b <;> simp [kwd_ne, Ne.symm kwd_ne]
/-! ### sizes of what stands in a shape -/
mutual
theorem NW_pos : ∀ {s : Shp}, NW s → isI true s = false → isI false s = false → 1 ≤ siz s
  | .opn, _, h, _ => by cases h
  | .sht, _, _, h => by cases h
  | .lnk _, _, _, _ => Nat.le_refl _
  | .net ls, h, _, _ => by
    rw [NW] at h
    rw [siz]
    cases ls with
    | nil => exact absurd rfl h.1
    | cons _ _ => simp
  | .jn k ps, h, _, _ => by
    rw [NW] at h
    rw [siz]
    have := NWs_len h.2
    omega
theorem NWs_len : ∀ {k : Bool} {ps : List Shp}, NWs k ps → ps.length ≤ sizs ps
  | _, [], _ => Nat.le_refl _
  | k, p :: ps, h => by
    rw [NWs] at h
    have h1 := NW_pos h.1.1 h.1.2.1 h.1.2.2.1
    have h2 := NWs_len h.2
    rw [List.length_cons, sizs]
    omega
end
theorem flat1_len {k : Bool} {s : Shp} (h : NW s) : (flat1 k s).length ≤ siz s + 1 := by
  cases s with
  | jn k' ps =>
    rw [flat1_jn]
    rw [NW] at h
    have := NWs_len h.2
    rw [siz]
    by_cases e : k' = k
    · rw [if_pos e]; omega
    · rw [if_neg e, List.length_singleton]; omega
  | _ => simp [flat1]
/-! ### joints -/
theorem jts_len (ls : List Lk) : (jts ls).length ≤ 2 + 2 * ls.length := by
  refine Nat.le_trans (setI_len _) ?_
  rw [List.length_append, List.length_append, List.length_map, List.length_map, List.length_cons, List.length_cons, List.length_nil]
  omega
theorem jts_nd (ls : List Lk) : (jts ls).Nodup := setI_nd _
theorem jts_0 (ls : List Lk) : (0 : Int) ∈ jts ls := setI_mem.mpr (by simp)
theorem jts_1 (ls : List Lk) : (1 : Int) ∈ jts ls := setI_mem.mpr (by simp)
theorem jts_u {ls : List Lk} {l : Lk} (h : l ∈ ls) : l.2.1 ∈ jts ls := setI_mem.mpr (List.mem_append_right _ (List.mem_append_left _ (List.mem_map.mpr ⟨l, h, rfl⟩)))
theorem jts_v {ls : List Lk} {l : Lk} (h : l ∈ ls) : l.2.2 ∈ jts ls := setI_mem.mpr (List.mem_append_right _ (List.mem_append_right _ (List.mem_map.mpr ⟨l, h, rfl⟩)))
theorem jts_2 (ls : List Lk) : 2 ≤ (jts ls).length := by
  have h : ([0, 1] : List Int).length ≤ (jts ls).length := List.Nodup.length_le_of_subset (by decide) fun x hx => by
    rcases List.mem_cons.mp hx with e | e
    · rw [e]; exact jts_0 ls
    · rw [List.mem_singleton.mp e]; exact jts_1 ls
  simpa using h
theorem upFrom_len (f : Int) (n : Nat) : (upFrom f n).length = n := by unfold upFrom; rw [List.length_map, List.length_range]
end S6

/-! M4: a shape's text. -/
namespace S6
open PySem PySem.Spec PyProof.Rows L2
def txtL (l : Lk) : Str := (toString l.2.1 : String) ++ ("-" : Str) ++ l.1 ++ ("-" : Str) ++ (toString l.2.2 : String)
def sgn (k : Bool) : Str := if k = true then " & " else " | "
mutual
def txt : Shp → Str
  | .opn => "open"
  | .sht => "shut"
  | .lnk x => x
  | .net ls => ("[" : Str) ++ Txt.join " " (ls.map txtL) ++ ("]" : Str)
  | .jn k ps => ("(" : Str) ++ Txt.join (sgn k) (txts ps) ++ (")" : Str)
def txts : List Shp → List Str
  | [] => []
  | p :: ps => txt p :: txts ps
end
theorem txts_map : ∀ ps : List Shp, txts ps = ps.map txt
  | [] => rfl
  | p :: ps => by rw [txts, txts_map ps]; rfl
theorem len_app (a b : Str) : (a ++ b).length = a.length + b.length := by rw [TL.len_tl, TL.tl_append, List.length_append, ← TL.len_tl, ← TL.len_tl]
theorem two_len {u : Int} (h0 : 0 ≤ u) (h1 : u ≤ 99) : ((toString u : String) : Str).length ≤ 2 := by
  have all : ∀ n : Nat, n < 100 → ((toString (n : Int) : String) : Str).length ≤ 2 := by decide +kernel
  obtain ⟨n, rfl⟩ := Int.eq_ofNat_of_zero_le h0
  exact all n (by omega)
theorem txtL_len {l : Lk} (g : GL l) : (txtL l).length ≤ 14 := by
  have h1 := two_len g.u0 g.u1
  have h2 := two_len g.v0 g.v1
  have h3 := g.nm.hi
  have e : ("-" : Str).length = 1 := by decide +kernel
  unfold txtL
  rw [len_app, len_app, len_app, len_app, e]
  omega
theorem join_len (s : Str) : ∀ ys : List Str, (Txt.join s ys).length ≤ (ys.map (·.length)).sum + ys.length * s.length
  | [] => by
    rw [TL.len_tl, TL.join_eq, TL.tl_join]
    exact Nat.zero_le _
  | y :: ys => by
    have h := join_len s ys
    have e : (Txt.join s (y :: ys)).length ≤ y.length + s.length + (Txt.join s ys).length := by
      rw [TL.len_tl, TL.len_tl, TL.len_tl, TL.len_tl, TL.join_eq, TL.join_eq, TL.tl_join, TL.tl_join]
      cases ys with
      | nil => simp [TL.joinL]
      | cons z zs => simp [TL.joinL]; omega
    rw [List.map_cons, List.sum_cons, List.length_cons, Nat.add_mul, Nat.one_mul]
    omega
theorem sum_le {α : Type} {f : α → Nat} {k : Nat} : ∀ {ls : List α}, (∀ x ∈ ls, f x ≤ k) → (ls.map f).sum ≤ k * ls.length
  | [], _ => by simp
  | x :: ls, h => by
    have h1 := h x List.mem_cons_self
    have h2 := sum_le fun y hy => h y (List.mem_cons_of_mem _ hy)
    rw [List.map_cons, List.sum_cons, List.length_cons, Nat.mul_add, Nat.mul_one]
    omega
theorem sgn_len (k : Bool) : (sgn k).length = 3 := by cases k <;> decide +kernel
mutual
theorem txt_len : ∀ {s : Shp}, NW s → (txt s).length ≤ 4 + (17 + 8 * dep s) * siz s
  | .opn, _ => by rw [txt, show ("open" : Str).length = 4 by decide +kernel]; omega
  | .sht, _ => by rw [txt, show ("shut" : Str).length = 4 by decide +kernel]; omega
  | .lnk x, h => by
    rw [NW] at h
    have := h.hi
    rw [txt, dep, siz]; omega
  | .net ls, h => by
    rw [NW] at h
    have h1 := join_len " " (ls.map txtL)
    have h2 := sum_le (f := (·.length)) (k := 14) (ls := ls.map txtL) (fun y hy => by
      obtain ⟨l, hl, rfl⟩ := List.mem_map.mp hy
      exact txtL_len (h.2.2 l hl))
    have h3 : ls.length ≠ 0 := fun z => h.1 (List.length_eq_zero_iff.mp z)
    rw [txt, dep, siz, len_app, len_app, show ("[" : Str).length = 1 by decide +kernel, show ("]" : Str).length = 1 by decide +kernel]
    rw [show (" " : Str).length = 1 by decide +kernel] at h1
    rw [List.length_map] at h1 h2
    omega
  | .jn k ps, h => by
    rw [NW] at h
    have h1 := join_len (sgn k) (txts ps)
    have h2 := txts_len h.2
    have h3 := NWs_len h.2
    rw [txt, dep, siz, len_app, len_app, show ("(" : Str).length = 1 by decide +kernel, show (")" : Str).length = 1 by decide +kernel]
    rw [sgn_len] at h1
    have h4 : (txts ps).length = ps.length := by rw [txts_map, List.length_map]
    rw [h4] at h1
    have e : (17 + 8 * (deps ps + 1)) * sizs ps = (17 + 8 * deps ps) * sizs ps + 8 * sizs ps := by rw [Nat.mul_add, ← Nat.add_assoc, Nat.add_mul, Nat.mul_one]
    have := h.1
    rw [e]
    omega
theorem txts_len : ∀ {k : Bool} {ps : List Shp}, NWs k ps → ((txts ps).map (·.length)).sum ≤ 4 * ps.length + (17 + 8 * deps ps) * sizs ps
  | k, [], _ => by simp [txts]
  | k, p :: ps, h => by
    rw [NWs] at h
    have h1 := txt_len h.1.1
    have h2 := txts_len h.2
    rw [txts, List.map_cons, List.sum_cons, List.length_cons, deps, sizs]
    have e1 : (17 + 8 * dep p) * siz p ≤ (17 + 8 * max (dep p) (deps ps)) * siz p := Nat.mul_le_mul_right _ (by omega)
    have e2 : (17 + 8 * deps ps) * sizs ps ≤ (17 + 8 * max (dep p) (deps ps)) * sizs ps := Nat.mul_le_mul_right _ (by omega)
    rw [Nat.mul_add (17 + 8 * max (dep p) (deps ps))]
    omega
end
theorem txt_len5 {s : Shp} (h : NW s) (hs : siz s ≤ 14) (hd : dep s ≤ 5) : (txt s).length ≤ 1000 := by
  have h1 := txt_len h
  have h2 : (17 + 8 * dep s) * siz s ≤ (17 + 8 * 5) * 14 := Nat.mul_le_mul (by omega) hs
  omega
end S6

/-! M7: the law's words. -/
namespace S6
open PySem PySem.Spec PyProof.Rows L2
def AZ (x : Str) : Prop := ∀ c ∈ x.cps.toList, 97 ≤ c ∧ c ≤ 122
def wordS (s : Str) (i : Int) (k : Nat) : Str := Txt.slice s none (some i) ++ ⟨#[k]⟩ ++ Txt.slice s (some i) none
theorem cps_S (x : Str) : SX.S x.cps.toList = x := by cases x; rfl
theorem tl_app (a b : Str) : (a ++ b).cps.toList = a.cps.toList ++ b.cps.toList := TL.tl_append a b
theorem word_tl {s : Str} {i : Int} (k : Nat) (h : 0 ≤ i) : (wordS s i k).cps.toList = s.cps.toList.take i.toNat ++ [k] ++ s.cps.toList.drop i.toNat := by
  unfold wordS
  have h1 := SX.slice_to (a := s.cps.toList) h
  have h2 := SX.slice_from (a := s.cps.toList) h
  rw [cps_S] at h1 h2
  rw [h1, h2, tl_app, tl_app]
theorem len_cps (x : Str) : x.length = x.cps.toList.length := by rw [Array.length_toList]; rfl
theorem word_len {s : Str} {i : Int} (k : Nat) (h : 0 ≤ i) : (wordS s i k).length = s.length + 1 := by
  rw [len_cps, word_tl k h, len_cps s]
  simp only [List.length_append, List.length_take, List.length_drop, List.length_singleton]
  omega
theorem word_az {s : Str} {i : Int} {k : Nat} (h : 0 ≤ i) (hs : AZ s) (hk : 97 ≤ k ∧ k ≤ 122) : AZ (wordS s i k) := fun c hc => by
  rw [word_tl k h] at hc
  rcases List.mem_append.mp hc with z | z
  · rcases List.mem_append.mp z with y | y
    · exact hs c (List.mem_of_mem_take y)
    · rw [List.mem_singleton.mp y]; exact hk
  · exact hs c (List.mem_of_mem_drop z)
def barS : List Str := ["open", "shut", "net"]
def lastS (w : Str) : Str := w ++ (if w ∈ barS then ("q" : Str) else Str.empty)
theorem app_empty (w : Str) : w ++ Str.empty = w := TL.ext_tl (by rw [TL.tl_append]; exact List.append_nil _)
theorem last_ok {w : Str} (h1 : 1 ≤ w.length) (h8 : w.length ≤ 8) (hz : AZ w) : GN (lastS w) := by
  unfold lastS
  by_cases c : w ∈ barS
  · rw [if_pos c]
    have c' : w = "open" ∨ w = "shut" ∨ w = "net" := by simpa [barS] using c
    rcases c' with rfl | rfl | rfl
    · exact ⟨by decide +kernel, by decide +kernel, by decide +kernel, by decide +kernel, by decide +kernel, by decide +kernel⟩
    · exact ⟨by decide +kernel, by decide +kernel, by decide +kernel, by decide +kernel, by decide +kernel, by decide +kernel⟩
    · exact ⟨by decide +kernel, by decide +kernel, by decide +kernel, by decide +kernel, by decide +kernel, by decide +kernel⟩
  · rw [if_neg c, app_empty]
    have c' : ¬ (w = "open" ∨ w = "shut" ∨ w = "net") := by simpa [barS] using c
    exact ⟨h1, h8, hz, fun z => c' (.inl z), fun z => c' (.inr (.inl z)), fun z => c' (.inr (.inr z))⟩
end S6

/-! RE: dict(zip(xs, ys)), a text times a number. -/
namespace S6
open PySem PySem.Spec PyProof.Rows L2
def zK (ns : List Int) (ys : List V) : List (L2.Key × V) := (ns.map Sum.inl).zip ys
/-- dict(zip(xs, ys)), xs a list of ints, ys a list of as many things -/
def tDictZip (K : Frg) (ta : TA) : TE := fun σ H Q => ta σ H fun vs H1 => ∃ (a b : Addr) (ns : List Int) (ys : List V), vs = [.ref a, .ref b] ∧ SqL K H1 a (ns.map V.int) ∧ SqL K H1 b ys ∧ ns.length = ys.length ∧
  ∀ p, H1 p = none → Q (.ref p) (upd H1 p (.dK (mergeK [] (zK ns ys))))
theorem zK_vals : ∀ {ns : List Int} {ys : List V} {us vs : List Value}, Vals (ns.map V.int) us → Vals ys vs → ns.length = ys.length →
    ∃ kvs : List (L2.Key × Value), KV (zK ns ys) kvs ∧ kvs.length = us.length ∧ ∀ (i : Nat) (k v : Value), us[i]? = some k → vs[i]? = some v → ∃ k0 : L2.Key, kvs[i]? = some (k0, v) ∧ RelV (kV k0) k
  | [], [], us, vs, h1, h2, _ => by
    cases h1
    cases h2
    exact ⟨[], .nil, rfl, fun i k v e => by simp at e⟩
  | n :: ns, y :: ys, us, vs, h1, h2, hl => by
    cases h1 with
    | cons r1 h1 =>
      cases h2 with
      | cons r2 h2 =>
        obtain ⟨kvs, a1, a2, a3⟩ := zK_vals h1 h2 (by simpa using hl)
        refine ⟨(Sum.inl n, _) :: kvs, .cons ⟨rfl, r2⟩ a1, by simp [a2], fun i k v e1 e2 => ?_⟩
        cases i with
        | zero =>
          simp at e1 e2
          subst e1 e2
          exact ⟨Sum.inl n, rfl, r1⟩
        | succ i => exact a3 i k v (by simpa using e1) (by simpa using e2)
  | [], _ :: _, _, _, _, _, hl => by simp at hl
  | _ :: _, [], _, _, _, _, hl => by simp at hl
section
variable {X : Cx} {e e2 : Expr} {ta : TA} {p p2 q pos : Pos}
theorem pe_dictZip (hc : X.calm = true) (hg : Gl X "dict") (hm : X.mg "dict" = none) (hg2 : Gl X "zip") (hm2 : X.mg "zip" = none) (ha : PA X [e, e2] ta)
    (na : starEach [Expr.Call (.Name "zip" p2) [e, e2] [] q] X.env = (false, eval (.Call (.Name "zip" p2) [e, e2] [] q) X.env) :: starEach [] X.env := by rfl)
    (hs : starEach [e, e2] X.env = (false, eval e X.env) :: starEach [e2] X.env := by rfl) (hpl : (backTo q (starEach [e2] X.env)).any (·.1) = false := by rfl) :
    PE X (.Call (.Name "dict" p) [.Call (.Name "zip" p2) [e, e2] [] q] [] pos) (tDictZip X.K ta) := by
  refine ⟨fun pins s σ H Q I h => ?_⟩
  refine Call_ (ld_blt I hg hm PyProof.Rows.boot_dict ?_)
  refine PyProof.Rows.callWith_type1 (PyProof.Rows.args_cons ?_ na) na rfl
  refine Call_ (ld_blt I hg2 hm2 PyProof.Rows.boot_zip ?_)
  refine PyProof.Rows.callWith_type1 (thn (ha.run q pins s σ H _ I h) fun us s1 ⟨vs, H1, I1, r1, q1⟩ => ?_) hs hpl
  obtain ⟨a, b, ns, ys, ex, hqx, hqy, hl, q1⟩ := q1
  subst ex
  cases r1 with
  | cons r rr =>
    cases rr with
    | cons r' rr =>
      cases rr
      cases r
      cases r'
      obtain ⟨its, rv, pl1, hz1⟩ := I1.list hqx
      obtain ⟨its2, rv2, pl2, hz2⟩ := I1.list hqy
      obtain ⟨kvs, kv1, kv2, kv3⟩ := zK_vals rv rv2 hl
      have e1 : its.length = ns.length := by rw [← rv.length, List.length_map]
      have e2 : its2.length = ys.length := by rw [← rv2.length]
      refine call_zip_2 pl1.isList pl2.isList fun h' hz hTI hTO h1 h2 hsz hk => PyProof.Rows.args_nil ?_
      have D := PySem.W.ktu_apart s1.heap.objs.size a b pl1.lt pl2.lt
      refine call_dict_pairs (knd := mixKind X.prog X.w) (kvs := kvs) (PairArg.zip _ _ _ _ _ _ _ D its.toArray its2.toArray) (I1.ok.hd hc)
        ⟨hz, hTI, ⟨_, _, hTO⟩, h1, h2, pl1.isList.at fun o e => hk _ o e, pl2.isList.at fun o e => hk _ o e⟩ ⟨?_, ?_⟩ ?_ fun h'' tk hd' hk' => ?_
      · rw [kv2, List.size_toArray, List.size_toArray]; omega
      · intro i k v hik
        obtain ⟨k0, x1, x2⟩ := kv3 i k v (by simpa using hik.1) (by simpa using hik.2)
        exact ⟨k0, x1, kV_is x2⟩
      · rw [List.size_toArray, List.size_toArray]
        rw [List.length_map] at hz1
        omega
      · have hkeep : ∀ b' o, s1.heap.get? b' = some o → h''.get? b' = some o := fun b' o e => by
          have hlt := Heap.lt_size e
          refine hk' b' o (fun z => ?_) (hk b' o e)
          simp only [List.mem_cons, List.not_mem_nil, or_false] at z
          rcases z with z | z | z | z
          · exact absurd hlt (by rw [z]; exact Nat.not_lt_of_le (Nat.le_add_right _ _))
          · exact absurd hlt (by rw [z]; exact Nat.not_lt_of_le (Nat.le_add_right _ _))
          · exact absurd hlt (by rw [z]; exact Nat.lt_irrefl _)
          · exact absurd hlt (by rw [z]; exact Nat.not_lt_of_le (Nat.le_add_right _ _))
        have hm0 : (h'.objs.size == sysModules) = false := beq_eq_false_iff_ne.mpr (Nat.ne_of_gt (by rw [hsz]; exact Nat.lt_of_lt_of_le I1.big (Nat.le_add_right _ _)))
        have hlen : (mergeK [] (zK ns ys)).length ≤ sizeLine := by
          refine Nat.le_trans (length_mergeK _ []) ?_
          rw [List.length_nil, Nat.zero_add]
          unfold zK
          rw [List.length_zip, List.length_map]
          rw [List.length_map] at hz1
          omega
        have hle : s1.heap.objs.size ≤ h'.objs.size := by rw [hsz]; omega
        exact ⟨.ref h'.objs.size, upd H1 h'.objs.size (.dK (mergeK [] (zK ns ys))), I1.laid (t' := tk) hkeep hle (show ObjOk X.prog X.w _ _ _ (.dK (mergeK [] (zK ns ys))) from ⟨hlen, hm0, merged [] kvs, KV.merge kv1 .nil, hd'⟩), rfl, q1 _ (I1.hok.fresh hle)⟩
/-- a text times 0 or 1 -/
theorem op_mul01 : OpR X (binaryOp .Mult) (fun x y H Q => ∃ t, x = .str t ∧ ((y = .int 0 ∧ Q (.str Str.empty) H) ∨ (y = .int 1 ∧ Q (.str t) H))) := by
  intro pins s σ H x y v u Q I rx ry h
  obtain ⟨t, rfl, h⟩ := h
  obtain ⟨tk, rfl⟩ := rx
  rcases h with ⟨rfl, q⟩ | ⟨rfl, q⟩
  · obtain ⟨tk2, rfl⟩ := ry
    exact PySem.P.mul_str_none (by decide) (by decide) ⟨.str Str.empty, H, I.tok _, ⟨_, rfl⟩, q⟩
  · obtain ⟨tk2, rfl⟩ := ry
    refine PySem.P.mul_str (by decide) (fun _ h => by simp at h) (fun _ h => by simp at h) ?_
    rw [if_neg (by decide), if_pos (by simp)]
    exact ⟨.str t, H, I, ⟨_, rfl⟩, q⟩
end
end S6

/-! RF: {k: v for .. in .. for .. in ..}. -/
namespace S6
open PySem PySem.Spec PyProof.Rows L2

theorem dcTurn2_out (kx vx t0 i0 t1 i1 : Expr) (ifs0 ifs1 : List Expr) (scope : Scope) (pos : Pos) (it acc : Value) (env : Env) :
    compTurn (.DictComp kx vx [⟨t0, i0, ifs0, 0⟩, ⟨t1, i1, ifs1, 0⟩] scope pos) 0 it acc env = (do
      standAt i0.pos
      match ← pyNext it with
      | none => pure (.done .next)
      | some v =>
        letOwnedTupleGo t0 it v
        assign t0 env v
        let mut ok := true
        for c in ifs0 do
          if ok then ok ← isTrue c env (eval c env)
        if ok then
          let x ← eval i1 env
          standAt i1.pos
          let x ← foldedSetIterable i1 env x
          let _ ← runOwn (.compStart (.DictComp kx vx [⟨t0, i0, ifs0, 0⟩, ⟨t1, i1, ifs1, 0⟩] scope pos) 1 (← holding [x] (pyIter x)) acc env) env
        again (.compLoop (.DictComp kx vx [⟨t0, i0, ifs0, 0⟩, ⟨t1, i1, ifs1, 0⟩] scope pos) 0 it acc env)) := by rfl
theorem dcTurn2_in (kx vx t0 i0 t1 i1 : Expr) (ifs0 ifs1 : List Expr) (scope : Scope) (pos : Pos) (it : Value) (D : Addr) (env : Env) :
    compTurn (.DictComp kx vx [⟨t0, i0, ifs0, 0⟩, ⟨t1, i1, ifs1, 0⟩] scope pos) 1 it (.ref D) env = (do
      standAt i1.pos
      match ← pyNext it with
      | none => pure (.done .next)
      | some v =>
        letOwnedTupleGo t1 it v
        assign t1 env v
        let mut ok := true
        for c in ifs1 do
          if ok then ok ← isTrue c env (eval c env)
        if ok then
          (do
            let kv ← eval kx env
            let vv ← holding [kv] (eval vx env)
            standAt { kx.pos with endLine := vx.pos.endLine, endCol := vx.pos.endCol }
            holding [kv, vv] (dictSet D kv vv))
        again (.compLoop (.DictComp kx vx [⟨t0, i0, ifs0, 0⟩, ⟨t1, i1, ifs1, 0⟩] scope pos) 1 it (.ref D) env)) := by rfl

section
variable {prog : Program} {w : World} {A : Around} {R : Result → Shared → Prop} {s : Shared} {kx vx t0 i0 t1 i1 : Expr} {ifs0 ifs1 : List Expr} {scope : Scope} {pos : Pos} {it acc : Value} {env : Env}
/-- the loop of the first clause -/
theorem dcLoop2_out (hs : ∀ x, foldedSetIterable i1 env x = pure x) (I : Nat → Shared → Prop)
    (turn : ∀ n s, I n s → wpAny (model prog w) A (pyNext it) (fun r s₁ => match r with
      | none => R (.ok .next) s₁
      | some v => wpAny (model prog w) A (letOwnedTupleGo t0 it v) (fun _ s₁' => wpAny (model prog w) A (assign t0 env v) (fun _ s₂ =>
          wpAny (model prog w) A (forIn ifs0 true fun c r => if r = true then do let ok ← isTrue c env (eval c env); pure (ForInStep.yield ok) else pure (ForInStep.yield r)) (fun ok s₃ =>
            if ok = true then wpAny (model prog w) A (eval i1 env) (fun x s₄ => wpAny (model prog w) A (pyIter x) (fun it1 s₅ =>
              codeAny (model prog w) A (.compStart (.DictComp kx vx [⟨t0, i0, ifs0, 0⟩, ⟨t1, i1, ifs1, 0⟩] scope pos) 1 it1 acc env) (fun r s' => match r with
                | .ok _ => ∃ m, m < n ∧ I m s'
                | .error _ => False) s₅) (notedBy (model prog w) A env fun e s' => R (.error e) s') s₄) (notedBy (model prog w) A env fun e s' => R (.error e) s') s₃
            else ∃ m, m < n ∧ I m s₃) (notedBy (model prog w) A env fun e s' => R (.error e) s') s₂) (notedBy (model prog w) A env fun e s' => R (.error e) s') s₁') (notedBy (model prog w) A env fun e s' => R (.error e) s') s₁) (notedBy (model prog w) A env fun e s' => R (.error e) s') s)
    (n : Nat) (h : I n s) :
    codeAny (model prog w) A (.compLoop (.DictComp kx vx [⟨t0, i0, ifs0, 0⟩, ⟨t1, i1, ifs1, 0⟩] scope pos) 0 it acc env) R s := by
  refine codeAny_loop rfl I (fun n s hI => ?_) n h
  show wpAny _ A ((compTurn (.DictComp kx vx [⟨t0, i0, ifs0, 0⟩, ⟨t1, i1, ifs1, 0⟩] scope pos) 0 it acc env).onRaise (fun x => do noteFrame x env; theTreesLotGoes x)) _ _ s
  refine wpAny_noted ?_
  rw [dcTurn2_out]
  refine wpAny_bind (wpAny_standAt (wpAny_bind (wpAny_mono (turn n s hI) (fun r s₁ h₁ => ?_) fun _ _ h' => h')))
  cases r with
  | none => exact wpAny_pure h₁
  | some v =>
    refine wpAny_bind (wpAny_mono h₁ (fun _ s₁' h₁' => ?_) fun _ _ h' => h')
    refine wpAny_bind (wpAny_mono h₁' (fun _ s₂ h₂ => wpAny_bind (wpAny_mono h₂ (fun ok s₃ h₃ => ?_) fun _ _ h' => h')) fun _ _ h' => h')
    cases ok with
    | false => exact wpAny_pure ⟨rfl, h₃⟩
    | true =>
      refine wpAny_bind (wpAny_mono h₃ (fun x s₄ h₄ => ?_) fun _ _ h' => h')
      refine wpAny_bind (wpAny_standAt (wpAny_bind (wpAny_of_eq (hs x) (wpAny_bind (wpAny_holding (wpAny_mono h₄ (fun it1 s₅ h₅ => ?_) fun _ _ h' => h'))))))
      refine wpAny_bind (wpAny_runOwn ?_)
      rw [Around.mark_none]
      refine codeAny_mono h₅ fun r s' hr => ?_
      cases r with
      | ok f =>
        first
          | exact wpAny_pure ⟨rfl, hr⟩
          | exact wpAny_bind (wpAny_pure (wpAny_pure ⟨rfl, hr⟩))
      | error e => exact hr.elim
/-- the loop of the second -/
theorem dcLoop2_in {D : Addr} (I : Nat → Shared → Prop)
    (turn : ∀ n s, I n s → wpAny (model prog w) A (pyNext it) (fun r s₁ => match r with
      | none => R (.ok .next) s₁
      | some v => wpAny (model prog w) A (letOwnedTupleGo t1 it v) (fun _ s₁' => wpAny (model prog w) A (assign t1 env v) (fun _ s₂ =>
          wpAny (model prog w) A (forIn ifs1 true fun c r => if r = true then do let ok ← isTrue c env (eval c env); pure (ForInStep.yield ok) else pure (ForInStep.yield r)) (fun ok s₃ =>
            if ok = true then wpAny (model prog w) A (eval kx env) (fun kv s₄ => wpAny (model prog w) A (eval vx env) (fun vv s₅ =>
              wpAny (model prog w) A (dictSet D kv vv) (fun _ s₆ => ∃ m, m < n ∧ I m s₆) (notedBy (model prog w) A env fun e s' => R (.error e) s') s₅) (notedBy (model prog w) A env fun e s' => R (.error e) s') s₄) (notedBy (model prog w) A env fun e s' => R (.error e) s') s₃
            else ∃ m, m < n ∧ I m s₃) (notedBy (model prog w) A env fun e s' => R (.error e) s') s₂) (notedBy (model prog w) A env fun e s' => R (.error e) s') s₁') (notedBy (model prog w) A env fun e s' => R (.error e) s') s₁) (notedBy (model prog w) A env fun e s' => R (.error e) s') s)
    (n : Nat) (h : I n s) :
    codeAny (model prog w) A (.compLoop (.DictComp kx vx [⟨t0, i0, ifs0, 0⟩, ⟨t1, i1, ifs1, 0⟩] scope pos) 1 it (.ref D) env) R s := by
  refine codeAny_loop rfl I (fun n s hI => ?_) n h
  show wpAny _ A ((compTurn (.DictComp kx vx [⟨t0, i0, ifs0, 0⟩, ⟨t1, i1, ifs1, 0⟩] scope pos) 1 it (.ref D) env).onRaise (fun x => do noteFrame x env; theTreesLotGoes x)) _ _ s
  refine wpAny_noted ?_
  rw [dcTurn2_in]
  refine wpAny_bind (wpAny_standAt (wpAny_bind (wpAny_mono (turn n s hI) (fun r s₁ h₁ => ?_) fun _ _ h' => h')))
  cases r with
  | none => exact wpAny_pure h₁
  | some v =>
    refine wpAny_bind (wpAny_mono h₁ (fun _ s₁' h₁' => ?_) fun _ _ h' => h')
    refine wpAny_bind (wpAny_mono h₁' (fun _ s₂ h₂ => wpAny_bind (wpAny_mono h₂ (fun ok s₃ h₃ => ?_) fun _ _ h' => h')) fun _ _ h' => h')
    cases ok with
    | false => exact wpAny_pure ⟨rfl, h₃⟩
    | true =>
      exact wpAny_bind (wpAny_bind (wpAny_mono h₃ (fun kv s₄ h₄ => wpAny_bind (wpAny_holding (wpAny_mono h₄ (fun vv s₅ h₅ => wpAny_bind (wpAny_standAt (wpAny_holding (wpAny_mono h₅ (fun _ s₆ h₆ => wpAny_pure ⟨rfl, h₆⟩) fun _ _ h' => h')))) fun _ _ h' => h'))) fun _ _ h' => h'))
/-- the second clause's start -/
theorem dcStart1_ok (h0 : codeAny (model prog w) A (.compLoop (.DictComp kx vx [⟨t0, i0, ifs0, 0⟩, ⟨t1, i1, ifs1, 0⟩] scope pos) 1 it acc env) R s)
    (h : wpAny (model prog w) A (pyIter it) (fun it' s' => codeAny (model prog w) A (.compLoop (.DictComp kx vx [⟨t0, i0, ifs0, 0⟩, ⟨t1, i1, ifs1, 0⟩] scope pos) 1 it' acc env) R s')
      (notedBy (model prog w) A env fun x s' => R (.error x) s') s) :
    codeAny (model prog w) A (.compStart (.DictComp kx vx [⟨t0, i0, ifs0, 0⟩, ⟨t1, i1, ifs1, 0⟩] scope pos) 1 it acc env) R s := by
  refine codeAny_of_tree ?_
  show wpAny _ _ ((compStart (.DictComp kx vx [⟨t0, i0, ifs0, 0⟩, ⟨t1, i1, ifs1, 0⟩] scope pos) 1 it acc env).onRaise (fun x => do noteFrame x env; standAt theWindowsPlace)) _ _ s
  refine wpAny_notedAt ?_
  unfold compStart
  show wpAny _ _ (ask >>= _) _ _ s
  refine wpAny_bind (wpAny_askSetting (wpAny_ite ?_))
  split
  · first
      | exact wpAny_bind (wpAny_pure (wpAny_pure (And.intro rfl h0)))
      | exact wpAny_pure (And.intro rfl h0)
  · first
      | exact wpAny_bind (wpAny_rule (wpAny_bind (wpAny_standAt (wpAny_bind (wpAny_mono h (fun it' s' h' => wpAny_pure (And.intro rfl h')) fun _ _ x => x)))))
      | (refine wpAny_bind (wpAny_rule ?_); show wpAny _ _ (standAt i1.pos >>= _) _ _ s; exact wpAny_bind (wpAny_standAt (wpAny_bind (wpAny_mono h (fun it' s' h' => wpAny_pure (And.intro rfl h')) fun _ _ x => x))))
end

section
variable {X : Cx}
/-- [elt for tg in iter if .. for tg1 in iter1 if ..]: behind the first clause's store and tests the second source's own loop, from which Nx is reached. vs: the block's names; vs1: those of the second target -/
def tDc2 (wi : TI) (g : TG) (tt : TT) (wi1 : TI) (g1 : TG) (tt1 : TT) (tk tv : TE) (vs vs1 : List Nat) : TE := fun σ H Q => wi σ H fun J H1 => ∀ D, H1 D = none → ∃ W : Nat → Nat → Hp → Prop, (∃ m, W 0 m (upd H1 D (.dK []))) ∧ ∀ i m H, W i m H →
  (J.stop i H ∧ Q (.ref D) H) ∨ (J.go i H ∧ ∃ Nx : Hp → Prop, (∀ H', Nx H' → ∃ m', m' < m ∧ W (i + 1) m' H') ∧ ∀ x H', J.yld i H x H' → g x (wipe σ vs) H' fun σ2 H2 => wipe σ2 vs = wipe σ vs ∧ tt σ2 H2 fun b H3 =>
    if b = true then wi1 σ2 H3 fun J1 H4 => ∃ W1 : Nat → Nat → Hp → Prop, (∃ m, W1 0 m H4) ∧ ∀ j k H, W1 j k H →
      (J1.stop j H ∧ Nx H) ∨ (J1.go j H ∧ ∃ Nx1 : Hp → Prop, (∀ H', Nx1 H' → ∃ k', k' < k ∧ W1 (j + 1) k' H') ∧ ∀ x H', J1.yld j H x H' → g1 x (wipe σ2 vs1) H' fun σ3 H5 => wipe σ3 vs1 = wipe σ2 vs1 ∧ tt1 σ3 H5 fun b H6 =>
        if b = true then tk σ3 H6 fun y H7 => tv σ3 H7 fun z H8 => ∃ kvs k, y = kV k ∧ H8 D = some (.dK kvs) ∧ kvs.length < sizeLine ∧ Nx1 (upd H8 D (.dK (putK kvs k z))) else Nx1 H6)
    else Nx H3)
theorem dc2_core {pins : List (Addr × Obj)} {s : Shared} {σ : L2.St} {H : Hp} {Q : VK} {kx vx tg iter tg1 iter1 : Expr} {ifs ifs1 : List Expr} {scope : Scope} {own : List (Str × Nat)} {vs1 : List Nat} {pos pos' : Pos} {wi wi1 : TI} {g g1 : TG} {tt tt1 : TT} {tk tv : TE} {use : Option (Value → Sem Unit)} {Qf : Value → Shared → Prop}
    (hc : X.calm = true) (hN : X.N.Nodup) (I : Inv X pins σ H s) (hi : PI X tg iter wi) (ok : BlkOk X.N X.env.scope scope own) (hv : ∀ i ∈ vs1, i ∈ own.map (·.2))
    (hg : ∀ (s : Shared) (H : Hp) (C : Addr) (cl : List (Str × Addr)) (fp : List Addr), PG (X.blk s H scope (compEnvC scope cl C X.env) fp) tg g) (ht : ∀ (s : Shared) (H : Hp) (C : Addr) (cl : List (Str × Addr)) (fp : List Addr), PTs (X.blk s H scope (compEnvC scope cl C X.env) fp) ifs tt)
    (hk : ∀ (s : Shared) (H : Hp) (C : Addr) (cl : List (Str × Addr)) (fp : List Addr), PE (X.blk s H scope (compEnvC scope cl C X.env) fp) kx tk)
    (he : ∀ (s : Shared) (H : Hp) (C : Addr) (cl : List (Str × Addr)) (fp : List Addr), PE (X.blk s H scope (compEnvC scope cl C X.env) fp) vx tv) (hs : ∀ x, foldedSetIterable iter X.env x = pure x)
    (hi1 : ∀ (s : Shared) (H : Hp) (C : Addr) (cl : List (Str × Addr)) (fp : List Addr), PI (X.blk s H scope (compEnvC scope cl C X.env) fp) tg1 iter1 wi1)
    (hg1 : ∀ (s : Shared) (H : Hp) (C : Addr) (cl : List (Str × Addr)) (fp : List Addr), PG (X.blk s H scope (compEnvC scope cl C X.env) fp) tg1 g1)
    (ht1 : ∀ (s : Shared) (H : Hp) (C : Addr) (cl : List (Str × Addr)) (fp : List Addr), PTs (X.blk s H scope (compEnvC scope cl C X.env) fp) ifs1 tt1)
    (hs1 : ∀ env x, foldedSetIterable iter1 env x = pure x)
    (h : tDc2 wi g tt wi1 g1 tt1 tk tv (own.map (·.2)) vs1 σ H Q)
    (hRR : ∀ D C s' m H', Inv X pins σ H' s' → Q (.ref D) H' → s'.heap.Ns C m → FpOk X pins H' C → compPost (model X.prog X.w) X.A X.xe use Qf (.ref D) C (.ok .next) s') :
    wpAny (model X.prog X.w) X.A (comprehension (.DictComp kx vx [⟨tg, iter, ifs, 0⟩, ⟨tg1, iter1, ifs1, 0⟩] scope pos) scope X.env pos' newDict false (eval iter X.env) use) Qf X.xe s := by
  have hfree : ∀ y ∈ scope.names, y.2 = .free → ∃ c, X.env.cells.lookup y.1 = some c := fun y hy e => by
    rcases ok.free y hy e with k | k
    · exact I.ok.has _ (.inl k)
    · exact I.ok.has _ (.inr k)
  refine wpAny_comprehension_free (use := use) rfl hs (closure_ok hfree) ok.kind (fun y hy e => by rw [ok.uniq y hy, e])
    (thn (hi.run pins s σ H _ I h) fun xv s1 hx => thn hx fun itv s2 h2 => ?_)
  obtain ⟨it, fp, tn, J, H2, e, I2, T, st2, f2, q⟩ := h2
  subst e
  refine wpAny_newObj_type (newEnv_comp ?_)
  generalize hD : s2.heap.objs.size = D
  have hDn : H2 D = none := I2.hok.fresh (Nat.le_of_eq hD)
  obtain ⟨W, ⟨m0, w0⟩, turn⟩ := q D hDn
  -- the new list
  generalize hs3 : ({ s2 with heap := s2.heap.push { cls := .type "dict", data := .dict #[] } } : Shared) = s3
  have I3 : Inv X pins σ (upd H2 D (.dK [])) s3 := by
    rw [← hs3]
    refine I2.laid (t' := s2.toks) (fun b o e => Heap.get?_push_of_some _ e) (Nat.le_of_eq hD) ?_
    rw [← hD]
    exact dk_empty s2.heap I2.big
  have h3 : s3.heap = s2.heap.push { cls := .type "dict", data := .dict #[] } := by rw [← hs3]
  have sz : ∀ b ∈ fp, b < s2.heap.objs.size := fun b hb => by
    obtain ⟨o, e, _⟩ := T.obj _ _ st2 b hb
    exact Heap.lt_size e
  have f3 : ∀ b ∈ fp, FpOk X pins (upd H2 D (.dK [])) b ∧ b < s3.heap.objs.size := fun b hb => by
    have hlt := sz b hb
    refine ⟨⟨?_, (f2 b hb).2⟩, by rw [h3, Heap.size_push]; exact Nat.lt_succ_of_lt hlt⟩
    rw [upd_ne (by rw [← hD]; exact Nat.ne_of_lt hlt)]
    exact (f2 b hb).1
  have st3 : tn 0 s3.heap := T.keep _ _ _ st2 fun b _ o e => by rw [h3]; exact Heap.get?_push_of_some _ e
  have I4 := block_start I3 ok hN f3
  have pg := hg s3 (upd H2 D (.dK [])) s3.heap.objs.size (cellsFrom (s3.heap.objs.size + 1) scope.names (cloFrom X.env.cells scope.names [])) fp
  have pt := ht s3 (upd H2 D (.dK [])) s3.heap.objs.size (cellsFrom (s3.heap.objs.size + 1) scope.names (cloFrom X.env.cells scope.names [])) fp
  have pk := hk s3 (upd H2 D (.dK [])) s3.heap.objs.size (cellsFrom (s3.heap.objs.size + 1) scope.names (cloFrom X.env.cells scope.names [])) fp
  have pe := he s3 (upd H2 D (.dK [])) s3.heap.objs.size (cellsFrom (s3.heap.objs.size + 1) scope.names (cloFrom X.env.cells scope.names [])) fp
  have pi1 := hi1 s3 (upd H2 D (.dK [])) s3.heap.objs.size (cellsFrom (s3.heap.objs.size + 1) scope.names (cloFrom X.env.cells scope.names [])) fp
  have pg1 := hg1 s3 (upd H2 D (.dK [])) s3.heap.objs.size (cellsFrom (s3.heap.objs.size + 1) scope.names (cloFrom X.env.cells scope.names [])) fp
  have pt1 := ht1 s3 (upd H2 D (.dK [])) s3.heap.objs.size (cellsFrom (s3.heap.objs.size + 1) scope.names (cloFrom X.env.cells scope.names [])) fp
  show codeAny _ _ (.compStart (.DictComp kx vx [⟨tg, iter, ifs, 0⟩, ⟨tg1, iter1, ifs1, 0⟩] scope pos) 0 (.ref it) (.ref D) (compEnvC scope (cellsFrom (s3.heap.objs.size + 1) scope.names (cloFrom X.env.cells scope.names [])) s3.heap.objs.size X.env)) (compPost (model X.prog X.w) X.A X.xe use Qf (.ref D) s3.heap.objs.size) { s3 with heap := pushCells (s3.heap.push { cls := .type "dict", data := .dict #[] }) scope.names }
  have nfp : ∀ b ∈ fp, (upd H2 D (.dK [])) b = none := fun b hb => (f3 b hb).1.1
  generalize hce : compEnvC scope (cellsFrom (s3.heap.objs.size + 1) scope.names (cloFrom X.env.cells scope.names [])) s3.heap.objs.size X.env = ce at I4 pg pt pk pe pi1 pg1 pt1 ⊢
  have cL : ce.locals = s3.heap.objs.size := by subst hce; rfl
  generalize hH3 : upd H2 D (.dK []) = H3 at I3 I4 pg pt pk pe pi1 pg1 pt1 w0 nfp f3
  generalize hs4 : ({ s3 with heap := pushCells (s3.heap.push { cls := .type "dict", data := .dict #[] }) scope.names } : Shared) = s4 at I4 ⊢
  have st4 : tn 0 s4.heap := T.keep _ _ _ st3 fun b _ o e => by rw [← hs4]; exact pushCells_keeps _ _ _ _ (Heap.get?_push_of_some _ e)
  have stat : ∀ {σ' : L2.St} {H' : Hp} {s' : Shared}, Inv (X.blk s3 H3 scope ce fp) [] σ' H' s' → (∀ b ∈ fp, H' b = none) → ∀ b ∈ fp, FpOk (X.blk s3 H3 scope ce fp) [] H' b := fun {σ' H' s'} I' hn b hb =>
    ⟨hn b hb, (I'.ok.exf b hb).1, I'.ok.exfs b hb, .inl hb, fun x c e => (I'.ok.exf b hb).2 x c e, fun p hp => absurd (show p ∈ ([] : List (Addr × Obj)) ++ [] from hp) (by simp)⟩
  have loop : codeAny (model X.prog X.w) X.A (.compLoop (.DictComp kx vx [⟨tg, iter, ifs, 0⟩, ⟨tg1, iter1, ifs1, 0⟩] scope pos) 0 (.ref it) (.ref D) ce) (compPost (model X.prog X.w) X.A X.xe use Qf (.ref D) s3.heap.objs.size) s4 := by
    refine dcLoop2_out (hs1 ce) (fun n s' => ∃ i H', Inv (X.blk s3 H3 scope ce fp) [] (wipe σ (own.map (·.2))) H' s' ∧ tn i s'.heap ∧ (∀ b ∈ fp, H' b = none) ∧ W i n H') ?_ m0 ⟨0, H3, I4, st4, nfp, w0⟩
    rintro n s5 ⟨i, H5, I5, st5, n5, w5⟩
    rcases turn i n H5 w5 with ⟨stop, qq⟩ | ⟨go, Nx, hNx, step⟩
    · have td := T.done (X.blk s3 H3 scope ce fp) rfl rfl rfl hc i [] s5 _ H5 (fun _ _ => False) I5 (stat I5 n5) st5 stop
      refine thnF td fun r s6 ⟨hr, I6⟩ => ?_
      subst hr
      -- back in the def's context
      have I7 : Inv X pins σ H5 s6 := I3.call' (ch := fp) I6.os I6.base I6.hok I6.bare fun b hb => ⟨(f3 b hb).1.2.2.2.1, (f3 b hb).1.2.1, (f3 b hb).1.2.2.2.2.1, (f3 b hb).1.2.2.2.2.2⟩
      have nC : H5 s3.heap.objs.size = none := by
        have z : H5 ce.locals = none := I6.free
        rw [cL] at z
        exact z
      obtain ⟨m, hn, _⟩ := I6.loc
      have hn : s6.heap.Ns ce.locals m := hn
      rw [cL] at hn
      exact hRR D s3.heap.objs.size s6 m H5 I7 qq hn (I3.fpOk (Nat.le_refl _) nC)
    · have ti := T.item (X.blk s3 H3 scope ce fp) rfl rfl rfl hc i [] s5 _ H5 (fun _ _ => False) I5 (stat I5 n5) st5 go
      refine thnF ti fun r s6 ⟨u, hr, h6⟩ => ?_
      subst hr
      refine thnF h6 fun _ s7 ⟨x, H7, I7, r7, y7, st7, n7⟩ => ?_
      have I7' := I7.pinned (stat I7 n7) (T.obj _ _ st7)
      refine thnF (pg.run _ s7 _ H7 x u _ I7' r7 (step x H7 y7)) fun _ s8 ⟨σ8, H8, I8, hw8, q8⟩ => ?_
      refine thnF (pt.run _ s8 σ8 H8 _ I8 q8) fun b s9 ⟨H9, I9, q9⟩ => ?_
      -- the turn's end, from any slots that know what the block knew at its start
      have fin : ∀ {σ9 : L2.St} {s' : Shared} {H' : Hp}, Inv (X.blk s3 H3 scope ce fp) ([] ++ pinsAt fp s7.heap) σ9 H' s' → (wipe σ (own.map (·.2))).length = σ9.length → (∀ (j : Nat) v, (wipe σ (own.map (·.2)))[j]? = some (some v) → σ9[j]? = some (some v)) → Nx H' →
          ∃ m, m < n ∧ ∃ i H', Inv (X.blk s3 H3 scope ce fp) [] (wipe σ (own.map (·.2))) H' s' ∧ tn i s'.heap ∧ (∀ b ∈ fp, H' b = none) ∧ W i m H' := fun {σ9 s' H'} I' hl hk nx => by
        obtain ⟨m', hm, w'⟩ := hNx H' nx
        have pin' : ∀ b ∈ fp, ∀ o, s7.heap.get? b = some o → s'.heap.get? b = some o ∧ H' b = none := fun b hb o e =>
          let z := I'.pin (b, o) (List.mem_append_right _ (List.mem_append_right _ (mem_pinsAt hb e)))
          ⟨z.1, z.2.1⟩
        refine ⟨m', hm, i + 1, H', (I'.unpinned (pins := [])).weak hl hk, T.keep _ _ _ st7 fun b hb o e => (pin' b hb o e).1, fun b hb => ?_, w'⟩
        obtain ⟨o, e, _⟩ := T.obj _ _ st7 b hb
        exact (pin' b hb o e).2
      have hl8 : (wipe σ (own.map (·.2))).length = σ8.length := by rw [← hw8, wipe_length]
      have hk8 : ∀ (j : Nat) v, (wipe σ (own.map (·.2)))[j]? = some (some v) → σ8[j]? = some (some v) := fun j v e => by
        rw [← hw8] at e
        exact (wipe_some e).1
      have hk9 : ∀ (j : Nat) v, (wipe σ (own.map (·.2)))[j]? = some (some v) → (wipe σ8 vs1)[j]? = some (some v) := fun j v e => by
        rw [← hw8] at e
        obtain ⟨e1, e2⟩ := wipe_some e
        rw [wipe_out fun z => e2 (hv j z)]
        exact e1
      cases b with
      | false =>
        simp only [Bool.false_eq_true, if_false] at q9 ⊢
        exact fin I9 hl8 hk8 q9
      | true =>
        simp only [if_true] at q9 ⊢
        refine thnF (pi1.run _ s9 σ8 H9 _ I9 q9) fun xv s10 hx => thnF hx fun itv s11 h11 => ?_
        obtain ⟨it1, fp1, tn1, J1, H11, e1, I11, T1, st11, f11, W1, ⟨m1, w1⟩, turn1⟩ := h11
        subst e1
        -- the inner loop
        have stat1 : ∀ {H' : Hp}, (∀ b ∈ fp1, H' b = none) → ∀ b ∈ fp1, FpOk (X.blk s3 H3 scope ce fp) ([] ++ pinsAt fp s7.heap) H' b := fun hn b hb => ⟨hn b hb, (f11 b hb).2⟩
        have loop1 : codeAny (model X.prog X.w) X.A (.compLoop (.DictComp kx vx [⟨tg, iter, ifs, 0⟩, ⟨tg1, iter1, ifs1, 0⟩] scope pos) 1 (.ref it1) (.ref D) ce)
            (fun r s' => match r with
              | .ok _ => ∃ m, m < n ∧ ∃ i H', Inv (X.blk s3 H3 scope ce fp) [] (wipe σ (own.map (·.2))) H' s' ∧ tn i s'.heap ∧ (∀ b ∈ fp, H' b = none) ∧ W i m H'
              | .error _ => False) s11 := by
          refine dcLoop2_in (fun k s' => ∃ j H', Inv (X.blk s3 H3 scope ce fp) ([] ++ pinsAt fp s7.heap) (wipe σ8 vs1) H' s' ∧ tn1 j s'.heap ∧ (∀ b ∈ fp1, H' b = none) ∧ W1 j k H') ?_ m1 ⟨0, H11, I11.weak (wipe_length _ _) (fun j v e => (wipe_some e).1), st11, fun b hb => (f11 b hb).1, w1⟩
          rintro k s12 ⟨j, H12, I12, st12, n12, w12⟩
          rcases turn1 j k H12 w12 with ⟨stop1, nx1⟩ | ⟨go1, Nx1, hNx1, step1⟩
          · refine thnF (T1.done (X.blk s3 H3 scope ce fp) rfl rfl rfl hc j _ s12 (wipe σ8 vs1) H12 (fun _ _ => False) I12 (stat1 n12) st12 stop1) fun r s13 ⟨hr, I13⟩ => ?_
            subst hr
            exact fin I13 (hl8.trans (wipe_length σ8 vs1).symm) hk9 nx1
          · refine thnF (T1.item (X.blk s3 H3 scope ce fp) rfl rfl rfl hc j _ s12 (wipe σ8 vs1) H12 (fun _ _ => False) I12 (stat1 n12) st12 go1) fun r s13 ⟨u1, hr, h13⟩ => ?_
            subst hr
            refine thnF h13 fun _ s14 ⟨x1, H14, I14, r14, y14, st14, n14⟩ => ?_
            have I14' := I14.pinned (stat1 n14) (T1.obj _ _ st14)
            refine thnF (pg1.run _ s14 (wipe σ8 vs1) H14 x1 u1 _ I14' r14 (step1 x1 H14 y14)) fun _ s15 ⟨σ15, H15, I15, hw15, q15⟩ => ?_
            refine thnF (pt1.run _ s15 σ15 H15 _ I15 q15) fun b1 s16 ⟨H16, I16, q16⟩ => ?_
            have fin1 : ∀ {s' : Shared} {H' : Hp}, Inv (X.blk s3 H3 scope ce fp) (([] ++ pinsAt fp s7.heap) ++ pinsAt fp1 s14.heap) σ15 H' s' → Nx1 H' → ∃ m, m < k ∧ ∃ j H', Inv (X.blk s3 H3 scope ce fp) ([] ++ pinsAt fp s7.heap) (wipe σ8 vs1) H' s' ∧ tn1 j s'.heap ∧ (∀ b ∈ fp1, H' b = none) ∧ W1 j m H' := fun {s' H'} I' nx => by
              obtain ⟨m', hm, w'⟩ := hNx1 H' nx
              have pin' : ∀ b ∈ fp1, ∀ o, s14.heap.get? b = some o → s'.heap.get? b = some o ∧ H' b = none := fun b hb o e =>
                let z := I'.pin (b, o) (List.mem_append_right _ (List.mem_append_right _ (mem_pinsAt hb e)))
                ⟨z.1, z.2.1⟩
              refine ⟨m', hm, j + 1, H', I'.unpinned.weak (by rw [← hw15, wipe_length]) (fun j v e => by rw [← hw15] at e; exact (wipe_some e).1), T1.keep _ _ _ st14 fun b hb o e => (pin' b hb o e).1, fun b hb => ?_, w'⟩
              obtain ⟨o, e, _⟩ := T1.obj _ _ st14 b hb
              exact (pin' b hb o e).2
            cases b1 with
            | false =>
              simp only [Bool.false_eq_true, if_false] at q16 ⊢
              exact fin1 I16 q16
            | true =>
              simp only [if_true] at q16 ⊢
              refine thnF (pk.run _ s16 σ15 H16 _ I16 q16) fun z0 s17 ⟨yk, H17, I17, r17, q17⟩ => ?_
              refine thnF (pe.run _ s17 σ15 H17 _ I17 q17) fun z s18 ⟨yv, H18, I18, r18, kvs, k0, ek, hD18, hz18, nx⟩ => ?_
              subst ek
              exact d_dictSet (X := X.blk s3 H3 scope ce fp) I18 hD18 hz18 r17 r18 fun s19 I19 => fin1 I19 nx
        exact dcStart1_ok loop1 (T1.self X.A 0 _ _ _ st11 loop1)
  exact codeAny_compStart_dict loop (T.self X.A 0 _ _ _ st4 loop)
/-- as a value -/
theorem pe_dc2 {kx vx tg iter tg1 iter1 : Expr} {ifs ifs1 : List Expr} {scope : Scope} {own : List (Str × Nat)} {vs1 : List Nat} {pos : Pos} {wi wi1 : TI} {g g1 : TG} {tt tt1 : TT} {tk tv : TE} (hc : X.calm = true) (hN : X.N.Nodup) (hi : PI X tg iter wi) (ok : BlkOk X.N X.env.scope scope own) (hv : ∀ i ∈ vs1, i ∈ own.map (·.2))
    (hg : ∀ (s : Shared) (H : Hp) (C : Addr) (cl : List (Str × Addr)) (fp : List Addr), PG (X.blk s H scope (compEnvC scope cl C X.env) fp) tg g) (ht : ∀ (s : Shared) (H : Hp) (C : Addr) (cl : List (Str × Addr)) (fp : List Addr), PTs (X.blk s H scope (compEnvC scope cl C X.env) fp) ifs tt)
    (hi1 : ∀ (s : Shared) (H : Hp) (C : Addr) (cl : List (Str × Addr)) (fp : List Addr), PI (X.blk s H scope (compEnvC scope cl C X.env) fp) tg1 iter1 wi1)
    (hg1 : ∀ (s : Shared) (H : Hp) (C : Addr) (cl : List (Str × Addr)) (fp : List Addr), PG (X.blk s H scope (compEnvC scope cl C X.env) fp) tg1 g1) (ht1 : ∀ (s : Shared) (H : Hp) (C : Addr) (cl : List (Str × Addr)) (fp : List Addr), PTs (X.blk s H scope (compEnvC scope cl C X.env) fp) ifs1 tt1)
    (hk : ∀ (s : Shared) (H : Hp) (C : Addr) (cl : List (Str × Addr)) (fp : List Addr), PE (X.blk s H scope (compEnvC scope cl C X.env) fp) kx tk)
    (he : ∀ (s : Shared) (H : Hp) (C : Addr) (cl : List (Str × Addr)) (fp : List Addr), PE (X.blk s H scope (compEnvC scope cl C X.env) fp) vx tv) (hs : ∀ x, foldedSetIterable iter X.env x = pure x := by intro _; rfl) (hs1 : ∀ env x, foldedSetIterable iter1 env x = pure x := by intro _ _; rfl) :
    PE X (.DictComp kx vx [⟨tg, iter, ifs, 0⟩, ⟨tg1, iter1, ifs1, 0⟩] scope pos) (tDc2 wi g tt wi1 g1 tt1 tk tv (own.map (·.2)) vs1) := by
  refine ⟨fun pins s σ H Q I h => ?_⟩
  rw [arm_eval_DictComp]
  refine dc2_core hc hN I hi ok hv hg ht hk he hs hi1 hg1 ht1 hs1 h fun D C s' m H' I' q hn f => ⟨m, hn, fun h'' sb => ?_⟩
  obtain ⟨f0, f1, f2, f3, f4, f5⟩ := f
  exact ⟨.ref D, H', I'.turned (t' := s'.toks) (fun b o hb e => (sb.2 b hb).trans e) f0 f1 f3 f4 f5, rfl, q⟩
end
end S6

/-! DE4: isinstance, all, chains, membership, slices, ranges; lists that grow. -/
namespace S6
open PySem PySem.Spec PyProof.Rows L2
/-- the type of data -/
def tyD : PyData → String
  | .none => "NoneType"
  | .bool _ => "bool"
  | .int _ => "int"
  | .str _ => "str"
  | .list _ => "list"
  | .tuple _ => "tuple"
  | .dict _ => "dict"
def isDc : PyData → Bool
  | .dict _ => true
  | _ => false
theorem tyx_tup {K : Frg} {H : Hp} {a : Addr} {xs : List V} (h : SqT K H a xs) : TyX K H (.ref a) (.type "tuple") := by
  rcases h with h | ⟨o, its, n, hk, hc, _⟩
  · rcases h with h | ⟨o, h⟩
    · exact .base (.tup h)
    · exact .fTuple h
  · exact .kTuple hk hc
theorem Da.tyx {K : Frg} {H : Hp} {v : V} {d : PyData} (h : Da K H v d) (n : isDc d = false) : TyX K H v (.type (tyD d)) := by
  cases h with
  | web _ _ => cases n
  | non => exact .base .non
  | bl b => exact .base (.bl b)
  | int i => exact .base (.int i)
  | str x => exact .base (.str x)
  | lst ha hs => exact .base (.lst ha)
  | tup ha hs => exact tyx_tup ha
section
variable {X : Cx} {σ : L2.St} {M : List Addr} {H0 : Hp} {e a b c : Expr} {d : PyData} {pos p q1 q2 q3 : Pos} {ds : List PyData}
theorem ed_isi {T : Str} {t : String} {r : Bool} (hm : X.mg "isinstance" = none) (hm2 : X.mg T = none) (hT : bootBuiltins T = some (.type t)) (ha : ED X σ M H0 a d) (hk : kitB (tyD d) t = some r) (hnd : isDc d = false := by rfl) (hg : Gl X "isinstance" := by rfl) (hg2 : Gl X T := by rfl)
    (hn : T ≠ "__name__" := by decide) (hd : (T == ("__debug__" : Str)) = false := by decide)
    (he : starEach [a, .Name T q1] X.env = (false, eval a X.env) :: starEach [.Name T q1] X.env := by rfl) (he2 : starEach [Expr.Name T q1] X.env = (false, eval (.Name T q1) X.env) :: starEach [] X.env := by rfl) (hpl : (backTo pos (starEach [Expr.Name T q1] X.env)).any (·.1) = false := by rfl) :
    ED X σ M H0 (.Call (.Name "isinstance" p) [a, .Name T q1] [] pos) (.bool r) := fun H s =>
  ew_of (pe_callB call_isi hg hm (by decide +kernel) (pa_cons pe_w (pa_cons (pe_bltn hg2 hm2 hT (v := .ty t) rfl hn hd) pa_nil he2) he) (he := he) (hpl := hpl)) ((ha H s).mono fun v H1 ⟨g, z⟩ => ⟨v, .ty t, _, _, r, rfl, .ty t, z.up.tyx hnd, kit_ty hk, g, .bl _⟩)
/-- isinstance(x, (list, tuple)) of a list or a tuple -/
theorem ed_isiLT {kk : Nat} (hm : X.mg "isinstance" = none) (hml : X.mg "list" = none) (hmt : X.mg "tuple" = none) (ha : ED X σ M H0 a d) (ht : tyD d = "list" ∨ tyD d = "tuple") (hg : Gl X "isinstance" := by rfl) (hgl : Gl X "list" := by rfl) (hgt : Gl X "tuple" := by rfl)
    (he : starEach [a, .Tuple [.Name "list" q1, .Name "tuple" q2] kk q3] X.env = (false, eval a X.env) :: starEach [.Tuple [.Name "list" q1, .Name "tuple" q2] kk q3] X.env := by rfl)
    (he2 : starEach [Expr.Tuple [.Name "list" q1, .Name "tuple" q2] kk q3] X.env = (false, eval (.Tuple [.Name "list" q1, .Name "tuple" q2] kk q3) X.env) :: starEach [] X.env := by rfl) (hpl : (backTo pos (starEach [Expr.Tuple [.Name "list" q1, .Name "tuple" q2] kk q3] X.env)).any (·.1) = false := by rfl)
    (he3 : starEach [Expr.Name "list" q1, .Name "tuple" q2] X.env = (false, eval (.Name "list" q1) X.env) :: starEach [.Name "tuple" q2] X.env := by rfl) (he4 : starEach [Expr.Name "tuple" q2] X.env = (false, eval (.Name "tuple" q2) X.env) :: starEach [] X.env := by rfl) :
    ED X σ M H0 (.Call (.Name "isinstance" p) [a, .Tuple [.Name "list" q1, .Name "tuple" q2] kk q3] [] pos) (.bool true) := fun H s =>
  ew_of (pe_callB call_isiT hg hm (by decide +kernel) (pa_cons pe_w (pa_cons (pe_tup (pa_cons (pe_bltn hgl hml (u := .type "list") (by decide +kernel) (v := .ty "list") rfl) (pa_cons (pe_bltn hgt hmt (u := .type "tuple") (by decide +kernel) (v := .ty "tuple") rfl) pa_nil he4) he3)) pa_nil he2) he) (he := he) (hpl := hpl))
    ((ha H s).mono fun v H1 ⟨g, z⟩ => ⟨by show 2 ≤ sizeLine; decide, fun t ht' => by
      refine ⟨v, t, [.ty "list", .ty "tuple"], .type (tyD d), [.type "list", .type "tuple"], true, rfl, upd_same, .cons (.ty _) (.cons (.ty _) .nil), (z.up.mono (same_new ht')).tyx (by cases d <;> first | rfl | (rcases ht with h | h <;> exact absurd h (by show ¬ (("dict" : String) = _); decide +kernel))), ?_, g.trans (same_new ht'), .bl _⟩
      rcases ht with h | h
      · rw [h]
        exact kitAny_cons (kit_ty (r := true) (by decide +kernel)) (fun z => nomatch z) fun _ => rfl
      · rw [h]
        exact kitAny_cons (kit_ty (r := false) (by decide +kernel)) (fun _ => kitAny_cons (kit_ty (r := true) (by decide +kernel)) (fun z => nomatch z) fun _ => rfl) fun z => nomatch z⟩)
/-- all(bools) -/
theorem ed_all {bs : List Bool} (hc : X.calm = true) (hm : X.mg "all" = none) (h : ED X σ M H0 a (.list (bs.map .bool))) (hg : Gl X "all" := by rfl) (na : starEach [a] X.env = (false, eval a X.env) :: starEach [] X.env := by rfl) : ED X σ M H0 (.Call (.Name "all" p) [a] [] pos) (.bool (bs.all id)) :=
  ed_blt (cr_all hc) hm (ad_cons h ad_nil na) (fun vs H Q s hd q => by
    obtain ⟨v, rfl, h1⟩ := hd.inv1
    obtain ⟨b, xs, rfl, hq, hx⟩ := h1.lst_inv
    rw [hx.bls] at hq
    exact ⟨b, bs, rfl, SqL.of (hM_sub _ _ hq), q _ _ (Same.refl _) (.bl _)⟩) (hg := hg) (he := na)
theorem ed_sum {ns : List Int} (hc : X.calm = true) (hm : X.mg "sum" = none) (h : ED X σ M H0 a (.list (ns.map .int))) (hg : Gl X "sum" := by rfl) (na : starEach [a] X.env = (false, eval a X.env) :: starEach [] X.env := by rfl) : ED X σ M H0 (.Call (.Name "sum" p) [a] [] pos) (.int ns.sum) :=
  ed_blt (cr_sum hc) hm (ad_cons h ad_nil na) (fun vs H Q s hd q => by
    obtain ⟨v, rfl, h1⟩ := hd.inv1
    obtain ⟨b, rfl, hq⟩ := h1.lstInts
    exact ⟨b, ns, rfl, SqL.of (hM_sub _ _ hq), q _ _ (Same.refl _) (.int _)⟩) (hg := hg) (he := na)
/-- a <= b <= c, ints -/
theorem ed_lele {i j k : Int} (ha : ED X σ M H0 a (.int i)) (hb : ED X σ M H0 b (.int j)) (hc : ED X σ M H0 c (.int k)) (hm : lastMarks [.LtE, .LtE] [b, c] = false := by with_unfolding_all rfl) : ED X σ M H0 (.Compare a [.LtE, .LtE] [b, c] pos) (.bool (decide (i ≤ j) && decide (j ≤ k))) := fun H s =>
  ew_of (pe_chain op_le op_le pe_w pe_w pe_w hm) ((ha H s).mono fun x H1 ⟨g1, d1⟩ => (hb H1 (s.trans g1)).mono fun y H2 ⟨g2, d2⟩ => by
    refine ⟨i, j, d1.int_inv, d2.int_inv, decide (i ≤ j), rfl, ?_⟩
    by_cases h : decide (i ≤ j) = true
    · rw [if_pos h]
      refine (hc H2 (s.trans (g1.trans g2))).mono fun z H3 ⟨g3, d3⟩ => ⟨j, k, d2.int_inv, d3.int_inv, g1.trans (g2.trans g3), ?_⟩
      rw [h, Bool.true_and]
      exact .bl _
    · rw [if_neg h]
      have h' : decide (i ≤ j) = false := Bool.eq_false_iff.mpr h
      rw [h', Bool.false_and]
      exact ⟨g1.trans g2, .bl _⟩)
/-! membership of flat things -/
theorem inV_str {x : Str} : ∀ (xs : List Str), inV (.str x) (xs.map V.str) = decide (x ∈ xs)
  | [] => rfl
  | y :: ys => by
    show (eqV (.str y) (.str x) || inV (.str x) (ys.map V.str)) = _
    rw [inV_str ys]
    show ((y == x) || decide (x ∈ ys)) = _
    by_cases h : y = x
    · subst h; simp
    · have h' : ¬ x = y := fun z => h z.symm
      simp [h, h']
theorem inV_int {x : Int} : ∀ (xs : List Int), inV (.int x) (xs.map V.int) = decide (x ∈ xs)
  | [] => rfl
  | y :: ys => by
    show (eqV (.int y) (.int x) || inV (.int x) (ys.map V.int)) = _
    rw [inV_int ys]
    show ((y == x) || decide (x ∈ ys)) = _
    by_cases h : y = x
    · subst h; simp
    · have h' : ¬ x = y := fun z => h z.symm
      simp [h, h']
theorem flat_str (xs : List Str) : (xs.map V.str).all flatV = true := by rw [List.all_map]; exact List.all_eq_true.mpr fun _ _ => rfl
theorem flat_int (xs : List Int) : (xs.map V.int).all flatV = true := by rw [List.all_map]; exact List.all_eq_true.mpr fun _ _ => rfl
/-- a list or a tuple of texts, of ints -/
def sqS (xs : List Str) (d : PyData) : Prop := d = .list (xs.map .str) ∨ d = .tuple (xs.map .str)
def sqI (xs : List Int) (d : PyData) : Prop := d = .list (xs.map .int) ∨ d = .tuple (xs.map .int)
theorem sqS_at {K : Frg} {H : Hp} {v : V} {xs : List Str} {d : PyData} (h : Da K H v d) (q : sqS xs d) : ∃ a, v = .ref a ∧ (SqL K H a (xs.map V.str) ∨ SqT K H a (xs.map V.str)) := by
  rcases q with rfl | rfl
  · obtain ⟨a, e, h⟩ := h.lstStrs; exact ⟨a, e, .inl (SqL.of h)⟩
  · obtain ⟨a, e, h⟩ := h.tupStrs; exact ⟨a, e, .inr h⟩
theorem sqI_at {K : Frg} {H : Hp} {v : V} {xs : List Int} {d : PyData} (h : Da K H v d) (q : sqI xs d) : ∃ a, v = .ref a ∧ (SqL K H a (xs.map V.int) ∨ SqT K H a (xs.map V.int)) := by
  rcases q with rfl | rfl
  · obtain ⟨a, e, h⟩ := h.lstInts; exact ⟨a, e, .inl (SqL.of h)⟩
  · obtain ⟨a, e, h⟩ := h.tupInts; exact ⟨a, e, .inr h⟩
theorem rd_inS {x : Str} {xs : List Str} {Q : VK} {H : Hp} {u v : V} {neg : Bool} (h1 : Da X.K (hM M H) u (.str x)) (h2 : Da X.K (hM M H) v d) (hq : sqS xs d) (q : Out X M H (.bool (if neg then !decide (x ∈ xs) else decide (x ∈ xs))) Q) : rIn X.K neg u v H Q := by
  rw [h1.str_inv]
  obtain ⟨a, rfl, h⟩ := sqS_at h2.up hq
  refine ⟨a, _, rfl, h, rfl, flat_str xs, q _ _ (Same.refl _) ?_⟩
  rw [inV_str]
  exact .bl _
theorem rd_inI {x : Int} {xs : List Int} {Q : VK} {H : Hp} {u v : V} {neg : Bool} (h1 : Da X.K (hM M H) u (.int x)) (h2 : Da X.K (hM M H) v d) (hq : sqI xs d) (q : Out X M H (.bool (if neg then !decide (x ∈ xs) else decide (x ∈ xs))) Q) : rIn X.K neg u v H Q := by
  rw [h1.int_inv]
  obtain ⟨a, rfl, h⟩ := sqI_at h2.up hq
  refine ⟨a, _, rfl, h, rfl, flat_int xs, q _ _ (Same.refl _) ?_⟩
  rw [inV_int]
  exact .bl _
section
variable {x : Str} {xs : List Str} {i : Int} {ns : List Int}
theorem td_inS (ha : ED X σ M H0 a (.str x)) (hb : ED X σ M H0 b d) (hq : sqS xs d) (hm : behindInMarks .In b = false := by rfl) : TD X σ H0 (.Compare a [.In] [b] pos) (decide (x ∈ xs)) := td_cmp op_in_seq ha hb (fun _ _ _ _ _ h1 h2 q => rd_inS h1 h2 hq q) hm
theorem td_ninS (ha : ED X σ M H0 a (.str x)) (hb : ED X σ M H0 b d) (hq : sqS xs d) (hm : behindInMarks .NotIn b = false := by rfl) : TD X σ H0 (.Compare a [.NotIn] [b] pos) (!decide (x ∈ xs)) := td_cmp op_notIn_seq ha hb (fun _ _ _ _ _ h1 h2 q => rd_inS h1 h2 hq q) hm
theorem ed_inS (ha : ED X σ M H0 a (.str x)) (hb : ED X σ M H0 b d) (hq : sqS xs d) (hm : behindInMarks .In b = false := by rfl) : ED X σ M H0 (.Compare a [.In] [b] pos) (.bool (decide (x ∈ xs))) := ed_cmp op_in_seq ha hb (fun _ _ _ _ _ h1 h2 q => rd_inS h1 h2 hq q) hm
theorem ed_inI (ha : ED X σ M H0 a (.int i)) (hb : ED X σ M H0 b d) (hq : sqI ns d) (hm : behindInMarks .In b = false := by rfl) : ED X σ M H0 (.Compare a [.In] [b] pos) (.bool (decide (i ∈ ns))) := ed_cmp op_in_seq ha hb (fun _ _ _ _ _ h1 h2 q => rd_inI h1 h2 hq q) hm
theorem ed_ninI (ha : ED X σ M H0 a (.int i)) (hb : ED X σ M H0 b d) (hq : sqI ns d) (hm : behindInMarks .NotIn b = false := by rfl) : ED X σ M H0 (.Compare a [.NotIn] [b] pos) (.bool (!decide (i ∈ ns))) := ed_cmp op_notIn_seq ha hb (fun _ _ _ _ _ h1 h2 q => rd_inI h1 h2 hq q) hm
theorem td_inI (ha : ED X σ M H0 a (.int i)) (hb : ED X σ M H0 b d) (hq : sqI ns d) (hm : behindInMarks .In b = false := by rfl) : TD X σ H0 (.Compare a [.In] [b] pos) (decide (i ∈ ns)) := td_cmp op_in_seq ha hb (fun _ _ _ _ _ h1 h2 q => rd_inI h1 h2 hq q) hm
theorem td_ninI (ha : ED X σ M H0 a (.int i)) (hb : ED X σ M H0 b d) (hq : sqI ns d) (hm : behindInMarks .NotIn b = false := by rfl) : TD X σ H0 (.Compare a [.NotIn] [b] pos) (!decide (i ∈ ns)) := td_cmp op_notIn_seq ha hb (fun _ _ _ _ _ h1 h2 q => rd_inI h1 h2 hq q) hm
/-- a sign in a text -/
theorem ed_inSign {k : Nat} (ha : ED X σ M H0 a (.str ⟨#[k]⟩)) (hb : ED X σ M H0 b (.str x)) (hm : behindInMarks .In b = false := by rfl) : ED X σ M H0 (.Compare a [.In] [b] pos) (.bool (decide (k ∈ x.cps.toList))) :=
  ed_cmp op_in_sign ha hb (fun _ _ _ _ _ h1 h2 q => ⟨k, x, h1.str_inv, h2.str_inv, q _ _ (Same.refl _) (.bl _)⟩) hm
/-- the signs of a text -/
theorem src_str {tg : Expr} (h : ED X σ M H0 a (.str x)) : Src X tg σ M H0 a ((x.cps.toList).map fun k => .str ⟨#[k]⟩) := by
  refine ⟨_, pi_str pe_w, fun H R s q => (h H s).mono fun v H1 ⟨g, z⟩ => ?_⟩
  obtain rfl := z.str_inv
  refine ⟨x, rfl, q _ H1 g ?_⟩
  rw [List.length_map, Array.length_toList]
  refine (walk_str (z := x)).mono (fun _ _ => trivial) fun i H' u H'' hi _ y => ?_
  obtain ⟨rfl, k, hk, rfl⟩ := y
  refine ⟨Same.refl _, fun M' d l' g' hd => ?_⟩
  rw [List.getElem?_map, Array.getElem?_toList, hk] at hd
  cases hd
  exact .str _
end
/-- list(range(n, m)) -/
theorem ed_rangeL2 {i j : Int} (l : Lv M H0) (hc : X.calm = true) (hm : X.mg "list" = none) (hm2 : X.mg "range" = none) (ha : ED X σ M H0 a (.int i)) (hb : ED X σ M H0 b (.int j)) (h0 : 0 ≤ i) (h1 : i ≤ 1000) (h2 : 0 ≤ j) (h3 : j ≤ 1000) (hg : Gl X "list" := by rfl) (hg2 : Gl X "range" := by rfl)
    (na : starEach [a, b] X.env = (false, eval a X.env) :: starEach [b] X.env := by rfl) (nb : starEach [b] X.env = (false, eval b X.env) :: starEach [] X.env := by rfl) (hp : (backTo q1 (starEach [b] X.env)).any (·.1) = false := by rfl)
    (nc : starEach [Expr.Call (.Name "range" p) [a, b] [] q1] X.env = (false, eval (.Call (.Name "range" p) [a, b] [] q1) X.env) :: starEach [] X.env := by rfl) : ED X σ M H0 (.Call (.Name "list" q2) [.Call (.Name "range" p) [a, b] [] q1] [] pos) (.list ((upFrom i (j - i).toNat).map .int)) := fun H s =>
  ew_of (pe_listRg hc hg hm (prg_2 hg2 hm2 pe_w pe_w na nb hp) nc) ((ha H s).mono fun x H1 ⟨g1, d1⟩ => (hb H1 (s.trans g1)).mono fun y H2 ⟨g2, d2⟩ => by
    refine ⟨i, j, d1.int_inv, d2.int_inv, RgOk.of_le h0 (by omega) (by omega) h2, fun t ht => ⟨g1.trans (g2.trans (same_new ht)), ?_⟩⟩
    have e : rgV i j = (upFrom i (j - i).toNat).map V.int := by unfold rgV upFrom; rw [List.map_map]; rfl
    rw [e]
    exact da_lst (l.same (s.trans (g1.trans g2))) ht (.ofInts _))
end
/-! ### lists in slots that grow -/
section
variable {X : Cx} {σ : L2.St} {M : List Addr} {H : Hp} {D : Ends} {rest : List Stmt} {o e : Expr} {d : PyData} {p apos pos spos : Pos} {a : Addr} {xs : List V} {x : Str}
/-- what must be seen of x.m(e), m a method of lists -/
structure MOk (X : Cx) (x m : Str) (e : Expr) (p apos pos spos : Pos) : Prop where
  hs : Vis X.env.scope x
  hb : (x == ("__debug__" : Str)) = false
  hb2 : (x == ("__classdict__" : Str)) = false
  he : starEach [e] X.env = (false, eval e X.env) :: starEach [] X.env
  hpl : (backTo pos (starEach ([] : List Expr) X.env)).any (·.1) = false
  hbase : attributeBase (.Name x p) m X.env (eval (.Name x p) X.env) = eval (.Name x p) X.env
  hfew : ((backTo pos (starEach [e] X.env)).all (fun x => !x.1) && (backToKw pos (keywordEach [] X.env)).all (fun x => x.1.isSome) && decide ([e].length + ([] : List Keyword).length + (if ([] : List Keyword).isEmpty then 0 else 1) < 30)) = true
  hline : (apos.endLine == pos.line) = true
  hsw : swapsWith (.Call (.Attribute (.Name x p) m apos) [e] [] pos) none spos.line X.env = pure false
theorem mOk_by {m : Str} (hs : Vis X.env.scope x := by first | exact Or.inl rfl | exact Or.inr (Or.inl rfl) | exact Or.inr (Or.inr rfl)) (hb : (x == ("__debug__" : Str)) = false := by decide) (hb2 : (x == ("__classdict__" : Str)) = false := by decide)
    (he : starEach [e] X.env = (false, eval e X.env) :: starEach [] X.env := by rfl) (hpl : (backTo pos (starEach ([] : List Expr) X.env)).any (·.1) = false := by rfl) (hbase : attributeBase (.Name x p) m X.env (eval (.Name x p) X.env) = eval (.Name x p) X.env := by rfl)
    (hfew : ((backTo pos (starEach [e] X.env)).all (fun x => !x.1) && (backToKw pos (keywordEach [] X.env)).all (fun x => x.1.isSome) && decide ([e].length + ([] : List Keyword).length + (if ([] : List Keyword).isEmpty then 0 else 1) < 30)) = true := by rfl)
    (hline : (apos.endLine == pos.line) = true := by rfl) (hsw : swapsWith (.Call (.Attribute (.Name x p) m apos) [e] [] pos) none spos.line X.env = pure false := by rfl) : MOk X x m e p apos pos spos := ⟨hs, hb, hb2, he, hpl, hbase, hfew, hline, hsw⟩
/-- x.append(e), x the list at a, which is left out -/
theorem sw_append (i : Nat) (k : MOk X x "append" e p apos pos spos) (hv : σ[i]? = some (some (.ref a))) (ha : H a = some (.lst xs)) (hM0 : a ∈ M) (hz : xs.length < sizeLine) (h : ED X σ M H e d)
    (q : ∀ v H', Same H H' → Da X.K (hM M (upd H' a (.lst (xs ++ [v])))) v d → SW X rest D σ (upd H' a (.lst (xs ++ [v])))) (hN : X.N[i]? = some x := by rfl) :
    SW X (.Expr (.Call (.Attribute (.Name x p) "append" apos) [e] [] pos) spos :: rest) D σ H := by
  refine sw_1 (ps_expr (pe_bm PySem.F.plainAttrs_list PySem.F.slot_list_append PySem.F.type_list_append mt_append (pv i hN k.hs k.hb k.hb2) (pa_cons pe_w pa_nil k.he) k.hbase k.hfew k.hline k.he k.hpl) k.hsw) ?_
  refine ⟨.ref a, hv, .inl ⟨rfl, _, SqL.of ha⟩, (h H (Same.refl H)).mono fun v H' ⟨g, z⟩ => ⟨a, _, v, rfl, rfl, g _ _ ha, hz, q v H' g ?_⟩⟩
  rw [hM_upd hM0]
  exact z
/-- x.extend(e), e a list -/
theorem sw_extendL {ds : List PyData} (i : Nat) (k : MOk X x "extend" e p apos pos spos) (hv : σ[i]? = some (some (.ref a))) (ha : H a = some (.lst xs)) (hM0 : a ∈ M) (hz : xs.length + ds.length ≤ sizeLine) (h : ED X σ M H e (.list ds))
    (q : ∀ ys H', Same H H' → DaAll X.K (hM M (upd H' a (.lst (xs ++ ys)))) ys ds → SW X rest D σ (upd H' a (.lst (xs ++ ys)))) (hN : X.N[i]? = some x := by rfl) :
    SW X (.Expr (.Call (.Attribute (.Name x p) "extend" apos) [e] [] pos) spos :: rest) D σ H := by
  refine sw_1 (ps_expr (pe_bm PySem.F.plainAttrs_list PySem.F.slot_list_extend PySem.F.type_list_extend mt_extend (pv i hN k.hs k.hb k.hb2) (pa_cons pe_w pa_nil k.he) k.hbase k.hfew k.hline k.he k.hpl) k.hsw) ?_
  refine ⟨.ref a, hv, .inl ⟨rfl, _, SqL.of ha⟩, (h H (Same.refl H)).mono fun v H' ⟨g, z⟩ => ?_⟩
  obtain ⟨b, ys, rfl, hq, hy⟩ := z.lst_inv
  refine ⟨a, b, _, ys, rfl, rfl, g _ _ ha, hM_sub _ _ hq, by rw [hy.len]; exact hz, q ys H' g ?_⟩
  rw [hM_upd hM0]
  exact hy
/-- x.extend(e), e a tuple -/
theorem sw_extendT {ds : List PyData} (i : Nat) (k : MOk X x "extend" e p apos pos spos) (hv : σ[i]? = some (some (.ref a))) (ha : H a = some (.lst xs)) (hM0 : a ∈ M) (hz : xs.length + ds.length ≤ sizeLine) (h : ED X σ M H e (.tuple ds))
    (q : ∀ ys H', Same H H' → DaAll X.K (hM M (upd H' a (.lst (xs ++ ys)))) ys ds → SW X rest D σ (upd H' a (.lst (xs ++ ys)))) (hN : X.N[i]? = some x := by rfl) :
    SW X (.Expr (.Call (.Attribute (.Name x p) "extend" apos) [e] [] pos) spos :: rest) D σ H := by
  refine sw_1 (ps_expr (pe_bm PySem.F.plainAttrs_list PySem.F.slot_list_extend PySem.F.type_list_extend mt_extT (pv i hN k.hs k.hb k.hb2) (pa_cons pe_w pa_nil k.he) k.hbase k.hfew k.hline k.he k.hpl) k.hsw) ?_
  refine ⟨.ref a, hv, .inl ⟨rfl, _, SqL.of ha⟩, (h H (Same.refl H)).mono fun v H' ⟨g, z⟩ => ?_⟩
  obtain ⟨b, ys, rfl, hq, hy⟩ := z.tup_inv
  refine ⟨a, b, _, ys, rfl, rfl, g _ _ ha, hq.ext hM_sub, by rw [hy.len]; exact hz, q ys H' g ?_⟩
  rw [hM_upd hM0]
  exact hy
/-- what stands at a list that was left out, from now on -/
theorem da_at {ds : List PyData} (ha : H a = some (.lst xs)) (hn : a ∉ M) (h : DaAll X.K (hM (a :: M) H) xs ds) : Da X.K (hM M H) (.ref a) (.list ds) := da_lst_at ha hn h
/-- a new empty list in a slot -/
theorem sw_new (i : Nat) (nd : X.N.Nodup) (q : ∀ a, H a = none → SW X rest D (σ.set i (some (.ref a))) (upd H a (.lst []))) (hi : X.N[i]? = some x := by rfl) (hx : Loc X.env.scope x := by first | exact Or.inl rfl | exact Or.inr rfl)
    (hs : swapsWith (.List [] apos) (some (.Name x p)) pos.line X.env = pure false := by rfl) (hf : X.fn x = true ∨ X.env.scope.names.lookup x = some .local := by first | exact .inl rfl | exact .inr rfl) : SW X (.Assign [.Name x p] (.List [] apos) pos :: rest) D σ H :=
  sw_1 (ps_set (i := i) nd hi hx (pe_lst pa_nil) hs hf) ⟨Nat.zero_le _, fun a ha => q a ha⟩
end
end S6

/-! DE5: stores into two names, x += n. -/
namespace S6
open PySem PySem.Spec PyProof.Rows L2
section
variable {X : Cx} {σ : L2.St} {M : List Addr} {H : Hp} {D : Ends} {rest : List Stmt} {e : Expr} {d d2 : PyData} {pos : Pos} {x y : Str}
/-- x, y = e (a pair) -/
theorem sw_two {px py pt : Pos} {kt : Nat} (i j : Nat) (hc : X.calm = true) (h1 : PG X (.Name x px) (gName i)) (h2 : PG X (.Name y py) (gName j)) (h : ED X σ M H e (.tuple [d, d2]))
    (q : ∀ v v2 H', Same H H' → Da X.K (hM M H') v d → Da X.K (hM M H') v2 d2 → SW X rest D ((σ.set i (some v)).set j (some v2)) H')
    (hs : swapsWithSole [.Tuple [.Name x px, .Name y py] kt pt] e pos.line X.env = pure false := by rfl) (hw : swappedStores [.Tuple [.Name x px, .Name y py] kt pt] e X.env = pure none := by rfl)
    (ha : (assignEach [.Tuple [.Name x px, .Name y py] kt pt] X.env).map (·.2) = [assign (.Tuple [.Name x px, .Name y py] kt pt) X.env] := by rfl) : SW X (.Assign [.Tuple [.Name x px, .Name y py] kt pt] e pos :: rest) D σ H :=
  sw_1 (ps_asg pe_w (pg2 hc i j h1 h2) hs hw ha) (h.at fun v H' g z => (tg_2 (K := X.K) (i := i) (j := j)).run M H' v _ [d, d2] σ _ z ⟨rfl, rfl⟩ fun vs hl hv => by
    obtain ⟨v1, v2, rfl, a1, a2⟩ := hv.inv2
    exact q v1 v2 H' g a1 a2)
/-- x, y = a, b (two local names) -/
theorem sw_par {a b : Expr} {px py pt pt2 : Pos} {kt k2 : Nat} (i j : Nat) (hc : X.calm = true) (nd : X.N.Nodup) (hij : i ≠ j) (h : AD X σ M H [a, b] [d, d2])
    (q : ∀ v v2 H', Same H H' → Da X.K (hM M H') v d → Da X.K (hM M H') v2 d2 → SW X rest D ((σ.set i (some v)).set j (some v2)) H') (hi : X.N[i]? = some x := by rfl) (hj : X.N[j]? = some y := by rfl)
    (hx : X.env.scope.names.lookup x = some .local := by rfl) (hy : X.env.scope.names.lookup y = some .local := by rfl) (hw : swappedStores [.Tuple [.Name x px, .Name y py] kt pt] (.Tuple [a, b] k2 pt2) X.env = pure (some [x, y]) := by rfl)
    (hs : swapsWithSole [.Tuple [.Name x px, .Name y py] kt pt] (.Tuple [a, b] k2 pt2) pos.line X.env = pure false := by rfl) : SW X (.Assign [.Tuple [.Name x px, .Name y py] kt pt] (.Tuple [a, b] k2 pt2) pos :: rest) D σ H :=
  sw_1 (ps_par hc nd hi hj hij hx hy pa_w hw hs) ((h H (Same.refl H)).mono fun vs H' ⟨g, z⟩ => by
    obtain ⟨v1, v2, rfl, a1, a2⟩ := z.inv2
    exact ⟨v1, v2, rfl, q v1 v2 H' g a1 a2⟩)
/-- x += e, ints -/
theorem sw_addI {n k : Int} {p : Pos} (i : Nat) (nd : X.N.Nodup) (hv : σ[i]? = some (some (.int n))) (h : ED X σ M H e (.int k)) (q : ∀ H', Same H H' → SW X rest D (σ.set i (some (.int (n + k)))) H')
    (hi : X.N[i]? = some x := by rfl) (hx : Loc X.env.scope x := by first | exact Or.inl rfl | exact Or.inr rfl) (hf : X.fn x = true ∨ X.env.scope.names.lookup x = some .local := by first | exact .inl rfl | exact .inr rfl) : SW X (.AugAssign (.Name x p) .Add e pos :: rest) D σ H :=
  sw_1 (ps_aug (i := i) nd hi hx pe_w ip_add hf) ⟨.int n, hv, h.at fun v H' g z => by
    have e := z.int_inv
    subst e
    exact ⟨n, k, rfl, rfl, q H' g⟩⟩
end
end S6

/-! DE6: lists added, dicts looked up, slices. -/
namespace S6
open PySem PySem.Spec PyProof.Rows L2
section
variable {X : Cx} {σ : L2.St} {M : List Addr} {H0 H : Hp} {e a b : Expr} {d : PyData} {pos : Pos} {D : Ends} {rest : List Stmt}
theorem ed_cat {ds es : List PyData} (l : Lv M H0) (ha : ED X σ M H0 a (.list ds)) (hb : ED X σ M H0 b (.list es)) (hz : ds.length + es.length ≤ sizeLine) : ED X σ M H0 (.BinOp a .Add b pos) (.list (ds ++ es)) :=
  ed_op op_cat ha hb fun x y H Q s h1 h2 q => by
    obtain ⟨p, xs, rfl, hp, hx⟩ := h1.lst_inv
    obtain ⟨r, ys, rfl, hr, hy⟩ := h2.lst_inv
    exact ⟨p, r, xs, ys, rfl, rfl, hM_sub _ _ hp, hM_sub _ _ hr, by rw [hx.len, hy.len]; exact hz, fun t ht => q _ _ (same_new ht) (da_lst (l.same s) ht (hx.append hy))⟩
/-- numbers[u] -/
theorem ed_dget {p : Addr} {kvs : List (L2.Key × V)} {u : Int} {v : V} (hu : X.A.units + 1 < cLine) (ha : EV X σ H0 a fun _ x => x = .ref p) (hp : H0 p = some (.dK kvs)) (he : ED X σ M H0 e (.int u)) (hv : valV kvs (Sum.inl u) = some v) (hd : Da X.K (hM M H0) v d) (hs : NoSl e := by exact fun _ _ => rfl) :
    ED X σ M H0 (.Subscript a e pos) d := fun H s =>
  ew_of (pe_dget hu pe_w pe_w hs) ((ha H s).mono fun x H1 ⟨g1, ex⟩ => (he H1 (s.trans g1)).mono fun y H2 ⟨g2, z⟩ => by
    subst ex
    have hp2 := g2 _ _ (g1 _ _ (s _ _ hp))
    rw [z.int_inv]
    exact ⟨p, v, rfl, .inl ⟨kvs, Sum.inl u, .inl hp2, rfl, hv.symm⟩, g1.trans g2, hd.mono (same_hM (s.trans (g1.trans g2)))⟩)
/-- x = dict(zip(a, b)), ints -/
theorem sw_dictZip {js vals : List Int} {x : Str} {p0 p2 q2 p3 spos : Pos} (i : Nat) (hc : X.calm = true) (nd : X.N.Nodup) (hm : X.mg "dict" = none) (hm2 : X.mg "zip" = none) (h : AD X σ M H [a, b] [.list (js.map .int), .list (vals.map .int)]) (hl : js.length = vals.length)
    (q : ∀ p H', Same H H' → H' p = none → SW X rest D (σ.set i (some (.ref p))) (upd H' p (.dK (mergeK [] (zK js (vals.map V.int)))))) (hi : X.N[i]? = some x := by rfl) (hx : Loc X.env.scope x := by first | exact Or.inl rfl | exact Or.inr rfl)
    (hs : swapsWith (.Call (.Name "dict" p2) [.Call (.Name "zip" p3) [a, b] [] q2] [] pos) (some (.Name x p0)) spos.line X.env = pure false := by rfl) (hf : X.fn x = true ∨ X.env.scope.names.lookup x = some .local := by first | exact .inl rfl | exact .inr rfl) (hg : Gl X "dict" := by rfl) (hg2 : Gl X "zip" := by rfl)
    (na : starEach [Expr.Call (.Name "zip" p3) [a, b] [] q2] X.env = (false, eval (.Call (.Name "zip" p3) [a, b] [] q2) X.env) :: starEach [] X.env := by rfl) (hst : starEach [a, b] X.env = (false, eval a X.env) :: starEach [b] X.env := by rfl) (hpl : (backTo q2 (starEach [b] X.env)).any (·.1) = false := by rfl) :
    SW X (.Assign [.Name x p0] (.Call (.Name "dict" p2) [.Call (.Name "zip" p3) [a, b] [] q2] [] pos) spos :: rest) D σ H :=
  sw_1 (ps_set (i := i) nd hi hx (pe_dictZip hc hg hm hg2 hm2 pa_w na hst hpl) hs hf) ((h H (Same.refl H)).mono fun vs H' ⟨g, z⟩ => by
    obtain ⟨v1, v2, rfl, a1, a2⟩ := z.inv2
    obtain ⟨r1, rfl, h1⟩ := a1.lstInts
    obtain ⟨r2, rfl, h2⟩ := a2.lstInts
    exact ⟨r1, r2, js, _, rfl, SqL.of (hM_sub _ _ h1), SqL.of (hM_sub _ _ h2), by rw [List.length_map]; exact hl, fun p hp => q p H' g hp⟩)
end
/-! ### the pairs of two lists as a dict -/
theorem zK_get {js : List Int} : ∀ {ys : List V} {acc : List (L2.Key × V)} {u : Int}, js.Nodup → js.length = ys.length → valV (mergeK acc (zK js ys)) (Sum.inl u) = if u ∈ js then ys[js.idxOf u]? else valV acc (Sum.inl u) := by
  induction js with
  | nil => intro ys acc u _ _; simp [zK, mergeK]
  | cons j js ih =>
    intro ys acc u nd hl
    match ys, hl with
    | y :: ys, hl =>
      obtain ⟨h1, h2⟩ := List.nodup_cons.mp nd
      have e : mergeK acc (zK (j :: js) (y :: ys)) = mergeK (putK acc (Sum.inl j) y) (zK js ys) := rfl
      rw [e, ih h2 (by simpa using hl), valV_put]
      by_cases hj : u = j
      · subst hj
        rw [if_neg h1, if_pos rfl, if_pos List.mem_cons_self]
        simp
      · have hj' : ¬ (Sum.inl u : L2.Key) = Sum.inl j := fun z => hj (Sum.inl.inj z)
        rw [if_neg hj']
        by_cases hm : u ∈ js
        · rw [if_pos hm, if_pos (List.mem_cons_of_mem _ hm), List.idxOf_cons, cond_eq_ite, if_neg (by simpa using fun z => hj z.symm)]
          rfl
        · rw [if_neg hm, if_neg (fun z => (List.mem_cons.mp z).elim hj hm)]
theorem ren_get {js vals : List Int} {u : Int} (nd : js.Nodup) (hl : js.length = vals.length) (h : u ∈ js) : valV (mergeK [] (zK js (vals.map V.int))) (Sum.inl u) = some (.int (ren js vals u)) := by
  rw [zK_get nd (by rw [List.length_map]; exact hl), if_pos h]
  have hi : js.idxOf u < vals.length := by rw [← hl]; exact List.idxOf_lt_length_of_mem h
  rw [List.getElem?_map, List.getElem?_eq_getElem hi]
  unfold ren
  rw [List.getD_eq_getElem?_getD, List.getElem?_eq_getElem hi]
  rfl
end S6

/-! DE7: tests with and, or. -/
namespace S6
open PySem PySem.Spec PyProof.Rows L2
section
variable {X : Cx} {σ : L2.St} {M : List Addr} {H0 : Hp} {a b : Expr} {pos : Pos} {rest : List Expr}
structure WW (X : Cx) (e : Expr) (σ : L2.St) (H : Hp) (Q : Bool → Hp → Prop) : Prop where
  run : ∀ (whole : Sem Value) (pins : List (Addr × Obj)) (s : Shared), Inv X pins σ H s → wpAny (model X.prog X.w) X.A (isTrue e X.env whole) (TP X pins σ Q) X.xe s
theorem pw_w {e : Expr} : L2.PW X e (fun σ H Q => WW X e σ H Q) := ⟨fun wh pins s σ H Q I h => h.run wh pins s I⟩
theorem ww_of {e : Expr} {t : TT} {σ : L2.St} {H : Hp} {Q : Bool → Hp → Prop} (p : L2.PW X e t) (h : t σ H Q) : WW X e σ H Q := ⟨fun wh pins s I => p.run wh pins s σ H Q I h⟩
theorem WW.mono {e : Expr} {σ : L2.St} {H : Hp} {Q Q' : Bool → Hp → Prop} (h : WW X e σ H Q) (q : ∀ v H', Q v H' → Q' v H') : WW X e σ H Q' := ⟨fun wh pins s I => thn (h.run wh pins s I) fun b s' ⟨H', J, z⟩ => ⟨H', J, q b H' z⟩⟩
/-- the answer of a chain of and, of or -/
def WD (X : Cx) (σ : L2.St) (H0 : Hp) (e : Expr) (b : Bool) : Prop := ∀ H, Same H0 H → WW X e σ H fun c H' => Same H H' ∧ c = b
variable {k m : Bool}
theorem wd_and1 (h : TD X σ H0 a k) : WD X σ H0 (.BoolOp .And [a] pos) k := fun H s => ww_of (pw_and1 pt_w) (h H s)
theorem wd_or1 (h : TD X σ H0 a k) : WD X σ H0 (.BoolOp .Or [a] pos) k := fun H s => ww_of (pw_or1 pt_w) (h H s)
theorem wd_and (h : TD X σ H0 a k) (g : k = true → WD X σ H0 (.BoolOp .And (b :: rest) pos) m) : WD X σ H0 (.BoolOp .And (a :: b :: rest) pos) (k && m) := fun H s => ww_of (pw_and pt_w pw_w) ((h H s).mono fun c H1 ⟨g1, z⟩ => by
  subst z
  cases c with
  | true =>
    rw [if_pos rfl]
    exact (g rfl H1 (s.trans g1)).mono fun c2 H2 ⟨g2, z2⟩ => ⟨g1.trans g2, by rw [z2, Bool.true_and]⟩
  | false =>
    rw [if_neg Bool.false_ne_true]
    exact ⟨g1, by rw [Bool.false_and]⟩)
theorem wd_or (h : TD X σ H0 a k) (g : k = false → WD X σ H0 (.BoolOp .Or (b :: rest) pos) m) : WD X σ H0 (.BoolOp .Or (a :: b :: rest) pos) (k || m) := fun H s => ww_of (pw_or pt_w pw_w) ((h H s).mono fun c H1 ⟨g1, z⟩ => by
  subst z
  cases c with
  | false =>
    rw [if_neg Bool.false_ne_true]
    exact (g rfl H1 (s.trans g1)).mono fun c2 H2 ⟨g2, z2⟩ => ⟨g1.trans g2, by rw [z2, Bool.false_or]⟩
  | true =>
    rw [if_pos rfl]
    exact ⟨g1, by rw [Bool.true_or]⟩)
theorem td_w (h : WD X σ H0 a k) : TD X σ H0 a k := fun H s => ⟨fun pins s' I => (h H s).run _ pins s' I⟩
/-- a and b, a or b -/
theorem td_and {p : Pos} (h : TD X σ H0 a k) (g : k = true → TD X σ H0 b m) : TD X σ H0 (.BoolOp .And [a, b] p) (k && m) := td_w (wd_and h fun z => wd_and1 (g z))
theorem td_or {p : Pos} (h : TD X σ H0 a k) (g : k = false → TD X σ H0 b m) : TD X σ H0 (.BoolOp .Or [a, b] p) (k || m) := td_w (wd_or h fun z => wd_or1 (g z))
/-- if c: .. else: .., then the rest from what both leave -/
theorem sw_ifM {D : Ends} {σ : L2.St} {H : Hp} {c : Expr} {k : Bool} {st sf rs : List Stmt} {pos : Pos} (Mid : L2.St → Hp → Prop) (h : TD X σ H c k) (h1 : k = true → ∀ H', Same H H' → SW X st { D with nx := Mid } σ H') (h2 : k = false → ∀ H', Same H H' → SW X sf { D with nx := Mid } σ H')
    (q : ∀ σ H, Mid σ H → SW X rs D σ H) : SW X (.If c st sf pos :: rs) D σ H :=
  sw_if h (fun z H' g => (h1 z H' g).mono q (fun _ _ x => x) (fun _ _ x => x) fun _ _ x => x) fun z H' g => (h2 z H' g).mono q (fun _ _ x => x) (fun _ _ x => x) fun _ _ x => x
/-- a <= b <= c as a test -/
theorem td_lele {i j l : Int} {c : Expr} (ha : ED X σ M H0 a (.int i)) (hb : ED X σ M H0 b (.int j)) (hc : ED X σ M H0 c (.int l)) (hm : lastMarks [.LtE, .LtE] [b, c] = false := by with_unfolding_all rfl) : TD X σ H0 (.Compare a [.LtE, .LtE] [b, c] pos) (decide (i ≤ j) && decide (j ≤ l)) := fun H s =>
  tw_of (pt_chain op_le op_le pe_w pe_w pe_w hm) ((ha H s).mono fun x H1 ⟨g1, d1⟩ => (hb H1 (s.trans g1)).mono fun y H2 ⟨g2, d2⟩ => by
    refine ⟨i, j, d1.int_inv, d2.int_inv, decide (i ≤ j), rfl, ?_⟩
    by_cases h : decide (i ≤ j) = true
    · rw [if_pos h]
      refine (hc H2 (s.trans (g1.trans g2))).mono fun z H3 ⟨g3, d3⟩ => ⟨j, l, d2.int_inv, d3.int_inv, _, rfl, g1.trans (g2.trans g3), ?_⟩
      rw [h, Bool.true_and]
    · rw [if_neg h]
      have h' : decide (i ≤ j) = false := Bool.eq_false_iff.mpr h
      rw [h', Bool.false_and]
      exact ⟨_, rfl, g1.trans g2, rfl⟩)
end
end S6

/-! DE8: slices, comprehensions with two fors, sorted ints. -/
namespace S6
open PySem PySem.Spec PyProof.Rows L2
section
variable {X : Cx} {σ : L2.St} {M : List Addr} {H0 : Hp} {e a b c : Expr} {d : PyData} {pos p q1 q2 q3 : Pos} {ds : List PyData}
/-! slices -/
structure OW (X : Cx) (o : Option Expr) (σ : L2.St) (H : Hp) (Q : Option Int → Hp → Prop) : Prop where
  run : ∀ (pins : List (Addr × Obj)) (s : Shared), Inv X pins σ H s → wpAny (model X.prog X.w) X.A (evalPart o X.env) (fun u s' => ∃ lo H', Inv X pins σ H' s' ∧ IsPart u lo ∧ Q lo H') X.xe s
/-- a slice's end -/
def OD (X : Cx) (σ : L2.St) (H0 : Hp) (o : Option Expr) (lo : Option Int) : Prop := ∃ t : TO, PO X o t ∧ ∀ H Q, Same H0 H → (∀ H', Same H H' → Q lo H') → t σ H Q
theorem od_none : OD X σ H0 none none := ⟨_, po_none, fun H Q _ q => q H (Same.refl H)⟩
theorem od_some {i : Int} (h : ED X σ M H0 e (.int i)) : OD X σ H0 (some e) (some i) := ⟨_, po_some pe_w, fun H Q s q => (h H s).mono fun v H' ⟨g, z⟩ => ⟨i, z.int_inv, q H' g⟩⟩
theorem DaAll.cut {K : Frg} {H : Hp} {xs : List V} (h : DaAll K H xs ds) (lo hi : Option Int) : DaAll K H (cutV xs lo hi) ((ds.drop (HT.sIx ds.length 0 lo)).take (HT.sIx ds.length ds.length hi - HT.sIx ds.length 0 lo)) := by
  unfold cutV
  rw [h.len]
  exact (h.drop _).take _
theorem ed_slT {lo hi : Option Expr} {i j : Option Int} {es : List PyData} (l : Lv M H0) (h : ED X σ M H0 e (.tuple ds)) (h1 : OD X σ H0 lo i) (h2 : OD X σ H0 hi j) (hw : ¬ (HT.sIx ds.length 0 i = 0 ∧ HT.sIx ds.length ds.length j = ds.length))
    (he : (ds.drop (HT.sIx ds.length 0 i)).take (HT.sIx ds.length ds.length j - HT.sIx ds.length 0 i) = es) : ED X σ M H0 (.Subscript e (.Slice lo hi none p) pos) (.tuple es) := fun H s => by
  obtain ⟨t1, p1, w1⟩ := h1
  obtain ⟨t2, p2, w2⟩ := h2
  refine ew_of (pe_slice sl_tup pe_w p1 p2) ((h H s).mono fun v H1 ⟨g, z⟩ => w1 _ _ (s.trans g) fun H2 g2 => w2 _ _ (s.trans (g.trans g2)) fun H3 g3 => ?_)
  obtain ⟨b, xs, rfl, hq, hx⟩ := z.tup_inv
  have gg := g2.trans g3
  refine ⟨b, xs, rfl, (hq.ext hM_sub).ext gg, by rw [hx.len]; exact hw, fun r hr => ⟨g.trans (gg.trans (same_new hr)), ?_⟩⟩
  rw [← he]
  exact da_tup (l.same (s.trans (g.trans gg))) hr ((hx.mono (same_hM gg)).cut i j)
theorem ed_slL {lo hi : Option Expr} {i j : Option Int} {es : List PyData} (l : Lv M H0) (h : ED X σ M H0 e (.list ds)) (h1 : OD X σ H0 lo i) (h2 : OD X σ H0 hi j)
    (he : (ds.drop (HT.sIx ds.length 0 i)).take (HT.sIx ds.length ds.length j - HT.sIx ds.length 0 i) = es) : ED X σ M H0 (.Subscript e (.Slice lo hi none p) pos) (.list es) := fun H s => by
  obtain ⟨t1, p1, w1⟩ := h1
  obtain ⟨t2, p2, w2⟩ := h2
  refine ew_of (pe_slice sl_list pe_w p1 p2) ((h H s).mono fun v H1 ⟨g, z⟩ => w1 _ _ (s.trans g) fun H2 g2 => w2 _ _ (s.trans (g.trans g2)) fun H3 g3 => ?_)
  obtain ⟨b, xs, rfl, hq, hx⟩ := z.lst_inv
  have gg := g2.trans g3
  refine ⟨b, xs, rfl, SqL.of (gg _ _ (hM_sub _ _ hq)), fun r hr => ⟨g.trans (gg.trans (same_new hr)), ?_⟩⟩
  rw [← he]
  exact da_lst (l.same (s.trans (g.trans gg))) hr ((hx.mono (same_hM gg)).cut i j)
theorem ed_slS {lo hi : Option Expr} {i j : Option Int} {x y : Str} (h : ED X σ M H0 e (.str x)) (h1 : OD X σ H0 lo i) (h2 : OD X σ H0 hi j) (hz : x.length ≤ sizeLine) (he : Txt.slice x i j = y) : ED X σ M H0 (.Subscript e (.Slice lo hi none p) pos) (.str y) := fun H s => by
  obtain ⟨t1, p1, w1⟩ := h1
  obtain ⟨t2, p2, w2⟩ := h2
  refine ew_of (pe_slice C8.sl_txt pe_w p1 p2) ((h H s).mono fun v H1 ⟨g, z⟩ => w1 _ _ (s.trans g) fun H2 g2 => w2 _ _ (s.trans (g.trans g2)) fun H3 g3 => ?_)
  subst he
  exact ⟨x, z.str_inv, hz, g.trans (g2.trans g3), .str _⟩
/-- t[1:] -/
theorem ed_tail (l : Lv M H0) {k : PyData} {j : Nat} (h : ED X σ M H0 e (.tuple (k :: ds))) : ED X σ M H0 (.Subscript e (.Slice (some (.Constant (.int 1) j q1)) none none p) pos) (.tuple ds) :=
  ed_slT l h (od_some (M := M) ed_int) od_none (by rw [show (some (1 : Int)) = some ((1 : Nat) : Int) from rfl, HT.sIx_nat, List.length_cons]; omega) (by
    rw [show (some (1 : Int)) = some ((1 : Nat) : Int) from rfl, HT.sIx_nat, HT.sIx_none, List.length_cons, show min 1 (ds.length + 1) = 1 by omega]
    show ds.take _ = ds
    exact List.take_of_length_le (by omega))
theorem ed_dropL (l : Lv M H0) {i : Nat} {lo : Expr} (h : ED X σ M H0 e (.list ds)) (hl : ED X σ M H0 lo (.int (i : Nat))) : ED X σ M H0 (.Subscript e (.Slice (some lo) none none p) pos) (.list (ds.drop i)) :=
  ed_slL l h (od_some hl) od_none (by
    rw [HT.sIx_nat, HT.sIx_none]
    by_cases hi : i ≤ ds.length
    · rw [show min i ds.length = i by omega]
      exact List.take_of_length_le (by rw [List.length_drop]; omega)
    · rw [List.drop_of_length_le (by omega), List.drop_of_length_le (by omega), List.take_nil])
theorem ed_takeL (l : Lv M H0) {i : Nat} {hi : Expr} (h : ED X σ M H0 e (.list ds)) (hl : ED X σ M H0 hi (.int (i : Nat))) : ED X σ M H0 (.Subscript e (.Slice none (some hi) none p) pos) (.list (ds.take i)) :=
  ed_slL l h od_none (od_some hl) (by
    rw [HT.sIx_nat, HT.sIx_none, List.drop_zero, Nat.sub_zero]
    by_cases hi : i ≤ ds.length
    · rw [show min i ds.length = i by omega]
    · rw [List.take_of_length_le (by omega), List.take_of_length_le (by omega)])
/-! bools, sorted ints -/
theorem vbl_eq {x y : Bool} : decide (V.bl x = V.bl y) = decide (x = y) := by
  by_cases h : x = y
  · rw [h, decide_eq_true rfl, decide_eq_true rfl]
  · rw [decide_eq_false h, decide_eq_false fun z => h (V.bl.inj z)]
theorem td_neB {x y : Bool} (ha : ED X σ M H0 a (.bool x)) (hb : ED X σ M H0 b (.bool y)) (hm : behindInMarks .NotEq b = false := by exact nomark _) : TD X σ H0 (.Compare a [.NotEq] [b] pos) (!decide (x = y)) := td_cmp op_ne ha hb (fun _ _ _ _ _ h1 h2 q => by
  rw [h1.bl_inv, h2.bl_inv]
  exact ⟨rfl, q _ _ (Same.refl _) (by rw [vbl_eq]; exact .bl _)⟩) hm
def srtI (l : List Int) : List Int := l.mergeSort (fun a b => decide (a ≤ b))
theorem srtI_perm (l : List Int) : (srtI l).Perm l := List.mergeSort_perm _ _
theorem srtI_pw (l : List Int) : (srtI l).Pairwise (· ≤ ·) := by
  have := List.pairwise_mergeSort (le := fun a b : Int => decide (a ≤ b)) (fun a b c h1 h2 => by
    have h1 := of_decide_eq_true h1
    have h2 := of_decide_eq_true h2
    exact decide_eq_true (by omega)) int_le_tot l
  exact this.imp fun h => of_decide_eq_true h
theorem srtI_of {l m : List Int} (q : m.Perm l) (h : m.Pairwise (· ≤ ·)) : m = srtI l :=
  List.Perm.eq_of_pairwise (le := fun a b => a ≤ b) (fun a b _ _ h1 h2 => by omega) h (srtI_pw l) (q.trans (srtI_perm l).symm)
theorem ed_sortI {xs : List Int} (l : Lv M H0) (hm : X.mg "sorted" = none) (h : ED X σ M H0 a (.list (xs.map .int))) (hg : Gl X "sorted" := by rfl) (na : starEach [a] X.env = (false, eval a X.env) :: starEach [] X.env := by rfl) : ED X σ M H0 (.Call (.Name "sorted" p) [a] [] pos) (.list ((srtI xs).map .int)) :=
  ed_blt cr_sortedI hm (ad_cons h ad_nil na) (fun vs H Q s hd q => by
    obtain ⟨v, rfl, h1⟩ := hd.inv1
    obtain ⟨b, rfl, hq⟩ := h1.lstInts
    refine ⟨b, xs, rfl, SqL.of (hM_sub _ _ hq), fun ys t hp hs ht => ?_⟩
    rw [srtI_of hp hs]
    exact q _ _ (same_new ht) (da_lst (l.same s) ht (.ofInts _))) (hg := hg) (he := na)
/-- tuple(xs): the tuple itself stands in the heap -/
theorem ev_tupI {xs : List Int} (l : Lv M H0) (hm : X.mg "tuple" = none) (h : ED X σ M H0 a (.list (xs.map .int))) (hg : Gl X "tuple" := by rfl) (na : starEach [a] X.env = (false, eval a X.env) :: starEach [] X.env := by rfl) : EV X σ H0 (.Call (.Name "tuple" p) [a] [] pos) fun H v => ∃ b, v = .ref b ∧ H b = some (.tup (xs.map V.int)) ∧ b ∉ M := fun H s =>
  ew_of (pe_callTy call_tuple_of hg hm (by decide +kernel) (pa_cons pe_w pa_nil na) (he := na)) ((h H s).mono fun v H1 ⟨g, z⟩ => by
    obtain ⟨b, rfl, hq⟩ := z.lstInts
    exact ⟨b, _, rfl, .inl ⟨SqL.of (hM_sub _ _ hq), fun t ht => ⟨g.trans (same_new ht), t, rfl, upd_same, (l.same (s.trans g)).new ht⟩⟩⟩)
end
/-! ### two fors -/
section
variable {X : Cx} {tg iter elt : Expr} {σ : L2.St} {M : List Addr} {H0 : Hp}
structure IW (X : Cx) (tg iter : Expr) (σ : L2.St) (H : Hp) (R : It → Hp → Prop) : Prop where
  run : ∀ (pins : List (Addr × Obj)) (s : Shared), Inv X pins σ H s → wpAny (model X.prog X.w) X.A (eval iter X.env) (fun v s1 => wpAny (model X.prog X.w) X.A (pyIter v) (PIE X pins σ tg R) X.xe s1) X.xe s
theorem pi_w : PI X tg iter (fun σ H R => IW X tg iter σ H R) := ⟨fun pins s σ H R I h => h.run pins s I⟩
theorem iw_of {wi : TI} {H : Hp} {R : It → Hp → Prop} (p : PI X tg iter wi) (h : wi σ H R) : IW X tg iter σ H R := ⟨fun pins s I => p.run pins s σ H R I h⟩
theorem Src.iw {ds : List PyData} (h : Src X tg σ M H0 iter ds) {H : Hp} {R : It → Hp → Prop} (s : Same H0 H) (q : ∀ (J : It) (H1 : Hp), Same H H1 → Walk J ds.length (fun H' => Same (hM M H1) (hM M H')) (YD X.K M H1 ds) → R J H1) : IW X tg iter σ H R := by
  obtain ⟨wi, p, h⟩ := h
  exact iw_of p (h H R s q)
/-- a list that is made, its items told without it -/
structure LcA (K : Frg) (M : List Addr) (H1 : Hp) (D : Addr) (ds : List PyData) (H : Hp) : Prop where
  grow : Same H1 H
  lv : Lv (D :: M) H
  facts : Same (hM M H1) (hM (D :: M) H)
  acc : ∃ acc, H D = some (.lst acc) ∧ DaAll K (hM (D :: M) H) acc ds
section
variable {K : Frg} {H1 H H4 : Hp} {D : Addr} {ds : List PyData}
theorem LcA.start (l : Lv M H1) (hD : H1 D = none) : LcA K M H1 D [] (upd H1 D (.lst [])) := ⟨same_new hD, (l.upd).cons upd_same, same_skip (same_new hD) hD, [], upd_same, .nil⟩
theorem LcA.step {y : V} {d : PyData} (P : LcA K M H1 D ds H) (e : Same H H4) (hd : Da K (hM (D :: M) H4) y d) (hn : ds.length < sizeLine) (hD : H1 D = none) :
    ∃ acc, H4 D = some (.lst acc) ∧ acc.length < sizeLine ∧ LcA K M H1 D (ds ++ [d]) (upd H4 D (.lst (acc ++ [y]))) := by
  obtain ⟨acc, h1, h3⟩ := P.acc
  have q : hM (D :: M) (upd H4 D (.lst (acc ++ [y]))) = hM (D :: M) H4 := hM_upd List.mem_cons_self
  refine ⟨acc, e _ _ h1, by rw [h3.len]; exact hn, ?_, ((P.lv.same e).upd), ?_, acc ++ [y], upd_same, ?_⟩
  · intro b u x
    rw [upd_ne (ne_of_none x hD)]
    exact e _ _ (P.grow b u x)
  · rw [q]
    exact P.facts.trans (same_hM e)
  · rw [q]
    exact (h3.mono (same_hM e)).snoc hd
theorem LcA.same (P : LcA K M H1 D ds H) (e : Same H H4) : LcA K M H1 D ds H4 := by
  obtain ⟨acc, h1, h3⟩ := P.acc
  exact ⟨P.grow.trans e, P.lv.same e, P.facts.trans (same_hM e), acc, e _ _ h1, h3.mono (same_hM e)⟩
theorem LcA.done (P : LcA K M H1 D ds H) (l : Lv M H1) (hD : H1 D = none) : Same H1 H ∧ Da K (hM M H) (.ref D) (.list ds) := by
  obtain ⟨acc, h1, h3⟩ := P.acc
  exact ⟨P.grow, da_lst_at h1 (l.new hD) h3⟩
end
variable {tg1 iter1 : Expr} {ifs1 : List Expr} {α β : Type} {ls : List α} {enc : α → PyData} {scope : Scope} {own : List (Str × Nat)} {vs1 : List Nat} {pos : Pos} {g g1 : TG} {tt1 : TT} {is is1 : List Nat} {okd okd1 : PyData → List PyData → Prop} {fs : α → List PyData} {ls1 : α → List β} {enc1 : β → PyData} {fs1 : β → List PyData}
def allI (X : Cx) (scope : Scope) (tg iter : Expr) : TI := fun σ H R => ∀ s0 h0 C cl fp, IW (Blk X scope s0 h0 C cl fp) tg iter σ H R
theorem take_step {α : Type} {l : List α} {i : Nat} {a : α} (h : l[i]? = some a) : l.take (i + 1) = l.take i ++ [a] := by
  rw [List.take_add_one, h]
  rfl
theorem rd_lc2 {f : α → β → PyData} {pr : α → β → Bool} {n : Nat} (hc : X.calm = true) (nd : X.N.Nodup) (l : Lv M H0) (src : Src X tg σ M H0 iter (ls.map enc)) (ok : BlkOk X.N X.env.scope scope own) (hv : ∀ i ∈ vs1, i ∈ own.map (·.2)) (hg : ∀ (s : Shared) (H : Hp) (C : Addr) (cl : List (Str × Addr)) (fp : List Addr), PG (Blk X scope s H C cl fp) tg g)
    (tr : TgR X.K g is okd) (hi : ∀ i ∈ is, i ∈ own.map (·.2)) (hk : ∀ x ∈ ls, okd (enc x) (fs x)) (hg1 : ∀ (s : Shared) (H : Hp) (C : Addr) (cl : List (Str × Addr)) (fp : List Addr), PG (Blk X scope s H C cl fp) tg1 g1)
    (tr1 : TgR X.K g1 is1 okd1) (hi1 : ∀ i ∈ is1, i ∈ vs1) (hk1 : ∀ x ∈ ls, ∀ y ∈ ls1 x, okd1 (enc1 y) (fs1 y)) (hn : ∀ x ∈ ls, (ls1 x).length ≤ n) (hz : ls.length * n ≤ sizeLine)
    (ht1 : ∀ (s : Shared) (H : Hp) (C : Addr) (cl : List (Str × Addr)) (fp : List Addr), PTs (Blk X scope s H C cl fp) ifs1 tt1)
    (src1 : ∀ x ∈ ls, ∀ (vs : List V) (D : Addr) (H : Hp) (s0 : Shared) (h0 : Hp) (C : Addr) (cl : List (Str × Addr)) (fp : List Addr), Same (hM M H0) (hM (D :: M) H) → Lv (D :: M) H → DaAll X.K (hM (D :: M) H) vs (fs x) →
      Src (Blk X scope s0 h0 C cl fp) tg1 (sets (wipe σ (own.map (·.2))) is vs) (D :: M) H iter1 ((ls1 x).map enc1))
    (test : ∀ x ∈ ls, ∀ y ∈ ls1 x, ∀ (vs ws : List V) (D : Addr) (H : Hp) (Q : Bool → Hp → Prop), Same (hM M H0) (hM (D :: M) H) → Lv (D :: M) H → DaAll X.K (hM (D :: M) H) vs (fs x) → DaAll X.K (hM (D :: M) H) ws (fs1 y) →
      (∀ H', Same H H' → Q (pr x y) H') → tt1 (sets (wipe (sets (wipe σ (own.map (·.2))) is vs) vs1) is1 ws) H Q)
    (body : ∀ x ∈ ls, ∀ y ∈ ls1 x, pr x y = true → ∀ (vs ws : List V) (D : Addr) (H : Hp) (s0 : Shared) (h0 : Hp) (C : Addr) (cl : List (Str × Addr)) (fp : List Addr), Same (hM M H0) (hM (D :: M) H) → Lv (D :: M) H → DaAll X.K (hM (D :: M) H) vs (fs x) → DaAll X.K (hM (D :: M) H) ws (fs1 y) →
      ED (Blk X scope s0 h0 C cl fp) (sets (wipe (sets (wipe σ (own.map (·.2))) is vs) vs1) is1 ws) (D :: M) H elt (f x y)) : ∃ wi, PI X tg iter wi ∧ ∀ (H : Hp) (Q : VK), Same H0 H → Out X M H (.list (ls.flatMap fun x => ((ls1 x).filter (pr x)).map (f x))) Q → tLc2 wi g tYes (allI X scope tg1 iter1) g1 tt1 (allE X scope elt) (own.map (·.2)) vs1 σ H Q := by
  obtain ⟨wi, pi, hw⟩ := src
  refine ⟨wi, pi, fun H Q s qo => ?_⟩
  refine hw H _ s fun J H1 gr w D hD => ?_
  have l1 := l.same (s.trans gr)
  have g01 : Same (hM M H0) (hM M H1) := same_hM (s.trans gr)
  rw [List.length_map] at w
  let F : α → List PyData := fun x => ((ls1 x).filter (pr x)).map (f x)
  have Flen : ∀ x ∈ ls, (F x).length ≤ n := fun x hx => by
    show (((ls1 x).filter (pr x)).map (f x)).length ≤ n
    rw [List.length_map]
    exact Nat.le_trans (List.length_filter_le _ _) (hn x hx)
  have flen : ∀ k : List α, (∀ x ∈ k, x ∈ ls) → (k.flatMap F).length ≤ k.length * n := by
    intro k
    induction k with
    | nil => intro _; exact Nat.zero_le _
    | cons x k ih =>
      intro hk
      have h1 := Flen x (hk x List.mem_cons_self)
      have h2 := ih fun y hy => hk y (List.mem_cons_of_mem _ hy)
      rw [List.flatMap_cons, List.length_append, List.length_cons, Nat.add_mul, Nat.one_mul]
      omega
  refine ⟨fun i m H => m = ls.length - i ∧ i ≤ ls.length ∧ LcA X.K M H1 D ((ls.take i).flatMap F) H, ⟨ls.length, by simp, Nat.zero_le _, LcA.start l1 hD⟩, ?_⟩
  rintro i m H2 ⟨rfl, hi', P⟩
  have q := P.facts.trans hM_cons
  by_cases hlt : i < ls.length
  · refine .inr ⟨w.goes i H2 hlt q, fun H' => LcA X.K M H1 D ((ls.take (i + 1)).flatMap F) H', fun H' p' => ⟨ls.length - (i + 1), by omega, rfl, hlt, p'⟩, fun x H3 y => ?_⟩
    obtain ⟨gy, hy⟩ := w.yields i H2 x H3 hlt q y
    obtain ⟨a, ha⟩ : ∃ a, ls[i]? = some a := ⟨_, List.getElem?_eq_getElem hlt⟩
    have hmem : a ∈ ls := List.mem_of_getElem? ha
    have hd := hy (D :: M) (enc a) P.lv P.facts (by rw [List.getElem?_map, ha]; rfl)
    refine tr.run (D :: M) H3 x (enc a) (fs a) _ _ hd (hk a hmem) fun vs hl hvs => ⟨?_, ?_⟩
    · rw [wipe_sets hi, wipe_idem]
    · dsimp only [tYes]
      rw [if_pos rfl]
      intro s0 h0 C cl fp
      have P3 := P.same gy
      have gf : Same (hM M H0) (hM (D :: M) H3) := g01.trans P3.facts
      refine (src1 a hmem vs D H3 s0 h0 C cl fp gf P3.lv hvs).iw (Same.refl _) fun J1 H4 gr1 w1 => ?_
      rw [List.length_map] at w1
      have P4 := P3.same gr1
      have lt : (ls.take i).length = i := by rw [List.length_take]; omega
      have base : ((ls.take i).flatMap F).length ≤ i * n := by have := flen (ls.take i) fun x hx => List.mem_of_mem_take hx; rwa [lt] at this
      have hin : i * n + n ≤ sizeLine := by
        have : (i + 1) * n ≤ ls.length * n := Nat.mul_le_mul_right _ hlt
        rw [Nat.add_mul, Nat.one_mul] at this
        omega
      refine ⟨fun j k H => k = (ls1 a).length - j ∧ j ≤ (ls1 a).length ∧ LcA X.K M H1 D ((ls.take i).flatMap F ++ (((ls1 a).take j).filter (pr a)).map (f a)) H ∧ Same (hM (D :: M) H4) (hM (D :: M) H), ⟨(ls1 a).length, by simp, Nat.zero_le _, by
        rw [List.take_zero, List.filter_nil, List.map_nil, List.append_nil]; exact P4, Same.refl _⟩, ?_⟩
      rintro j k H5 ⟨rfl, hj, P5, f5⟩
      by_cases hlt1 : j < (ls1 a).length
      · refine .inr ⟨w1.goes j H5 hlt1 f5, fun H' => LcA X.K M H1 D ((ls.take i).flatMap F ++ (((ls1 a).take (j + 1)).filter (pr a)).map (f a)) H' ∧ Same (hM (D :: M) H4) (hM (D :: M) H'), fun H' p' => ⟨(ls1 a).length - (j + 1), by omega, rfl, hlt1, p'⟩, fun y H6 yy => ?_⟩
        obtain ⟨gy1, hy1⟩ := w1.yields j H5 y H6 hlt1 f5 yy
        obtain ⟨b, hb⟩ : ∃ b, (ls1 a)[j]? = some b := ⟨_, List.getElem?_eq_getElem hlt1⟩
        have hbm : b ∈ ls1 a := List.mem_of_getElem? hb
        have hd1 := hy1 (D :: M) (enc1 b) P5.lv f5 (by rw [List.getElem?_map, hb]; rfl)
        have P6 := P5.same gy1
        have f6 : Same (hM (D :: M) H4) (hM (D :: M) H6) := f5.trans (same_hM gy1)
        have f36 : Same (hM (D :: M) H3) (hM (D :: M) H6) := (same_hM gr1).trans f6
        refine tr1.run (D :: M) H6 y (enc1 b) (fs1 b) _ _ hd1 (hk1 a hmem b hbm) fun ws hl1 hws => ⟨?_, ?_⟩
        · rw [wipe_sets hi1, wipe_idem]
        · have g6 : Same (hM M H0) (hM (D :: M) H6) := g01.trans P6.facts
          refine test a hmem b hbm vs ws D H6 _ g6 P6.lv (hvs.mono f36) hws fun H7 g7 => ?_
          have P7 := P6.same g7
          by_cases hp : pr a b = true
          · rw [if_pos hp]
            intro s1 h1 C1 cl1 fp1
            refine (body a hmem b hbm hp vs ws D H6 s1 h1 C1 cl1 fp1 g6 P6.lv (hvs.mono f36) hws H7 g7).mono fun v H8 ⟨g8, z⟩ => ?_
            have small : ((ls.take i).flatMap F ++ (((ls1 a).take j).filter (pr a)).map (f a)).length < sizeLine := by
              rw [List.length_append, List.length_map]
              have := List.length_filter_le (pr a) ((ls1 a).take j)
              rw [List.length_take] at this
              have := hn a hmem
              omega
            obtain ⟨acc, e1, e2, e3⟩ := P7.step g8 z small hD
            refine ⟨acc, e1, e2, ?_, ?_⟩
            · have : ((ls.take i).flatMap F ++ (((ls1 a).take (j + 1)).filter (pr a)).map (f a)) = ((ls.take i).flatMap F ++ (((ls1 a).take j).filter (pr a)).map (f a)) ++ [f a b] := by
                rw [take_step hb, List.filter_append, List.filter_cons, if_pos hp, List.filter_nil, List.map_append, List.append_assoc]
                rfl
              rw [this]
              exact e3
            · rw [hM_upd List.mem_cons_self]
              exact f6.trans (same_hM (g7.trans g8))
          · rw [if_neg hp]
            refine ⟨?_, f6.trans (same_hM g7)⟩
            have : (((ls1 a).take (j + 1)).filter (pr a)) = (((ls1 a).take j).filter (pr a)) := by
              rw [take_step hb, List.filter_append, List.filter_cons, if_neg hp, List.filter_nil, List.append_nil]
            rw [this]
            exact P7
      · have e : j = (ls1 a).length := by omega
        subst e
        refine .inl ⟨w1.stops H5 f5, ?_⟩
        rw [List.take_length] at P5
        rw [take_step ha, List.flatMap_append, List.flatMap_cons, List.flatMap_nil, List.append_nil]
        exact P5
  · have e : i = ls.length := by omega
    subst e
    rw [List.take_length] at P
    obtain ⟨z1, z2⟩ := P.done l1 hD
    exact .inl ⟨w.stops H2 q, qo _ _ (gr.trans z1) z2⟩
theorem ed_lc2 {f : α → β → PyData} {pr : α → β → Bool} {n : Nat} (hc : X.calm = true) (nd : X.N.Nodup) (l : Lv M H0) (src : Src X tg σ M H0 iter (ls.map enc)) (ok : BlkOk X.N X.env.scope scope own) (hv : ∀ i ∈ vs1, i ∈ own.map (·.2)) (hg : ∀ (s : Shared) (H : Hp) (C : Addr) (cl : List (Str × Addr)) (fp : List Addr), PG (Blk X scope s H C cl fp) tg g)
    (tr : TgR X.K g is okd) (hi : ∀ i ∈ is, i ∈ own.map (·.2)) (hk : ∀ x ∈ ls, okd (enc x) (fs x)) (hg1 : ∀ (s : Shared) (H : Hp) (C : Addr) (cl : List (Str × Addr)) (fp : List Addr), PG (Blk X scope s H C cl fp) tg1 g1)
    (tr1 : TgR X.K g1 is1 okd1) (hi1 : ∀ i ∈ is1, i ∈ vs1) (hk1 : ∀ x ∈ ls, ∀ y ∈ ls1 x, okd1 (enc1 y) (fs1 y)) (hn : ∀ x ∈ ls, (ls1 x).length ≤ n) (hz : ls.length * n ≤ sizeLine)
    (ht1 : ∀ (s : Shared) (H : Hp) (C : Addr) (cl : List (Str × Addr)) (fp : List Addr), PTs (Blk X scope s H C cl fp) ifs1 tt1)
    (src1 : ∀ x ∈ ls, ∀ (vs : List V) (D : Addr) (H : Hp) (s0 : Shared) (h0 : Hp) (C : Addr) (cl : List (Str × Addr)) (fp : List Addr), Same (hM M H0) (hM (D :: M) H) → Lv (D :: M) H → DaAll X.K (hM (D :: M) H) vs (fs x) →
      Src (Blk X scope s0 h0 C cl fp) tg1 (sets (wipe σ (own.map (·.2))) is vs) (D :: M) H iter1 ((ls1 x).map enc1))
    (test : ∀ x ∈ ls, ∀ y ∈ ls1 x, ∀ (vs ws : List V) (D : Addr) (H : Hp) (Q : Bool → Hp → Prop), Same (hM M H0) (hM (D :: M) H) → Lv (D :: M) H → DaAll X.K (hM (D :: M) H) vs (fs x) → DaAll X.K (hM (D :: M) H) ws (fs1 y) →
      (∀ H', Same H H' → Q (pr x y) H') → tt1 (sets (wipe (sets (wipe σ (own.map (·.2))) is vs) vs1) is1 ws) H Q)
    (body : ∀ x ∈ ls, ∀ y ∈ ls1 x, pr x y = true → ∀ (vs ws : List V) (D : Addr) (H : Hp) (s0 : Shared) (h0 : Hp) (C : Addr) (cl : List (Str × Addr)) (fp : List Addr), Same (hM M H0) (hM (D :: M) H) → Lv (D :: M) H → DaAll X.K (hM (D :: M) H) vs (fs x) → DaAll X.K (hM (D :: M) H) ws (fs1 y) →
      ED (Blk X scope s0 h0 C cl fp) (sets (wipe (sets (wipe σ (own.map (·.2))) is vs) vs1) is1 ws) (D :: M) H elt (f x y)) (hs : ∀ x, foldedSetIterable iter X.env x = pure x := by intro _; rfl) (hs1 : ∀ env x, foldedSetIterable iter1 env x = pure x := by intro _ _; rfl) :
    ED X σ M H0 (.ListComp elt [⟨tg, iter, [], 0⟩, ⟨tg1, iter1, ifs1, 0⟩] scope pos) (.list (ls.flatMap fun x => ((ls1 x).filter (pr x)).map (f x))) := fun H s => by
  obtain ⟨wi, pi, q⟩ := rd_lc2 (f := f) (pr := pr) (n := n) hc nd l src ok hv hg tr hi hk hg1 tr1 hi1 hk1 hn hz ht1 src1 test body
  exact ew_of (pe_lc2 (wi1 := allI X scope tg1 iter1) (te := allE X scope elt) (vs1 := vs1) hc nd pi ok hv hg (fun _ _ _ _ _ => pts_nil) (fun s0 h0 C cl fp => ⟨fun pins s σ H Q I h => (h s0 h0 C cl fp).run pins s I⟩) hg1 ht1 (fun s0 h0 C cl fp => ⟨fun pins s σ H Q I h => (h s0 h0 C cl fp).run pins s I⟩) hs hs1) (q H _ s fun v H' g z => ⟨g, z⟩)
theorem sw_setLc2 {D0 : Ends} {rest : List Stmt} (i0 : Nat) {y0 : Str} {py spos : Pos} {f : α → β → PyData} {pr : α → β → Bool} {n : Nat} (hc : X.calm = true) (nd : X.N.Nodup) (l : Lv M H0) (src : Src X tg σ M H0 iter (ls.map enc)) (ok : BlkOk X.N X.env.scope scope own) (hv : ∀ i ∈ vs1, i ∈ own.map (·.2)) (hg : ∀ (s : Shared) (H : Hp) (C : Addr) (cl : List (Str × Addr)) (fp : List Addr), PG (Blk X scope s H C cl fp) tg g)
    (tr : TgR X.K g is okd) (hi : ∀ i ∈ is, i ∈ own.map (·.2)) (hk : ∀ x ∈ ls, okd (enc x) (fs x)) (hg1 : ∀ (s : Shared) (H : Hp) (C : Addr) (cl : List (Str × Addr)) (fp : List Addr), PG (Blk X scope s H C cl fp) tg1 g1)
    (tr1 : TgR X.K g1 is1 okd1) (hi1 : ∀ i ∈ is1, i ∈ vs1) (hk1 : ∀ x ∈ ls, ∀ y ∈ ls1 x, okd1 (enc1 y) (fs1 y)) (hn : ∀ x ∈ ls, (ls1 x).length ≤ n) (hz : ls.length * n ≤ sizeLine)
    (ht1 : ∀ (s : Shared) (H : Hp) (C : Addr) (cl : List (Str × Addr)) (fp : List Addr), PTs (Blk X scope s H C cl fp) ifs1 tt1)
    (src1 : ∀ x ∈ ls, ∀ (vs : List V) (D : Addr) (H : Hp) (s0 : Shared) (h0 : Hp) (C : Addr) (cl : List (Str × Addr)) (fp : List Addr), Same (hM M H0) (hM (D :: M) H) → Lv (D :: M) H → DaAll X.K (hM (D :: M) H) vs (fs x) →
      Src (Blk X scope s0 h0 C cl fp) tg1 (sets (wipe σ (own.map (·.2))) is vs) (D :: M) H iter1 ((ls1 x).map enc1))
    (test : ∀ x ∈ ls, ∀ y ∈ ls1 x, ∀ (vs ws : List V) (D : Addr) (H : Hp) (Q : Bool → Hp → Prop), Same (hM M H0) (hM (D :: M) H) → Lv (D :: M) H → DaAll X.K (hM (D :: M) H) vs (fs x) → DaAll X.K (hM (D :: M) H) ws (fs1 y) →
      (∀ H', Same H H' → Q (pr x y) H') → tt1 (sets (wipe (sets (wipe σ (own.map (·.2))) is vs) vs1) is1 ws) H Q)
    (body : ∀ x ∈ ls, ∀ y ∈ ls1 x, pr x y = true → ∀ (vs ws : List V) (D : Addr) (H : Hp) (s0 : Shared) (h0 : Hp) (C : Addr) (cl : List (Str × Addr)) (fp : List Addr), Same (hM M H0) (hM (D :: M) H) → Lv (D :: M) H → DaAll X.K (hM (D :: M) H) vs (fs x) → DaAll X.K (hM (D :: M) H) ws (fs1 y) →
      ED (Blk X scope s0 h0 C cl fp) (sets (wipe (sets (wipe σ (own.map (·.2))) is vs) vs1) is1 ws) (D :: M) H elt (f x y)) (q0 : ∀ v H', Same H0 H' → Da X.K (hM M H') v (.list (ls.flatMap fun x => ((ls1 x).filter (pr x)).map (f x))) → SW X rest D0 (σ.set i0 (some v)) H')
    (hy : X.N[i0]? = some y0 := by rfl) (hyl : X.env.scope.names.lookup y0 = some .local := by rfl) (hsw : swapsWith (.ListComp elt [⟨tg, iter, [], 0⟩, ⟨tg1, iter1, ifs1, 0⟩] scope pos) (some (.Name y0 py)) spos.line X.env = pure true := by exact sw_true rfl rfl rfl rfl) (hs : ∀ x, foldedSetIterable iter X.env x = pure x := by intro _; rfl) (hs1 : ∀ env x, foldedSetIterable iter1 env x = pure x := by intro _ _; rfl) :
    SW X (.Assign [.Name y0 py] (.ListComp elt [⟨tg, iter, [], 0⟩, ⟨tg1, iter1, ifs1, 0⟩] scope pos) spos :: rest) D0 σ H0 := by
  obtain ⟨wi, pi, q⟩ := rd_lc2 (f := f) (pr := pr) (n := n) hc nd l src ok hv hg tr hi hk hg1 tr1 hi1 hk1 hn hz ht1 src1 test body
  exact sw_1 (ps_setLc2 (i := i0) (wi1 := allI X scope tg1 iter1) (te := allE X scope elt) (vs1 := vs1) hc nd hy hyl hsw pi ok hv hg (fun _ _ _ _ _ => pts_nil) (fun s0 h0 C cl fp => ⟨fun pins s σ H Q I h => (h s0 h0 C cl fp).run pins s I⟩) hg1 ht1 (fun s0 h0 C cl fp => ⟨fun pins s σ H Q I h => (h s0 h0 C cl fp).run pins s I⟩) hs hs1) (q H0 _ (Same.refl H0) q0)
end
end S6

/-! DE9: dict comprehensions with two fors, keys looked up. -/
namespace S6
open PySem PySem.Spec PyProof.Rows L2
section
variable {X : Cx}
variable {σ : L2.St} {M : List Addr} {H0 : Hp} {e a b : Expr} {d : PyData} {pos : Pos}
/-- what is said of numbers does not look at any heap -/
theorem ed_mi {M' : List Addr} {i : Int} (h : ED X σ M H0 e (.int i)) : ED X σ M' H0 e (.int i) := fun H s => (h H s).mono fun v H' ⟨g, z⟩ => ⟨g, by rw [z.int_inv]; exact .int i⟩
/-- u in d, d a dict of ints -/
theorem td_dinI {p : Addr} {kvs : List (L2.Key × V)} {u : Int} (hu : X.A.units + 1 < cLine) (ha : ED X σ M H0 a (.int u)) (hb : EV X σ H0 b fun _ x => x = .ref p) (hp : H0 p = some (.dK kvs)) (hm : behindInMarks .In b = false := by rfl) : TD X σ H0 (.Compare a [.In] [b] pos) (valV kvs (Sum.inl u)).isSome := fun H s =>
  tw_of (pt_cmp (pc_din hu pe_w pe_w) hm) ((ha H s).mono fun x H1 ⟨g1, z⟩ => (hb H1 (s.trans g1)).mono fun y H2 ⟨g2, ey⟩ => by
    subst ey
    have hp2 := g2 _ _ (g1 _ _ (s _ _ hp))
    refine ⟨p, _, rfl, .inl ⟨kvs, Sum.inl u, .inl hp2, z.int_inv, rfl⟩, _, rfl, g1.trans g2, rfl⟩)
/-- t not in d, d a dict of tuples -/
theorem td_dninT {p b1 : Addr} {kvs : List (List L2.Key × V)} {k : List L2.Key} (hu : X.A.units + 1 < cLine) (ha : EV X σ H0 a fun H x => x = .ref b1 ∧ H b1 = some (.tup (k.map kV))) (hb : EV X σ H0 b fun _ x => x = .ref p) (hp : H0 p = some (.dT kvs)) (hm : behindInMarks .NotIn b = false := by rfl) :
    TD X σ H0 (.Compare a [.NotIn] [b] pos) (!(valV kvs k).isSome) := fun H s =>
  tw_of (pt_cmp (pc_dnotin hu pe_w pe_w) hm) ((ha H s).mono fun x H1 ⟨g1, ex, hx⟩ => (hb H1 (s.trans g1)).mono fun y H2 ⟨g2, ey⟩ => by
    subst ey ex
    have hp2 := g2 _ _ (g1 _ _ (s _ _ hp))
    exact ⟨p, _, rfl, .inr ⟨kvs, k, b1, .inl hp2, rfl, g2 _ _ hx, rfl⟩, _, rfl, g1.trans g2, rfl⟩)
/-- a new list of some things in a slot -/
theorem sw_lst {D : Ends} {rest : List Stmt} {H : Hp} {es : List Expr} {ds : List PyData} {x : Str} {p apos : Pos} (i : Nat) (nd : X.N.Nodup) (h : AD X σ M H es ds) (hz : ds.length ≤ sizeLine) (q : ∀ a vs H', Same H H' → H' a = none → DaAll X.K (hM M H') vs ds → SW X rest D (σ.set i (some (.ref a))) (upd H' a (.lst vs)))
    (hi : X.N[i]? = some x := by rfl) (hx : Loc X.env.scope x := by first | exact Or.inl rfl | exact Or.inr rfl) (hs : swapsWith (.List es apos) (some (.Name x p)) pos.line X.env = pure false := by rfl) (hf : X.fn x = true ∨ X.env.scope.names.lookup x = some .local := by first | exact .inl rfl | exact .inr rfl) : SW X (.Assign [.Name x p] (.List es apos) pos :: rest) D σ H :=
  sw_1 (ps_set (i := i) nd hi hx (pe_lst pa_w) hs hf) ((h H (Same.refl H)).mono fun vs H' ⟨g, z⟩ => ⟨by rw [z.len]; exact hz, fun a ha => q a vs H' g ha z⟩)
/-! ### {k: v for .. for ..} -/
/-- a dict that is made: its keys -/
structure DcA (M : List Addr) (H1 : Hp) (D : Addr) (ks : List Int) (H : Hp) : Prop where
  grow : Same H1 H
  lv : Lv (D :: M) H
  facts : Same (hM M H1) (hM (D :: M) H)
  acc : ∃ kvs : List (L2.Key × V), H D = some (.dK kvs) ∧ kvs.length ≤ ks.length ∧ ∀ u : Int, (valV kvs (Sum.inl u)).isSome = decide (u ∈ ks)
section
variable {H1 H H4 : Hp} {D : Addr} {ks : List Int}
theorem DcA.start (l : Lv M H1) (hD : H1 D = none) : DcA M H1 D [] (upd H1 D (.dK [])) := ⟨same_new hD, (l.upd).cons upd_same, same_skip (same_new hD) hD, [], upd_same, Nat.le_refl _, fun u => rfl⟩
theorem DcA.step {k : Int} {z : V} (P : DcA M H1 D ks H) (e : Same H H4) (hn : ks.length < sizeLine) (hD : H1 D = none) :
    ∃ kvs, H4 D = some (.dK kvs) ∧ kvs.length < sizeLine ∧ DcA M H1 D (ks ++ [k]) (upd H4 D (.dK (putK kvs (Sum.inl k) z))) := by
  obtain ⟨kvs, h1, h2, h3⟩ := P.acc
  refine ⟨kvs, e _ _ h1, by omega, ?_, ((P.lv.same e).upd), ?_, _, upd_same, ?_, fun u => ?_⟩
  · intro b u x
    rw [upd_ne (ne_of_none x hD)]
    exact e _ _ (P.grow b u x)
  · rw [hM_upd List.mem_cons_self]
    exact P.facts.trans (same_hM e)
  · have := length_putK kvs (Sum.inl k : L2.Key) z
    rw [List.length_append, List.length_singleton]
    omega
  · rw [valV_put]
    by_cases c : u = k
    · rw [c, if_pos rfl, decide_eq_true (by simp)]; rfl
    · rw [if_neg fun z => c (Sum.inl.inj z), h3 u]
      by_cases m : u ∈ ks
      · rw [decide_eq_true m, decide_eq_true (List.mem_append_left _ m)]
      · rw [decide_eq_false m, decide_eq_false]
        rw [List.mem_append, List.mem_singleton, not_or]
        exact ⟨m, c⟩
theorem DcA.same (P : DcA M H1 D ks H) (e : Same H H4) : DcA M H1 D ks H4 := by
  obtain ⟨acc, h1, h3⟩ := P.acc
  exact ⟨P.grow.trans e, P.lv.same e, P.facts.trans (same_hM e), acc, e _ _ h1, h3⟩
end
variable {tg iter kx vx : Expr} {tg1 iter1 : Expr} {α β : Type} {ls : List α} {enc : α → PyData} {scope : Scope} {own : List (Str × Nat)} {vs1 : List Nat} {g g1 : TG} {is is1 : List Nat} {okd okd1 : PyData → List PyData → Prop} {fs : α → List PyData} {ls1 : α → List β} {enc1 : β → PyData} {fs1 : β → List PyData}
theorem sw_setDc2 {D0 : Ends} {rest : List Stmt} (i0 : Nat) {y0 : Str} {py spos : Pos} {ky : α → β → Int} {n : Nat} (hc : X.calm = true) (nd : X.N.Nodup) (l : Lv M H0) (src : Src X tg σ M H0 iter (ls.map enc)) (ok : BlkOk X.N X.env.scope scope own) (hv : ∀ i ∈ vs1, i ∈ own.map (·.2)) (hg : ∀ (s : Shared) (H : Hp) (C : Addr) (cl : List (Str × Addr)) (fp : List Addr), PG (Blk X scope s H C cl fp) tg g)
    (tr : TgR X.K g is okd) (hi : ∀ i ∈ is, i ∈ own.map (·.2)) (hk : ∀ x ∈ ls, okd (enc x) (fs x)) (hg1 : ∀ (s : Shared) (H : Hp) (C : Addr) (cl : List (Str × Addr)) (fp : List Addr), PG (Blk X scope s H C cl fp) tg1 g1)
    (tr1 : TgR X.K g1 is1 okd1) (hi1 : ∀ i ∈ is1, i ∈ vs1) (hk1 : ∀ x ∈ ls, ∀ y ∈ ls1 x, okd1 (enc1 y) (fs1 y)) (hn : ∀ x ∈ ls, (ls1 x).length ≤ n) (hz : ls.length * n ≤ sizeLine)
    (src1 : ∀ x ∈ ls, ∀ (vs : List V) (D : Addr) (H : Hp) (s0 : Shared) (h0 : Hp) (C : Addr) (cl : List (Str × Addr)) (fp : List Addr), Same (hM M H0) (hM (D :: M) H) → Lv (D :: M) H → DaAll X.K (hM (D :: M) H) vs (fs x) →
      Src (Blk X scope s0 h0 C cl fp) tg1 (sets (wipe σ (own.map (·.2))) is vs) (D :: M) H iter1 ((ls1 x).map enc1))
    (key : ∀ x ∈ ls, ∀ y ∈ ls1 x, ∀ (vs ws : List V) (D : Addr) (H : Hp) (s0 : Shared) (h0 : Hp) (C : Addr) (cl : List (Str × Addr)) (fp : List Addr), Same (hM M H0) (hM (D :: M) H) → Lv (D :: M) H → DaAll X.K (hM (D :: M) H) vs (fs x) → DaAll X.K (hM (D :: M) H) ws (fs1 y) →
      ED (Blk X scope s0 h0 C cl fp) (sets (wipe (sets (wipe σ (own.map (·.2))) is vs) vs1) is1 ws) (D :: M) H kx (.int (ky x y)))
    (val : ∀ (τ : L2.St) (D : Addr) (H : Hp) (s0 : Shared) (h0 : Hp) (C : Addr) (cl : List (Str × Addr)) (fp : List Addr), ED (Blk X scope s0 h0 C cl fp) τ (D :: M) H vx d)
    (q : ∀ p H' kvs, Same H0 H' → H0 p = none → H' p = some (.dK kvs) → (∀ u : Int, (valV kvs (Sum.inl u)).isSome = decide (u ∈ ls.flatMap fun x => (ls1 x).map (ky x))) → SW X rest D0 (σ.set i0 (some (.ref p))) H')
    (hy : X.N[i0]? = some y0 := by rfl) (hx0 : Loc X.env.scope y0 := by first | exact Or.inl rfl | exact Or.inr rfl) (hsw : swapsWith (.DictComp kx vx [⟨tg, iter, [], 0⟩, ⟨tg1, iter1, [], 0⟩] scope pos) (some (.Name y0 py)) spos.line X.env = pure false := by rfl) (hf0 : X.fn y0 = true ∨ X.env.scope.names.lookup y0 = some .local := by first | exact .inl rfl | exact .inr rfl)
    (hs : ∀ x, foldedSetIterable iter X.env x = pure x := by intro _; rfl) (hs1 : ∀ env x, foldedSetIterable iter1 env x = pure x := by intro _ _; rfl) :
    SW X (.Assign [.Name y0 py] (.DictComp kx vx [⟨tg, iter, [], 0⟩, ⟨tg1, iter1, [], 0⟩] scope pos) spos :: rest) D0 σ H0 := by
  obtain ⟨wi, pi, hw⟩ := src
  refine sw_1 (ps_set (i := i0) nd hy hx0 (pe_dc2 (wi1 := allI X scope tg1 iter1) (tk := allE X scope kx) (tv := allE X scope vx) (vs1 := vs1) hc nd pi ok hv hg (fun _ _ _ _ _ => pts_nil) (fun s0 h0 C cl fp => ⟨fun pins s σ H Q I h => (h s0 h0 C cl fp).run pins s I⟩) hg1 (fun _ _ _ _ _ => pts_nil)
    (fun s0 h0 C cl fp => ⟨fun pins s σ H Q I h => (h s0 h0 C cl fp).run pins s I⟩) (fun s0 h0 C cl fp => ⟨fun pins s σ H Q I h => (h s0 h0 C cl fp).run pins s I⟩) hs hs1) hsw hf0) ?_
  refine hw H0 _ (Same.refl _) fun J H1 gr w D hD => ?_
  have l1 := l.same gr
  have g01 : Same (hM M H0) (hM M H1) := same_hM gr
  rw [List.length_map] at w
  let F : α → List Int := fun x => (ls1 x).map (ky x)
  have flen : ∀ k : List α, (∀ x ∈ k, x ∈ ls) → (k.flatMap F).length ≤ k.length * n := by
    intro k
    induction k with
    | nil => intro _; exact Nat.zero_le _
    | cons x k ih =>
      intro hk
      have h1 := hn x (hk x List.mem_cons_self)
      have h2 := ih fun y hy => hk y (List.mem_cons_of_mem _ hy)
      rw [List.flatMap_cons, List.length_append, List.length_cons, Nat.add_mul, Nat.one_mul, List.length_map]
      omega
  refine ⟨fun i m H => m = ls.length - i ∧ i ≤ ls.length ∧ DcA M H1 D ((ls.take i).flatMap F) H, ⟨ls.length, by simp, Nat.zero_le _, DcA.start l1 hD⟩, ?_⟩
  rintro i m H2 ⟨rfl, hi', P⟩
  have qq := P.facts.trans hM_cons
  by_cases hlt : i < ls.length
  · refine .inr ⟨w.goes i H2 hlt qq, fun H' => DcA M H1 D ((ls.take (i + 1)).flatMap F) H', fun H' p' => ⟨ls.length - (i + 1), by omega, rfl, hlt, p'⟩, fun x H3 y => ?_⟩
    obtain ⟨gy, hy⟩ := w.yields i H2 x H3 hlt qq y
    obtain ⟨a, ha⟩ : ∃ a, ls[i]? = some a := ⟨_, List.getElem?_eq_getElem hlt⟩
    have hmem : a ∈ ls := List.mem_of_getElem? ha
    have hd := hy (D :: M) (enc a) P.lv P.facts (by rw [List.getElem?_map, ha]; rfl)
    refine tr.run (D :: M) H3 x (enc a) (fs a) _ _ hd (hk a hmem) fun vs hl hvs => ⟨?_, ?_⟩
    · rw [wipe_sets hi, wipe_idem]
    · dsimp only [tYes]
      rw [if_pos rfl]
      intro s0 h0 C cl fp
      have P3 := P.same gy
      have gf : Same (hM M H0) (hM (D :: M) H3) := g01.trans P3.facts
      refine (src1 a hmem vs D H3 s0 h0 C cl fp gf P3.lv hvs).iw (Same.refl _) fun J1 H4 gr1 w1 => ?_
      rw [List.length_map] at w1
      have P4 := P3.same gr1
      have lt : (ls.take i).length = i := by rw [List.length_take]; omega
      have base : ((ls.take i).flatMap F).length ≤ i * n := by have := flen (ls.take i) fun x hx => List.mem_of_mem_take hx; rwa [lt] at this
      have hin : i * n + n ≤ sizeLine := by
        have : (i + 1) * n ≤ ls.length * n := Nat.mul_le_mul_right _ hlt
        rw [Nat.add_mul, Nat.one_mul] at this
        omega
      refine ⟨fun j k H => k = (ls1 a).length - j ∧ j ≤ (ls1 a).length ∧ DcA M H1 D ((ls.take i).flatMap F ++ ((ls1 a).take j).map (ky a)) H ∧ Same (hM (D :: M) H4) (hM (D :: M) H), ⟨(ls1 a).length, by simp, Nat.zero_le _, by
        rw [List.take_zero, List.map_nil, List.append_nil]; exact P4, Same.refl _⟩, ?_⟩
      rintro j k H5 ⟨rfl, hj, P5, f5⟩
      by_cases hlt1 : j < (ls1 a).length
      · refine .inr ⟨w1.goes j H5 hlt1 f5, fun H' => DcA M H1 D ((ls.take i).flatMap F ++ ((ls1 a).take (j + 1)).map (ky a)) H' ∧ Same (hM (D :: M) H4) (hM (D :: M) H'), fun H' p' => ⟨(ls1 a).length - (j + 1), by omega, rfl, hlt1, p'⟩, fun y H6 yy => ?_⟩
        obtain ⟨gy1, hy1⟩ := w1.yields j H5 y H6 hlt1 f5 yy
        obtain ⟨b, hb⟩ : ∃ b, (ls1 a)[j]? = some b := ⟨_, List.getElem?_eq_getElem hlt1⟩
        have hbm : b ∈ ls1 a := List.mem_of_getElem? hb
        have hd1 := hy1 (D :: M) (enc1 b) P5.lv f5 (by rw [List.getElem?_map, hb]; rfl)
        have P6 := P5.same gy1
        have f6 : Same (hM (D :: M) H4) (hM (D :: M) H6) := f5.trans (same_hM gy1)
        have f36 : Same (hM (D :: M) H3) (hM (D :: M) H6) := (same_hM gr1).trans f6
        refine tr1.run (D :: M) H6 y (enc1 b) (fs1 b) _ _ hd1 (hk1 a hmem b hbm) fun ws hl1 hws => ⟨?_, ?_⟩
        · rw [wipe_sets hi1, wipe_idem]
        · have g6 : Same (hM M H0) (hM (D :: M) H6) := g01.trans P6.facts
          dsimp only [tYes]
          rw [if_pos rfl]
          intro s1 h1 C1 cl1 fp1
          refine (key a hmem b hbm vs ws D H6 s1 h1 C1 cl1 fp1 g6 P6.lv (hvs.mono f36) hws H6 (Same.refl _)).mono fun v H7 ⟨g7, z⟩ => ?_
          intro s2 h2 C2 cl2 fp2
          refine (val _ D H7 s2 h2 C2 cl2 fp2 H7 (Same.refl _)).mono fun v8 H8 ⟨g8, z8⟩ => ?_
          have small : ((ls.take i).flatMap F ++ ((ls1 a).take j).map (ky a)).length < sizeLine := by
            rw [List.length_append, List.length_map, List.length_take]
            have := hn a hmem
            omega
          obtain ⟨kvs, e1, e2, e3⟩ := P6.step (k := ky a b) (z := v8) (g7.trans g8) small hD
          refine ⟨kvs, Sum.inl (ky a b), z.int_inv, e1, e2, ?_, ?_⟩
          · have : ((ls.take i).flatMap F ++ ((ls1 a).take (j + 1)).map (ky a)) = ((ls.take i).flatMap F ++ ((ls1 a).take j).map (ky a)) ++ [ky a b] := by
              rw [take_step hb, List.map_append, List.append_assoc]
              rfl
            rw [this]
            exact e3
          · rw [hM_upd List.mem_cons_self]
            exact f6.trans (same_hM (g7.trans g8))
      · have e : j = (ls1 a).length := by omega
        subst e
        refine .inl ⟨w1.stops H5 f5, ?_⟩
        rw [List.take_length] at P5
        rw [take_step ha, List.flatMap_append, List.flatMap_cons, List.flatMap_nil, List.append_nil]
        exact P5
  · have e : i = ls.length := by omega
    subst e
    rw [List.take_length] at P
    obtain ⟨kvs, z1, _, z3⟩ := P.acc
    refine .inl ⟨w.stops H2 qq, q D H2 kvs (gr.trans P.grow) ?_ z1 z3⟩
    cases h : H0 D with
    | none => rfl
    | some o => have := gr _ _ h; rw [hD] at this; cases this
end
end S6

/-! RG: {(..): v}, a dict with one tuple for a key. -/
namespace S6
open PySem PySem.Spec PyProof.Rows L2
/-- {k: v}, k a new tuple of ints and texts; the new dict stands empty while the pair is made -/
def tDisp1T (tk tv : TE) : TE := fun σ H Q => ∀ p, H p = none → tPairs [(tk, tv)] σ (upd H p (.dT [])) fun ps H2 => H2 p = some (.dT []) ∧ ∃ (b : Addr) (k : List L2.Key) (v : V), ps = [(.ref b, v)] ∧ H2 b = some (.tup (k.map kV)) ∧ Q (.ref p) (upd H2 p (.dT [(k, v)]))
theorem pe_disp1T {X : Cx} {pos : Pos} {ke ve : Expr} {tk tv : TE} (hu : X.A.units + 1 < cLine) (hk : PE X ke tk) (hv : PE X ve tv) : PE X (.Dict [some ke] [ve] pos) (tDisp1T tk tv) := by
  refine ⟨fun pins s σ H Q I q => ?_⟩
  have hn := I.hok.fresh (Nat.le_refl s.heap.objs.size)
  have I1 := I.laid (a := s.heap.objs.size) (o := .dT []) (h' := s.heap.push { cls := .type "dict", data := .dict #[] }) (t' := s.toks) (fun _ _ q => Heap.get?_push_of_some _ q) (Nat.le_refl _) (dt_empty s.heap I.big)
  refine wpAny_Dict_any rfl rfl (fun z => nomatch z) (by show 1 ≤ 15; decide) (thn ((pps_cons hk hv pps_nil : PPs X pos [some ke] [ve] [(tk, tv)]).run pins _ σ _ _ I1 (q _ hn)) fun ws s2 ⟨ps, H2, I2, rel, e, b, k, v, ep, eb, q2⟩ => ?_)
  subst ep
  cases rel with
  | @cons _ w0 _ _ r1 r2 =>
    cases r2
    obtain ⟨u1, u2⟩ := w0
    obtain ⟨ra, rb⟩ := r1
    obtain rfl : u1 = Value.ref b := ra
    obtain ⟨z, hd, xs, r0, dd⟩ := dt_of I2.hok e
    have hroom : (tupleKind (mixKind X.prog X.w)).room X.A := by
      first
        | exact tupleKind_room_in1 (A := X.A) hu
        | (show X.A.units < cLine; omega)
    cases r0
    unfold storeAll
    rw [List.forIn_cons]
    refine wpAny_bind (wpAny_bind (wpAny_dictSet_heap (hsz := Nat.zero_le _) hroom (key_of I2.hok eb) dd fun h' dd' hs => wpAny_pure ?_))
    dsimp only
    rw [List.forIn_nil]
    refine wpAny_pure ?_
    obtain ⟨o, es, ep, hq, h2, h3, h4, _, h5⟩ := dd'
    have hl : (putK ([] : List (List L2.Key × V)) k v).length ≤ sizeLine := by have := length_putK ([] : List (List L2.Key × V)) k v; rw [sizeLine_eq]; simp at this; omega
    have J : Inv X pins σ (upd H2 s.heap.objs.size (.dT (putK [] k v))) { s2 with heap := h', toks := s2.toks + (tupleKind (mixKind X.prog X.w)).draws k } := by
      refine d_write I2 (by rw [e]; exact True.intro) hs ⟨o, hq⟩ ⟨hl, hd, _, ((KT.put (H := H2) (.nil : KT H2 [] []) k eb rb)).keeps fun c ys ec => ?_, o, es, ep, hq, h2, h3, h4, h5⟩
      rw [upd_ne (ne_of ec e (fun z => nomatch z))]
      exact ec
    exact ⟨.ref s.heap.objs.size, _, J, rfl, q2⟩
end S6

namespace S6
open PySem PySem.Spec PyProof.Rows L2
def farE (l : Lk) (j : Int) : Int := if l.2.1 = j then l.2.2 else l.2.1
theorem Da.lk {K : Frg} {H : Hp} {v : V} {l : Lk} (h : Da K H v (lkD l)) : ∃ a, v = .ref a ∧ SqT K H a [.str l.1, .int l.2.1, .int l.2.2] := by
  obtain ⟨a, xs, e1, e2, e3⟩ := h.tup_inv
  refine ⟨a, e1, ?_⟩
  cases e3 with
  | cons h1 h2 =>
    cases h2 with
    | cons h3 h4 =>
      cases h4 with
      | cons h5 h6 =>
        cases h6
        rw [h1.str_inv, h3.int_inv, h5.int_inv] at e2
        exact e2
section
variable {P : Program} {w : World} {K : Frg} {mg : Str → Option Value} {base : Heap}
def R_far : List PyData → PyData → Prop := fun ds d => ∃ l j, ds = [lkD l, .int j] ∧ d = .int (farE l j)
theorem c_far_end (D : Dfn K mg "far_end" s_far_end) : Cl P w K mg base 1 "far_end" (spR K R_far) := by
  refine cl_of D (fun _ _ _ _ _ _ us hl => match us, hl with | [_, _], _ => rfl) sc_far_end (spR_len fun ds d h => by obtain ⟨l, j, rfl, _⟩ := h; rfl) fun f cdv A outer s H vs Q E hr h => ?_
  obtain ⟨M, ds, d, lv, ha, ⟨l, j, rfl, rfl⟩, q⟩ := h
  cases ha with
  | cons h1 h2 =>
  cases h2 with
  | cons h2 h3 =>
  cases h3
  obtain ⟨a, rfl, hs⟩ := h1.up.lk
  cases h2.int_inv
  refine ⟨_, pss_one (ps_ret (pe_ifExp (pt_cmpR op_eq (pe_ix ix_tup (pv 0) pe_int (fun _ _ => rfl)) (pv 1) (nomark _)) (pe_ix ix_tup (pv 0) pe_int (fun _ _ => rfl)) (pe_ix ix_tup (pv 0) pe_int (fun _ _ => rfl)))), ?_⟩
  refine ⟨_, rfl, a, _, 1, _, rfl, rfl, hs, rfl, _, rfl, rfl, _, rfl, ?_⟩
  refine ite2 (fun c => ?_) (fun c => ?_)
  · have c' := V.int.inj (of_decide_eq_true c)
    refine ⟨_, rfl, a, _, 2, _, rfl, rfl, hs, rfl, q _ H (Same.refl H) ?_⟩
    rw [farE, if_pos c']
    exact .int _
  · have c' : ¬ l.2.1 = j := fun z => c (decide_eq_true (by rw [z]))
    refine ⟨_, rfl, a, _, 1, _, rfl, rfl, hs, rfl, q _ H (Same.refl H) ?_⟩
    rw [farE, if_neg c']
    exact .int _
end
end S6

/-! M5: what is reached, walks, sides: plain. -/
namespace S6
open PySem PySem.Spec PyProof.Rows L2
/-! ### counting -/
theorem nd_len {α : Type} [DecidableEq α] : ∀ {l m : List α}, l.Nodup → (∀ x ∈ l, x ∈ m) → l.length ≤ m.length
  | [], _, _, _ => Nat.zero_le _
  | a :: l, m, h, s => by
    obtain ⟨h1, h2⟩ := List.nodup_cons.mp h
    have hm := s a List.mem_cons_self
    have := nd_len (m := m.erase a) h2 fun x hx => (List.mem_erase_of_ne fun e => h1 (by rw [← e]; exact hx)).mpr (s x (List.mem_cons_of_mem _ hx))
    rw [List.length_erase_of_mem hm] at this
    have : 0 < m.length := List.length_pos_of_mem hm
    rw [List.length_cons]
    omega
theorem filt_disj {α : Type} {p q r : α → Bool} : ∀ {l : List α}, (∀ x, p x = true → r x = true) → (∀ x, q x = true → r x = true) → (∀ x, p x = true → q x = false) → (l.filter p).length + (l.filter q).length ≤ (l.filter r).length
  | [], _, _, _ => Nat.le_refl _
  | a :: l, h1, h2, h3 => by
    have ih := filt_disj (l := l) h1 h2 h3
    have e1 : ((a :: l).filter p).length = (if p a = true then 1 else 0) + (l.filter p).length := by
      rw [List.filter_cons]; by_cases h : p a = true <;> simp [h]; omega
    have e2 : ((a :: l).filter q).length = (if q a = true then 1 else 0) + (l.filter q).length := by
      rw [List.filter_cons]; by_cases h : q a = true <;> simp [h]; omega
    have e3 : ((a :: l).filter r).length = (if r a = true then 1 else 0) + (l.filter r).length := by
      rw [List.filter_cons]; by_cases h : r a = true <;> simp [h]; omega
    rw [e1, e2, e3]
    by_cases hp : p a = true
    · rw [if_pos hp, if_pos (h1 a hp), h3 a hp, if_neg Bool.false_ne_true]; omega
    · rw [if_neg hp]
      by_cases hq : q a = true
      · rw [if_pos hq, if_pos (h2 a hq)]; omega
      · rw [if_neg hq]; omega
/-! ### reached -/
def tch (l : Lk) (j : Int) : Bool := decide (j ∈ [l.2.1, l.2.2])
def grow1 (j : Int) (f : List Int) (l : Lk) : List Int := if (tch l j && !decide (farE l j ∈ f)) = true then f ++ [farE l j] else f
def growL (ls : List Lk) (j : Int) (f : List Int) : List Int := ls.foldl (grow1 j) f
def reachGo (ls : List Lk) : Nat → Nat → List Int → List Int
  | 0, _, f => f
  | n + 1, i, f => match f[i]? with
    | some j => reachGo ls n (i + 1) (growL ls j f)
    | none => f
def reach (ls : List Lk) (a : Int) : List Int := reachGo ls (1 + 2 * ls.length) 0 [a]
/-- all joints that can be found -/
def endsL (ls : List Lk) : List Int := ls.flatMap fun l => [l.2.1, l.2.2]
theorem endsL_len : ∀ ls : List Lk, (endsL ls).length = 2 * ls.length
  | [] => rfl
  | l :: ls => by
    have := endsL_len ls
    unfold endsL at this ⊢
    rw [List.flatMap_cons, List.length_append, this, List.length_cons]
    show 2 + 2 * ls.length = 2 * (ls.length + 1)
    omega
theorem endsL_mem {ls : List Lk} {l : Lk} (h : l ∈ ls) (j : Int) : farE l j ∈ endsL ls := by
  refine List.mem_flatMap.mpr ⟨l, h, ?_⟩
  unfold farE
  split <;> simp
structure RInv (ls : List Lk) (a : Int) (f : List Int) : Prop where
  nd : f.Nodup
  sub : ∀ x ∈ f, x ∈ a :: endsL ls
theorem RInv.len {ls : List Lk} {a : Int} {f : List Int} (h : RInv ls a f) : f.length ≤ 1 + 2 * ls.length := by
  have := nd_len h.nd h.sub
  rw [List.length_cons, endsL_len] at this
  omega
theorem RInv.grow1 {ls : List Lk} {a j : Int} {f : List Int} {l : Lk} (h : RInv ls a f) (hl : l ∈ ls) : RInv ls a (grow1 j f l) := by
  unfold S6.grow1
  by_cases c : (tch l j && !decide (farE l j ∈ f)) = true
  · rw [if_pos c]
    rw [Bool.and_eq_true, Bool.not_eq_true', decide_eq_false_iff_not] at c
    refine ⟨List.nodup_append.mpr ⟨h.nd, by simp, fun x hx y hy e => c.2 ?_⟩, fun x hx => ?_⟩
    · rw [← List.mem_singleton.mp hy, ← e]; exact hx
    · rcases List.mem_append.mp hx with z | z
      · exact h.sub x z
      · rw [List.mem_singleton.mp z]
        exact List.mem_cons_of_mem _ (endsL_mem hl j)
  · rw [if_neg c]; exact h
theorem RInv.growL {ls : List Lk} {a j : Int} : ∀ {ks : List Lk} {f : List Int}, (∀ l ∈ ks, l ∈ ls) → RInv ls a f → RInv ls a (growL ks j f)
  | [], f, _, h => h
  | k :: ks, f, s, h => RInv.growL (ks := ks) (fun l hl => s l (List.mem_cons_of_mem _ hl)) (h.grow1 (s k List.mem_cons_self))
/-! ### walks -/
def wOk (j : Int) (p : List Int) (l : Lk) : Bool := tch l j && !decide (farE l j ∈ p)
def wfr (ls : List Lk) : Nat → Int → List Int → List (List Nat)
  | 0, _, _ => []
  | n + 1, j, p => if j = 1 then [[]] else (ls.zipIdx).flatMap fun x => if wOk j p x.1 = true then (wfr ls n (farE x.1 j) (p ++ [farE x.1 j])).map (x.2 :: ·) else []
def free (p : List Int) (l : Lk) : Bool := !decide (l.2.1 ∈ p) && !decide (l.2.2 ∈ p)
def live (ls : List Lk) (j : Int) (p : List Int) : Nat := (ls.filter (wOk j p)).length + (ls.filter (free p)).length
theorem far_or {l : Lk} {j : Int} (h : tch l j = true) : (l.2.1 = j ∧ l.2.2 = farE l j) ∨ (l.2.2 = j ∧ l.2.1 = farE l j) := by
  unfold tch at h
  have h := of_decide_eq_true h
  unfold farE
  by_cases c : l.2.1 = j
  · rw [if_pos c]; exact .inl ⟨c, rfl⟩
  · rw [if_neg c]
    rcases List.mem_cons.mp h with z | z
    · exact absurd z.symm c
    · exact .inr ⟨(List.mem_singleton.mp z).symm, rfl⟩
theorem live_step {ls : List Lk} {k : Int} {p : List Int} (hk : k ∉ p) : live ls k (p ++ [k]) ≤ (ls.filter (free p)).length := by
  refine filt_disj (fun l h => ?_) (fun l h => ?_) fun l h => ?_
  · unfold wOk at h
    rw [Bool.and_eq_true, Bool.not_eq_true', decide_eq_false_iff_not, List.mem_append, not_or] at h
    unfold free
    rcases far_or h.1 with ⟨e1, e2⟩ | ⟨e1, e2⟩
    · rw [e1, e2, decide_eq_false hk, decide_eq_false h.2.1]; rfl
    · rw [e1, e2, decide_eq_false hk, decide_eq_false h.2.1]; rfl
  · unfold free at h ⊢
    simp only [Bool.and_eq_true, Bool.not_eq_true', decide_eq_false_iff_not, List.mem_append, not_or] at h ⊢
    exact ⟨h.1.1, h.2.1⟩
  · unfold wOk at h
    rw [Bool.and_eq_true] at h
    unfold free
    rcases far_or h.1 with ⟨e1, _⟩ | ⟨e1, _⟩
    · rw [e1, decide_eq_true (by simp)]; rfl
    · rw [e1, decide_eq_true (p := k ∈ p ++ [k]) (by simp), Bool.not_true, Bool.and_false]
theorem live_lt {ls : List Lk} {j : Int} {p : List Int} {l : Lk} (hl : l ∈ ls) (h : wOk j p l = true) : live ls (farE l j) (p ++ [farE l j]) < live ls j p := by
  have h' := h
  unfold wOk at h'
  rw [Bool.and_eq_true, Bool.not_eq_true', decide_eq_false_iff_not] at h'
  have h1 := live_step (ls := ls) h'.2
  have h2 : 0 < (ls.filter (wOk j p)).length := List.length_pos_of_mem (List.mem_filter.mpr ⟨hl, h⟩)
  unfold live at h1 ⊢
  omega
theorem flat_if {α β : Type} {A : α → Bool} {g : α → List β} {k : Nat} : ∀ {L : List α}, (∀ x ∈ L, A x = true → (g x).length ≤ k) → (L.flatMap fun x => if A x = true then g x else []).length ≤ (L.filter A).length * k
  | [], _ => by simp
  | x :: L, h => by
    have ih := flat_if (L := L) fun y hy => h y (List.mem_cons_of_mem _ hy)
    rw [List.flatMap_cons, List.length_append, List.filter_cons]
    by_cases c : A x = true
    · rw [if_pos c, if_pos c, List.length_cons, Nat.add_mul, Nat.one_mul]
      have := h x List.mem_cons_self c
      omega
    · rw [if_neg c, if_neg c]
      simpa using ih
theorem zip_filt (A : Lk → Bool) (ls : List Lk) : ((ls.zipIdx).filter fun x => A x.1).length = (ls.filter A).length := by
  have e : ls = (ls.zipIdx).map (·.1) := by simp
  conv => rhs; rw [e]
  rw [List.filter_map, List.length_map]
  rfl
theorem wfr_len (ls : List Lk) : ∀ (n : Nat) (j : Int) (p : List Int), (wfr ls n j p).length ≤ 2 ^ live ls j p
  | 0, _, _ => Nat.zero_le _
  | n + 1, j, p => by
    rw [wfr]
    by_cases c : j = 1
    · rw [if_pos c]; exact Nat.one_le_two_pow
    · rw [if_neg c]
      have h := flat_if (L := ls.zipIdx) (A := fun x => wOk j p x.1) (g := fun x => (wfr ls n (farE x.1 j) (p ++ [farE x.1 j])).map (x.2 :: ·)) (k := 2 ^ (ls.filter (free p)).length) (fun x hx hA => by
        rw [List.length_map]
        refine Nat.le_trans (wfr_len ls n _ _) (Nat.pow_le_pow_right (by decide) ?_)
        refine live_step ?_
        unfold wOk at hA
        rw [Bool.and_eq_true, Bool.not_eq_true', decide_eq_false_iff_not] at hA
        exact hA.2)
      rw [zip_filt] at h
      refine Nat.le_trans h ?_
      unfold live
      rw [Nat.pow_add]
      exact Nat.mul_le_mul_right _ (Nat.le_of_lt Nat.lt_two_pow_self)
theorem wfr_mem {ls : List Lk} : ∀ {n : Nat} {j : Int} {p : List Int} {w : List Nat}, w ∈ wfr ls n j p → w.length ≤ live ls j p ∧ ∀ i ∈ w, i < ls.length
  | 0, _, _, w, h => by rw [wfr] at h; cases h
  | n + 1, j, p, w, h => by
    rw [wfr] at h
    by_cases c : j = 1
    · rw [if_pos c] at h
      rw [List.mem_singleton.mp h]
      exact ⟨Nat.zero_le _, fun i hi => nomatch hi⟩
    · rw [if_neg c] at h
      obtain ⟨x, hx, hw⟩ := List.mem_flatMap.mp h
      by_cases hA : wOk j p x.1 = true
      · rw [if_pos hA] at hw
        obtain ⟨w', hw', rfl⟩ := List.mem_map.mp hw
        obtain ⟨a1, a2⟩ := wfr_mem hw'
        have hx1 : x.1 ∈ ls := List.fst_mem_of_mem_zipIdx hx
        have hx2 : x.2 < ls.length := by
          have := List.snd_lt_of_mem_zipIdx hx
          simpa using this
        have := live_lt hx1 hA
        refine ⟨by rw [List.length_cons]; omega, fun i hi => ?_⟩
        rcases List.mem_cons.mp hi with z | z
        · rw [z]; exact hx2
        · exact a2 i z
      · rw [if_neg hA] at hw
        cases hw
theorem live_le (ls : List Lk) (j : Int) : live ls j [j] ≤ ls.length := by
  have := filt_disj (l := ls) (p := wOk j [j]) (q := free [j]) (r := fun _ => true) (fun _ _ => rfl) (fun _ _ => rfl) fun l h => by
    unfold wOk at h
    rw [Bool.and_eq_true] at h
    unfold free
    rcases far_or h.1 with ⟨e1, _⟩ | ⟨e1, _⟩
    · rw [e1, decide_eq_true (by simp)]; rfl
    · rw [e1, decide_eq_true (p := j ∈ [j]) (by simp), Bool.not_true, Bool.and_false]
  exact Nat.le_trans this (List.length_filter_le _ _)
def walksL (ls : List Lk) : List (List Nat) := wfr ls 8 0 [0]
def onW (ls : List Lk) : List Lk := (ls.zipIdx.filter fun x => decide (x.2 ∈ (walksL ls).flatten)).map (·.1)
theorem onW_len (ls : List Lk) : (onW ls).length ≤ ls.length := by
  unfold onW
  rw [List.length_map]
  refine Nat.le_trans (List.length_filter_le _ _) ?_
  rw [List.length_zipIdx]
  exact Nat.le_refl _
theorem onW_mem {ls : List Lk} {l : Lk} (h : l ∈ onW ls) : l ∈ ls := by
  obtain ⟨x, hx, rfl⟩ := List.mem_map.mp h
  exact List.fst_mem_of_mem_zipIdx (List.mem_filter.mp hx).1
/-! ### counts -/
def cnt (ls : List Lk) (ps : List Nat) : List Str := srtS (ps.map fun i => (ls.getD i ("", 0, 0)).1)
def cntT (c : List Str) : Str := catS Str.empty [p2 c.length, " ", Txt.join " " c]
def inOrd (cs : List (List Str)) : List (List Str) := (setS (cs.map cntT)).map fun t => (Txt.words t).drop 1
/-! ### sides -/
def nextJ (ls : List Lk) (s : List Int) : List Int := (ls.flatMap fun l => (s.filter fun j => tch l j).map fun j => farE l j).filter fun j => !decide (j ∈ s) && !decide (j = 1)
def side1 (f0 : List Int) (f : List (List Int)) (j : Int) : List (List Int) := if srtI (f0 ++ [j]) ∈ f then f else f ++ [srtI (f0 ++ [j])]
def sidesGo (ls : List Lk) : Nat → Nat → List (List Int) → List (List Int)
  | 0, _, f => f
  | n + 1, i, f => match f[i]? with
    | some s => sidesGo ls n (i + 1) ((nextJ ls s).foldl (side1 s) f)
    | none => f
def sides (ls : List Lk) : List (List Int) := sidesGo ls (2 ^ ls.length) 0 [[0]]
def subs {α : Type} : List α → List (List α)
  | [] => [[]]
  | x :: l => subs l ++ (subs l).map (x :: ·)
theorem subs_len {α : Type} : ∀ l : List α, (subs l).length = 2 ^ l.length
  | [] => rfl
  | x :: l => by rw [subs, List.length_append, List.length_map, subs_len l, List.length_cons, Nat.pow_succ]; omega
theorem subs_filter {α : Type} (p : α → Bool) : ∀ l : List α, l.filter p ∈ subs l
  | [] => List.mem_singleton.mpr rfl
  | x :: l => by
    rw [List.filter_cons, subs]
    by_cases h : p x = true
    · rw [if_pos h]; exact List.mem_append_right _ (List.mem_map.mpr ⟨_, subs_filter p l, rfl⟩)
    · rw [if_neg h]; exact List.mem_append_left _ (subs_filter p l)
/-- a side that a part of the links makes -/
def sd (k : List Lk) : List Int := setI (0 :: endsL k)
structure SInv (ls : List Lk) (f : List (List Int)) : Prop where
  nd : f.Nodup
  sub : ∀ s ∈ f, ∃ p : Lk → Bool, s = sd (ls.filter p)
theorem SInv.len {ls : List Lk} {f : List (List Int)} (h : SInv ls f) : f.length ≤ 2 ^ ls.length := by
  have := nd_len (m := (subs ls).map sd) h.nd fun s hs => by
    obtain ⟨p, rfl⟩ := h.sub s hs
    exact List.mem_map.mpr ⟨_, subs_filter p ls, rfl⟩
  rwa [List.length_map, subs_len] at this
theorem nextJ_mem {ls : List Lk} {s : List Int} {j : Int} (h : j ∈ nextJ ls s) : j ∉ s ∧ ∃ l ∈ ls, ∃ k ∈ s, tch l k = true ∧ j = farE l k := by
  obtain ⟨h1, h2⟩ := List.mem_filter.mp h
  rw [Bool.and_eq_true, Bool.not_eq_true', decide_eq_false_iff_not] at h2
  obtain ⟨l, hl, h3⟩ := List.mem_flatMap.mp h1
  obtain ⟨k, hk, rfl⟩ := List.mem_map.mp h3
  obtain ⟨k1, k2⟩ := List.mem_filter.mp hk
  exact ⟨h2.1, l, hl, k, k1, k2, rfl⟩
theorem sd_grow {ls : List Lk} {s : List Int} {j : Int} {p : Lk → Bool} (hs : s = sd (ls.filter p)) (h : j ∈ nextJ ls s) : ∃ q : Lk → Bool, srtI (s ++ [j]) = sd (ls.filter q) := by
  obtain ⟨hn, l, hl, k, hk, ht, rfl⟩ := nextJ_mem h
  refine ⟨fun x => p x || decide (x = l), setI_of ?_ fun i => ?_⟩
  · have h1 := srtI_pw (s ++ [farE l k])
    have nd : (srtI (s ++ [farE l k])).Nodup := (srtI_perm _).nodup_iff.mpr (List.nodup_append.mpr ⟨by rw [hs]; exact setI_nd _, by simp, fun x hx y hy e => hn (by rw [← List.mem_singleton.mp hy, ← e]; exact hx)⟩)
    have nd' : (srtI (s ++ [farE l k])).Pairwise (fun a b => a ≠ b) := nd
    exact (h1.and nd').imp fun ⟨a, b⟩ => by omega
  · rw [(srtI_perm _).mem_iff, List.mem_append, List.mem_singleton]
    have e0 : i ∈ s ↔ i = 0 ∨ ∃ x ∈ ls, p x = true ∧ (i = x.2.1 ∨ i = x.2.2) := by
      rw [hs, sd, setI_mem, List.mem_cons, endsL, List.mem_flatMap]
      refine or_congr_right ⟨fun ⟨x, hx, hi⟩ => ?_, fun ⟨x, hx, hp, hi⟩ => ⟨x, List.mem_filter.mpr ⟨hx, hp⟩, by simpa using hi⟩⟩
      obtain ⟨a, b⟩ := List.mem_filter.mp hx
      exact ⟨x, a, b, by simpa using hi⟩
    have e1 : i ∈ 0 :: endsL (ls.filter fun x => p x || decide (x = l)) ↔ i = 0 ∨ ∃ x ∈ ls, (p x || decide (x = l)) = true ∧ (i = x.2.1 ∨ i = x.2.2) := by
      rw [List.mem_cons, endsL, List.mem_flatMap]
      refine or_congr_right ⟨fun ⟨x, hx, hi⟩ => ?_, fun ⟨x, hx, hp, hi⟩ => ⟨x, List.mem_filter.mpr ⟨hx, hp⟩, by simpa using hi⟩⟩
      obtain ⟨a, b⟩ := List.mem_filter.mp hx
      exact ⟨x, a, b, by simpa using hi⟩
    rw [e1]
    constructor
    · rintro (hi | rfl)
      · rcases e0.mp hi with z | ⟨x, hx, hp, hi⟩
        · exact .inl z
        · exact .inr ⟨x, hx, by rw [hp]; rfl, hi⟩
      · refine .inr ⟨l, hl, by rw [decide_eq_true rfl, Bool.or_true], ?_⟩
        rcases far_or ht with ⟨_, z⟩ | ⟨_, z⟩
        · exact .inr z.symm
        · exact .inl z.symm
    · rintro (z | ⟨x, hx, hp, hi⟩)
      · exact .inl (e0.mpr (.inl z))
      · rw [Bool.or_eq_true] at hp
        rcases hp with hp | hp
        · exact .inl (e0.mpr (.inr ⟨x, hx, hp, hi⟩))
        · have hp := of_decide_eq_true hp
          subst hp
          rcases far_or ht with ⟨z1, z2⟩ | ⟨z1, z2⟩
          · rcases hi with hi | hi
            · exact .inl (by rw [hi, z1]; exact hk)
            · exact .inr (by rw [hi, z2])
          · rcases hi with hi | hi
            · exact .inr (by rw [hi, z2])
            · exact .inl (by rw [hi, z1]; exact hk)
theorem SInv.step {ls : List Lk} {f : List (List Int)} {s : List Int} {j : Int} (h : SInv ls f) (hs : ∃ p : Lk → Bool, s = sd (ls.filter p)) (hj : j ∈ nextJ ls s) : SInv ls (side1 s f j) := by
  unfold side1
  obtain ⟨p, hp⟩ := hs
  by_cases c : srtI (s ++ [j]) ∈ f
  · rw [if_pos c]; exact h
  · rw [if_neg c]
    refine ⟨List.nodup_append.mpr ⟨h.nd, by simp, fun x hx y hy e => c (by rw [← List.mem_singleton.mp hy, ← e]; exact hx)⟩, fun x hx => ?_⟩
    rcases List.mem_append.mp hx with z | z
    · exact h.sub x z
    · rw [List.mem_singleton.mp z]
      exact sd_grow hp hj
theorem SInv.start (ls : List Lk) : SInv ls [[0]] := ⟨by simp, fun s hs => by
  rw [List.mem_singleton.mp hs]
  refine ⟨fun _ => false, ?_⟩
  have e : ls.filter (fun _ => false) = [] := List.filter_eq_nil_iff.mpr fun _ _ z => nomatch z
  rw [e]
  exact setI_of (by simp) fun k => by simp [endsL]⟩
/-! ### cuts -/
def leave (ls : List Lk) (s : List Int) : List Nat := (ls.zipIdx.filter fun x => !decide (decide (x.1.2.1 ∈ s) = decide (x.1.2.2 ∈ s))).map (·.2)
def least (ls : List Lk) (s : List Int) : Bool := (ls.flatMap fun l => [l.2.1, l.2.2].map fun j => decide (j ∈ s) || decide (j ∈ reach (ls.filter fun l => !decide (l.2.1 ∈ s) && !decide (l.2.2 ∈ s)) 1)).all id
def cutsL (ls : List Lk) : List (List Str) := if onW ls = [] then [[]] else inOrd (((sides (onW ls)).filter fun s => least (onW ls) s).map fun s => cnt (onW ls) (leave (onW ls) s))
def waysL (ls : List Lk) : List (List Str) := inOrd ((walksL ls).map fun w => cnt ls w)
/-! ### the loops' steps -/
theorem grow_get {j : Int} {ks : List Lk} {i : Nat} {a : Int} : ∀ {f : List Int}, f[i]? = some a → (growL ks j f)[i]? = some a := by
  induction ks with
  | nil => exact fun h => h
  | cons k ks ih =>
    intro f h
    refine ih (f := grow1 j f k) ?_
    unfold grow1
    by_cases c : (tch k j && !decide (farE k j ∈ f)) = true
    · rw [if_pos c, List.getElem?_append_left (List.getElem?_eq_some_iff.mp h).1]; exact h
    · rw [if_neg c]; exact h
theorem reachGo_step {ls : List Lk} {N i : Nat} {f : List Int} {j : Int} (h : f[i]? = some j) (hi : i < N) : reachGo ls (N - i) i f = reachGo ls (N - (i + 1)) (i + 1) (growL ls j f) := by
  obtain ⟨m, hm⟩ : ∃ m, N - i = m + 1 := ⟨N - i - 1, by omega⟩
  rw [hm, reachGo, h, show N - (i + 1) = m by omega]
theorem reachGo_end {ls : List Lk} {n i : Nat} {f : List Int} (h : f.length ≤ i) : reachGo ls n i f = f := by
  cases n with
  | zero => rfl
  | succ n => rw [reachGo, List.getElem?_eq_none h]
theorem sidesGo_step {ls : List Lk} {N i : Nat} {f : List (List Int)} {s : List Int} (h : f[i]? = some s) (hi : i < N) : sidesGo ls (N - i) i f = sidesGo ls (N - (i + 1)) (i + 1) ((nextJ ls s).foldl (side1 s) f) := by
  obtain ⟨m, hm⟩ : ∃ m, N - i = m + 1 := ⟨N - i - 1, by omega⟩
  rw [hm, sidesGo, h, show N - (i + 1) = m by omega]
theorem sidesGo_end {ls : List Lk} {n i : Nat} {f : List (List Int)} (h : f.length ≤ i) : sidesGo ls n i f = f := by
  cases n with
  | zero => rfl
  | succ n => rw [sidesGo, List.getElem?_eq_none h]
theorem reach_len (ls : List Lk) (a : Int) : (reach ls a).length ≤ 1 + 2 * ls.length := by
  have key : ∀ (n i : Nat) (f : List Int), RInv ls a f → RInv ls a (reachGo ls n i f) := by
    intro n
    induction n with
    | zero => intro i f h; exact h
    | succ n ih =>
      intro i f h
      rw [reachGo]
      cases f[i]? with
      | none => exact h
      | some j => exact ih _ _ (h.growL fun l hl => hl)
  exact (key _ _ _ ⟨by simp, fun x hx => by rw [List.mem_singleton.mp hx]; exact List.mem_cons_self⟩).len
theorem sides_inv (ls : List Lk) : SInv ls (sides ls) := by
  have fold : ∀ (js : List Int) (s : List Int) (f : List (List Int)), SInv ls f → s ∈ f → (∀ j ∈ js, j ∈ nextJ ls s) → SInv ls (js.foldl (side1 s) f) := by
    intro js s
    induction js with
    | nil => intro f h _ _; exact h
    | cons j js ih =>
      intro f h hs hj
      refine ih _ (h.step (h.sub s hs) (hj j List.mem_cons_self)) ?_ fun k hk => hj k (List.mem_cons_of_mem _ hk)
      unfold side1
      by_cases c : srtI (s ++ [j]) ∈ f
      · rw [if_pos c]; exact hs
      · rw [if_neg c]; exact List.mem_append_left _ hs
  have key : ∀ (n i : Nat) (f : List (List Int)), SInv ls f → SInv ls (sidesGo ls n i f) := by
    intro n
    induction n with
    | zero => intro i f h; exact h
    | succ n ih =>
      intro i f h
      rw [sidesGo]
      cases hf : f[i]? with
      | none => exact h
      | some s => exact ih _ _ (fold _ _ _ h (List.mem_of_getElem? hf) fun j hj => hj)
  exact key _ _ _ (SInv.start ls)
theorem setS_mem {l : List Str} {k : Str} (h : k ∈ setS l) : k ∈ l := mem_dd.mp ((srtS_perm _).mem_iff.mp h)
theorem setS_len (l : List Str) : (setS l).length ≤ l.length := by
  rw [setS, (srtS_perm _).length_eq]
  exact dd_len l
theorem cnt_len (ls : List Lk) (ps : List Nat) : (cnt ls ps).length = ps.length := by
  rw [cnt, (srtS_perm _).length_eq, List.length_map]
theorem walksL_len {ls : List Lk} (h : ls.length ≤ 7) : (walksL ls).length ≤ 128 := by
  have h1 := wfr_len ls 8 0 [0]
  have h2 : 2 ^ live ls 0 [0] ≤ 2 ^ 7 := Nat.pow_le_pow_right (by decide) (Nat.le_trans (live_le ls 0) h)
  exact Nat.le_trans h1 h2
theorem walksL_mem {ls : List Lk} {w : List Nat} (h : w ∈ walksL ls) : w.length ≤ ls.length ∧ ∀ i ∈ w, i < ls.length := by
  obtain ⟨h1, h2⟩ := wfr_mem h
  exact ⟨Nat.le_trans h1 (live_le ls 0), h2⟩
end S6

set_option profiler true
set_option profiler.threshold 1000
/-! W02: ordered, net_shape. -/
namespace S6
open PySem PySem.Spec PyProof.Rows L2
section
variable {P : Program} {w : World} {K : Frg} {mg : Str → Option Value} {base : Heap} {aO aS aB : Addr}
/-- a list or a tuple of links -/
def lksD (ls : List Lk) (d : PyData) : Prop := d = .list (ls.map lkD) ∨ d = .tuple (ls.map lkD)
def R_ord : List PyData → PyData → Prop := fun ds d => ∃ ls e, ds = [e] ∧ lksD ls e ∧ ls.length ≤ 14 ∧ (∀ l ∈ ls, GL l) ∧ d = .tuple ((ordL ls).map lkD)
theorem src_lks {X : Cx} {tg iter : Expr} {σ : L2.St} {M : List Addr} {H0 : Hp} {ls : List Lk} {e : PyData} (h : ED X σ M H0 iter e) (q : lksD ls e) : Src X tg σ M H0 iter (ls.map lkD) := by
  rcases q with rfl | rfl
  · exact src_list h
  · exact src_tup h
theorem c_ordered (G : Glo K mg aO aS aB) (D : Dfn K mg "ordered" s_ordered) : Cl P w K mg base 1 "ordered" (spR K R_ord) := by
  refine cl_w D (fun _ _ _ _ _ _ us hl => match us, hl with | [_], _ => rfl) sc_ordered (spR_len fun ds d h => by obtain ⟨ls, e, rfl, _⟩ := h; rfl) fun f cdv A outer s H vs Q E hr h => ?_
  obtain ⟨M, ds, d, lv, ha, ⟨ls, e, rfl, hle, h14, hg, rfl⟩, q⟩ := h
  obtain ⟨v, rfl, hv⟩ := ha.inv1
  have nd := sc_ordered.nd
  refine sw_setLc 1 (own := [("name", 3), ("u", 4), ("v", 5)]) (f := fun l => lkD (nrm l)) (fs := fun l => [.str l.1, .int l.2.1, .int l.2.2]) rfl nd lv (src_lks (ed_v 0 rfl hv) hle) (blkOk_by (N := n_ordered) (sc := defScope s_ordered) (by decide +kernel))
    (fun _ _ _ _ _ => pg3 rfl 3 4 5 (pg1 3 nd) (pg1 4 nd) (pg1 5 nd)) tg_3 (Nat.le_trans h14 (by decide)) (by decide) (fun l _ => ⟨rfl, rfl⟩) (fun l hl vs D H' s0 h0 C cl fp g lv' hx => ?_) fun v1 H1 g1 hv1 => ?_
  · obtain ⟨x, u, v, rfl, hx1, hx2, hx3⟩ := hx.inv3
    refine ed_if (td_le (ed_v 4 rfl hx2) (ed_v 5 rfl hx3)) (fun h => ?_) (fun h => ?_)
    · have h' : l.2.1 ≤ l.2.2 := of_decide_eq_true h
      exact ed_cast (ed_tup lv' (ad_cons (ed_v 3 rfl hx1) (ad_cons (ed_v 4 rfl hx2) (ad_cons (ed_v 5 rfl hx3) ad_nil))) (by show 3 ≤ sizeLine; decide)) (by rw [nrm, if_pos h']; rfl)
    · have h' : ¬ l.2.1 ≤ l.2.2 := of_decide_eq_false h
      exact ed_cast (ed_tup lv' (ad_cons (ed_v 3 rfl hx1) (ad_cons (ed_v 5 rfl hx3) (ad_cons (ed_v 4 rfl hx2) ad_nil))) (by show 3 ≤ sizeLine; decide)) (by rw [nrm, if_neg h']; rfl)
  refine sw_setLc 2 (own := [("row", 6)]) (ls := ordL ls) (enc := fun l => .str (fmtL l)) (f := fun l => .list [.str l.1, .str (p2 l.2.1.toNat), .str (p2 l.2.2.toNat)]) (fs := fun l => [.str (fmtL l)]) rfl nd (lv.same g1) ?_ (blkOk_by (N := n_ordered) (sc := defScope s_ordered) (by decide +kernel))
    (fun _ _ _ _ _ => pg1 6 nd) tg_name (by rw [ordL_len]; exact Nat.le_trans h14 (by decide)) (by decide) (fun l _ => rfl) (fun l hl vs D H' s0 h0 C cl fp g lv' hx => ?_) fun v2 H2 g2 hv2 => ?_
  · refine src_list (ed_cast (ed_sortS (xs := (ls.map nrm).map fmtL) (lv.same g1) G.sorted (ed_cast (ed_lc (own := [("name", 3), ("u", 4), ("v", 5)]) (ls := ls.map nrm) (enc := lkD) (f := fun l => .str (fmtL l)) (fs := fun l => [.str l.1, .int l.2.1, .int l.2.2]) rfl nd (lv.same g1) (src_list (ed_cast (ed_v 1 rfl hv1) (by rw [List.map_map]; rfl)))
        (blkOk_by (N := n_ordered) (sc := defScope s_ordered) (by decide +kernel)) (fun _ _ _ _ _ => pg3 rfl 3 4 5 (pg1 3 nd) (pg1 4 nd) (pg1 5 nd)) tg_3 (by rw [List.length_map]; exact Nat.le_trans h14 (by decide)) (by decide) (fun l _ => ⟨rfl, rfl⟩) (fun l hl vs D H' s0 h0 C cl fp g lv' hx => ?_)) ?_) ?_) ?_)
    · obtain ⟨x, u, v, rfl, hx1, hx2, hx3⟩ := hx.inv3
      obtain ⟨l0, hl0, rfl⟩ := List.mem_map.mp hl
      have gl := (hg l0 hl0).nrm
      have u0 := gl.u0
      have u1 := gl.u1
      have v0 := gl.v0
      have w1 := gl.v1
      have n8 := gl.nm.hi
      have eu : ((nrm l0).2.1.toNat : Int) = (nrm l0).2.1 := Int.toNat_of_nonneg u0
      have ev : ((nrm l0).2.2.toNat : Int) = (nrm l0).2.2 := Int.toNat_of_nonneg v0
      refine ed_cast (ed_js (ys := [(nrm l0).1, " ", p2 (nrm l0).2.1.toNat, " ", p2 (nrm l0).2.2.toNat]) ⟨ed_fmtS (ed_v 3 rfl hx1) (Nat.le_trans n8 (by decide)), ed_str, ed_fmt02 (k := 0) (ed_cast (ed_v 4 rfl hx2) (by rw [eu])) (by omega), ed_str, ed_fmt02 (k := 0) (ed_cast (ed_v 5 rfl hx3) (by rw [ev])) (by omega), trivial⟩ ?_) ?_
      · simp only [List.map_cons, List.map_nil, List.sum_cons, List.sum_nil, p2_len, len_sp, sizeLine_eq]
        omega
      · rw [catS_cons]
        rfl
    · rw [List.map_map (f := fmtL)]; rfl
    · rw [List.length_map, List.length_map]; omega
    · rw [ordL_texts, List.map_map]; rfl
  · obtain ⟨x, rfl, hx0⟩ := hx.inv1
    have gl := GL.ord hg l hl
    have n8 := gl.nm.hi
    have e1 := fmtL_len l
    refine ed_cast (ed_split lv' (ed_v 6 rfl hx0) ed_str (by decide +kernel) (by rw [sizeLine_eq]; omega)) ?_
    rw [fmtL_split gl]
    rfl
  · refine sw_ret (ed_tupL (ds := (ordL ls).map lkD) (lv.same (g1.trans g2)) G.tuple (ed_lc (own := [("row", 6)]) (ls := ordL ls) (enc := fun l => .list [.str l.1, .str (p2 l.2.1.toNat), .str (p2 l.2.2.toNat)]) (f := lkD) (fs := fun l => [.list [.str l.1, .str (p2 l.2.1.toNat), .str (p2 l.2.2.toNat)]]) rfl nd (lv.same (g1.trans g2)) (src_list (ed_v 2 rfl hv2))
      (blkOk_by (N := n_ordered) (sc := defScope s_ordered) (by decide +kernel)) (fun _ _ _ _ _ => pg1 6 nd) tg_name (by rw [ordL_len]; exact Nat.le_trans h14 (by decide)) (by decide) (fun l _ => rfl) (fun l hl vs D H' s0 h0 C cl fp g lv' hx => ?_))) fun v H' g hv => q v H' (g1.trans (g2.trans g)) hv
    obtain ⟨x, rfl, hx0⟩ := hx.inv1
    have gl := GL.ord hg l hl
    have u0 := gl.u0
    have u1 := gl.u1
    have v0 := gl.v0
    have w1 := gl.v1
    exact ed_tup lv' (ad_cons (ed_ixL (n := 0) (ed_v 6 rfl hx0) ed_int rfl) (ad_cons (ed_cast (ed_intS G.int (ed_ixL (n := 1) (ed_v 6 rfl hx0) ed_int rfl) (p2_num l.2.1.toNat (by omega)) (by rw [p2_len]; omega)) (by rw [Int.toNat_of_nonneg u0]))
      (ad_cons (ed_cast (ed_intS G.int (ed_ixL (n := 2) (ed_v 6 rfl hx0) ed_int rfl) (p2_num l.2.2.toNat (by omega)) (by rw [p2_len]; omega)) (by rw [Int.toNat_of_nonneg v0])) ad_nil))) (by show 3 ≤ sizeLine; decide)
end
end S6

/-! M3: what a shape's laying gives. -/
namespace S6
open PySem PySem.Spec PyProof.Rows
mutual
theorem lay_len : ∀ (s : Shp) (l r f : Int), (lay s l r f).1.length = siz s
  | .opn, _, _, _ => rfl
  | .sht, _, _, _ => rfl
  | .lnk _, _, _, _ => rfl
  | .net ls, l, r, f => by rw [lay, siz, List.length_map]
  | .jn true ps, l, r, f => by rw [lay, siz]; exact layR_len ps l r f
  | .jn false ps, l, r, f => by rw [lay, siz]; exact layB_len ps l r f
theorem layR_len : ∀ (ps : List Shp) (l r f : Int), (layR ps l r f).1.length = sizs ps
  | [], _, _, _ => rfl
  | [p], l, r, f => by rw [layR, sizs, sizs]; exact lay_len p l r f
  | p :: q :: ps, l, r, f => by rw [layR, sizs, List.length_append, lay_len p, layR_len (q :: ps)]
theorem layB_len : ∀ (ps : List Shp) (l r f : Int), (layB ps l r f).1.length = sizs ps
  | [], _, _, _ => rfl
  | p :: ps, l, r, f => by rw [layB, sizs, List.length_append, lay_len p, layB_len ps]
end
/-- f' is behind f by less than three for each of n places -/
def Fr (n : Nat) (f f' : Int) : Prop := f ≤ f' ∧ (n = 0 → f' = f) ∧ (1 ≤ n → f' + 1 ≤ f + 3 * (n : Nat))
mutual
theorem lay_fr : ∀ {s : Shp}, NW s → ∀ (l r f : Int), Fr (siz s) f (lay s l r f).2
  | .opn, _, _, _, f => ⟨Int.le_refl _, fun _ => rfl, fun z => by cases z⟩
  | .sht, _, _, _, f => ⟨Int.le_refl _, fun _ => rfl, fun z => by cases z⟩
  | .lnk _, _, _, _, f => ⟨Int.le_refl _, fun z => absurd z (Nat.succ_ne_zero 0), fun _ => by show f + 1 ≤ f + 3 * ((1 : Nat) : Int); omega⟩
  | .net ls, h, l, r, f => by
    rw [NW] at h
    have h1 := jts_len ls
    have h2 := jts_2 ls
    have h3 : 1 ≤ ls.length := by
      cases ls with
      | nil => exact absurd rfl h.1
      | cons _ _ => simp
    rw [lay, siz]
    refine ⟨by dsimp only; omega, fun z => by omega, fun _ => by dsimp only; omega⟩
  | .jn true ps, h, l, r, f => by
    rw [NW] at h
    rw [lay, siz]
    exact layR_fr h.2 l r f
  | .jn false ps, h, l, r, f => by
    rw [NW] at h
    rw [lay, siz]
    exact layB_fr h.2 l r f
theorem layR_fr : ∀ {k : Bool} {ps : List Shp}, NWs k ps → ∀ (l r f : Int), Fr (sizs ps) f (layR ps l r f).2
  | _, [], _, _, _, f => ⟨Int.le_refl _, fun _ => rfl, fun z => by cases z⟩
  | k, [p], h, l, r, f => by
    rw [NWs] at h
    have := lay_fr h.1.1 l r f
    rw [layR, sizs, sizs]
    exact this
  | k, p :: q :: ps, h, l, r, f => by
    rw [NWs] at h
    have p1 := NW_pos h.1.1 h.1.2.1 h.1.2.2.1
    obtain ⟨a1, a2, a3⟩ := lay_fr h.1.1 l f (f + 1)
    obtain ⟨b1, b2, b3⟩ := layR_fr h.2 f r (lay p l f (f + 1)).2
    have q1 : 1 ≤ sizs (q :: ps) := by
      have := NWs_len h.2
      rw [List.length_cons] at this
      omega
    rw [layR, sizs]
    have := a3 p1
    have := b3 q1
    refine ⟨by dsimp only; omega, fun z => by omega, fun _ => by dsimp only; omega⟩
theorem layB_fr : ∀ {k : Bool} {ps : List Shp}, NWs k ps → ∀ (l r f : Int), Fr (sizs ps) f (layB ps l r f).2
  | _, [], _, _, _, f => ⟨Int.le_refl _, fun _ => rfl, fun z => by cases z⟩
  | k, p :: ps, h, l, r, f => by
    rw [NWs] at h
    have p1 := NW_pos h.1.1 h.1.2.1 h.1.2.2.1
    obtain ⟨a1, a2, a3⟩ := lay_fr h.1.1 l r f
    obtain ⟨b1, b2, b3⟩ := layB_fr h.2 l r (lay p l r f).2
    rw [layB, sizs]
    have := a3 p1
    refine ⟨by dsimp only; omega, fun z => by omega, fun _ => ?_⟩
    dsimp only
    by_cases z : sizs ps = 0
    · have := b2 z
      omega
    · have := b3 (by omega)
      omega
end
/-- a joint below 100 -/
def J99 (j : Int) : Prop := 0 ≤ j ∧ j ≤ 99
theorem ren_in {js vals : List Int} {u : Int} (hl : js.length = vals.length) (hu : u ∈ js) : ren js vals u ∈ vals := by
  have hi : js.idxOf u < vals.length := by rw [← hl]; exact List.idxOf_lt_length_of_mem hu
  unfold ren
  rw [List.getD_eq_getElem?_getD, List.getElem?_eq_getElem hi]
  exact List.getElem_mem hi
theorem upFrom_mem {f x : Int} {n : Nat} (h : x ∈ upFrom f n) : f ≤ x ∧ x < f + (n : Nat) := by
  obtain ⟨i, hi, rfl⟩ := List.mem_map.mp h
  have := List.mem_range.mp hi
  exact ⟨by omega, by omega⟩
theorem vals_len (ls : List Lk) (l r f : Int) : (jts ls).length = (l :: r :: upFrom f ((jts ls).length - 2)).length := by
  have := jts_2 ls
  rw [List.length_cons, List.length_cons, upFrom_len]
  omega
mutual
theorem lay_GL : ∀ {s : Shp}, NW s → ∀ {l r f : Int}, J99 l → J99 r → 0 ≤ f → (lay s l r f).2 ≤ 100 → ∀ x ∈ (lay s l r f).1, GL x
  | .opn, _, _, _, _, _, _, _, _, x, hx => nomatch hx
  | .sht, _, _, _, _, _, _, _, _, x, hx => nomatch hx
  | .lnk y, h, l, r, f, hl, hr, _, _, x, hx => by
    rw [lay] at hx
    rw [NW] at h
    rw [List.mem_singleton.mp hx]
    exact ⟨h, hl.1, hl.2, hr.1, hr.2⟩
  | .net ls, h, l, r, f, hl, hr, h0, h1, x, hx => by
    rw [lay] at hx h1
    rw [NW] at h
    obtain ⟨y, hy, rfl⟩ := List.mem_map.mp hx
    have g := h.2.2 y hy
    dsimp only at h1
    have key : ∀ u, u ∈ jts ls → J99 (ren (jts ls) (l :: r :: upFrom f ((jts ls).length - 2)) u) := fun u hu => by
      rcases List.mem_cons.mp (ren_in (vals_len ls l r f) hu) with e | e
      · rw [e]; exact hl
      · rcases List.mem_cons.mp e with e | e
        · rw [e]; exact hr
        · obtain ⟨a, b⟩ := upFrom_mem e
          exact ⟨by omega, by omega⟩
    obtain ⟨k1, k2⟩ := key _ (jts_u hy)
    obtain ⟨k3, k4⟩ := key _ (jts_v hy)
    exact ⟨g.nm, k1, k2, k3, k4⟩
  | .jn true ps, h, l, r, f, hl, hr, h0, h1, x, hx => by
    rw [NW] at h
    rw [lay] at hx h1
    exact layR_GL h.2 hl hr h0 h1 x hx
  | .jn false ps, h, l, r, f, hl, hr, h0, h1, x, hx => by
    rw [NW] at h
    rw [lay] at hx h1
    exact layB_GL h.2 hl hr h0 h1 x hx
theorem layR_GL : ∀ {k : Bool} {ps : List Shp}, NWs k ps → ∀ {l r f : Int}, J99 l → J99 r → 0 ≤ f → (layR ps l r f).2 ≤ 100 → ∀ x ∈ (layR ps l r f).1, GL x
  | _, [], _, _, _, _, _, _, _, _, x, hx => nomatch hx
  | k, [p], h, l, r, f, hl, hr, h0, h1, x, hx => by
    rw [NWs] at h
    rw [layR] at hx h1
    exact lay_GL h.1.1 hl hr h0 h1 x hx
  | k, p :: q :: ps, h, l, r, f, hl, hr, h0, h1, x, hx => by
    rw [NWs] at h
    rw [layR] at hx h1
    dsimp only at hx h1
    obtain ⟨a1, _, _⟩ := lay_fr h.1.1 l f (f + 1)
    obtain ⟨b1, _, _⟩ := layR_fr h.2 f r (lay p l f (f + 1)).2
    rcases List.mem_append.mp hx with e | e
    · exact lay_GL h.1.1 hl ⟨h0, by omega⟩ (by omega) (by omega) x e
    · exact layR_GL h.2 ⟨h0, by omega⟩ hr (by omega) h1 x e
theorem layB_GL : ∀ {k : Bool} {ps : List Shp}, NWs k ps → ∀ {l r f : Int}, J99 l → J99 r → 0 ≤ f → (layB ps l r f).2 ≤ 100 → ∀ x ∈ (layB ps l r f).1, GL x
  | _, [], _, _, _, _, _, _, _, _, x, hx => nomatch hx
  | k, p :: ps, h, l, r, f, hl, hr, h0, h1, x, hx => by
    rw [NWs] at h
    rw [layB] at hx h1
    dsimp only at hx h1
    obtain ⟨a1, _, _⟩ := lay_fr h.1.1 l r f
    obtain ⟨b1, _, _⟩ := layB_fr h.2 l r (lay p l r f).2
    rcases List.mem_append.mp hx with e | e
    · exact lay_GL h.1.1 hl hr h0 (by omega) x e
    · exact layB_GL h.2 hl hr (by omega) h1 x e
end
theorem lay0_GL {s : Shp} (h : NW s) (hs : siz s ≤ 14) : ∀ x ∈ (lay s 0 1 2).1, GL x := by
  obtain ⟨a, b, c⟩ := lay_fr h 0 1 2
  refine lay_GL h ⟨by omega, by omega⟩ ⟨by omega, by omega⟩ (by omega) ?_
  by_cases z : siz s = 0
  · have := b z; omega
  · have := c (by omega); omega
theorem laidS_len {s : Shp} : (laidS s).length = siz s := by
  cases s <;> simp only [laidS, ordL_len, lay_len] <;> rfl
theorem laidS_GL {s : Shp} (h : NW s) (hs : siz s ≤ 14) : ∀ x ∈ laidS s, GL x := by
  cases s with
  | net ls => rw [NW] at h; exact h.2.2
  | _ => exact GL.ord (lay0_GL h hs)
theorem laidS_ord {s : Shp} (h : NW s) : ordL (laidS s) = laidS s := by
  cases s with
  | net ls => rw [NW] at h; exact h.2.1
  | _ => exact ordL_ordL _
end S6

/-! W03: net_shape, joined_shape, joints_of. -/
namespace S6
open PySem PySem.Spec PyProof.Rows L2
theorem any_eq {α : Type} {f g : α → Bool} (h : ∀ x, f x = g x) {l : List α} : l.any f = l.any g := by rw [show f = g from funext h]
theorem same_put {H H' : Hp} {a : Addr} {o : HO} (h : H a = none) (s : Same H H') : Same H (upd H' a o) := fun b u x => by
  rw [upd_ne (ne_of_none x h)]
  exact s b u x
section
variable {P : Program} {w : World} {K : Frg} {mg : Str → Option Value} {base : Heap} {aO aS aB : Addr}
theorem ed_lenLk {X : Cx} {σ : L2.St} {M : List Addr} {H0 : Hp} {a : Expr} {p pos : Pos} {ls : List Lk} {e : PyData} (hm : X.mg "len" = none) (h : ED X σ M H0 a e) (q : lksD ls e) (hg : Gl X "len" := by rfl) (na : starEach [a] X.env = (false, eval a X.env) :: starEach [] X.env := by rfl) : ED X σ M H0 (.Call (.Name "len" p) [a] [] pos) (.int ls.length) := by
  rcases q with rfl | rfl
  · exact ed_cast (ed_lenL hm h hg na) (by rw [List.length_map])
  · exact ed_cast (ed_lenT hm h hg na) (by rw [List.length_map])
def R_net : List PyData → PyData → Prop := fun ds d => ∃ ls e, ds = [e] ∧ lksD ls e ∧ ls.length ≤ 14 ∧ (∀ l ∈ ls, GL l) ∧ d = (mkN ls).dT
theorem c_net_shape (G : Glo K mg aO aS aB) (D : Dfn K mg "net_shape" s_net_shape) (O : Cl P w K mg base 1 "ordered" (spR K R_ord)) : Cl P w K mg base 2 "net_shape" (spR K R_net) := by
  refine cl_w D (fun _ _ _ _ _ _ us hl => match us, hl with | [_], _ => rfl) sc_net_shape (spR_len fun ds d h => by obtain ⟨ls, e, rfl, _⟩ := h; rfl) fun f cdv A outer s H vs Q E hr h => ?_
  obtain ⟨M, ds, d, lv, ha, ⟨ls, e, rfl, hle, h14, hg, rfl⟩, q⟩ := h
  obtain ⟨v, rfl, hv⟩ := ha.inv1
  refine sw_ret (ed_if (td_gt (ed_lenLk G.len (ed_v 0 rfl hv) hle) ed_int) (fun h => ?_) (fun h => ?_)) q
  · have hne : ls ≠ [] := fun z => by subst z; exact absurd (of_decide_eq_true h) (by decide)
    refine ed_cast (ed_tup lv (ad_cons ed_str (ad_cons (ed_cl O hr (Nat.le_refl _) lv (ad_cons (ed_v 0 rfl hv) ad_nil) ⟨ls, e, rfl, hle, h14, hg, rfl⟩) ad_nil)) (by show 2 ≤ sizeLine; decide)) ?_
    rw [mkN, if_neg hne]
    rfl
  · have he : ls = [] := by
      have h' := of_decide_eq_false h
      cases ls with
      | nil => rfl
      | cons _ _ => exact absurd (show (0 : Int) < ((_ :: _ : List Lk).length : Nat) by simp) h'
    rw [mkN, if_pos he]
    exact ed_gc rfl G.SHUT G.dS
def R_js : List PyData → PyData → Prop := fun ds d => ∃ k ss, ds = [.str (kwd k), .list (ss.map Shp.dT)] ∧ ss.length ≤ 20 ∧ (∀ s ∈ ss, NW s ∧ siz s ≤ 14 ∧ dep s ≤ 5) ∧ d = (joinS k ss).dT
theorem flat_len {k : Bool} : ∀ {ss : List Shp}, (∀ s ∈ ss, NW s ∧ siz s ≤ 14 ∧ dep s ≤ 5) → (ss.flatMap (flat1 k)).length ≤ 15 * ss.length
  | [], _ => Nat.le_refl _
  | s :: ss, h => by
    have h1 := flat1_len (k := k) (h s List.mem_cons_self).1
    have h2 := (h s List.mem_cons_self).2.1
    have h3 := flat_len (k := k) fun x hx => h x (List.mem_cons_of_mem _ hx)
    rw [List.flatMap_cons, List.length_append, List.length_cons]
    omega
theorem flat_NW {k : Bool} {ss : List Shp} (h : ∀ s ∈ ss, NW s ∧ siz s ≤ 14 ∧ dep s ≤ 5) : ∀ s ∈ ss.flatMap (flat1 k), NW s ∧ dep s ≤ 20 := fun x hx => by
  obtain ⟨s, hs, hx⟩ := List.mem_flatMap.mp hx
  obtain ⟨a, b, c⟩ := h s hs
  cases s with
  | jn k' ps =>
    rw [flat1_jn] at hx
    by_cases e : k' = k
    · rw [if_pos e] at hx
      rw [NW] at a
      rw [dep] at c
      have := dep_mem hx
      exact ⟨(NWs_iff.mp a.2 x hx).1, by omega⟩
    · rw [if_neg e] at hx
      rw [List.mem_singleton.mp hx]
      exact ⟨a, by omega⟩
  | _ => rw [List.mem_singleton.mp hx]; exact ⟨a, by omega⟩
theorem c_joined_shape (G : Glo K mg aO aS aB) (D : Dfn K mg "joined_shape" s_joined_shape) : Cl P w K mg base 1 "joined_shape" (spR K R_js) := by
  refine cl_w D (fun _ _ _ _ _ _ us hl => match us, hl with | [_, _], _ => rfl) sc_joined_shape (spR_len fun ds d h => by obtain ⟨k, ss, rfl, _⟩ := h; rfl) fun f cdv A outer s H vs Q E hr h => ?_
  obtain ⟨M, ds, d, lv, ha, ⟨k, ss, rfl, h20, hN, rfl⟩, q⟩ := h
  obtain ⟨v0, v1, rfl, hv0, hv1⟩ := ha.inv2
  have nd := sc_joined_shape.nd
  have hu := hu_of hr
  have hu2 : (cxOf L2.CX0 P w K mg base n_joined_shape "joined_shape" (defScope s_joined_shape) f cdv A outer s H E).nox.A.units + 65 < cLine := by have := hr.un; show (A.deeper _).units + 65 < _; omega
  refine sw_two (M := M) (d := (idl k).dT) (d2 := (idl !k).dT) 2 3 rfl (pg1 2 nd (hx := Or.inr rfl)) (pg1 3 nd) (ed_if (td_eqS (ed_v 0 rfl hv0) ed_str) (fun h => ?_) (fun h => ?_)) fun v2 v3 H1 g1 hv2 hv3 => ?_
  · have e : k = true := kwd_eq.mp ((of_decide_eq_true h).trans kwd_row.symm)
    subst e
    exact ed_tup lv (ad_cons (ed_gc rfl G.OPEN G.dO) (ad_cons (ed_gc rfl G.SHUT G.dS) ad_nil)) (by show 2 ≤ sizeLine; decide)
  · have e : k = false := by
      cases k with
      | false => rfl
      | true => exact absurd kwd_row (of_decide_eq_false h)
    subst e
    exact ed_tup lv (ad_cons (ed_gc rfl G.SHUT G.dS) (ad_cons (ed_gc rfl G.OPEN G.dO) ad_nil)) (by show 2 ≤ sizeLine; decide)
  refine sw_new 4 nd fun a hna => ?_
  have hHa : H a = none := by
    cases z : H a with
    | none => rfl
    | some u => rw [g1 _ _ z] at hna; cases hna
  have lv1 := lv.same g1
  have lva : Lv (a :: M) (upd H1 a (.lst [])) := lv1.upd.cons upd_same
  have gma : Same (hM M H1) (hM (a :: M) (upd H1 a (.lst []))) := same_skip (same_new hna) hna
  refine sw_for (M := a :: M) (ls := ss) (enc := Shp.dT) (fs := fun s => [s.dT]) PassesOwn.never rfl (src_list (ed_v 1 rfl ((hv1.mono (same_hM g1)).mono gma))) (pg1 5 nd) tg_name (fun _ _ => rfl) fun H2 g2 => ?_
  refine ⟨fun i σ' H' => (∃ o, σ' = [some v0, some v1, some v2, some v3, some (.ref a), o, none]) ∧ Same H H' ∧ Lv (a :: M) H' ∧ Same (hM (a :: M) H2) (hM (a :: M) H') ∧ ∃ xs, H' a = some (.lst xs) ∧ DaAll K (hM (a :: M) H') xs (((ss.take i).flatMap (flat1 k)).map Shp.dT),
    ⟨⟨none, rfl⟩, (same_put hHa g1).trans g2, lva.same g2, Same.refl _, [], g2 _ _ upd_same, .nil⟩, fun i σ' H' p => ⟨p.2.2.2.1, p.2.2.1⟩, fun i x σ' H' H'' vs hx p gy hvs => ?_, fun σ' H' p => ?_⟩
  · obtain ⟨⟨o, rfl⟩, p1, p2, p3, xs, p4, p5⟩ := p
    obtain ⟨u, rfl, hu0⟩ := hvs.inv1
    have hmem := List.mem_of_getElem? hx
    obtain ⟨n1, n2, n3⟩ := hN x hmem
    have f1 : Same (hM M H1) (hM (a :: M) H'') := gma.trans ((same_hM g2).trans (p3.trans (same_hM gy)))
    have hv0' := ((hv0.mono (same_hM g1)).mono f1)
    have l5 := p5.len
    rw [List.length_map] at l5
    have lx := flat_len (k := k) (ss := ss.take i) fun s hs => hN s (List.mem_of_mem_take hs)
    rw [List.length_take] at lx
    have lf := flat1_len (k := k) n1
    refine sw_extendT (M := a :: M) (ds := (flat1 k x).map Shp.dT) 4 mOk_by rfl (gy _ _ p4) List.mem_cons_self (by rw [List.length_map, sizeLine_eq]; omega) ?_ fun ys H3 g3 hys => sw_nil ⟨⟨_, rfl⟩, same_put hHa (p1.trans (gy.trans g3)), (p2.same (gy.trans g3)).upd, ?_, xs ++ ys, upd_same, ?_⟩
    · cases x with
      | opn => exact ed_ifF (td_cast (td_eqS (ed_ixT (n := 0) (ed_v 5 rfl hu0) ed_int rfl) (ed_v 0 rfl hv0')) (by cases k <;> decide +kernel)) (ed_tup (p2.same gy) (ad_cons (ed_v 5 rfl hu0) ad_nil) (by show 1 ≤ sizeLine; decide))
      | sht => exact ed_ifF (td_cast (td_eqS (ed_ixT (n := 0) (ed_v 5 rfl hu0) ed_int rfl) (ed_v 0 rfl hv0')) (by cases k <;> decide +kernel)) (ed_tup (p2.same gy) (ad_cons (ed_v 5 rfl hu0) ad_nil) (by show 1 ≤ sizeLine; decide))
      | lnk y => exact ed_ifF (td_cast (td_eqS (ed_ixT (n := 0) (ed_v 5 rfl hu0) ed_int rfl) (ed_v 0 rfl hv0')) (by cases k <;> decide +kernel)) (ed_tup (p2.same gy) (ad_cons (ed_v 5 rfl hu0) ad_nil) (by show 1 ≤ sizeLine; decide))
      | net ls => exact ed_ifF (td_cast (td_eqS (ed_ixT (n := 0) (ed_v 5 rfl hu0) ed_int rfl) (ed_v 0 rfl hv0')) (by cases k <;> decide +kernel)) (ed_tup (p2.same gy) (ad_cons (ed_v 5 rfl hu0) ad_nil) (by show 1 ≤ sizeLine; decide))
      | jn k' ps =>
        by_cases e : k' = k
        · refine ed_ifT (td_cast (td_eqS (ed_ixT (n := 0) (ed_v 5 rfl hu0) ed_int rfl) (ed_v 0 rfl hv0')) (by rw [e]; exact decide_eq_true rfl)) ?_
          rw [flat1_jn, if_pos e, ← dTs_map]
          exact ed_ixT (n := 1) (ed_v 5 rfl hu0) ed_int rfl
        · refine ed_ifF (td_cast (td_eqS (ed_ixT (n := 0) (ed_v 5 rfl hu0) ed_int rfl) (ed_v 0 rfl hv0')) (decide_eq_false fun z => e (kwd_eq.mp z))) ?_
          rw [flat1_jn, if_neg e]
          exact ed_tup (p2.same gy) (ad_cons (ed_v 5 rfl hu0) ad_nil) (by show 1 ≤ sizeLine; decide)
    · rw [hM_upd List.mem_cons_self]
      exact p3.trans (same_hM (gy.trans g3))
    · rw [List.take_add_one, hx, List.flatMap_append, List.map_append, hM_upd List.mem_cons_self]
      rw [hM_upd List.mem_cons_self] at hys
      refine (p5.mono (same_hM (gy.trans g3))).append ?_
      show DaAll _ _ _ (([x].flatMap (flat1 k)).map Shp.dT)
      rw [List.flatMap_cons, List.flatMap_nil, List.append_nil]
      exact hys
  · obtain ⟨⟨o, rfl⟩, p1, p2, p3, xs, p4, p5⟩ := p
    rw [List.take_length] at p5
    have f1 : Same (hM M H1) (hM M H') := (gma.trans ((same_hM g2).trans p3)).trans hM_cons
    have lv' : Lv M H' := p2.tail
    have hna' : a ∉ M := lv1.new hna
    have hflat : Da K (hM M H') (.ref a) (.list ((ss.flatMap (flat1 k)).map Shp.dT)) := da_lst_at p4 hna' p5
    have hv0' := (hv0.mono (same_hM g1)).mono f1
    have hv2' := hv2.mono f1
    have hv3' := hv3.mono f1
    have fN := flat_NW (k := k) hN
    have lx := flat_len (k := k) hN
    refine sw_if (td_inD hu2 (sh_dT (NW.idl _) (by rw [idl_dep]; omega)) (sh_listT fN) (ed_v 3 rfl hv3') (ed_v 4 rfl hflat)) (fun h H3 g3 => ?_) (fun h H3 g3 => sw_nil ?_)
    · have e : joinS k ss = idl !k := by
        unfold joinS fin
        rw [List.any_map] at h
        rw [if_pos]
        exact (any_eq fun x => (eq_idlT (!k) x).symm).trans h
      rw [e] at q
      exact sw_ret (ed_v 3 rfl (hv3'.mono (same_hM g3))) fun v H4 g4 hv => q v H4 (p1.trans (g3.trans g4)) hv
    · have e0 : (ss.flatMap (flat1 k)).any (isI !k) = false := by
        rw [List.any_map] at h
        exact (any_eq fun x => (eq_idlT (!k) x).symm).trans h
      have lv3 := lv'.same g3
      refine sw_set 6 nd (ed_tupL lv3 G.tuple (ed_lcIf (own := [("shape", 5)]) (ls := ss.flatMap (flat1 k)) (enc := Shp.dT) (f := Shp.dT) (p := fun x => !isI k x) (fs := fun x => [x.dT]) rfl nd lv3 (src_list (ed_v 4 rfl (hflat.mono (same_hM g3)))) (blkOk_by (N := n_joined_shape) (sc := defScope s_joined_shape) (by decide +kernel))
        (fun _ _ _ _ _ => pg1 5 nd) tg_name (by rw [sizeLine_eq]; omega) (by decide) (fun _ _ => rfl) (fun x hx vs D H5 s0 h0 C cl fp g lv5 hvs => ?_) (fun x hx _ vs D H5 s0 h0 C cl fp g lv5 hvs => ?_))) fun v6 H4 g4 hv6 => ?_
      · obtain ⟨u, rfl, hu0⟩ := hvs.inv1
        obtain ⟨n1, n2⟩ := fN x hx
        exact td_cast (td_neD (M := D :: M) hu2 (sh_dT n1 n2) (sh_dT (NW.idl k) (by rw [idl_dep]; omega)) (ed_v 5 rfl hu0) (ed_v 2 rfl ((hv2'.mono (same_hM g3)).mono g))) (by rw [eq_idlT])
      · obtain ⟨u, rfl, hu0⟩ := hvs.inv1
        exact ed_v 5 rfl hu0
      · have ef : joinS k ss = match (ss.flatMap (flat1 k)).filter (fun s => !isI k s) with
          | [] => idl k
          | [x] => x
          | x :: y :: r => .jn k (x :: y :: r) := by
          unfold joinS
          conv => lhs; unfold fin
          rw [if_neg (by rw [e0]; exact Bool.false_ne_true)] <;> rfl
        rw [ef] at q
        have hl6 : ((ss.flatMap (flat1 k)).filter (fun s => !isI k s)).length ≤ 300 := Nat.le_trans (List.length_filter_le _ _) (by omega)
        have lv4 := lv3.same g4
        have p4' : Same H H4 := p1.trans (g3.trans g4)
        generalize (ss.flatMap (flat1 k)).filter (fun s => !isI k s) = kp at q hv6 hl6
        refine sw_if (td_eqI (ed_lenT G.len (ed_v 6 rfl hv6)) ed_int) (fun h H5 g5 => ?_) (fun h H5 g5 => sw_nil ?_)
        · rw [List.length_map] at h
          have hk0 : kp = [] := by
            have := of_decide_eq_true h
            cases kp with
            | nil => rfl
            | cons _ _ => simp at this; omega
          subst hk0
          exact sw_ret (ed_v 2 rfl (hv2'.mono (same_hM (g3.trans (g4.trans g5))))) fun v H6 g6 hv => q v H6 (p4'.trans (g5.trans g6)) hv
        · rw [List.length_map] at h
          have h' := of_decide_eq_false h
          refine sw_ret (ed_if (td_eqI (ed_lenT G.len (ed_v 6 rfl (hv6.mono (same_hM g5)))) ed_int) (fun h1 => ?_) (fun h1 => ?_)) fun v H6 g6 hv => q v H6 (p4'.trans (g5.trans g6)) hv
          · rw [List.length_map] at h1
            have h1' := of_decide_eq_true h1
            match kp, h', h1' with
            | [], h', _ => exact absurd rfl h'
            | [x], _, _ => exact ed_ixT (n := 0) (ed_v 6 rfl (hv6.mono (same_hM g5))) ed_int rfl
            | x :: y :: r, _, h1' => simp at h1'; omega
          · rw [List.length_map] at h1
            have h1' := of_decide_eq_false h1
            match kp, h', h1', hv6 with
            | [], h', _, _ => exact absurd rfl h'
            | [x], _, h1', _ => exact absurd rfl h1'
            | x :: y :: r, _, _, hv6 =>
              refine ed_cast (ed_tup (lv4.same g5) (ad_cons (ed_v 0 rfl ((hv0'.mono (same_hM (g3.trans (g4.trans g5)))))) (ad_cons (ed_v 6 rfl (hv6.mono (same_hM g5))) ad_nil)) (by show 2 ≤ sizeLine; decide)) ?_
              show _ = Shp.dT (.jn k (x :: y :: r))
              rw [Shp.dT, dTs_map]
end
end S6

/-! W04: joints_of, renamed_joints. -/
namespace S6
open PySem PySem.Spec PyProof.Rows L2
section
variable {P : Program} {w : World} {K : Frg} {mg : Str → Option Value} {base : Heap} {aO aS aB : Addr}
def R_jo : List PyData → PyData → Prop := fun ds d => ∃ ls : List Lk, ds = [.tuple (ls.map lkD)] ∧ ls.length ≤ 14 ∧ d = .list ((jts ls).map .int)
theorem c_joints_of (G : Glo K mg aO aS aB) (D : Dfn K mg "joints_of" s_joints_of) : Cl P w K mg base 1 "joints_of" (spR K R_jo) := by
  refine cl_w D (fun _ _ _ _ _ _ us hl => match us, hl with | [_], _ => rfl) sc_joints_of (spR_len fun ds d h => by obtain ⟨ls, rfl, _⟩ := h; rfl) fun f cdv A outer s H vs Q E hr h => ?_
  obtain ⟨M, ds, d, lv, ha, ⟨ls, rfl, h14, rfl⟩, q⟩ := h
  obtain ⟨v, rfl, hv⟩ := ha.inv1
  have nd := sc_joints_of.nd
  have hz : ls.length ≤ sizeLine := Nat.le_trans h14 (by decide)
  refine sw_set 1 nd (ed_cat (ds := ls.map fun l => .int l.2.1) (es := ls.map fun l => .int l.2.2) lv
    (ed_lc (own := [("name", 2), ("u", 3), ("v", 4)]) (f := fun l => .int l.2.1) (fs := fun l => [.str l.1, .int l.2.1, .int l.2.2]) rfl nd lv (src_tup (ed_v 0 rfl hv)) (blkOk_by (N := n_joints_of) (sc := defScope s_joints_of) (by decide +kernel)) (fun _ _ _ _ _ => pg3 rfl 2 3 4 (pg1 2 nd) (pg1 3 nd) (pg1 4 nd)) tg_3 hz (by decide) (fun l _ => ⟨rfl, rfl⟩) (fun l hl vs D H' s0 h0 C cl fp g lv' hx => ?_))
    (ed_lc (own := [("name", 2), ("u", 3), ("v", 4)]) (f := fun l => .int l.2.2) (fs := fun l => [.str l.1, .int l.2.1, .int l.2.2]) rfl nd lv (src_tup (ed_v 0 rfl hv)) (blkOk_by (N := n_joints_of) (sc := defScope s_joints_of) (by decide +kernel)) (fun _ _ _ _ _ => pg3 rfl 2 3 4 (pg1 2 nd) (pg1 3 nd) (pg1 4 nd)) tg_3 hz (by decide) (fun l _ => ⟨rfl, rfl⟩) (fun l hl vs D H' s0 h0 C cl fp g lv' hx => ?_))
    (by rw [List.length_map, List.length_map, sizeLine_eq]; omega)) fun v1 H1 g1 hv1 => ?_
  · obtain ⟨x, u, v, rfl, hx1, hx2, hx3⟩ := hx.inv3
    exact ed_v 3 rfl hx2
  · obtain ⟨x, u, v, rfl, hx1, hx2, hx3⟩ := hx.inv3
    exact ed_v 4 rfl hx3
  · have lv1 := lv.same g1
    refine sw_ret (ed_setI (ns := [0, 1] ++ (ls.map (·.2.1) ++ ls.map (·.2.2))) lv1 rfl G.sorted G.set (ed_lc (own := [("joint", 5)]) (ls := [0, 1] ++ (ls.map (·.2.1) ++ ls.map (·.2.2))) (enc := .int) (f := .int) (fs := fun n => [.int n]) rfl nd lv1
      (src_list (ed_cast (ed_lst lv1 (ad_cons ed_int (ad_cons ed_int (ad_starL (ed_v 1 rfl hv1) ad_nil))) ?_) ?_)) (blkOk_by (N := n_joints_of) (sc := defScope s_joints_of) (by decide +kernel)) (fun _ _ _ _ _ => pg1 5 nd) tg_name ?_ (by decide) (fun _ _ => rfl) (fun n hn vs D H' s0 h0 C cl fp g lv' hx => ?_)) ?_) fun v H' g hv => q v H' (g1.trans g) hv
    · simp only [List.length_cons, List.length_append, List.length_map, List.length_nil, sizeLine_eq]
      omega
    · rw [List.map_append, List.map_append, List.map_map, List.map_map, List.append_nil]
      rfl
    · simp only [List.length_cons, List.length_append, List.length_map, List.length_nil, sizeLine_eq]
      omega
    · obtain ⟨x, rfl, hx0⟩ := hx.inv1
      exact ed_intI G.int (ed_v 5 rfl hx0)
    · simp only [List.length_cons, List.length_append, List.length_map, List.length_nil]
      omega
def R_ren : List PyData → PyData → Prop := fun ds d => ∃ (ls : List Lk) (l r : Int) (inner : List Int), ds = [.tuple (ls.map lkD), .int l, .int r, .list (inner.map .int)] ∧ ls.length ≤ 14 ∧ (jts ls).length = inner.length + 2 ∧ d = .list ((ls.map (renL (jts ls) (l :: r :: inner))).map lkD)
theorem c_renamed_joints (G : Glo K mg aO aS aB) (D : Dfn K mg "renamed_joints" s_renamed_joints) (J : Cl P w K mg base 1 "joints_of" (spR K R_jo)) : Cl P w K mg base 2 "renamed_joints" (spR K R_ren) := by
  refine cl_w D (fun _ _ _ _ _ _ us hl => match us, hl with | [_, _, _, _], _ => rfl) sc_renamed_joints (spR_len fun ds d h => by obtain ⟨ls, l, r, inner, rfl, _⟩ := h; rfl) fun f cdv A outer s H vs Q E hr h => ?_
  obtain ⟨M, ds, d, lv, ha, ⟨ls, l, r, inner, rfl, h14, hlen, rfl⟩, q⟩ := h
  obtain ⟨v0, v1, v2, v3, rfl, hv0, hv1, hv2, hv3⟩ := ha.inv4
  have nd := sc_renamed_joints.nd
  have hz : ls.length ≤ sizeLine := Nat.le_trans h14 (by decide)
  have hu : (cxOf L2.CX0 P w K mg base n_renamed_joints "renamed_joints" (defScope s_renamed_joints) f cdv A outer s H E).nox.A.units + 1 < cLine := by have := hr.un; show (A.deeper _).units + 1 < _; omega
  have hj := jts_len ls
  refine sw_dictZip (M := M) (js := jts ls) (vals := l :: r :: inner) 4 rfl nd G.dict G.zip (ad_cons (ed_cl J hr (Nat.le_refl _) lv (ad_cons (ed_v 0 rfl hv0) ad_nil) ⟨ls, rfl, h14, rfl⟩) (ad_cons (ed_cast (ed_lst lv (ad_cons (ed_v 1 rfl hv1) (ad_cons (ed_v 2 rfl hv2) (ad_starL (ed_v 3 rfl hv3) ad_nil))) ?_) ?_) ad_nil)) (by rw [hlen]; rfl) fun p H1 g1 hp => ?_
  · simp only [List.length_cons, List.length_append, List.length_map, List.length_nil, sizeLine_eq]
    omega
  · rw [List.append_nil]; rfl
  · have lv1 := lv.same g1
    have g2 : Same H (upd H1 p (.dK (mergeK [] (zK (jts ls) ((l :: r :: inner).map V.int))))) := g1.trans (same_new hp)
    have lv2 := lv.same g2
    have hpM := lv1.new hp
    refine sw_ret (ed_cast (ed_lc (own := [("name", 5), ("u", 6), ("v", 7)]) (f := fun x => lkD (renL (jts ls) (l :: r :: inner) x)) (fs := fun l => [.str l.1, .int l.2.1, .int l.2.2]) rfl nd lv2 (src_tup (ed_v 0 rfl (hv0.mono (same_hM g2)))) (blkOk_by (N := n_renamed_joints) (sc := defScope s_renamed_joints) (by decide +kernel)) (fun _ _ _ _ _ => pg3 rfl 5 6 7 (pg1 5 nd) (pg1 6 nd) (pg1 7 nd)) tg_3 hz (by decide) (fun l _ => ⟨rfl, rfl⟩) (fun x hx vs D H' s0 h0 C cl fp g lv' hvs => ?_)) (by rw [List.map_map]; rfl)) fun v H' g hv => q v H' (g2.trans g) hv
    obtain ⟨xn, u, v, rfl, hx1, hx2, hx3⟩ := hvs.inv3
    have hd : H' p = some (.dK (mergeK [] (zK (jts ls) ((l :: r :: inner).map V.int)))) := hM_sub _ _ (g p _ (by rw [hM_out hpM, upd_same]))
    have hlen' : (jts ls).length = (l :: r :: inner).length := by rw [hlen]; rfl
    exact ed_tup lv' (ad_cons (ed_v 5 rfl hx1) (ad_cons (ed_dget hu (ev_v 4 rfl) hd (ed_v 6 rfl hx2) (ren_get (jts_nd ls) hlen' (jts_u hx)) (.int _)) (ad_cons (ed_dget hu (ev_v 4 rfl) hd (ed_v 7 rfl hx3) (ren_get (jts_nd ls) hlen' (jts_v hx)) (.int _)) ad_nil))) (by show 3 ≤ sizeLine; decide)
end
end S6

/-! W05: laid_between, laid, places_in. -/
namespace S6
open PySem PySem.Spec PyProof.Rows L2
theorem enu_map {α : Type} (f : α → PyData) (ps : List α) : enu (ps.map f) = ps.zipIdx.map fun p => .tuple [.int (p.2 : Nat), f p.1] := by
  unfold enu
  rw [List.zipIdx_map, List.map_map]
  rfl
def forBody : Stmt → List Stmt
  | .For _ _ b _ _ => b
  | _ => []
section
variable {P : Program} {w : World} {K : Frg} {mg : Str → Option Value} {base : Heap} {aO aS aB : Addr}
def R_lb (n : Nat) : List PyData → PyData → Prop := fun ds d => ∃ (S : Shp) (l r f : Int), ds = [S.dT, .int l, .int r, .int f] ∧ NW S ∧ siz S ≤ 14 ∧ dep S < n ∧ 0 ≤ f ∧ f + 3 * (siz S : Nat) ≤ 300 ∧ d = .tuple [.list ((lay S l r f).1.map lkD), .int (lay S l r f).2]
/-- what is still to be laid -/
def layK (k : Bool) (ps : List Shp) (l b r f : Int) : List Lk × Int := match k with
  | true => layR ps b r f
  | false => layB ps l r f
theorem lay_jn (k : Bool) (ps : List Shp) (l r f : Int) : lay (.jn k ps) l r f = layK k ps l l r f := by cases k <;> rfl
theorem layK_nil (k : Bool) (l b r f : Int) : layK k [] l b r f = ([], f) := by cases k <;> rfl
theorem layK_step {k : Bool} {p : Shp} {rest : List Shp} {l b r f e f1 : Int} (hb : k = false → b = l) (he : e = if k = true ∧ rest ≠ [] then f else r) (hf : f1 = if k = true ∧ rest ≠ [] then f + 1 else f) :
    layK k (p :: rest) l b r f = ((lay p b e f1).1 ++ (layK k rest l e r (lay p b e f1).2).1, (layK k rest l e r (lay p b e f1).2).2) := by
  subst he hf
  cases k with
  | false =>
    rw [hb rfl]
    rw [if_neg (fun z => nomatch z.1), if_neg (fun z => nomatch z.1)]
    rfl
  | true =>
    cases rest with
    | nil =>
      rw [if_neg (fun z => z.2 rfl), if_neg (fun z => z.2 rfl)]
      show lay p b r f = ((lay p b r f).1 ++ [], (lay p b r f).2)
      rw [List.append_nil]
    | cons q ps =>
      rw [if_pos ⟨rfl, fun z => nomatch z⟩, if_pos ⟨rfl, fun z => nomatch z⟩]
      rfl
theorem c_laid_between {n : Nat} (G : Glo K mg aO aS aB) (D : Dfn K mg "laid_between" s_laid_between) (J : Cl P w K mg base 1 "joints_of" (spR K R_jo)) (Rn : Cl P w K mg base 2 "renamed_joints" (spR K R_ren))
    (ih : Cl P w K mg base (n + 2) "laid_between" (spR K (R_lb n))) : Cl P w K mg base (n + 3) "laid_between" (spR K (R_lb (n + 1))) := by
  refine cl_w D (fun _ _ _ _ _ _ us hl => match us, hl with | [_, _, _, _], _ => rfl) sc_laid_between (spR_len fun ds d h => by obtain ⟨S, l, r, f, rfl, _⟩ := h; rfl) fun fa cdv A outer s H vs Q E hr h => ?_
  obtain ⟨M, ds, d, lv, ha, ⟨S, l, r, f, rfl, hN, hs, hd, hf0, hf1, rfl⟩, q⟩ := h
  obtain ⟨v0, v1, v2, v3, rfl, hv0, hv1, hv2, hv3⟩ := ha.inv4
  have nd := sc_laid_between.nd
  obtain rfl := hv1.int_inv
  obtain rfl := hv2.int_inv
  obtain rfl := hv3.int_inv
  -- what follows the first two tests
  have tail : ∀ (Hs : Hp), Same H Hs → ∀ (k : Bool) (ps : List Shp), (S = .jn k ps ∨ (ps = [] ∧ (S = .opn ∨ S = .sht))) → SW (cxOf L2.CX0 P w K mg base n_laid_between "laid_between" (defScope s_laid_between) fa cdv A outer s H E).nox ((defBody s_laid_between).drop 2) { nx := fun _ H' => Q .non H', rt := Q } (start n_laid_between [v0, .int l, .int r, .int f]) Hs := by
    intro Hs gs k ps hS
    have lv := lv.same gs
    have hv0 := hv0.mono (same_hM (M := M) gs)
    have q : ∀ v H', Same Hs H' → Da K (hM M H') v (.tuple [.list ((lay S l r f).1.map lkD), .int (lay S l r f).2]) → Q v H' := fun v H' g hv => q v H' (gs.trans g) hv
    clear ha gs hv1 hv2 hv3
    generalize hHs : Hs = H at lv hv0 q ⊢
    clear hHs Hs
    have hlay : lay S l r f = layK k ps l l r f := by
      rcases hS with rfl | ⟨rfl, rfl | rfl⟩
      · exact lay_jn k ps l r f
      · rw [layK_nil]; rfl
      · rw [layK_nil]; rfl
    have hps : NWs k ps ∧ sizs ps ≤ siz S ∧ deps ps < n + (if ps = [] then 1 else 0) ∧ ∀ x ∈ ps, dep x < n := by
      rcases hS with rfl | ⟨rfl, _⟩
      · rw [NW] at hN
        rw [dep] at hd
        refine ⟨hN.2, Nat.le_refl _, by omega, fun x hx => ?_⟩
        have := dep_mem hx
        omega
      · exact ⟨trivial, Nat.zero_le _, by simp [deps], fun x hx => nomatch hx⟩
    obtain ⟨hNs, hsz, _, hdp⟩ := hps
    have hlen := NWs_len hNs
    refine sw_new 5 nd fun a hna => ?_
    have lva : Lv (a :: M) (upd H a (.lst [])) := lv.upd.cons upd_same
    have gma : Same (hM M H) (hM (a :: M) (upd H a (.lst []))) := same_skip (same_new hna) hna
    refine sw_set (M := a :: M) 6 nd (ed_v 1 rfl (.int l)) fun v6 H1 g1 hv6 => ?_
    obtain rfl := hv6.int_inv
    have lv1 := lva.same g1
    have f1 : Same (hM M H) (hM (a :: M) H1) := gma.trans (same_hM g1)
    refine sw_set (M := a :: M) (d := .tuple (ps.map Shp.dT)) 7 nd ?_ fun v7 H2 g2 hv7 => ?_
    · have h0 := hv0.mono f1
      rcases hS with rfl | ⟨rfl, rfl | rfl⟩
      · refine ed_ifT (td_cast (td_inS (M := a :: M) (xs := ["row", "bunch"]) (ed_ixT (n := 0) (ed_v 0 rfl h0) ed_int rfl) (ed_tup lv1 (ad_cons ed_str (ad_cons ed_str ad_nil)) (by show 2 ≤ sizeLine; decide)) (.inr rfl)) (by cases k <;> decide +kernel)) ?_
        rw [← dTs_map]
        exact ed_ixT (n := 1) (ed_v 0 rfl h0) ed_int rfl
      · exact ed_ifF (td_cast (td_inS (M := a :: M) (xs := ["row", "bunch"]) (ed_ixT (n := 0) (ed_v 0 rfl h0) ed_int rfl) (ed_tup lv1 (ad_cons ed_str (ad_cons ed_str ad_nil)) (by show 2 ≤ sizeLine; decide)) (.inr rfl)) (by decide +kernel)) (ed_tup lv1 ad_nil (Nat.zero_le _))
      · exact ed_ifF (td_cast (td_inS (M := a :: M) (xs := ["row", "bunch"]) (ed_ixT (n := 0) (ed_v 0 rfl h0) ed_int rfl) (ed_tup lv1 (ad_cons ed_str (ad_cons ed_str ad_nil)) (by show 2 ≤ sizeLine; decide)) (.inr rfl)) (by decide +kernel)) (ed_tup lv1 ad_nil (Nat.zero_le _))
    have lv2 := lv1.same g2
    have f2 : Same (hM M H) (hM (a :: M) H2) := f1.trans (same_hM g2)
    refine sw_for (M := a :: M) (ls := ps.zipIdx) (enc := fun p => .tuple [.int (p.2 : Nat), p.1.dT]) (fs := fun p => [.int (p.2 : Nat), p.1.dT]) PassesOwn.never rfl (by rw [← enu_map]; exact src_enumT G.enumerate (ed_v 7 rfl hv7)) (pg2 rfl 8 9 (pg1 8 nd) (pg1 9 nd)) tg_2 (fun _ _ => ⟨rfl, rfl⟩) fun H3 g3 => ?_
    have gH3 : Same H H3 := (same_put hna (Same.refl H)).trans (g1.trans (g2.trans g3))
    refine ⟨fun i σ' H' => (∃ (b fr : Int) (o8 o9 o10 o11 : Option V) (acc : List Lk) (xs : List V), σ' = [some v0, some (.int l), some (.int r), some (.int fr), none, some (.ref a), some (.int b), some v7, o8, o9, o10, o11] ∧
        H' a = some (.lst xs) ∧ DaAll K (hM (a :: M) H') xs (acc.map lkD) ∧ (acc ++ (layK k (ps.drop i) l b r fr).1, (layK k (ps.drop i) l b r fr).2) = lay S l r f ∧ 0 ≤ fr ∧ fr + 3 * (sizs (ps.drop i) : Nat) ≤ 300 ∧ (k = false → b = l)) ∧
        Same H H' ∧ Lv (a :: M) H' ∧ Same (hM (a :: M) H3) (hM (a :: M) H'),
      ⟨⟨l, f, none, none, none, none, [], [], rfl, g3 _ _ (g2 _ _ (g1 _ _ upd_same)), .nil, by rw [hlay]; rfl, hf0, by rw [List.drop_zero]; omega, fun _ => rfl⟩, gH3, lv2.same g3, Same.refl _⟩, fun i σ' H' p => ⟨p.2.2.2, p.2.2.1⟩, fun i x σ' H' H'' vs hx p gy hvs => ?_, fun σ' H' p => ?_⟩
    · obtain ⟨⟨b, fr, o8, o9, o10, o11, acc, xs, rfl, p4, p5, p6, p7, p8, p9⟩, p1, p2, p3⟩ := p
      rw [List.getElem?_zipIdx] at hx
      obtain ⟨p, hp, hx⟩ := Option.map_eq_some_iff.mp hx
      subst hx
      obtain ⟨u8, u9, rfl, h8, h9⟩ := hvs.inv2
      rw [Nat.zero_add] at h8
      have hip : i < ps.length := (List.getElem?_eq_some_iff.mp hp).1
      have hdrop : ps.drop i = p :: ps.drop (i + 1) := by
        rw [List.drop_eq_getElem_cons hip]
        rw [List.getElem?_eq_getElem hip] at hp
        rw [Option.some.inj hp]
      have hmem : p ∈ ps := List.mem_of_getElem? hp
      obtain ⟨np, np1, np2, _⟩ := NWs_iff.mp hNs p hmem
      have ppos := NW_pos np np1 np2
      have psz := siz_mem hmem
      have pdp := hdp p hmem
      obtain rfl : S = .jn k ps := by
        rcases hS with z | ⟨z, _⟩
        · exact z
        · subst z; cases hmem
      have hrest : k = true ∧ ps.drop (i + 1) ≠ [] ↔ (k && decide ((i : Int) < (ps.length : Nat) - 1)) = true := by
        rw [Bool.and_eq_true, decide_eq_true_eq]
        refine and_congr_right fun _ => ?_
        rw [Ne, List.drop_eq_nil_iff]
        omega
      have srest : ps.drop (i + 1) ≠ [] → 1 ≤ sizs (ps.drop (i + 1)) := fun z => by
        cases hq : ps.drop (i + 1) with
        | nil => exact absurd hq z
        | cons y ys =>
          have hy : y ∈ ps := List.mem_of_mem_drop (by rw [hq]; exact List.mem_cons_self)
          obtain ⟨ny, ny1, ny2, _⟩ := NWs_iff.mp hNs y hy
          have := NW_pos ny ny1 ny2
          rw [sizs]
          omega
      rw [hdrop] at p6 p8
      rw [sizs] at p8
      have hst := layK_step (p := p) (rest := ps.drop (i + 1)) (r := r) (f := fr) p9 rfl rfl
      have lacc : acc.length ≤ 14 := by
        have e := congrArg (fun z : List Lk × Int => z.1.length) p6
        dsimp only at e
        rw [lay_len, List.length_append] at e
        omega
      generalize he : (if k = true ∧ ps.drop (i + 1) ≠ [] then fr else r) = e at hst
      generalize hf : (if k = true ∧ ps.drop (i + 1) ≠ [] then fr + 1 else fr) = f1 at hst
      have hf1 : fr ≤ f1 ∧ f1 + 3 * (siz p : Nat) ≤ 300 ∧ f1 + 3 * (siz p : Nat) + 3 * (sizs (ps.drop (i + 1)) : Nat) ≤ 301 := by
        subst hf
        by_cases z : k = true ∧ ps.drop (i + 1) ≠ []
        · rw [if_pos z]
          have := srest z.2
          exact ⟨by omega, by omega, by omega⟩
        · rw [if_neg z]
          exact ⟨by omega, by omega, by omega⟩
      have f3 : Same (hM M H) (hM (a :: M) H'') := f2.trans ((same_hM g3).trans (p3.trans (same_hM gy)))
      have lv3 := p2.same gy
      refine sw_set (M := a :: M) 10 nd (ed_v 2 rfl (.int r)) fun v10 H5 g5 hv10 => ?_
      obtain rfl := hv10.int_inv
      refine sw_ifM (fun σ6 H6 => σ6 = [some v0, some (.int l), some (.int r), some (.int f1), none, some (.ref a), some (.int b), some v7, some u8, some u9, some (.int e), o11] ∧ Same H5 H6)
        (td_and (td_cast (y := k) (td_eqS (M := a :: M) (x := kwd k) (ed_ixT (n := 0) (ed_v 0 rfl ((hv0.mono f3).mono (same_hM g5))) ed_int rfl) ed_str) (by cases k <;> decide +kernel)) fun _ => td_lt (M := a :: M) (ed_v 8 rfl (h8.mono (same_hM g5))) (ed_sub (ed_cast (ed_lenT G.len (ed_v 7 rfl (hv7.mono ((same_hM g3).trans (p3.trans (same_hM (gy.trans g5))))))) (by rw [List.length_map])) ed_int))
        (fun h H6 g6 => ?_) (fun h H6 g6 => ?_) fun σ6 H6 hm => ?_
      · have hc := hrest.mpr h
        rw [if_pos hc] at he hf
        subst he hf
        refine sw_par (M := a :: M) (d := .int fr) (d2 := .int (fr + 1)) 10 3 rfl nd (by decide) (ad_cons (ed_v 3 rfl (.int fr)) (ad_cons (ed_add (ed_v 3 rfl (.int fr)) ed_int) ad_nil)) fun w1 w2 H7 g7 hw1 hw2 => sw_nil ⟨?_, g6.trans g7⟩
        obtain rfl := hw1.int_inv
        obtain rfl := hw2.int_inv
        rfl
      · have hc : ¬ (k = true ∧ ps.drop (i + 1) ≠ []) := fun z => by rw [hrest.mp z] at h; cases h
        rw [if_neg hc] at he hf
        subst he hf
        exact sw_nil ⟨rfl, g6⟩
      · obtain ⟨rfl, g6⟩ := hm
        have g56 : Same H'' H6 := g5.trans g6
        obtain ⟨q1, q2, q3⟩ := hf1
        refine sw_two (M := a :: M) (d := .list ((lay p b e f1).1.map lkD)) (d2 := .int (lay p b e f1).2) 11 3 rfl (pg1 11 nd) (pg1 3 nd) (ed_cl ih hr (Nat.le_refl _) (lv3.same g56) (ad_cons (ed_v 9 rfl (h9.mono (same_hM g56))) (ad_cons (ed_v 6 rfl (.int b)) (ad_cons (ed_v 10 rfl (.int e)) (ad_cons (ed_v 3 rfl (.int f1)) ad_nil)))) ⟨p, b, e, f1, rfl, np, by omega, pdp, by omega, q2, rfl⟩) fun w1 w2 H7 g7 hw1 hw2 => ?_
        obtain rfl := hw2.int_inv
        have g57 := g56.trans g7
        have hl5 := p5.len
        rw [List.length_map] at hl5
        refine sw_extendL (M := a :: M) 5 mOk_by rfl ((gy.trans g57) _ _ p4) List.mem_cons_self (by rw [List.length_map, lay_len, sizeLine_eq]; omega) (ed_v 11 rfl hw1) fun ys H8 g8 hys => ?_
        have g58 := g57.trans g8
        have lv8 : Lv (a :: M) (upd H8 a (.lst (xs ++ ys))) := (lv3.same g58).upd
        have f8 : Same (hM M H) (hM (a :: M) (upd H8 a (.lst (xs ++ ys)))) := by
          rw [hM_upd List.mem_cons_self]
          exact f3.trans (same_hM g58)
        refine sw_set (M := a :: M) (d := .int (if k = true then e else l)) 6 nd (ed_if (k := k) (td_cast (td_eqS (M := a :: M) (x := kwd k) (ed_ixT (n := 0) (ed_v 0 rfl (hv0.mono f8)) ed_int rfl) ed_str) (by cases k <;> decide +kernel)) (fun z => ?_) fun z => ?_) fun w6 H9 g9 hw6 => sw_nil ?_
        · rw [if_pos z]
          exact ed_v 10 rfl (.int e)
        · rw [if_neg (by rw [z]; exact Bool.false_ne_true)]
          exact ed_v 1 rfl (.int l)
        · obtain rfl := hw6.int_inv
          have lf := lay_fr np b e f1
          obtain ⟨r1, r2, r3⟩ := lf
          have r3 := r3 ppos
          refine ⟨⟨if k = true then e else l, (lay p b e f1).2, _, _, _, _, acc ++ (lay p b e f1).1, xs ++ ys, rfl, g9 _ _ upd_same, ?_, ?_, by omega, by omega, fun z => by rw [if_neg (by rw [z]; exact Bool.false_ne_true)]⟩, ?_, lv8.same g9, ?_⟩
          · rw [hM_upd List.mem_cons_self] at hys
            rw [List.map_append]
            refine ((p5.mono (same_hM (gy.trans g58))).append hys).mono ?_
            have := same_hM (M := a :: M) g9
            rwa [hM_upd List.mem_cons_self] at this
          · rw [← p6, hst]
            cases k with
            | true => rw [if_pos rfl, List.append_assoc]
            | false => rw [if_neg Bool.false_ne_true, List.append_assoc]; rfl
          · exact (same_put hna (p1.trans (gy.trans g58))).trans g9
          · have := same_hM (M := a :: M) g9
            rw [hM_upd List.mem_cons_self] at this
            exact p3.trans ((same_hM (gy.trans g58)).trans this)
    · obtain ⟨⟨b, fr, o8, o9, o10, o11, acc, xs, rfl, p4, p5, p6, p7, p8, _⟩, p1, p2, p3⟩ := p
      rw [List.length_zipIdx, List.drop_length, layK_nil, List.append_nil] at p6
      have hnM : a ∉ M := lv.new hna
      refine sw_ret (M := M) (ed_tup p2.tail (ad_cons (ed_v 5 rfl (da_lst_at p4 hnM p5)) (ad_cons (ed_v 3 rfl (.int fr)) ad_nil)) (by show 2 ≤ sizeLine; decide)) fun v H4 g4 hv => q v H4 (p1.trans g4) ?_
      rw [← p6]
      exact hv
  cases S with
  | lnk x =>
    refine sw_ifT (td_cast (td_eqS (M := M) (x := "link") (ed_ixT (n := 0) (ed_v 0 rfl hv0) ed_int rfl) ed_str) (by decide +kernel)) fun H1 g1 => ?_
    have lv1 := lv.same g1
    exact sw_ret (M := M) (ed_tup lv1 (ad_cons (ed_lst lv1 (ad_cons (ed_tup lv1 (ad_cons (ed_ixT (n := 1) (ed_v 0 rfl (hv0.mono (same_hM g1))) ed_int rfl) (ad_cons (ed_v 1 rfl (.int l)) (ad_cons (ed_v 2 rfl (.int r)) ad_nil))) (by show 3 ≤ sizeLine; decide)) ad_nil) (by show 1 ≤ sizeLine; decide)) (ad_cons (ed_v 3 rfl (.int f)) ad_nil)) (by show 2 ≤ sizeLine; decide)) fun v H' g hv => q v H' (g1.trans g) hv
  | net ls =>
    refine sw_ifF (td_cast (td_eqS (M := M) (x := "net") (ed_ixT (n := 0) (ed_v 0 rfl hv0) ed_int rfl) ed_str) (by decide +kernel)) fun H1 g1 => ?_
    have hv01 := hv0.mono (same_hM g1)
    refine sw_ifT (td_cast (td_eqS (M := M) (x := "net") (ed_ixT (n := 0) (ed_v 0 rfl hv01) ed_int rfl) ed_str) (by decide +kernel)) fun H2 g2 => ?_
    have hv02 := hv01.mono (same_hM g2)
    have lv2 := lv.same (g1.trans g2)
    rw [siz] at hs hf1
    have h1 := jts_len ls
    have h2 := jts_2 ls
    refine sw_set (M := M) (d := .int (f + ((jts ls).length - 2 : Nat))) 4 nd (ed_cast (ed_sub (ed_add (ed_v 3 rfl (.int f)) (ed_lenL G.len (ed_cl J hr (by omega) lv2 (ad_cons (ed_ixT (n := 1) (ed_v 0 rfl hv02) ed_int rfl) ad_nil) ⟨ls, rfl, hs, rfl⟩))) ed_int) ?_) fun v4 H3 g3 hv4 => ?_
    · rw [List.length_map]
      exact congrArg PyData.int (by omega)
    · obtain rfl := hv4.int_inv
      have lv3 := lv2.same g3
      refine sw_ret (M := M) (ed_tup lv3 (ad_cons (ed_cl Rn hr (by omega) lv3 (ad_cons (ed_ixT (n := 1) (ed_v 0 rfl (hv02.mono (same_hM g3))) ed_int rfl) (ad_cons (ed_v 1 rfl (.int l)) (ad_cons (ed_v 2 rfl (.int r)) (ad_cons (ed_rangeL2 lv3 rfl G.list G.range (ed_v 3 rfl (.int f)) (ed_v 4 rfl (.int _)) hf0 (by omega) (by omega) (by omega)) ad_nil)))) ⟨ls, l, r, upFrom f ((jts ls).length - 2), ?_, hs, by rw [upFrom_len]; omega, rfl⟩) (ad_cons (ed_v 4 rfl (.int _)) ad_nil)) (by show 2 ≤ sizeLine; decide)) fun v H' g hv => q v H' (g1.trans (g2.trans (g3.trans g))) ?_
      · have e : (f + (((jts ls).length - 2 : Nat) : Int) - f).toNat = (jts ls).length - 2 := by omega
        rw [e]
      · rw [lay]
        exact hv
  | opn =>
    refine sw_ifF (td_cast (td_eqS (M := M) (x := "open") (ed_ixT (n := 0) (ed_v 0 rfl hv0) ed_int rfl) ed_str) (by decide +kernel)) fun H1 g1 => sw_ifF (td_cast (td_eqS (M := M) (x := "open") (ed_ixT (n := 0) (ed_v 0 rfl (hv0.mono (same_hM g1))) ed_int rfl) ed_str) (by decide +kernel)) fun H2 g2 => ?_
    exact tail H2 (g1.trans g2) true [] (.inr ⟨rfl, .inl rfl⟩)
  | sht =>
    refine sw_ifF (td_cast (td_eqS (M := M) (x := "shut") (ed_ixT (n := 0) (ed_v 0 rfl hv0) ed_int rfl) ed_str) (by decide +kernel)) fun H1 g1 => sw_ifF (td_cast (td_eqS (M := M) (x := "shut") (ed_ixT (n := 0) (ed_v 0 rfl (hv0.mono (same_hM g1))) ed_int rfl) ed_str) (by decide +kernel)) fun H2 g2 => ?_
    exact tail H2 (g1.trans g2) true [] (.inr ⟨rfl, .inr rfl⟩)
  | jn k ps =>
    refine sw_ifF (td_cast (td_eqS (M := M) (x := kwd k) (ed_ixT (n := 0) (ed_v 0 rfl hv0) ed_int rfl) ed_str) (by cases k <;> decide +kernel)) fun H1 g1 => sw_ifF (td_cast (td_eqS (M := M) (x := kwd k) (ed_ixT (n := 0) (ed_v 0 rfl (hv0.mono (same_hM g1))) ed_int rfl) ed_str) (by cases k <;> decide +kernel)) fun H2 g2 => ?_
    exact tail H2 (g1.trans g2) k ps (.inl rfl)
end
end S6

/-! W06: laid, places_in, names and links. -/
namespace S6
open PySem PySem.Spec PyProof.Rows L2
theorem ed_lenS {X : Cx} {σ : L2.St} {M : List Addr} {H0 : Hp} {a : Expr} {p pos : Pos} {x : Str} (hm : X.mg "len" = none) (h : ED X σ M H0 a (.str x)) (hz : x.length ≤ sizeLine) (hg : Gl X "len" := by rfl) (na : starEach [a] X.env = (false, eval a X.env) :: starEach [] X.env := by rfl) : ED X σ M H0 (.Call (.Name "len" p) [a] [] pos) (.int x.length) :=
  ed_blt call_len hm (ad_cons h ad_nil na) (fun vs H Q s hd q => by
    obtain ⟨v, rfl, h1⟩ := hd.inv1
    rw [h1.str_inv]
    exact ⟨_, x.length, rfl, ⟨hz, rfl⟩, q _ _ (Same.refl _) (.int _)⟩) (hg := hg) (he := na)
/-- a shape's kind -/
def knd : Shp → Str
  | .opn => "open"
  | .sht => "shut"
  | .lnk _ => "link"
  | .net _ => "net"
  | .jn k _ => kwd k
theorem knd_dT (S : Shp) : ∃ r, S.dT = .tuple (.str (knd S) :: r) ∧ True := by
  cases S <;> exact ⟨_, rfl, trivial⟩
theorem knd_dL (S : Shp) : ∃ r, S.dL = .tuple (.str (knd S) :: r) ∧ True := by
  cases S <;> exact ⟨_, rfl, trivial⟩
section
variable {P : Program} {w : World} {K : Frg} {mg : Str → Option Value} {base : Heap} {aO aS aB : Addr}
def R_laid : List PyData → PyData → Prop := fun ds d => ∃ S, ds = [Shp.dT S] ∧ NW S ∧ siz S ≤ 14 ∧ dep S ≤ 5 ∧ d = .tuple ((laidS S).map lkD)
theorem c_laid (G : Glo K mg aO aS aB) (D : Dfn K mg "laid" s_laid) (O : Cl P w K mg base 1 "ordered" (spR K R_ord)) (LB : Cl P w K mg base 8 "laid_between" (spR K (R_lb 6))) : Cl P w K mg base 9 "laid" (spR K R_laid) := by
  refine cl_w D (fun _ _ _ _ _ _ us hl => match us, hl with | [_], _ => rfl) sc_laid (spR_len fun ds d h => by obtain ⟨S, rfl, _⟩ := h; rfl) fun f cdv A outer s H vs Q E hr h => ?_
  obtain ⟨M, ds, d, lv, ha, ⟨S, rfl, hN, hs, hd, rfl⟩, q⟩ := h
  obtain ⟨v, rfl, hv⟩ := ha.inv1
  obtain ⟨r, hr0, hr1⟩ := knd_dT S
  refine sw_ret (M := M) (ed_if (td_eqS (M := M) (x := knd S) (ed_ixT (n := 0) (ed_cast (ed_v 0 rfl hv) hr0) ed_int rfl) ed_str) (fun h => ?_) (fun h => ?_)) q
  · have h' := of_decide_eq_true h
    cases S with
    | net ls => exact ed_ixT (n := 1) (ed_v 0 rfl hv) ed_int rfl
    | opn => exact absurd h' (by decide +kernel)
    | sht => exact absurd h' (by decide +kernel)
    | lnk x => exact absurd h' (by show ¬ (("link" : Str) = "net"); decide +kernel)
    | jn k ps => exact absurd h' (by cases k <;> (show ¬ (kwd _ = "net"); decide +kernel))
  · have e : laidS S = ordL (lay S 0 1 2).1 := by
      cases S with
      | net ls => exact absurd rfl (of_decide_eq_false h)
      | _ => rfl
    exact ed_cl O hr (by omega) lv (ad_cons (ed_ixT (n := 0) (ed_cl LB hr (Nat.le_refl _) lv (ad_cons (ed_v 0 rfl hv) (ad_cons ed_int (ad_cons ed_int (ad_cons (ed_gc rfl G.FIRST_INNER fun _ => .int 2) ad_nil)))) ⟨S, 0, 1, 2, rfl, hN, hs, by omega, by omega, by omega, rfl⟩) ed_int rfl) ad_nil) ⟨(lay S 0 1 2).1, _, rfl, .inl rfl, by rw [lay_len]; exact hs, lay0_GL hN hs, by rw [e]⟩
def R_pl : List PyData → PyData → Prop := fun ds d => ∃ S, ds = [Shp.dT S] ∧ NW S ∧ siz S ≤ 14 ∧ dep S ≤ 5 ∧ d = .list ((laidS S).map fun l => .str l.1)
theorem c_places_in (G : Glo K mg aO aS aB) (D : Dfn K mg "places_in" s_places_in) (L : Cl P w K mg base 9 "laid" (spR K R_laid)) : Cl P w K mg base 10 "places_in" (spR K R_pl) := by
  refine cl_w D (fun _ _ _ _ _ _ us hl => match us, hl with | [_], _ => rfl) sc_places_in (spR_len fun ds d h => by obtain ⟨S, rfl, _⟩ := h; rfl) fun f cdv A outer s H vs Q E hr h => ?_
  obtain ⟨M, ds, d, lv, ha, ⟨S, rfl, hN, hs, hd, rfl⟩, q⟩ := h
  obtain ⟨v, rfl, hv⟩ := ha.inv1
  have nd := sc_places_in.nd
  refine sw_ret (M := M) (ed_lc (own := [("name", 1), ("u", 2), ("v", 3)]) (ls := laidS S) (enc := lkD) (f := fun l => .str l.1) (fs := fun l => [.str l.1, .int l.2.1, .int l.2.2]) rfl nd lv (src_tup (ed_cl L hr (Nat.le_refl _) lv (ad_cons (ed_v 0 rfl hv) ad_nil) ⟨S, rfl, hN, hs, hd, rfl⟩)) (blkOk_by (N := n_places_in) (sc := defScope s_places_in) (by decide +kernel)) (fun _ _ _ _ _ => pg3 rfl 1 2 3 (pg1 1 nd) (pg1 2 nd) (pg1 3 nd)) tg_3 (by rw [laidS_len, sizeLine_eq]; omega) (by decide) (fun l _ => ⟨rfl, rfl⟩) (fun l hl vs D H' s0 h0 C cl fp g lv' hx => ?_)) q
  obtain ⟨x, u, v, rfl, hx1, hx2, hx3⟩ := hx.inv3
  exact ed_v 1 rfl hx1
def R_wh : List PyData → PyData → Prop := fun ds d => ∃ j : Int, ds = [.int j] ∧ d = .bool true
theorem c_is_whole (G : Glo K mg aO aS aB) (D : Dfn K mg "is_whole" s_is_whole) : Cl P w K mg base 1 "is_whole" (spR K R_wh) := by
  refine cl_w D (fun _ _ _ _ _ _ us hl => match us, hl with | [_], _ => rfl) sc_is_whole (spR_len fun ds d h => by obtain ⟨j, rfl, _⟩ := h; rfl) fun f cdv A outer s H vs Q E hr h => ?_
  obtain ⟨M, ds, d, lv, ha, ⟨j, rfl, rfl⟩, q⟩ := h
  obtain ⟨v, rfl, hv⟩ := ha.inv1
  exact sw_ret (M := M) (ed_and (ed_isi (t := "int") (r := true) G.isinstance G.int (by decide +kernel) (ed_v 0 rfl hv) (by show kitB "int" "int" = some true; decide +kernel)) (fun _ => ed_one (ed_not (ed_isi (t := "bool") (r := false) G.isinstance G.bool (by decide +kernel) (ed_v 0 rfl hv) (by show kitB "int" "bool" = some false; decide +kernel)))) fun z => nomatch z) q
def R_ij : List PyData → PyData → Prop := fun ds d => ∃ j : Int, ds = [.int j] ∧ d = .bool (decide (0 ≤ j) && decide (j ≤ 99))
theorem c_is_joint (G : Glo K mg aO aS aB) (D : Dfn K mg "is_joint" s_is_joint) (Wh : Cl P w K mg base 1 "is_whole" (spR K R_wh)) : Cl P w K mg base 2 "is_joint" (spR K R_ij) := by
  refine cl_w D (fun _ _ _ _ _ _ us hl => match us, hl with | [_], _ => rfl) sc_is_joint (spR_len fun ds d h => by obtain ⟨j, rfl, _⟩ := h; rfl) fun f cdv A outer s H vs Q E hr h => ?_
  obtain ⟨M, ds, d, lv, ha, ⟨j, rfl, rfl⟩, q⟩ := h
  obtain ⟨v, rfl, hv⟩ := ha.inv1
  exact sw_ret (M := M) (ed_and (ed_cl Wh hr (Nat.le_refl _) lv (ad_cons (ed_v 0 rfl hv) ad_nil) ⟨j, rfl, rfl⟩) (fun _ => ed_one (ed_lele ed_int (ed_v 0 rfl hv) (ed_gc rfl G.LAST_JOINT fun _ => .int 99))) fun z => nomatch z) q
def R_in : List PyData → PyData → Prop := fun ds d => ∃ x : Str, ds = [.str x] ∧ GN x ∧ d = .bool true
theorem c_is_name (G : Glo K mg aO aS aB) (D : Dfn K mg "is_name" s_is_name) : Cl P w K mg base 1 "is_name" (spR K R_in) := by
  refine cl_w D (fun _ _ _ _ _ _ us hl => match us, hl with | [_], _ => rfl) sc_is_name (spR_len fun ds d h => by obtain ⟨j, rfl, _⟩ := h; rfl) fun f cdv A outer s H vs Q E hr h => ?_
  obtain ⟨M, ds, d, lv, ha, ⟨x, rfl, g, rfl⟩, q⟩ := h
  obtain ⟨v, rfl, hv⟩ := ha.inv1
  have nd := sc_is_name.nd
  have h1 := g.lo
  have h8 := g.hi
  have ge : (decide ((1 : Int) ≤ (x.length : Nat)) && decide ((x.length : Nat) ≤ (8 : Int))) = true := by
    rw [decide_eq_true (by omega), decide_eq_true (by omega)]
    rfl
  have gb : decide (x ∈ (["open", "shut", "net"] : List Str)) = false := decide_eq_false fun z => by
    rcases List.mem_cons.mp z with z | z
    · exact g.b1 z
    · rcases List.mem_cons.mp z with z | z
      · exact g.b2 z
      · exact g.b3 (List.mem_singleton.mp z)
  refine sw_ifF (td_w (wd_or (k := false) (m := false) (td_not (k := true) (td_of (M := M) (ed_isi (t := "str") (r := true) G.isinstance G.str (by decide +kernel) (ed_v 0 rfl hv) (by show kitB "str" "str" = some true; decide +kernel)))) fun _ => wd_or (k := false) (m := false) (td_not (k := true) (td_cast (y := true) (td_lele (M := M) ed_int (ed_lenS G.len (ed_v 0 rfl hv) (by rw [sizeLine_eq]; omega)) (ed_gc rfl G.MOST_LETTERS fun _ => .int 8)) ge)) fun _ => wd_or1 (td_cast (td_inS (M := M) (xs := ["open", "shut", "net"]) (ed_v 0 rfl hv) (ed_gc rfl G.BARRED fun H => .tup (G.tB H) (.three (.str _) (.str _) (.str _))) (.inr rfl)) gb))) fun H1 g1 => ?_
  have lv1 := lv.same g1
  refine sw_ret (M := M) (ed_cast (ed_all (bs := x.cps.toList.map fun k => decide (k ∈ abc.cps.toList)) rfl G.all (ed_cast (ed_lc (own := [("sign", 1)]) (ls := x.cps.toList) (enc := fun k => .str ⟨#[k]⟩) (f := fun k => .bool (decide (k ∈ abc.cps.toList))) (fs := fun k => [.str ⟨#[k]⟩]) rfl nd lv1 (src_str (ed_v 0 rfl (hv.mono (same_hM g1)))) (blkOk_by (N := n_is_name) (sc := defScope s_is_name) (by decide +kernel)) (fun _ _ _ _ _ => pg1 1 nd) tg_name (by rw [← TL.len_tl, sizeLine_eq]; omega) (by decide) (fun _ _ => rfl) (fun k hk vs D H' s0 h0 C cl fp g lv' hx => ?_)) (by rw [List.map_map]; rfl))) ?_) fun v H' g hv => q v H' (g1.trans g) hv
  · obtain ⟨u, rfl, hu⟩ := hx.inv1
    exact ed_inSign (ed_v 1 rfl hu) (ed_gc rfl G.LETTERS fun _ => .str abc)
  · refine congrArg PyData.bool ?_
    rw [List.all_map, List.all_eq_true]
    intro k hk
    have hk := g.az k hk
    have all : ∀ k : Nat, k < 123 → 97 ≤ k → decide (k ∈ abc.cps.toList) = true := by decide +kernel
    exact all k (by omega) (by omega)
def R_il : List PyData → PyData → Prop := fun ds d => ∃ l, ds = [lkD l] ∧ GL l ∧ d = .bool true
theorem c_is_link (G : Glo K mg aO aS aB) (D : Dfn K mg "is_link" s_is_link) (Nm : Cl P w K mg base 1 "is_name" (spR K R_in)) (Jo : Cl P w K mg base 2 "is_joint" (spR K R_ij)) : Cl P w K mg base 3 "is_link" (spR K R_il) := by
  refine cl_w D (fun _ _ _ _ _ _ us hl => match us, hl with | [_], _ => rfl) sc_is_link (spR_len fun ds d h => by obtain ⟨j, rfl, _⟩ := h; rfl) fun f cdv A outer s H vs Q E hr h => ?_
  obtain ⟨M, ds, d, lv, ha, ⟨l, rfl, g, rfl⟩, q⟩ := h
  obtain ⟨v, rfl, hv⟩ := ha.inv1
  refine sw_ifF (td_w (wd_or (k := false) (m := false) (td_not (k := true) (td_of (M := M) (ed_isi (t := "tuple") (r := true) G.isinstance G.tuple (by decide +kernel) (ed_v 0 rfl hv) (by show kitB "tuple" "tuple" = some true; decide +kernel)))) fun _ => wd_or1 (td_cast (td_cmp (M := M) (k := !decide ((3 : Int) = 3)) op_ne (ed_lenT G.len (ed_v 0 rfl hv)) ed_int fun _ _ _ _ _ h1 h2 q => rd_neI h1 h2 q) (by decide)))) fun H1 g1 => ?_
  have lv1 := lv.same g1
  have hv1 := hv.mono (same_hM g1)
  have t1 : (decide (0 ≤ l.2.1) && decide (l.2.1 ≤ 99)) = true := by rw [decide_eq_true g.u0, decide_eq_true g.u1]; rfl
  have t2 : (decide (0 ≤ l.2.2) && decide (l.2.2 ≤ 99)) = true := by rw [decide_eq_true g.v0, decide_eq_true g.v1]; rfl
  exact sw_ret (M := M) (ed_and (k := true) (ed_cl Nm hr (by omega) lv1 (ad_cons (ed_ixT (n := 0) (ed_v 0 rfl hv1) ed_int rfl) ad_nil) ⟨l.1, rfl, g.nm, rfl⟩) (fun _ => ed_and (k := true) (ed_cast (ed_cl Jo hr (Nat.le_refl _) lv1 (ad_cons (ed_ixT (n := 1) (ed_v 0 rfl hv1) ed_int rfl) ad_nil) ⟨l.2.1, rfl, rfl⟩) (by rw [t1])) (fun _ => ed_one (ed_cast (ed_cl Jo hr (Nat.le_refl _) lv1 (ad_cons (ed_ixT (n := 2) (ed_v 0 rfl hv1) ed_int rfl) ad_nil) ⟨l.2.2, rfl, rfl⟩) (by rw [t2]))) fun z => nomatch z) fun z => nomatch z) fun v H' g hv => q v H' (g1.trans g) hv
def R_no : List PyData → PyData → Prop := fun ds d => ∃ xs : List Str, ds = [.list (xs.map .str)] ∧ xs.length < 4000 ∧ d = .tuple ((setS xs).map .str)
theorem c_names_once (G : Glo K mg aO aS aB) (D : Dfn K mg "names_once" s_names_once) : Cl P w K mg base 1 "names_once" (spR K R_no) := by
  refine cl_w D (fun _ _ _ _ _ _ us hl => match us, hl with | [_], _ => rfl) sc_names_once (spR_len fun ds d h => by obtain ⟨j, rfl, _⟩ := h; rfl) fun f cdv A outer s H vs Q E hr h => ?_
  obtain ⟨M, ds, d, lv, ha, ⟨xs, rfl, hz, rfl⟩, q⟩ := h
  obtain ⟨v, rfl, hv⟩ := ha.inv1
  have nd := sc_names_once.nd
  refine sw_ret (M := M) (ed_tupL lv G.tuple (ed_setS (ns := xs) lv rfl G.sorted G.set (ed_lc (own := [("name", 1)]) (ls := xs) (enc := .str) (f := .str) (fs := fun x => [.str x]) rfl nd lv (src_list (ed_v 0 rfl hv)) (blkOk_by (N := n_names_once) (sc := defScope s_names_once) (by decide +kernel)) (fun _ _ _ _ _ => pg1 1 nd) tg_name (by rw [sizeLine_eq]; omega) (by decide) (fun _ _ => rfl) (fun k hk vs D H' s0 h0 C cl fp g lv' hx => ?_)) hz)) q
  obtain ⟨u, rfl, hu⟩ := hx.inv1
  exact ed_strS G.str (ed_v 1 rfl hu)
def R_nf : List PyData → PyData → Prop := fun ds d => ∃ j : Int, ds = [.int j] ∧ j ≤ 14 ∧ d = .none
theorem c_need_few (G : Glo K mg aO aS aB) (D : Dfn K mg "need_few" s_need_few) : Cl P w K mg base 1 "need_few" (spR K R_nf) := by
  refine cl_w D (fun _ _ _ _ _ _ us hl => match us, hl with | [_], _ => rfl) sc_need_few (spR_len fun ds d h => by obtain ⟨j, rfl, _⟩ := h; rfl) fun f cdv A outer s H vs Q E hr h => ?_
  obtain ⟨M, ds, d, lv, ha, ⟨j, rfl, hj, rfl⟩, q⟩ := h
  obtain ⟨v, rfl, hv⟩ := ha.inv1
  exact sw_ifF (td_cast (td_gt (M := M) (ed_v 0 rfl hv) (ed_gc rfl G.MOST_PLACES_webs fun _ => .int 14)) (decide_eq_false (by omega))) fun H1 g1 => sw_nil (q _ _ g1 .non)
end
end S6

/-! W07: shape_text. -/
namespace S6
open PySem PySem.Spec PyProof.Rows L2
section
variable {P : Program} {w : World} {K : Frg} {mg : Str → Option Value} {base : Heap} {aO aS aB : Addr}
/-- a def of which nothing can be asked -/
theorem cl_none {x : Str} {st : Stmt} {ps : List Str} {k : Nat} {R : List PyData → PyData → Prop} (D : Dfn K mg x st) (b : BndOf x x st ps) (no : ∀ ds d, ¬ R ds d) : Cl P w K mg base k x (spR K R) := by
  obtain ⟨f, fd, F, hm⟩ := D.ex
  have no' : ∀ vs H Q E, ¬ spR K R vs H Q E := fun vs H Q E h => by
    obtain ⟨M, ds, d, _, _, h2, _⟩ := h
    exact no ds d h2
  exact ⟨f, fd, ps, ⟨fun vs H Q E h => absurd h (no' vs H Q E), fun A outer s H args us vs Q E _ _ _ _ h => absurd h (no' vs H Q E)⟩, hm, F.kp, F.binds b⟩
def R_st (n : Nat) : List PyData → PyData → Prop := fun ds d => ∃ S, ds = [Shp.dT S] ∧ NW S ∧ siz S ≤ 14 ∧ dep S ≤ 5 ∧ dep S < n ∧ d = .str (txt S)
theorem c_shape_text {n : Nat} (G : Glo K mg aO aS aB) (D : Dfn K mg "shape_text" s_shape_text) (ih : Cl P w K mg base n "shape_text" (spR K (R_st n))) : Cl P w K mg base (n + 1) "shape_text" (spR K (R_st (n + 1))) := by
  refine cl_w D (fun _ _ _ _ _ _ us hl => match us, hl with | [_], _ => rfl) sc_shape_text (spR_len fun ds d h => by obtain ⟨S, rfl, _⟩ := h; rfl) fun fa cdv A outer s H vs Q E hr h => ?_
  obtain ⟨M, ds, d, lv, ha, ⟨S, rfl, hN, hs, hd5, hd, rfl⟩, q⟩ := h
  obtain ⟨v0, rfl, hv0⟩ := ha.inv1
  have nd := sc_shape_text.nd
  have key : (r : List PyData) → Shp.dT S = .tuple (.str (knd S) :: r) → True := fun _ _ => trivial
  cases S with
  | lnk x =>
    refine sw_ifT (td_cast (td_eqS (M := M) (x := "link") (ed_ixT (n := 0) (ed_v 0 rfl hv0) ed_int rfl) ed_str) (by decide +kernel)) fun H1 g1 => ?_
    exact sw_ret (M := M) (ed_strS G.str (ed_ixT (n := 1) (ed_v 0 rfl (hv0.mono (same_hM g1))) ed_int rfl)) fun v H' g hv => q v H' (g1.trans g) hv
  | net ls =>
    refine sw_ifF (td_cast (td_eqS (M := M) (x := "net") (ed_ixT (n := 0) (ed_v 0 rfl hv0) ed_int rfl) ed_str) (by decide +kernel)) fun H1 g1 => ?_
    refine sw_ifT (td_cast (td_eqS (M := M) (x := "net") (ed_ixT (n := 0) (ed_v 0 rfl (hv0.mono (same_hM g1))) ed_int rfl) ed_str) (by decide +kernel)) fun H2 g2 => ?_
    have g12 := g1.trans g2
    have lv2 := lv.same g12
    rw [NW] at hN
    have hl : ls.length ≤ 14 := hs
    have hn := hN.2.2
    refine sw_setLc (M := M) 1 (own := [("name", 3), ("u", 4), ("v", 5)]) (ls := ls) (enc := lkD) (f := fun l => .str (txtL l)) (fs := fun l => [.str l.1, .int l.2.1, .int l.2.2]) rfl nd lv2 (src_tup (ed_ixT (n := 1) (ed_v 0 rfl (hv0.mono (same_hM g12))) ed_int rfl)) (blkOk_by (N := n_shape_text) (sc := defScope s_shape_text) (by decide +kernel))
      (fun _ _ _ _ _ => pg3 rfl 3 4 5 (pg1 3 nd) (pg1 4 nd) (pg1 5 nd)) tg_3 (by rw [sizeLine_eq]; omega) (by decide) (fun l _ => ⟨rfl, rfl⟩) (fun l hl vs D H' s0 h0 C cl fp g lv' hx => ?_) fun v1 H3 g3 hv1 => ?_
    · obtain ⟨x, u, v, rfl, hx1, hx2, hx3⟩ := hx.inv3
      have gl := hn l hl
      have b1 := two_len gl.u0 gl.u1
      have b2 := two_len gl.v0 gl.v1
      have b3 := gl.nm.hi
      have sm : ∀ i : Int, 0 ≤ i → i ≤ 99 → i.natAbs.log2 < 1920 := fun i h0 h1 => Nat.lt_of_le_of_lt (Nat.log2_le_self _) (by omega)
      refine ed_cast (ed_js (ys := [((toString l.2.1 : String) : Str), "-", l.1, "-", ((toString l.2.2 : String) : Str)]) ⟨ed_fmtI (ed_v 4 rfl hx2) (sm _ gl.u0 gl.u1), ed_str, ed_fmtS (ed_v 3 rfl hx1) (by rw [sizeLine_eq]; omega), ed_str, ed_fmtI (ed_v 5 rfl hx3) (sm _ gl.v0 gl.v1), trivial⟩ (by
        rw [sizeLine_eq]
        simp only [List.map_cons, List.map_nil, List.sum_cons, List.sum_nil]
        have e : ("-" : Str).length = 1 := by decide +kernel
        rw [e]
        omega)) ?_
      rw [catS_cons]
      rfl
    · have jl := join_len " " (ls.map txtL)
      have hsum := sum_le (f := (·.length)) (k := 14) (ls := ls.map txtL) (fun y hy => by
        obtain ⟨l, hl, rfl⟩ := List.mem_map.mp hy
        exact txtL_len (hn l hl))
      rw [List.length_map] at hsum jl
      rw [show (" " : Str).length = 1 from len_sp] at jl
      refine sw_ret (M := M) (ed_cast (ed_js (ys := ["[", Txt.join " " (ls.map txtL), "]"]) ⟨ed_str, ed_fmtS (ed_join ed_str (ed_cast (ed_v 1 rfl hv1) (by rw [List.map_map]; rfl)) (by rw [List.length_map, len_sp]; omega)) (by rw [sizeLine_eq]; omega), ed_str, trivial⟩ (by
        rw [sizeLine_eq]
        simp only [List.map_cons, List.map_nil, List.sum_cons, List.sum_nil]
        rw [show ("[" : Str).length = 1 by decide +kernel, show ("]" : Str).length = 1 by decide +kernel]
        omega)) ?_) fun v H' g hv => q v H' (g12.trans (g3.trans g)) hv
      rw [catS_cons, txt]
      rfl
  | jn k ps =>
    refine sw_ifF (td_cast (td_eqS (M := M) (x := kwd k) (ed_ixT (n := 0) (ed_v 0 rfl hv0) ed_int rfl) ed_str) (by cases k <;> decide +kernel)) fun H1 g1 => ?_
    refine sw_ifF (td_cast (td_eqS (M := M) (x := kwd k) (ed_ixT (n := 0) (ed_v 0 rfl (hv0.mono (same_hM g1))) ed_int rfl) ed_str) (by cases k <;> decide +kernel)) fun H2 g2 => ?_
    have g12 := g1.trans g2
    have lv2 := lv.same g12
    refine sw_ifT (td_cast (td_inS (M := M) (x := kwd k) (xs := ["row", "bunch"]) (ed_ixT (n := 0) (ed_v 0 rfl (hv0.mono (same_hM g12))) ed_int rfl) (ed_tup lv2 (ad_cons ed_str (ad_cons ed_str ad_nil)) (by show 2 ≤ sizeLine; decide)) (.inr rfl)) (by cases k <;> decide +kernel)) fun H3 g3 => ?_
    have g13 := g12.trans g3
    have lv3 := lv.same g13
    refine sw_set (M := M) (d := .str (sgn k)) 2 nd (ed_if (k := k) (td_cast (td_eqS (M := M) (x := kwd k) (ed_ixT (n := 0) (ed_v 0 rfl (hv0.mono (same_hM g13))) ed_int rfl) ed_str) (by cases k <;> decide +kernel)) (fun z => by subst z; exact ed_str) fun z => by subst z; exact ed_str) fun v2 H4 g4 hv2 => ?_
    have g14 := g13.trans g4
    have lv4 := lv.same g14
    have hN' := hN
    rw [NW] at hN
    have hlen := NWs_len hN.2
    rw [siz] at hs
    rw [dep] at hd hd5
    have ts := txts_len hN.2
    have h2 : (17 + 8 * deps ps) * sizs ps ≤ (17 + 8 * 4) * 14 := Nat.mul_le_mul (by omega) hs
    have jl := join_len (sgn k) (txts ps)
    have h4 : (txts ps).length = ps.length := by rw [txts_map, List.length_map]
    rw [h4, sgn_len] at jl
    refine sw_ret (M := M) (ed_cast (ed_js (ys := ["(", Txt.join (sgn k) (txts ps), ")"]) ⟨ed_str, ed_fmtS (ed_join (ed_v 2 rfl hv2) (ed_cast (ed_lc (own := [("part", 6)]) (ls := ps) (enc := Shp.dT) (f := fun p => .str (txt p)) (fs := fun p => [p.dT]) rfl nd lv4 (src_tup (ed_cast (ed_ixT (n := 1) (ed_v 0 rfl (hv0.mono (same_hM g14))) ed_int rfl) (by rw [dTs_map]))) (blkOk_by (N := n_shape_text) (sc := defScope s_shape_text) (by decide +kernel))
      (fun _ _ _ _ _ => pg1 6 nd) tg_name (by rw [sizeLine_eq]; omega) (by decide) (fun _ _ => rfl) (fun p hp vs D H' s0 h0 C cl fp g lv' hx => ?_)) (by rw [txts_map, List.map_map]; rfl)) (by rw [h4, sgn_len]; omega)) (by rw [sizeLine_eq]; omega), ed_str, trivial⟩ (by
        rw [sizeLine_eq]
        simp only [List.map_cons, List.map_nil, List.sum_cons, List.sum_nil]
        rw [show ("(" : Str).length = 1 by decide +kernel, show (")" : Str).length = 1 by decide +kernel]
        omega)) ?_) fun v H' g hv => q v H' (g14.trans g) hv
    · obtain ⟨u, rfl, hu⟩ := hx.inv1
      have := siz_mem hp
      have := dep_mem hp
      exact ed_cl ih hr (Nat.le_refl _) lv' (ad_cons (ed_v 6 rfl hu) ad_nil) ⟨p, rfl, (NWs_iff.mp hN.2 p hp).1, by omega, by omega, by omega, rfl⟩
    · rw [catS_cons, txt]
      rfl
  | opn =>
    refine sw_ifF (td_cast (td_eqS (M := M) (x := "open") (ed_ixT (n := 0) (ed_v 0 rfl hv0) ed_int rfl) ed_str) (by decide +kernel)) fun H1 g1 => ?_
    refine sw_ifF (td_cast (td_eqS (M := M) (x := "open") (ed_ixT (n := 0) (ed_v 0 rfl (hv0.mono (same_hM g1))) ed_int rfl) ed_str) (by decide +kernel)) fun H2 g2 => ?_
    have g12 := g1.trans g2
    have lv2 := lv.same g12
    refine sw_ifF (td_cast (td_inS (M := M) (x := "open") (xs := ["row", "bunch"]) (ed_ixT (n := 0) (ed_v 0 rfl (hv0.mono (same_hM g12))) ed_int rfl) (ed_tup lv2 (ad_cons ed_str (ad_cons ed_str ad_nil)) (by show 2 ≤ sizeLine; decide)) (.inr rfl)) (by decide +kernel)) fun H3 g3 => ?_
    exact sw_ret (M := M) (ed_strS G.str (ed_ixT (n := 0) (ed_v 0 rfl (hv0.mono (same_hM (g12.trans g3)))) ed_int rfl)) fun v H' g hv => q v H' ((g12.trans g3).trans g) hv
  | sht =>
    refine sw_ifF (td_cast (td_eqS (M := M) (x := "shut") (ed_ixT (n := 0) (ed_v 0 rfl hv0) ed_int rfl) ed_str) (by decide +kernel)) fun H1 g1 => ?_
    refine sw_ifF (td_cast (td_eqS (M := M) (x := "shut") (ed_ixT (n := 0) (ed_v 0 rfl (hv0.mono (same_hM g1))) ed_int rfl) ed_str) (by decide +kernel)) fun H2 g2 => ?_
    have g12 := g1.trans g2
    have lv2 := lv.same g12
    refine sw_ifF (td_cast (td_inS (M := M) (x := "shut") (xs := ["row", "bunch"]) (ed_ixT (n := 0) (ed_v 0 rfl (hv0.mono (same_hM g12))) ed_int rfl) (ed_tup lv2 (ad_cons ed_str (ad_cons ed_str ad_nil)) (by show 2 ≤ sizeLine; decide)) (.inr rfl)) (by decide +kernel)) fun H3 g3 => ?_
    exact sw_ret (M := M) (ed_strS G.str (ed_ixT (n := 0) (ed_v 0 rfl (hv0.mono (same_hM (g12.trans g3)))) ed_int rfl)) fun v H' g hv => q v H' ((g12.trans g3).trans g) hv
end
end S6

/-! W08: reached, walks. -/
namespace S6
open PySem PySem.Spec PyProof.Rows L2
section
variable {P : Program} {w : World} {K : Frg} {mg : Str → Option Value} {base : Heap} {aO aS aB : Addr}
def R_rch : List PyData → PyData → Prop := fun ds d => ∃ ls e a, ds = [e, .int a] ∧ lksD ls e ∧ ls.length ≤ 14 ∧ d = .list ((reach ls a).map .int)
theorem c_reached (G : Glo K mg aO aS aB) (D : Dfn K mg "reached" s_reached) (Fa : Cl P w K mg base 1 "far_end" (spR K R_far)) : Cl P w K mg base 2 "reached" (spR K R_rch) := by
  refine cl_w D (fun _ _ _ _ _ _ us hl => match us, hl with | [_, _], _ => rfl) sc_reached (spR_len fun ds d h => by obtain ⟨ls, e, a, rfl, _⟩ := h; rfl) fun fa cdv A outer s H vs Q E hr h => ?_
  obtain ⟨M, ds, d, lv, ha, ⟨ls, e, a, rfl, hle, hl, rfl⟩, q⟩ := h
  obtain ⟨v0, v1, rfl, hv0, hv1⟩ := ha.inv2
  obtain rfl := hv1.int_inv
  have nd := sc_reached.nd
  refine sw_lst (M := M) 2 nd (ad_cons (ed_v 1 rfl hv1) ad_nil) (by show 1 ≤ sizeLine; decide) fun p vs H1 g1 hp hvs => ?_
  obtain ⟨u, rfl, hu⟩ := hvs.inv1
  obtain rfl := hu.int_inv
  have gHp : Same H (upd H1 p (.lst [.int a])) := g1.trans (same_new hp)
  have lvp : Lv (p :: M) (upd H1 p (.lst [.int a])) := (lv.same g1).upd.cons upd_same
  have fp : Same (hM M H) (hM (p :: M) (upd H1 p (.lst [.int a]))) := (same_hM g1).trans (same_skip (same_new hp) hp)
  have hnM : p ∉ M := (lv.same g1).new hp
  refine sw_set (M := p :: M) (d := .int 0) 3 nd ed_int fun v3 H2 g2 hv3 => ?_
  obtain rfl := hv3.int_inv
  have hpH : H p = none := by
    cases h : H p with
    | none => rfl
    | some o => have := g1 _ _ h; rw [hp] at this; cases this
  refine sw_while PassesOwn.never (fun σ' H' => ∃ (i : Nat) (f : List Int) (o4 : Option V), σ' = [some v0, some (.int a), some (.ref p), some (.int i), o4] ∧ H' p = some (.lst (f.map V.int)) ∧ reachGo ls (1 + 2 * ls.length - i) i f = reach ls a ∧ RInv ls a f ∧ i ≤ f.length ∧ Same H H' ∧ Lv (p :: M) H' ∧ Same (hM M H) (hM (p :: M) H'))
    (fun σ' H' => match σ' with | [_, _, _, some (.int i), _] => 100 - i.toNat | _ => 0) ⟨0, [a], none, rfl, g2 _ _ upd_same, rfl, ⟨by simp, fun x hx => by rw [List.mem_singleton.mp hx]; exact List.mem_cons_self⟩, Nat.zero_le _, gHp.trans g2, lvp.same g2, fp.trans (same_hM g2)⟩ ?_
  rintro σ' H' ⟨i, f, o4, rfl, p1, p2, p3, p4, p5, p6, p7⟩
  have hf : Da K (hM M H') (.ref p) (.list (f.map .int)) := da_lst_at p1 hnM (.ofInts f)
  have flen := p3.len
  refine ⟨_, td_lt (M := M) (ed_v 3 rfl (.int _)) (ed_lenL G.len (ed_v 2 rfl hf)), fun hb H3 g3 => ?_, fun hb H3 g3 => ?_⟩
  · have hb := of_decide_eq_true hb
    rw [List.length_map] at hb
    have hi : i < f.length := by omega
    obtain ⟨j, hj⟩ : ∃ j, f[i]? = some j := ⟨_, List.getElem?_eq_getElem hi⟩
    refine sw_for (M := p :: M) (ls := ls) (enc := lkD) (fs := fun l => [lkD l]) PassesOwn.never rfl (src_lks (ed_v 0 rfl (hv0.mono (p7.trans (same_hM g3)))) hle) (pg1 4 nd) tg_name (fun _ _ => rfl) fun H4 g4 => ?_
    have g34 := g3.trans g4
    refine ⟨fun k σ' H' => ∃ o4, σ' = [some v0, some (.int a), some (.ref p), some (.int i), o4] ∧ H' p = some (.lst ((growL (ls.take k) j f).map V.int)) ∧ Same H H' ∧ Lv (p :: M) H' ∧ Same (hM (p :: M) H4) (hM (p :: M) H'),
      ⟨o4, rfl, g34 _ _ p1, p5.trans g34, p6.same g34, Same.refl _⟩, fun k σ' H' ⟨_, _, _, _, b3, b4⟩ => ⟨b4, b3⟩, ?_, ?_⟩
    · rintro k l σ' H5 H6 vs hk ⟨o4', rfl, b1, b2, b3, b4⟩ g6 hvs
      obtain ⟨u, rfl, hu⟩ := hvs.inv1
      have hmem : l ∈ ls := List.mem_of_getElem? hk
      have inv := p3.growL (j := j) (ks := ls.take k) fun x hx => List.mem_of_mem_take hx
      have c1 := g6 _ _ b1
      generalize hF : growL (ls.take k) j f = F at inv c1
      have hF2 : growL (ls.take (k + 1)) j f = grow1 j F l := by
        rw [take_step hk, ← hF]
        unfold growL
        rw [List.foldl_append]
        rfl
      have hjF : F[i]? = some j := by rw [← hF]; exact grow_get hj
      have hfF : Da K (hM M H6) (.ref p) (.list (F.map .int)) := da_lst_at c1 hnM (.ofInts F)

      have hu' : Da K (hM M H6) u (lkD l) := hu.mono hM_cons
      have lv6 := (b3.same g6).tail
      refine sw_if (td_and (td_inI (M := M) (ns := [l.2.1, l.2.2]) (i := j) (ed_ixL (n := i) (ed_v 2 rfl hfF) (ed_v 3 rfl (.int _)) (by rw [List.getElem?_map, hjF]; rfl)) (ed_tail lv6 (k := .str l.1) (ds := [.int l.2.1, .int l.2.2]) (ed_v 4 rfl hu')) (.inr rfl))
        fun _ => td_ninI (M := M) (ns := F) (i := farE l j) (ed_cl Fa hr (Nat.le_refl _) lv6 (ad_cons (ed_v 4 rfl hu') (ad_cons (ed_ixL (n := i) (ed_v 2 rfl hfF) (ed_v 3 rfl (.int _)) (by rw [List.getElem?_map, hjF]; rfl)) ad_nil)) ⟨l, j, rfl, rfl⟩) (ed_v 2 rfl hfF) (.inl rfl)) (fun hc H7 g7 => ?_) (fun hc H7 g7 => ?_)
      · have hfF7 := hfF.mono (same_hM g7)
        have hu7 := hu'.mono (same_hM g7)
        have lv7 := lv6.same g7
        refine sw_append (M := p :: M) (d := .int (farE l j)) 2 mOk_by rfl (g7 _ _ c1) List.mem_cons_self (by rw [List.length_map]; have := inv.len; rw [sizeLine_eq]; omega) (ed_mi (ed_cl (M := M) Fa hr (Nat.le_refl _) lv7 (ad_cons (ed_v 4 rfl hu7) (ad_cons (ed_ixL (n := i) (ed_v 2 rfl hfF7) (ed_v 3 rfl (.int _)) (by rw [List.getElem?_map, hjF]; rfl)) ad_nil)) ⟨l, j, rfl, rfl⟩)) fun v H8 g8 hv => sw_nil (sw_nil ?_)
        obtain rfl := hv.int_inv
        refine ⟨some u, rfl, ?_, ?_, ((b3.same g6).same (g7.trans g8)).upd, ?_⟩
        · rw [hF2, grow1, if_pos (show (tch l j && !decide (farE l j ∈ F)) = true from hc), List.map_append]
          exact upd_same
        · exact same_put hpH (b2.trans (g6.trans (g7.trans g8)))
        · rw [hM_upd List.mem_cons_self]
          exact b4.trans (same_hM (g6.trans (g7.trans g8)))
      · refine sw_nil (sw_nil ⟨some u, rfl, ?_, b2.trans (g6.trans g7), (b3.same g6).same g7, b4.trans (same_hM (g6.trans g7))⟩)
        rw [hF2, grow1, if_neg (by rw [show (tch l j && !decide (farE l j ∈ F)) = false from hc]; exact Bool.false_ne_true)]
        exact g7 _ _ c1
    · rintro σ' H5 ⟨o4', rfl, b1, b2, b3, b4⟩
      rw [List.take_length] at b1
      refine sw_addI (M := M) (k := 1) 3 nd rfl ed_int fun H6 g6 => sw_nil ?_
      refine ⟨⟨i + 1, growL ls j f, o4', rfl, g6 _ _ b1, ?_, p3.growL fun l hl => hl, ?_, b2.trans g6, b3.same g6, ?_⟩, ?_⟩
      · rw [← p2, reachGo_step hj (by omega)]
      · have := grow_get (ks := ls) (j := j) hj
        have := (List.getElem?_eq_some_iff.mp this).1
        omega
      · exact (p7.trans (same_hM g34)).trans (b4.trans (same_hM g6))
      · show 100 - ((i : Int) + 1).toNat < 100 - ((i : Int)).toNat
        omega
  · have hb := of_decide_eq_false hb
    rw [List.length_map] at hb
    have hi : f.length ≤ i := by omega
    rw [reachGo_end hi] at p2
    refine sw_ret (M := M) (ed_v 2 rfl (hf.mono (same_hM g3))) fun v H4 g4 hv => q v H4 (p5.trans (g3.trans g4)) ?_
    rw [← p2]
    exact hv
/-! ### walks -/
theorem ad_cast {X : Cx} {σ : L2.St} {M : List Addr} {H0 : Hp} {es : List Expr} {ds ds' : List PyData} (h : AD X σ M H0 es ds) (g : ds = ds') : AD X σ M H0 es ds' := g ▸ h
def wD (w : List Nat) : PyData := .tuple (w.map fun i => .int (i : Nat))
def R_wf (n : Nat) : List PyData → PyData → Prop := fun ds d => ∃ (ls : List Lk) (j : Int) (p : List Int), ds = [.tuple (ls.map lkD), .int j, .tuple (p.map .int)] ∧ ls.length ≤ 7 ∧ live ls j p < n ∧ p.length + live ls j p ≤ 20 ∧ d = .list ((wfr ls n j p).map wD)
def stepW (ls : List Lk) (n : Nat) (j : Int) (p : List Int) (x : Lk × Nat) : List (List Nat) := if wOk j p x.1 = true then (wfr ls n (farE x.1 j) (p ++ [farE x.1 j])).map (x.2 :: ·) else []
theorem c_walks_from {n : Nat} (G : Glo K mg aO aS aB) (D : Dfn K mg "walks_from" s_walks_from) (Fa : Cl P w K mg base 1 "far_end" (spR K R_far)) (ih : Cl P w K mg base (n + 1) "walks_from" (spR K (R_wf n))) : Cl P w K mg base (n + 2) "walks_from" (spR K (R_wf (n + 1))) := by
  refine cl_w D (fun _ _ _ _ _ _ us hl => match us, hl with | [_, _, _], _ => rfl) sc_walks_from (spR_len fun ds d h => by obtain ⟨ls, e, a, rfl, _⟩ := h; rfl) fun fa cdv A outer s H vs Q E hr h => ?_
  obtain ⟨M, ds, d, lv, ha, ⟨ls, j, ps, rfl, hl, hlv, hps, rfl⟩, q⟩ := h
  obtain ⟨v0, v1, v2, rfl, hv0, hv1, hv2⟩ := ha.inv3
  obtain rfl := hv1.int_inv
  have nd := sc_walks_from.nd
  refine sw_if (td_eqI (M := M) (ed_v 1 rfl hv1) (ed_gc rfl G.RIGHT fun _ => .int 1)) (fun hj H1 g1 => ?_) fun hj H1 g1 => sw_nil ?_
  · have hj := of_decide_eq_true hj
    refine sw_ret (M := M) (ed_cast (ed_lst (lv.same g1) (ad_cons (ed_tup (lv.same g1) ad_nil (Nat.zero_le _)) ad_nil) (by show 1 ≤ sizeLine; decide)) ?_) fun v H' g hv => q v H' (g1.trans g) hv
    rw [wfr, if_pos hj]
    rfl
  have hj := of_decide_eq_false hj
  have lv1 := lv.same g1
  have hv01 := hv0.mono (same_hM g1)
  have hv21 := hv2.mono (same_hM g1)
  have q : ∀ v H', Same H1 H' → Da K (hM M H') v (.list ((wfr ls (n + 1) j ps).map wD)) → Q v H' := fun v H' g hv => q v H' (g1.trans g) hv
  have hfl : wfr ls (n + 1) j ps = ls.zipIdx.flatMap (stepW ls n j ps) := by rw [wfr, if_neg hj]; rfl
  have tot : (wfr ls (n + 1) j ps).length ≤ 1048576 := Nat.le_trans (wfr_len ls (n + 1) j ps) (Nat.le_trans (Nat.pow_le_pow_right (i := live ls j ps) (j := 20) (by decide) (by omega)) (by decide))
  clear hv0 hv2 ha
  refine sw_new 3 nd fun a hna => ?_
  have lva : Lv (a :: M) (upd H1 a (.lst [])) := lv1.upd.cons upd_same
  have gma : Same (hM M H1) (hM (a :: M) (upd H1 a (.lst []))) := same_skip (same_new hna) hna
  have hnM : a ∉ M := lv1.new hna
  refine sw_for (M := a :: M) (ls := ls.zipIdx) (enc := fun p => .tuple [.int (p.2 : Nat), lkD p.1]) (fs := fun p => [.int (p.2 : Nat), lkD p.1]) PassesOwn.never rfl (by rw [← enu_map]; exact src_enumT G.enumerate (ed_v 0 rfl (hv01.mono gma))) (pg2 rfl 4 5 (pg1 4 nd (hx := Or.inr rfl)) (pg1 5 nd)) tg_2 (fun _ _ => ⟨rfl, rfl⟩) fun H3 g3 => ?_
  refine ⟨fun i σ' H' => (∃ (o4 o5 o6 o7 : Option V) (acc : List (List Nat)) (xs : List V), σ' = [some v0, some (.int j), some v2, some (.ref a), o4, o5, o6, o7] ∧ H' a = some (.lst xs) ∧ DaAll K (hM (a :: M) H') xs (acc.map wD) ∧ acc ++ (ls.zipIdx.drop i).flatMap (stepW ls n j ps) = wfr ls (n + 1) j ps) ∧
      Same H1 H' ∧ Lv (a :: M) H' ∧ Same (hM (a :: M) H3) (hM (a :: M) H'),
    ⟨⟨none, none, none, none, [], [], rfl, g3 _ _ upd_same, .nil, by rw [hfl]; rfl⟩, (same_put hna (Same.refl H1)).trans g3, lva.same g3, Same.refl _⟩, fun i σ' H' p => ⟨p.2.2.2, p.2.2.1⟩, fun i x σ' H' H'' vs hx p gy hvs => ?_, fun σ' H' p => ?_⟩
  · obtain ⟨⟨o4, o5, o6, o7, acc, xs, rfl, p4, p5, p6⟩, p1, p2, p3⟩ := p
    obtain ⟨u4, u5, rfl, h4, h5⟩ := hvs.inv2
    obtain rfl := h4.int_inv
    have hil : i < ls.zipIdx.length := (List.getElem?_eq_some_iff.mp hx).1
    have hdrop : ls.zipIdx.drop i = x :: ls.zipIdx.drop (i + 1) := by
      rw [List.drop_eq_getElem_cons hil]
      rw [List.getElem?_eq_getElem hil] at hx
      rw [Option.some.inj hx]
    rw [hdrop, List.flatMap_cons, ← List.append_assoc] at p6
    have hxm : x.1 ∈ ls := List.fst_mem_of_mem_zipIdx (List.mem_of_getElem? hx)
    have f3 : Same (hM M H1) (hM (a :: M) H'') := gma.trans ((same_hM g3).trans (p3.trans (same_hM gy)))
    have lv3 := p2.same gy
    have hv2' := hv21.mono f3
    have hv0' := hv01.mono f3
    refine sw_if (td_and (td_inI (M := a :: M) (ns := [x.1.2.1, x.1.2.2]) (i := j) (ed_v 1 rfl (.int j)) (ed_tail lv3 (k := .str x.1.1) (ds := [.int x.1.2.1, .int x.1.2.2]) (ed_v 5 rfl h5)) (.inr rfl))
      fun _ => td_ninI (M := a :: M) (ns := ps) (i := farE x.1 j) (ed_cl Fa hr (by omega) lv3 (ad_cons (ed_v 5 rfl h5) (ad_cons (ed_v 1 rfl (.int j)) ad_nil)) ⟨x.1, j, rfl, rfl⟩) (ed_v 2 rfl hv2') (.inr rfl)) (fun hc H7 g7 => ?_) (fun hc H7 g7 => ?_)
    · have hc : wOk j ps x.1 = true := hc
      have lv7 := lv3.same g7
      have h57 := h5.mono (same_hM g7)
      refine sw_set (M := a :: M) (d := .int (farE x.1 j)) 6 nd (ed_cl Fa hr (by omega) lv7 (ad_cons (ed_v 5 rfl h57) (ad_cons (ed_v 1 rfl (.int j)) ad_nil)) ⟨x.1, j, rfl, rfl⟩) fun v6 H8 g8 hv6 => ?_
      obtain rfl := hv6.int_inv
      have lv8 := lv7.same g8
      have g78 := g7.trans g8
      have dec := live_lt hxm hc
      have hst : stepW ls n j ps x = (wfr ls n (farE x.1 j) (ps ++ [farE x.1 j])).map (x.2 :: ·) := by unfold stepW; rw [if_pos hc]
      rw [hst] at p6
      have small : acc.length + (wfr ls n (farE x.1 j) (ps ++ [farE x.1 j])).length ≤ 1048576 := by
        rw [← p6, List.length_append, List.length_append, List.length_map] at tot
        omega
      refine sw_extendL (M := a :: M) (ds := ((wfr ls n (farE x.1 j) (ps ++ [farE x.1 j])).map fun w => wD (x.2 :: w))) 3 mOk_by rfl ((gy.trans g78) _ _ p4) List.mem_cons_self (by rw [p5.len, List.length_map, List.length_map, sizeLine_eq]; omega)
        (ed_lc (own := [("rest", 7)]) (ls := wfr ls n (farE x.1 j) (ps ++ [farE x.1 j])) (enc := wD) (f := fun w => wD (x.2 :: w)) (fs := fun w => [wD w]) rfl nd lv8 (src_list (ed_cl ih hr (Nat.le_refl _) lv8 (ad_cons (ed_v 0 rfl (hv0'.mono (same_hM g78))) (ad_cons (ed_v 6 rfl (.int _)) (ad_cons (ed_tup lv8 (ad_starT (ed_v 2 rfl (hv2'.mono (same_hM g78))) (ad_cons (ed_v 6 rfl (.int _)) ad_nil)) ?_) ad_nil))) ⟨ls, farE x.1 j, ps ++ [farE x.1 j], ?_, hl, by omega, ?_, rfl⟩))
          (blkOk_by (N := n_walks_from) (sc := defScope s_walks_from) (by decide +kernel)) (fun _ _ _ _ _ => pg1 7 nd) tg_name (by rw [sizeLine_eq]; omega) (by decide) (fun _ _ => rfl) (fun w hw vs D H' s0 h0 C cl fp g lv' hx' => ?_)) fun ys H9 g9 hys => sw_nil (sw_nil ?_)
      · rw [List.length_append, List.length_map, sizeLine_eq]
        show _ + 1 ≤ _
        omega
      · rw [List.map_append]; rfl
      · rw [List.length_append, List.length_singleton]; omega
      · obtain ⟨u7, rfl, h7⟩ := hx'.inv1
        have wl := (wfr_mem hw).1
        exact ed_tup lv' (ad_cons (ed_v 4 rfl (.int _)) (ad_cast (ad_starT (ed_v 7 rfl h7) ad_nil) (List.append_nil _))) (by rw [List.length_map, List.length_cons, sizeLine_eq]; omega)
      · refine ⟨⟨_, _, _, _, acc ++ (wfr ls n (farE x.1 j) (ps ++ [farE x.1 j])).map (x.2 :: ·), xs ++ ys, rfl, upd_same, ?_, p6⟩, same_put hna (p1.trans (gy.trans (g78.trans g9))), (lv8.same g9).upd, ?_⟩
        · rw [hM_upd List.mem_cons_self] at hys ⊢
          rw [List.map_append, List.map_map]
          exact (p5.mono (same_hM (gy.trans (g78.trans g9)))).append hys
        · rw [hM_upd List.mem_cons_self]
          exact p3.trans (same_hM (gy.trans (g78.trans g9)))
    · have hc : wOk j ps x.1 = false := hc
      have hst : stepW ls n j ps x = [] := by unfold stepW; rw [if_neg (by rw [hc]; exact Bool.false_ne_true)]
      rw [hst, List.append_nil] at p6
      exact sw_nil (sw_nil ⟨⟨_, _, _, _, acc, xs, rfl, (gy.trans g7) _ _ p4, p5.mono (same_hM (gy.trans g7)), p6⟩, p1.trans (gy.trans g7), lv3.same g7, p3.trans (same_hM (gy.trans g7))⟩)
  · obtain ⟨⟨o4, o5, o6, o7, acc, xs, rfl, p4, p5, p6⟩, p1, p2, p3⟩ := p
    rw [List.drop_length, List.flatMap_nil, List.append_nil] at p6
    refine sw_ret (M := M) (ed_v 3 rfl (da_lst_at p4 hnM p5)) fun v H4 g4 hv => q v H4 (p1.trans g4) ?_
    rw [← p6]
    exact hv
end
end S6

/-! W09: walks, on_walks, counts. -/
namespace S6
open PySem PySem.Spec PyProof.Rows L2
section
variable {P : Program} {w : World} {K : Frg} {mg : Str → Option Value} {base : Heap} {aO aS aB : Addr}
def R_wk : List PyData → PyData → Prop := fun ds d => ∃ ls : List Lk, ds = [.tuple (ls.map lkD)] ∧ ls.length ≤ 7 ∧ d = .list ((walksL ls).map wD)
theorem c_walks (G : Glo K mg aO aS aB) (D : Dfn K mg "walks" s_walks) (W : Cl P w K mg base 9 "walks_from" (spR K (R_wf 8))) : Cl P w K mg base 10 "walks" (spR K R_wk) := by
  refine cl_w D (fun _ _ _ _ _ _ us hl => match us, hl with | [_], _ => rfl) sc_walks (spR_len fun ds d h => by obtain ⟨ls, rfl, _⟩ := h; rfl) fun fa cdv A outer s H vs Q E hr h => ?_
  obtain ⟨M, ds, d, lv, ha, ⟨ls, rfl, hl, rfl⟩, q⟩ := h
  obtain ⟨v0, rfl, hv0⟩ := ha.inv1
  have := live_le ls 0
  exact sw_ret (M := M) (ed_cl W hr (Nat.le_refl _) lv (ad_cons (ed_v 0 rfl hv0) (ad_cons (ed_gc rfl G.LEFT fun _ => .int 0) (ad_cons (ed_tup lv (ad_cons (ed_gc rfl G.LEFT fun _ => .int 0) ad_nil) (by show 1 ≤ sizeLine; decide)) ad_nil))) ⟨ls, 0, [0], rfl, hl, by omega, by show 1 + _ ≤ 20; omega, rfl⟩) q
def R_ow : List PyData → PyData → Prop := fun ds d => ∃ ls : List Lk, ds = [.tuple (ls.map lkD)] ∧ ls.length ≤ 7 ∧ d = .list ((onW ls).map lkD)
theorem c_on_walks (G : Glo K mg aO aS aB) (D : Dfn K mg "on_walks" s_on_walks) (W : Cl P w K mg base 10 "walks" (spR K R_wk)) : Cl P w K mg base 11 "on_walks" (spR K R_ow) := by
  refine cl_w D (fun _ _ _ _ _ _ us hl => match us, hl with | [_], _ => rfl) sc_on_walks (spR_len fun ds d h => by obtain ⟨ls, rfl, _⟩ := h; rfl) fun fa cdv A outer s H vs Q E hr h => ?_
  obtain ⟨M, ds, d, lv, ha, ⟨ls, rfl, hl, rfl⟩, q⟩ := h
  obtain ⟨v0, rfl, hv0⟩ := ha.inv1
  have nd := sc_on_walks.nd
  have wl := walksL_len hl
  refine sw_setDc2 (M := M) (d := .bool true) 1 (own := [("walk", 2), ("at", 3)]) (vs1 := [3]) (ls := walksL ls) (enc := wD) (fs := fun x => [wD x]) (ls1 := fun x => x) (enc1 := fun i : Nat => .int (i : Nat)) (fs1 := fun i => [.int (i : Nat)]) (ky := fun _ i => (i : Nat)) (n := 7) rfl nd lv
    (src_list (ed_cl W hr (Nat.le_refl _) lv (ad_cons (ed_v 0 rfl hv0) ad_nil) ⟨ls, rfl, hl, rfl⟩)) (blkOk_by (N := n_on_walks) (sc := defScope s_on_walks) (by decide +kernel)) (by decide) (fun _ _ _ _ _ => pg1 2 nd) tg_name (by decide) (fun _ _ => rfl) (fun _ _ _ _ _ => pg1 3 nd) tg_name (by decide) (fun _ _ _ _ => rfl)
    (fun x hx => Nat.le_trans (walksL_mem hx).1 hl) (by rw [sizeLine_eq]; omega) (fun x hx vs D H s0 h0 C cl fp g lv' hvs => ?_) (fun x hx y hy vs ws D H s0 h0 C cl fp g lv' hvs hws => ?_) (fun τ D H s0 h0 C cl fp => ed_bl) fun p H1 kvs g1 hp hk hks => ?_
  · obtain ⟨u, rfl, hu⟩ := hvs.inv1
    exact src_tup (ed_v 2 rfl hu)
  · obtain ⟨u, rfl, hu⟩ := hvs.inv1
    obtain ⟨t, rfl, ht⟩ := hws.inv1
    exact ed_v 3 rfl ht
  · have hun : (A.deeper (envOfC "on_walks" (defScope s_on_walks) s.heap.objs.size fa cdv)).units + 1 < cLine := by have := hr.un; omega
    refine sw_ret (M := M) (ed_cast (ed_lcIf (own := [("at", 3), ("link", 4)]) (ls := ls.zipIdx) (enc := fun p => .tuple [.int (p.2 : Nat), lkD p.1]) (f := fun p => lkD p.1) (p := fun p => decide (p.2 ∈ (walksL ls).flatten)) (fs := fun p => [.int (p.2 : Nat), lkD p.1]) rfl nd (lv.same g1) (by rw [← enu_map]; exact src_enumT G.enumerate (ed_v 0 rfl (hv0.mono (same_hM g1))))
      (blkOk_by (N := n_on_walks) (sc := defScope s_on_walks) (by decide +kernel)) (fun _ _ _ _ _ => pg2 rfl 3 4 (pg1 3 nd) (pg1 4 nd)) tg_2 (by rw [List.length_zipIdx, sizeLine_eq]; omega) (by decide) (fun _ _ => ⟨rfl, rfl⟩) (fun x hx vs D H' s0 h0 C cl fp g lv' hvs => ?_) (fun x hx hp vs D H' s0 h0 C cl fp g lv' hvs => ?_)) ?_) fun v H' g hv => q v H' (g1.trans g) hv
    · obtain ⟨u, t, rfl, hu, ht⟩ := hvs.inv2
      refine td_cast (td_dinI (M := D :: M) (p := p) (kvs := kvs) (u := (x.2 : Nat)) hun (ed_v 3 rfl hu) (ev_v 1 rfl) ?_) ?_
      · have e : hM M H1 p = some (.dK kvs) := by rw [hM_out (lv.new hp)]; exact hk
        exact hM_sub _ _ (g _ _ e)
      · rw [hks]
        refine decide_eq_decide.mpr ⟨fun h => ?_, fun h => ?_⟩
        · obtain ⟨w, hw, hi⟩ := List.mem_flatMap.mp h
          obtain ⟨i, hi, e⟩ := List.mem_map.mp hi
          exact List.mem_flatten.mpr ⟨w, hw, by rw [← Int.ofNat.inj e]; exact hi⟩
        · obtain ⟨w, hw, hi⟩ := List.mem_flatten.mp h
          exact List.mem_flatMap.mpr ⟨w, hw, List.mem_map.mpr ⟨_, hi, rfl⟩⟩
    · obtain ⟨u, t, rfl, hu, ht⟩ := hvs.inv2
      exact ed_v 4 rfl ht
    · rw [onW, List.map_map]; rfl
/-! ### counts -/
def seqD (ds : List PyData) (d : PyData) : Prop := d = .list ds ∨ d = .tuple ds
theorem src_seq {X : Cx} {tg iter : Expr} {σ : L2.St} {M : List Addr} {H0 : Hp} {ds : List PyData} {e : PyData} (h : ED X σ M H0 iter e) (q : seqD ds e) : Src X tg σ M H0 iter ds := by
  rcases q with rfl | rfl
  · exact src_list h
  · exact src_tup h
theorem ed_ixS {X : Cx} {σ : L2.St} {M : List Addr} {H0 : Hp} {a b : Expr} {pos : Pos} {e d : PyData} {ds : List PyData} {n : Nat} (h : ED X σ M H0 a e) (q : seqD ds e) (hb : ED X σ M H0 b (.int (n : Nat))) (hd : ds[n]? = some d) (hp : PlainIx b := by exact fun _ _ => rfl) : ED X σ M H0 (.Subscript a b pos) d := by
  rcases q with rfl | rfl
  · exact ed_ixL h hb hd hp
  · exact ed_ixT h hb hd hp
def cD (c : List Str) : PyData := .tuple (c.map .str)
def R_co : List PyData → PyData → Prop := fun ds d => ∃ (ls : List Lk) (is : List Nat) (e f : PyData), ds = [e, f] ∧ lksD ls e ∧ seqD (is.map fun i => .int (i : Nat)) f ∧ (∀ i ∈ is, i < ls.length) ∧ is.length ≤ 14 ∧ d = cD (cnt ls is)
theorem c_count_of (G : Glo K mg aO aS aB) (D : Dfn K mg "count_of" s_count_of) : Cl P w K mg base 1 "count_of" (spR K R_co) := by
  refine cl_w D (fun _ _ _ _ _ _ us hl => match us, hl with | [_, _], _ => rfl) sc_count_of (spR_len fun ds d h => by obtain ⟨_, _, _, _, rfl, _⟩ := h; rfl) fun fa cdv A outer s H vs Q E hr h => ?_
  obtain ⟨M, ds, d, lv, ha, ⟨ls, is, e, f, rfl, he, hf, hi, hl, rfl⟩, q⟩ := h
  obtain ⟨v0, v1, rfl, hv0, hv1⟩ := ha.inv2
  have nd := sc_count_of.nd
  refine sw_ret (M := M) (ed_tupL lv G.tuple (ed_sortS (xs := is.map fun i => (ls.getD i ("", 0, 0)).1) lv G.sorted (ed_cast (ed_lc (own := [("at", 2)]) (ls := is) (enc := fun i => .int (i : Nat)) (f := fun i => .str (ls.getD i ("", 0, 0)).1) (fs := fun i => [.int (i : Nat)]) rfl nd lv (src_seq (ed_v 1 rfl hv1) hf)
    (blkOk_by (N := n_count_of) (sc := defScope s_count_of) (by decide +kernel)) (fun _ _ _ _ _ => pg1 2 nd) tg_name (by rw [sizeLine_eq]; omega) (by decide) (fun _ _ => rfl) (fun i hii vs D H' s0 h0 C cl fp g lv' hx => ?_)) (by rw [List.map_map]; rfl)) (by rw [List.length_map]; omega))) q
  obtain ⟨u, rfl, hu⟩ := hx.inv1
  have hlt := hi i hii
  refine ed_strS G.str (ed_ixT (n := 0) (ds := [.str (ls.getD i ("", 0, 0)).1, .int (ls.getD i ("", 0, 0)).2.1, .int (ls.getD i ("", 0, 0)).2.2]) (ed_ixS (n := i) (ed_v 0 rfl (hv0.mono g)) he (ed_v 2 rfl hu) ?_) ed_int rfl)
  rw [List.getElem?_map, List.getElem?_eq_getElem hlt, List.getD_eq_getElem?_getD, List.getElem?_eq_getElem hlt]
  rfl
def R_io : List PyData → PyData → Prop := fun ds d => ∃ cs : List (List Str), ds = [.list (cs.map cD)] ∧ cs.length < 4000 ∧ (∀ c ∈ cs, c.length ≤ 14 ∧ ∀ x ∈ c, x.length ≤ 8) ∧ d = .list ((inOrd cs).map cD)
theorem cntT_len {c : List Str} (h : c.length ≤ 14) (h8 : ∀ x ∈ c, x.length ≤ 8) : (cntT c).length ≤ 200 := by
  have h1 := join_len " " c
  have h2 := sum_le (f := fun x : Str => x.length) (k := 8) h8
  unfold cntT
  rw [catS_len]
  simp only [List.map_cons, List.map_nil, List.sum_cons, List.sum_nil, p2_len, len_sp] at h1 ⊢
  rw [show Str.empty.length = 0 from rfl]
  omega
theorem c_in_order (G : Glo K mg aO aS aB) (D : Dfn K mg "in_order" s_in_order) : Cl P w K mg base 1 "in_order" (spR K R_io) := by
  refine cl_w D (fun _ _ _ _ _ _ us hl => match us, hl with | [_], _ => rfl) sc_in_order (spR_len fun ds d h => by obtain ⟨_, rfl, _⟩ := h; rfl) fun fa cdv A outer s H vs Q E hr h => ?_
  obtain ⟨M, ds, d, lv, ha, ⟨cs, rfl, hl, hc, rfl⟩, q⟩ := h
  obtain ⟨v0, rfl, hv0⟩ := ha.inv1
  have nd := sc_in_order.nd
  refine sw_set (M := M) (d := .list ((setS (cs.map cntT)).map .str)) 1 nd (ed_setS (ns := cs.map cntT) lv rfl G.sorted G.set (ed_cast (ed_lc (own := [("count", 3)]) (ls := cs) (enc := cD) (f := fun c => .str (cntT c)) (fs := fun c => [cD c]) rfl nd lv (src_list (ed_v 0 rfl hv0))
    (blkOk_by (N := n_in_order) (sc := defScope s_in_order) (by decide +kernel)) (fun _ _ _ _ _ => pg1 3 nd) tg_name (by rw [sizeLine_eq]; omega) (by decide) (fun _ _ => rfl) (fun c hcc vs D H' s0 h0 C cl fp g lv' hx => ?_)) (by rw [List.map_map]; rfl)) (by rw [List.length_map]; omega)) fun v1 H1 g1 hv1 => ?_
  · obtain ⟨u, rfl, hu⟩ := hx.inv1
    obtain ⟨c1, c2⟩ := hc c hcc
    have h1 := join_len " " c
    have h2 := sum_le (f := fun x : Str => x.length) (k := 8) c2
    have h3 := cntT_len c1 c2
    rw [len_sp] at h1
    refine ed_cast (ed_js (ys := [p2 c.length, " ", Txt.join " " c]) ⟨ed_fmt02 (k := 0) (ed_cast (ed_lenT G.len (ed_v 3 rfl hu)) (by rw [List.length_map])) (by omega), ed_str, ed_fmtS (ed_joinT (ys := c) ed_str (ed_v 3 rfl hu) (by rw [len_sp]; omega)) (by rw [sizeLine_eq]; omega), trivial⟩ ?_) rfl
    simp only [List.map_cons, List.map_nil, List.sum_cons, List.sum_nil, p2_len, len_sp]
    rw [sizeLine_eq]
    omega
  · refine sw_ret (M := M) (ed_cast (ed_lc (own := [("text", 2)]) (ls := setS (cs.map cntT)) (enc := .str) (f := fun t => cD ((Txt.words t).drop 1)) (fs := fun t => [.str t]) rfl nd (lv.same g1) (src_list (ed_v 1 rfl hv1))
      (blkOk_by (N := n_in_order) (sc := defScope s_in_order) (by decide +kernel)) (fun _ _ _ _ _ => pg1 2 nd) tg_name (by have := setS_len (cs.map cntT); rw [List.length_map] at this; rw [sizeLine_eq]; omega) (by decide) (fun _ _ => rfl) (fun t ht vs D H' s0 h0 C cl fp g lv' hx => ?_)) ?_) fun v H' g hv => q v H' (g1.trans g) hv
    · obtain ⟨u, rfl, hu⟩ := hx.inv1
      obtain ⟨c, hcc, rfl⟩ := List.mem_map.mp (setS_mem ht)
      have := cntT_len (hc c hcc).1 (hc c hcc).2
      refine ed_cast (ed_tupL lv' G.tuple (ed_dropL (i := 1) lv' (ed_words lv' (ed_v 2 rfl hu) (by rw [sizeLine_eq]; omega)) ed_int)) ?_
      rw [cD, List.map_drop]
    · rw [inOrd, List.map_map]; rfl
end
end S6

/-! W10: sides. -/
namespace S6
open PySem PySem.Spec PyProof.Rows L2
section
variable {X : Cx} {σ : L2.St} {M : List Addr} {H0 : Hp} {e a b c : Expr} {d : PyData} {pos : Pos} {ds : List PyData}
theorem td_at {k : Bool} {H : Hp} {Q : Bool → Hp → Prop} (h : TD X σ H c k) (q : ∀ H', Same H H' → Q k H') : TW X c σ H Q := (h H (Same.refl H)).mono fun b H' ⟨g, z⟩ => by subst z; exact q H' g
theorem ed_mask {p : Addr} {ns : List Int} {xs : List V} (h : ED X σ M H0 e (.list (ns.map .int))) (hp : H0 p = some (.lst xs)) (hx : xs ≠ ns.map V.int) : ED X σ (p :: M) H0 e (.list (ns.map .int)) := fun H s => (h H s).mono fun v H' ⟨g, z⟩ => ⟨g, by
  obtain ⟨r, rfl, hr⟩ := z.lstInts
  have hp' := g _ _ (s _ _ hp)
  have ne : r ≠ p := fun e => by
    subst e
    have := hM_sub _ _ hr
    rw [hp'] at this
    exact hx (HO.lst.inj (Option.some.inj this))
  refine .lst ?_ (.ofInts ns)
  by_cases hb : r ∈ M
  · rw [hM_in hb] at hr; cases hr
  · rw [hM_out hb] at hr
    rw [hM_out (fun z => (List.mem_cons.mp z).elim ne hb)]
    exact hr⟩
theorem ev_tup {es : List Expr} {ns : List Int} {x1} (h : AD X σ M H0 es (ns.map .int)) (hz : ns.length ≤ sizeLine) : EV X σ H0 (.Tuple es x1 pos) fun H v => ∃ b, v = .ref b ∧ H b = some (.tup (ns.map V.int)) := fun H s =>
  ew_of (pe_tup pa_w) ((h H s).mono fun vs H1 ⟨g, hd⟩ => ⟨by rw [hd.len, List.length_map]; exact hz, fun p hp => ⟨g.trans (same_new hp), p, rfl, by rw [hd.ints]; exact upd_same⟩⟩)
theorem sw_setE {D : Ends} {H : Hp} {rest : List Stmt} {P : Hp → V → Prop} (i : Nat) {x : Str} {p : Pos} (nd : X.N.Nodup) (h : EV X σ H e P) (q : ∀ v H', Same H H' → P H' v → SW X rest D (σ.set i (some v)) H') (hi : X.N[i]? = some x := by rfl) (hx : Loc X.env.scope x := by first | exact Or.inl rfl | exact Or.inr rfl)
    (hs : swapsWith e (some (.Name x p)) pos.line X.env = pure false := by rfl) (hf : X.fn x = true ∨ X.env.scope.names.lookup x = some .local := by first | exact .inl rfl | exact .inr rfl) : SW X (.Assign [.Name x p] e pos :: rest) D σ H :=
  sw_1 (ps_set (i := i) nd hi hx pe_w hs hf) ((h H (Same.refl H)).mono fun v H' z => q v H' z.1 z.2)
theorem ev_at {b1 : Addr} {o : HO} (i : Nat) {x : Str} (hv : σ[i]? = some (some (.ref b1))) (ho : H0 b1 = some o) (hN : X.N[i]? = some x := by rfl) (hs : Vis X.env.scope x := by first | exact Or.inl rfl | exact Or.inr (Or.inl rfl) | exact Or.inr (Or.inr rfl))
    (hb : (x == ("__debug__" : Str)) = false := by decide) (hb2 : (x == ("__classdict__" : Str)) = false := by decide) : EV X σ H0 (.Name x pos) fun H u => u = .ref b1 ∧ H b1 = some o := fun H s => (ev_v i hv hN hs hb hb2 H s).mono fun v H' ⟨g, z⟩ => ⟨g, z, g _ _ (s _ _ ho)⟩
/-- known = {(..): v} -/
theorem sw_dict1T {D : Ends} {H : Hp} {rest : List Stmt} {ke ve : Expr} {ns : List Int} {x : Str} {p apos : Pos} (i : Nat) (nd : X.N.Nodup) (hu : X.A.units + 1 < cLine) (hk : ∀ H', Same H H' → EV X σ H' ke fun H v => ∃ b, v = .ref b ∧ H b = some (.tup (ns.map V.int))) (hv : ∀ H', ED X σ [] H' ve d)
    (q : ∀ r v H', Same H H' → H r = none → H' r = some (.dT [(ns.map Sum.inl, v)]) → SW X rest D (σ.set i (some (.ref r))) H') (hi : X.N[i]? = some x := by rfl) (hx : Loc X.env.scope x := by first | exact Or.inl rfl | exact Or.inr rfl)
    (hs : swapsWith (.Dict [some ke] [ve] apos) (some (.Name x p)) pos.line X.env = pure false := by rfl) (hf : X.fn x = true ∨ X.env.scope.names.lookup x = some .local := by first | exact .inl rfl | exact .inr rfl) : SW X (.Assign [.Name x p] (.Dict [some ke] [ve] apos) pos :: rest) D σ H := by
  refine sw_1 (ps_set (i := i) nd hi hx (pe_disp1T hu pe_w pe_w) hs hf) fun r hr => ?_
  refine (hk _ (same_new hr) _ (Same.refl _)).mono fun k H1 ⟨g1, b, ek, hb⟩ => ?_
  subst ek
  refine (hv H1 _ (Same.refl _)).mono fun v H2 ⟨g2, z⟩ => ?_
  have e : (ns.map Sum.inl).map kV = ns.map V.int := by rw [List.map_map]; rfl
  have hr2 : H2 r = some (.dT []) := g2 _ _ (g1 _ _ upd_same)
  refine ⟨hr2, b, ns.map Sum.inl, v, rfl, by rw [e]; exact g2 _ _ hb, q r v _ ?_ hr upd_same⟩
  exact same_put hr ((same_new hr).trans (g1.trans g2) |> fun _ => by
    intro c o hc
    have : c ≠ r := fun z => by rw [z, hr] at hc; cases hc
    exact g2 _ _ (g1 _ _ (by rw [upd_ne this]; exact hc)))
/-- known[t] = v -/
theorem sw_dputT {D : Ends} {H : Hp} {rest : List Stmt} {o k : Expr} {p b1 : Addr} {kvs : List (List L2.Key × V)} {ky : List L2.Key} {spos : Pos} (hu : X.A.units + 1 < cLine) (hv : ED X σ M H e d) (ho : EV X σ H o fun _ x => x = .ref p) (hk : EV X σ H k fun H x => x = .ref b1 ∧ H b1 = some (.tup (ky.map kV)))
    (hp : H p = some (.dT kvs)) (hl : kvs.length < sizeLine) (q : ∀ v H', Same H H' → SW X rest D σ (upd H' p (.dT (putK kvs ky v)))) (hs : swapsWith e (some (.Subscript o k pos)) spos.line X.env = pure false := by rfl) : SW X (.Assign [.Subscript o k pos] e spos :: rest) D σ H := by
  refine sw_1 (ps_dput hu pe_w pe_w pe_w hs) ?_
  refine (hv H (Same.refl H)).mono fun v H1 ⟨g1, z⟩ => (ho H1 g1).mono fun x H2 ⟨g2, ex⟩ => (hk H2 (g1.trans g2)).mono fun y H3 ⟨g3, ey, hy⟩ => ?_
  subst ex ey
  exact ⟨p, _, rfl, DPut.t (g3 _ _ (g2 _ _ (g1 _ _ hp))) hy hl, q v H3 (g1.trans (g2.trans g3))⟩
end
section
variable {P : Program} {w : World} {K : Frg} {mg : Str → Option Value} {base : Heap} {aO aS aB : Addr}
def iD (s : List Int) : PyData := .tuple (s.map .int)
def R_nj : List PyData → PyData → Prop := fun ds d => ∃ (ls : List Lk) (s : List Int), ds = [.list (ls.map lkD), iD s] ∧ ls.length ≤ 14 ∧ s.length ≤ 40 ∧ d = .list ((nextJ ls s).map .int)
theorem c_next_joints (G : Glo K mg aO aS aB) (D : Dfn K mg "next_joints" s_next_joints) (Fa : Cl P w K mg base 1 "far_end" (spR K R_far)) : Cl P w K mg base 2 "next_joints" (spR K R_nj) := by
  refine cl_w D (fun _ _ _ _ _ _ us hl => match us, hl with | [_, _], _ => rfl) sc_next_joints (spR_len fun ds d h => by obtain ⟨_, _, rfl, _⟩ := h; rfl) fun fa cdv A outer s H vs Q E hr h => ?_
  obtain ⟨M, ds, d, lv, ha, ⟨ls, sd, rfl, hl, hs, rfl⟩, q⟩ := h
  obtain ⟨v0, v1, rfl, hv0, hv1⟩ := ha.inv2
  have nd := sc_next_joints.nd
  let N : List Int := ls.flatMap fun l => (sd.filter fun j => tch l j).map fun j => farE l j
  have hN : N.length ≤ 600 := by
    have h1 : ∀ k : List Lk, (k.flatMap fun l => (sd.filter fun j => tch l j).map fun j => farE l j).length ≤ k.length * 40 := by
      intro k
      induction k with
      | nil => exact Nat.zero_le _
      | cons x k ih =>
        rw [List.flatMap_cons, List.length_append, List.length_cons, Nat.add_mul, Nat.one_mul, List.length_map]
        have := List.length_filter_le (fun j => tch x j) sd
        omega
    have := h1 ls
    show (ls.flatMap _).length ≤ _
    omega
  refine sw_setLc2 (M := M) 2 (own := [("link", 3), ("joint", 4)]) (vs1 := [4]) (ls := ls) (enc := lkD) (fs := fun l => [lkD l]) (ls1 := fun _ => sd) (enc1 := .int) (fs1 := fun j => [.int j]) (f := fun l j => .int (farE l j)) (pr := fun l j => tch l j) (n := 40) rfl nd lv (src_list (ed_v 0 rfl hv0))
    (blkOk_by (N := n_next_joints) (sc := defScope s_next_joints) (by decide +kernel)) (by decide) (fun _ _ _ _ _ => pg1 3 nd) tg_name (by decide) (fun _ _ => rfl) (fun _ _ _ _ _ => pg1 4 nd) tg_name (by decide) (fun _ _ _ _ => rfl) (fun _ _ => hs) (by rw [sizeLine_eq]; omega)
    (fun s0 h0 C cl fp => pts_one ⟨fun pins s σ H Q I (h : allT _ _ _ σ H Q) => (h s0 h0 C cl fp).run pins s I⟩) (fun l hl vs D H s0 h0 C cl fp g lv' hvs => ?_) (fun l hl j hj vs ws D H Q g lv' hvs hws hq => ?_) (fun l hl j hj hp vs ws D H s0 h0 C cl fp g lv' hvs hws => ?_) fun v2 H2 g2 hv2 => ?_
  · obtain ⟨u, rfl, hu⟩ := hvs.inv1
    exact src_tup (ed_v 1 rfl (hv1.mono g))
  · obtain ⟨u, rfl, hu⟩ := hvs.inv1
    obtain ⟨t, rfl, ht⟩ := hws.inv1
    intro s0 h0 C cl fp
    exact td_at (td_inI (M := D :: M) (ns := [l.2.1, l.2.2]) (i := j) (ed_v 4 rfl ht) (ed_tail lv' (k := .str l.1) (ds := [.int l.2.1, .int l.2.2]) (ed_v 3 rfl hu)) (.inr rfl)) hq
  · obtain ⟨u, rfl, hu⟩ := hvs.inv1
    obtain ⟨t, rfl, ht⟩ := hws.inv1
    exact ed_cl Fa hr (Nat.le_refl _) lv' (ad_cons (ed_v 3 rfl hu) (ad_cons (ed_v 4 rfl ht) ad_nil)) ⟨l, j, rfl, rfl⟩
  · have e2 : (ls.flatMap fun l => (sd.filter fun j => tch l j).map fun j => PyData.int (farE l j)) = N.map .int := by
      show _ = List.map _ (ls.flatMap _)
      rw [List.map_flatMap]
      refine congrArg (fun f => ls.flatMap f) (funext fun l => ?_)
      rw [List.map_map]
      rfl
    rw [e2] at hv2
    refine sw_ret (M := M) (ed_lcIf (own := [("joint", 4)]) (ls := N) (enc := .int) (f := .int) (p := fun j => !decide (j ∈ sd) && !decide (j = 1)) (fs := fun j => [.int j]) rfl nd (lv.same g2) (src_list (ed_v 2 rfl hv2))
      (blkOk_by (N := n_next_joints) (sc := defScope s_next_joints) (by decide +kernel)) (fun _ _ _ _ _ => pg1 4 nd) tg_name (by rw [sizeLine_eq]; omega) (by decide) (fun _ _ => rfl) (fun j hj vs D H' s0 h0 C cl fp g lv' hvs => ?_) (fun j hj hp vs D H' s0 h0 C cl fp g lv' hvs => ?_)) fun v H' g hv => q v H' (g2.trans g) hv
    · obtain ⟨u, rfl, hu⟩ := hvs.inv1
      exact td_and (td_ninI (M := D :: M) (ns := sd) (i := j) (ed_v 4 rfl hu) (ed_v 1 rfl ((hv1.mono (same_hM g2)).mono g)) (.inr rfl)) fun _ => td_cmp (M := D :: M) op_ne (ed_v 4 rfl hu) (ed_gc rfl G.RIGHT fun _ => .int 1) fun _ _ _ _ _ h1 h2 q => rd_neI h1 h2 q
    · obtain ⟨u, rfl, hu⟩ := hvs.inv1
      exact ed_v 4 rfl hu
def R_lv : List PyData → PyData → Prop := fun ds d => ∃ (ls : List Lk) (s : List Int), ds = [.list (ls.map lkD), iD s] ∧ ls.length ≤ 14 ∧ d = .list ((leave ls s).map fun i => .int (i : Nat))
theorem c_leaving (G : Glo K mg aO aS aB) (D : Dfn K mg "leaving" s_leaving) : Cl P w K mg base 1 "leaving" (spR K R_lv) := by
  refine cl_w D (fun _ _ _ _ _ _ us hl => match us, hl with | [_, _], _ => rfl) sc_leaving (spR_len fun ds d h => by obtain ⟨_, _, rfl, _⟩ := h; rfl) fun fa cdv A outer s H vs Q E hr h => ?_
  obtain ⟨M, ds, d, lv, ha, ⟨ls, sd, rfl, hl, rfl⟩, q⟩ := h
  obtain ⟨v0, v1, rfl, hv0, hv1⟩ := ha.inv2
  have nd := sc_leaving.nd
  refine sw_ret (M := M) (ed_cast (ed_lcIf (own := [("at", 2), ("link", 3)]) (ls := ls.zipIdx) (enc := fun p => .tuple [.int (p.2 : Nat), lkD p.1]) (f := fun p => .int (p.2 : Nat)) (p := fun x => !decide (decide (x.1.2.1 ∈ sd) = decide (x.1.2.2 ∈ sd))) (fs := fun p => [.int (p.2 : Nat), lkD p.1]) rfl nd lv (by rw [← enu_map]; exact src_enumL G.enumerate (ed_v 0 rfl hv0))
      (blkOk_by (N := n_leaving) (sc := defScope s_leaving) (by decide +kernel)) (fun _ _ _ _ _ => pg2 rfl 2 3 (pg1 2 nd) (pg1 3 nd)) tg_2 (by rw [List.length_zipIdx, sizeLine_eq]; omega) (by decide) (fun _ _ => ⟨rfl, rfl⟩) (fun x hx vs D H' s0 h0 C cl fp g lv' hvs => ?_) (fun x hx hp vs D H' s0 h0 C cl fp g lv' hvs => ?_)) ?_) q
  · obtain ⟨u, t, rfl, hu, ht⟩ := hvs.inv2
    have h1 := hv1.mono g
    exact td_neB (M := D :: M) (ed_inI (ns := sd) (i := x.1.2.1) (ed_ixT (n := 1) (ed_v 3 rfl ht) ed_int rfl) (ed_v 1 rfl h1) (.inr rfl)) (ed_inI (ns := sd) (i := x.1.2.2) (ed_ixT (n := 2) (ed_v 3 rfl ht) ed_int rfl) (ed_v 1 rfl h1) (.inr rfl))
  · obtain ⟨u, t, rfl, hu, ht⟩ := hvs.inv2
    exact ed_v 2 rfl hu
  · rw [leave, List.map_map]; rfl
def R_ls : List PyData → PyData → Prop := fun ds d => ∃ (ls : List Lk) (s : List Int), ds = [.list (ls.map lkD), iD s] ∧ ls.length ≤ 14 ∧ d = .bool (least ls s)
theorem c_is_least (G : Glo K mg aO aS aB) (D : Dfn K mg "is_least" s_is_least) (Re : Cl P w K mg base 2 "reached" (spR K R_rch)) : Cl P w K mg base 3 "is_least" (spR K R_ls) := by
  refine cl_w D (fun _ _ _ _ _ _ us hl => match us, hl with | [_, _], _ => rfl) sc_is_least (spR_len fun ds d h => by obtain ⟨_, _, rfl, _⟩ := h; rfl) fun fa cdv A outer s H vs Q E hr h => ?_
  obtain ⟨M, ds, d, lv, ha, ⟨ls, sd, rfl, hl, rfl⟩, q⟩ := h
  obtain ⟨v0, v1, rfl, hv0, hv1⟩ := ha.inv2
  have nd := sc_is_least.nd
  let ks := ls.filter fun l => !decide (l.2.1 ∈ sd) && !decide (l.2.2 ∈ sd)
  have hks : ks.length ≤ 14 := Nat.le_trans (List.length_filter_le _ _) hl
  refine sw_set (M := M) (d := .list ((reach ks 1).map .int)) 2 nd (ed_cl Re hr (Nat.le_refl _) lv (ad_cons (ed_lcIf (own := [("link", 3)]) (ls := ls) (enc := lkD) (f := lkD) (p := fun l => !decide (l.2.1 ∈ sd) && !decide (l.2.2 ∈ sd)) (fs := fun l => [lkD l]) rfl nd lv (src_list (ed_v 0 rfl hv0))
      (blkOk_by (N := n_is_least) (sc := defScope s_is_least) (by decide +kernel)) (fun _ _ _ _ _ => pg1 3 nd) tg_name (by rw [sizeLine_eq]; omega) (by decide) (fun _ _ => rfl) (fun l hl vs D H' s0 h0 C cl fp g lv' hvs => ?_) (fun l hl hp vs D H' s0 h0 C cl fp g lv' hvs => ?_)) (ad_cons (ed_gc rfl G.RIGHT fun _ => .int 1) ad_nil)) ⟨ks, _, 1, rfl, .inl rfl, hks, rfl⟩) fun v2 H2 g2 hv2 => ?_
  · obtain ⟨u, rfl, hu⟩ := hvs.inv1
    have h1 := hv1.mono g
    exact td_and (td_ninI (M := D :: M) (ns := sd) (i := l.2.1) (ed_ixT (n := 1) (ed_v 3 rfl hu) ed_int rfl) (ed_v 1 rfl h1) (.inr rfl)) fun _ => td_ninI (M := D :: M) (ns := sd) (i := l.2.2) (ed_ixT (n := 2) (ed_v 3 rfl hu) ed_int rfl) (ed_v 1 rfl h1) (.inr rfl)
  · obtain ⟨u, rfl, hu⟩ := hvs.inv1
    exact ed_v 3 rfl hu
  · have lv2 := lv.same g2
    let B : List Bool := ls.flatMap fun l => [l.2.1, l.2.2].map fun j => decide (j ∈ sd) || decide (j ∈ reach ks 1)
    refine sw_ret (M := M) (ed_cast (ed_all (bs := B) rfl G.all (ed_cast (ed_lc2 (own := [("link", 3), ("joint", 4)]) (vs1 := [4]) (ls := ls) (enc := lkD) (fs := fun l => [lkD l]) (ls1 := fun l => [l.2.1, l.2.2]) (enc1 := .int) (fs1 := fun j => [.int j]) (f := fun l j => .bool (decide (j ∈ sd) || decide (j ∈ reach ks 1))) (pr := fun _ _ => true) (n := 2) rfl nd lv2 (src_list (ed_v 0 rfl (hv0.mono (same_hM g2))))
      (blkOk_by (N := n_is_least) (sc := defScope s_is_least) (by decide +kernel)) (by decide) (fun _ _ _ _ _ => pg1 3 nd) tg_name (by decide) (fun _ _ => rfl) (fun _ _ _ _ _ => pg1 4 nd) tg_name (by decide) (fun _ _ _ _ => rfl) (fun _ _ => Nat.le_refl 2) (by rw [sizeLine_eq]; omega)
      (fun _ _ _ _ _ => pts_nil) (fun l hl vs D H s0 h0 C cl fp g lv' hvs => ?_) (fun l hl j hj vs ws D H Q g lv' hvs hws hq => hq H (Same.refl H)) (fun l hl j hj hp vs ws D H s0 h0 C cl fp g lv' hvs hws => ?_)) ?_)) rfl) fun v H' g hv => q v H' (g2.trans g) hv
    · obtain ⟨u, rfl, hu⟩ := hvs.inv1
      exact src_tup (ed_tail lv' (k := .str l.1) (ds := [.int l.2.1, .int l.2.2]) (ed_v 3 rfl hu))
    · obtain ⟨u, rfl, hu⟩ := hvs.inv1
      obtain ⟨t, rfl, ht⟩ := hws.inv1
      have h1 := (hv1.mono (same_hM g2)).mono g
      have h2 := hv2.mono g
      exact ed_or (k := decide (j ∈ sd)) (ed_inI (ns := sd) (i := j) (ed_v 4 rfl ht) (ed_v 1 rfl h1) (.inr rfl)) (fun z => ed_one (ed_cast (ed_inI (ns := reach ks 1) (i := j) (ed_v 4 rfl ht) (ed_v 2 rfl h2) (.inl rfl)) (by rw [z, Bool.false_or]))) fun z => by rw [z, Bool.true_or]
    · show _ = PyData.list (List.map _ (ls.flatMap _))
      rw [List.map_flatMap]
      rfl
end
end S6

/-! DP: lists that are written to; one list that others change. -/
namespace S6
open PySem PySem.Spec PyProof.Rows L2
section
variable {X : Cx} {σ : L2.St} {M : List Addr} {H H0 : Hp} {e a b c o i : Expr} {d d1 d2 d3 : PyData} {pos spos : Pos} {D : Ends} {rest : List Stmt}
theorem ixN_nat {n j : Nat} (h : j < n) : ixN n (j : Int) = some j := by
  unfold ixN
  simp [h]
/-- x[i] = e, x the list at p -/
theorem sw_lput {p : Addr} {xs : List V} {j : Nat} (he : ED X σ M H e d) (ho : EV X σ H o fun _ x => x = .ref p) (hi : ED X σ M H i (.int (j : Nat))) (hp : H p = some (.lst xs)) (hj : j < xs.length) (q : ∀ v H', Same H H' → Da X.K (hM M H') v d → SW X rest D σ (upd H' p (.lst (xs.set j v))))
    (ha : ∀ v, assign (.Subscript o i pos) X.env v = (do
      let ov ← holding [v] (eval o X.env)
      let iv ← holding [v, ov] (eval i X.env)
      standAt pos
      holding [v, ov, iv] (setItem ov iv v)
      release [v, ov, iv] []) := by intro _; rfl) (hs : swapsWithSole [.Subscript o i pos] e spos.line X.env = pure false := by rfl) (hw : swappedStores [.Subscript o i pos] e X.env = pure none := by rfl)
    (h1 : (assignEach [.Subscript o i pos] X.env).map (·.2) = [assign (.Subscript o i pos) X.env] := by rfl) : SW X (.Assign [.Subscript o i pos] e spos :: rest) D σ H := by
  refine sw_1 (ps_asg pe_w (pg_sub pe_w pe_w set_list ha) hs hw h1) ?_
  refine (he H (Same.refl H)).mono fun v H1 ⟨g1, z⟩ => (ho H1 g1).mono fun x H2 ⟨g2, ex⟩ => (hi H2 (g1.trans g2)).mono fun y H3 ⟨g3, ey⟩ => ?_
  have g := g1.trans (g2.trans g3)
  exact ⟨p, xs, (j : Nat), j, ex, ey.int_inv, g _ _ hp, ixN_nat hj, q v H3 g (z.mono (same_hM (g2.trans g3)))⟩
/-- x, y, z = a, b, c (three local names) -/
theorem sw_par3 {x y z : Str} {px py pz pt pt2 : Pos} {kt k2 : Nat} (i j l : Nat) (hc : X.calm = true) (nd : X.N.Nodup) (hij : i ≠ j) (hil : i ≠ l) (hjl : j ≠ l) (h : AD X σ M H [a, b, c] [d1, d2, d3])
    (q : ∀ v1 v2 v3 H', Same H H' → Da X.K (hM M H') v1 d1 → Da X.K (hM M H') v2 d2 → Da X.K (hM M H') v3 d3 → SW X rest D (((σ.set i (some v1)).set j (some v2)).set l (some v3)) H') (hi : X.N[i]? = some x := by rfl) (hj : X.N[j]? = some y := by rfl) (hl : X.N[l]? = some z := by rfl)
    (hx : X.env.scope.names.lookup x = some .local := by rfl) (hy : X.env.scope.names.lookup y = some .local := by rfl) (hz : X.env.scope.names.lookup z = some .local := by rfl)
    (hw : swappedStores [.Tuple [.Name x px, .Name y py, .Name z pz] kt pt] (.Tuple [a, b, c] k2 pt2) X.env = pure (some [x, y, z]) := by rfl) (hs : swapsWithSole [.Tuple [.Name x px, .Name y py, .Name z pz] kt pt] (.Tuple [a, b, c] k2 pt2) pos.line X.env = pure false := by rfl) :
    SW X (.Assign [.Tuple [.Name x px, .Name y py, .Name z pz] kt pt] (.Tuple [a, b, c] k2 pt2) pos :: rest) D σ H :=
  sw_1 (ps_par3 hc nd hi hj hl hij hil hjl hx hy hz pa_w hw hs) ((h H (Same.refl H)).mono fun vs H' ⟨g, z⟩ => by
    obtain ⟨v1, v2, v3, rfl, a1, a2, a3⟩ := z.inv3
    exact ⟨v1, v2, v3, rfl, q v1 v2 v3 H' g a1 a2 a3⟩)
/-- d[u] = e, d a dict of ints -/
theorem sw_dputK {p : Addr} {kvs : List (L2.Key × V)} {u : Int} {k : Expr} (hu : X.A.units + 1 < cLine) (hv : ED X σ M H e d) (ho : EV X σ H o fun _ x => x = .ref p) (hk : ED X σ M H k (.int u)) (hp : H p = some (.dK kvs)) (hl : kvs.length < sizeLine)
    (q : ∀ v H', Same H H' → Da X.K (hM M H') v d → SW X rest D σ (upd H' p (.dK (putK kvs (Sum.inl u) v)))) (hs : swapsWith e (some (.Subscript o k pos)) spos.line X.env = pure false := by rfl) : SW X (.Assign [.Subscript o k pos] e spos :: rest) D σ H := by
  refine sw_1 (ps_dput hu pe_w pe_w pe_w hs) ?_
  refine (hv H (Same.refl H)).mono fun v H1 ⟨g1, z⟩ => (ho H1 g1).mono fun x H2 ⟨g2, ex⟩ => (hk H2 (g1.trans g2)).mono fun y H3 ⟨g3, ey⟩ => ?_
  subst ex
  have ey := ey.int_inv
  subst ey
  exact ⟨p, _, rfl, DPut.k (k := Sum.inl u) (g3 _ _ (g2 _ _ (g1 _ _ hp))) hl, q v H3 (g1.trans (g2.trans g3)) (z.mono (same_hM (g2.trans g3)))⟩
/-- x = {0: a, 1: b}, ints -/
theorem sw_dict2 {k1 k2 n1 n2 : Int} {j1 j2 : Nat} {q1 q2 : Pos} {x : Str} {p apos : Pos} (i : Nat) (nd : X.N.Nodup) (ha : ED X σ M H a (.int n1)) (hb : ED X σ M H b (.int n2))
    (q : ∀ r H', Same H H' → H r = none → H' r = some (.dK (mergeK [] [(Sum.inl k1, .int n1), (Sum.inl k2, .int n2)])) → SW X rest D (σ.set i (some (.ref r))) H') (hi : X.N[i]? = some x := by rfl) (hx : Loc X.env.scope x := by first | exact Or.inl rfl | exact Or.inr rfl)
    (hs : swapsWith (.Dict [some (.Constant (.int k1) j1 q1), some (.Constant (.int k2) j2 q2)] [a, b] apos) (some (.Name x p)) pos.line X.env = pure false := by rfl) (hf : X.fn x = true ∨ X.env.scope.names.lookup x = some .local := by first | exact .inl rfl | exact .inr rfl) :
    SW X (.Assign [.Name x p] (.Dict [some (.Constant (.int k1) j1 q1), some (.Constant (.int k2) j2 q2)] [a, b] apos) pos :: rest) D σ H := by
  refine sw_1 (ps_set (i := i) nd hi hx (pe_disp (pps_cons pe_int pe_w (pps_cons pe_int pe_w pps_nil)) rfl rfl (by simp) (by show 2 ≤ 15; decide)) hs hf) fun r hr => ?_
  refine (ha _ (same_new hr)).mono fun v1 H1 ⟨g1, z1⟩ => (hb H1 ((same_new hr).trans g1)).mono fun v2 H2 ⟨g2, z2⟩ => ?_
  have hr2 : H2 r = some (.dK []) := g2 _ _ (g1 _ _ upd_same)
  rw [z1.int_inv, z2.int_inv]
  refine ⟨hr2, [(Sum.inl k1, .int n1), (Sum.inl k2, .int n2)], rfl, by show 2 ≤ 15; decide, q r _ (fun y o hy => ?_) hr upd_same⟩
  have n1 : y ≠ r := ne_of_none hy hr
  rw [upd_ne n1]
  exact g2 _ _ (g1 _ _ (by rw [upd_ne n1]; exact hy))
/-! ### one list changes -/
/-- all but the list at p is kept -/
def Kp (p : Addr) (H H' : Hp) : Prop := ∀ b o, b ≠ p → H b = some o → H' b = some o
theorem Kp.refl (p : Addr) (H : Hp) : Kp p H H := fun _ _ _ h => h
theorem Kp.trans {p : Addr} {H H1 H2 : Hp} (h : Kp p H H1) (g : Kp p H1 H2) : Kp p H H2 := fun b o n x => g b o n (h b o n x)
theorem Kp.of {p : Addr} {H H' : Hp} (h : Same H H') : Kp p H H' := fun b o _ x => h b o x
theorem Kp.put {p : Addr} {H H' : Hp} {o : HO} (h : Kp p H H') : Kp p H (upd H' p o) := fun b u n x => by
  rw [upd_ne n]
  exact h b u n x
theorem Kp.hM {p : Addr} {M : List Addr} {H H' : Hp} (h : Kp p H H') (m : p ∈ M) : Same (hM M H) (hM M H') := fun b o x => by
  by_cases hb : b ∈ M
  · rw [hM_in hb] at x; cases x
  · rw [hM_out hb] at x ⊢
    exact h b o (fun e => hb (by rw [e]; exact m)) x
theorem Kp.lv {p : Addr} {M : List Addr} {H H' : Hp} (h : Kp p H H') (l : Lv M H) (n : H' p ≠ none) : Lv M H' := fun b hb => by
  by_cases e : b = p
  · rw [e]; exact n
  · intro z
    cases x : H b with
    | none => exact l b hb x
    | some o => rw [h b o e x] at z; cases z
end
end S6

/-! RB: static methods, own & | ==, len, abs, str of an instance with a dict. -/
namespace S6
open PySem PySem.Spec PyProof.Rows L2
/-- C.m is a staticmethod: its record at p, its def at g -/
structure SMet (K : Frg) (C : Addr) (mc : Value) (m : Str) (p g : Addr) : Prop where
  at_ : PySem.W.findCls K (.ref C) mc m = some (.get (.builtin "staticmethod.__get__") (.ref p) .none (.ref C))
  rc : ∃ rest, PySem.W.recIn K p "staticmethod" = some (.ref g :: rest)
  kp : PySem.W.keepIn K (.ref g) = true
/-- an own special method of the class at C -/
structure Spc (K : Frg) (C : Addr) (m : Str) (g : Addr) : Prop where
  at_ : PySem.W.findIn K (.ref C) m = some (some (.ref g))
  fn : PySem.W.isFn K (.ref g) = true
section
variable {X : Cx} {k j : Nat} {C p g : Addr} {mc : Value} {sp : Sp} {o e : Expr} {es : List Expr} {m : Str} {pos apos : Pos} {ta : TE} {t : TA} {pl : Sem Bool} {CX : CXT} {E : XK}
theorem getmethsm_ok {pins : List (Addr × Obj)} {σ : L2.St} {H : Hp} {s : Shared} {A : Around} {E' : Value → Shared → Prop} {Q : Value × List Value → Shared → Prop} (I : Inv X pins σ H s) (r : ClX.CRead X.K C mc) (c : SMet X.K C mc m p g)
    (h : ∀ s', Inv X pins σ H s' → Q (.ref g, []) s') : wpAny (model X.prog X.w) A (getMethod (.ref C) m pl) Q E' s := by
  obtain ⟨rest, hp⟩ := c.rc
  exact PySem.W.method_cls I.kIn r.ga (PySem.W.cls_bind I.kIn r.rd c.at_ (wpAny_call (PySem.W.sm_get (s := { s with toks := s.toks + 1 }) I.kIn hp (PySem.W.handed_on rfl (h _ (I.tok _))))))
/-- C.m(..), m static -/
def tSMeth (C : Addr) (sp : Sp) (E : XK) (ta : TE) (t : TA) : TE := fun σ H Q => ta σ H fun x H1 => x = .ref C ∧ t σ H1 fun vs H2 => sp vs H2 Q E
theorem pe_smeth (he : PE X o ta) (r : ClX.CRead X.K C mc) (c : SMet X.K C mc m p g) (F : FnR X.prog X.w X.K X.mg X.base CX k g sp) (hr : Room k X.A) (hx : Passes CX X E) (ha : PA X (e :: es) t)
    (hst : starEach (e :: es) X.env = (false, eval e X.env) :: starEach es X.env := by rfl) (hpl : (backTo pos (starEach es X.env)).any (·.1) = false := by rfl)
    (ht : eval (.Call (.Attribute o m apos) (e :: es) [] pos) X.env = (do
      let ov ← eval o X.env
      standAt apos.atName
      let (f, first) ← holding [ov] (getMethod ov m pl)
      callWith pos f first (backTo pos (starEach (e :: es) X.env)) (backToKw pos (keywordEach [] X.env))) := by rfl) :
    PE X (.Call (.Attribute o m apos) (e :: es) [] pos) (tSMeth C sp E ta t) := by
  refine ⟨fun pins s σ H Q I h => ?_⟩
  refine PySem.W.methodCall_KW (pl := pl) (thn (he.run pins s σ H _ I h) fun u s1 ⟨x, H1, I1, rx, ex, q⟩ => ?_) ht
  subst ex
  obtain rfl : u = Value.ref C := rx
  refine getmethsm_ok I1 r c fun s2 I2 => ?_
  refine PySem.W.callWith_K (first := []) (h₀ := X.base) I.ok.mod.kin c.kp (thn (ha.run pos pins s2 σ H1 _ I2 q) fun us s3 ⟨vs, H2, I3, rv, q2⟩ => ⟨I3.kIn, ?_⟩) hst hpl
  exact wpAny_call (run_fnR (us := us) (vs := vs) F hr hx I3 rv q2)
/-- C.m(), m static -/
def tSMeth0 (C : Addr) (sp : Sp) (E : XK) (ta : TE) : TE := fun σ H Q => ta σ H fun x H1 => x = .ref C ∧ sp [] H1 Q E
theorem pe_smeth0 (he : PE X o ta) (r : ClX.CRead X.K C mc) (c : SMet X.K C mc m p g) (F : FnR X.prog X.w X.K X.mg X.base CX k g sp) (hr : Room k X.A) (hx : Passes CX X E)
    (ht : eval (.Call (.Attribute o m apos) [] [] pos) X.env = (do
      let ov ← eval o X.env
      standAt apos.atName
      let (f, first) ← holding [ov] (getMethod ov m pl)
      callWith pos f first (backTo pos (starEach [] X.env)) (backToKw pos (keywordEach [] X.env))) := by rfl) :
    PE X (.Call (.Attribute o m apos) [] [] pos) (tSMeth0 C sp E ta) := by
  refine ⟨fun pins s σ H Q I h => ?_⟩
  refine PySem.W.methodCall_KW (pl := pl) (thn (he.run pins s σ H _ I h) fun u s1 ⟨x, H1, I1, rx, ex, q⟩ => ?_) ht
  subst ex
  obtain rfl : u = Value.ref C := rx
  refine getmethsm_ok I1 r c fun s2 I2 => ?_
  refine PySem.W.callWith_K0 (first := []) I2.kIn c.kp ?_
  exact wpAny_call (run_fnR (us := []) (vs := []) F hr hx I2 .nil q)
/-- an instance with a dict of the class at C -/
def Ins (C : Addr) (H : Hp) (x : V) : Prop := ∃ a dx fs, x = .ref a ∧ H a = some (.ins C dx fs)
theorem Ins.at {pins : List (Addr × Obj)} {σ : L2.St} {H : Hp} {s : Shared} {a dx : Addr} {fs : List (Str × V)} (I : Inv X pins σ H s) (h : H a = some (.ins C dx fs)) : ∃ ox od, PySem.W.InstAt s.heap a ox C (some od) ∧ ox.data = .plain := by
  obtain ⟨mA, J, _⟩ := ins_get I.hok h
  obtain ⟨od, J, _⟩ := J.look
  exact ⟨_, od, J, rfl⟩
/-- x op y by the own special method; y an instance too -/
def rOwnB (C : Addr) (sp : Sp) (E : XK) : R2 := fun x y H Q => Ins C H x ∧ Ins C H y ∧ sp [x, y] H Q E
theorem op_ownB {op : Operator} (hc : PySem.W.selfFirst X.K C = true) (S : Spc X.K C (PySem.dunder op.info.2) g) (F : FnR X.prog X.w X.K X.mg X.base CX k g sp) (hr : Room k X.A) (hx : Passes CX X E) : OpR X (binaryOp op) (rOwnB C sp E) := by
  intro pins s σ H x y v u Q I rx ry h
  obtain ⟨⟨a, dx, fs, rfl, ha⟩, ⟨b, dy, gs, rfl, hb⟩, q⟩ := h
  cases (show v = Value.ref a from rx)
  cases (show u = Value.ref b from ry)
  obtain ⟨ox, od, J, _⟩ := Ins.at I ha
  obtain ⟨ox', od', J', _⟩ := Ins.at I hb
  obtain ⟨m, hF⟩ := I.fr
  refine PySem.W.binop_K hF I.ok.mod.kin J J'.type hc S.at_ S.fn ?_
  refine wpAny_mono (wpAny_call (run_fnR (us := [.ref a, .ref b]) (vs := [.ref a, .ref b]) F hr hx I (.cons rfl (.cons rfl .nil)) q)) (fun w s' z => ?_) fun _ _ x => x
  obtain ⟨z', H', I', rz, qz⟩ := z
  exact SlX.cmpback rz ⟨z', H', I', rz, qz⟩
theorem op_ownEq (S : Spc X.K C "__eq__" g) (F : FnR X.prog X.w X.K X.mg X.base CX k g sp) (hr : Room k X.A) (hx : Passes CX X E) : OpR X (compareOp .Eq) (rOwnB C sp E) := by
  intro pins s σ H x y v u Q I rx ry h
  obtain ⟨⟨a, dx, fs, rfl, ha⟩, ⟨b, dy, gs, rfl, hb⟩, q⟩ := h
  cases (show v = Value.ref a from rx)
  cases (show u = Value.ref b from ry)
  obtain ⟨ox, od, J, _⟩ := Ins.at I ha
  obtain ⟨ox', od', J', _⟩ := Ins.at I hb
  obtain ⟨m, hF⟩ := I.fr
  refine PySem.W.cmp_K (op := .Eq) (tb := .ref C) hr.units0 hF I.ok.mod.kin J J'.type (by simp [PySem.W.notFirst]) S.at_ S.fn ?_
  refine wpAny_mono (wpAny_call (run_fnR (us := [.ref a, .ref b]) (vs := [.ref a, .ref b]) F hr hx I (.cons rfl (.cons rfl .nil)) q)) (fun w s' z => ?_) fun _ _ x => x
  obtain ⟨z', H', I', rz, qz⟩ := z
  exact SlX.cmpback rz ⟨z', H', I', rz, qz⟩
/-- len(x) -/
def rOwnLen (C : Addr) (sp : Sp) (E : XK) : List V → Hp → VK → Prop := fun xs H Q => ∃ x, xs = [x] ∧ Ins C H x ∧ sp [x] H (fun z H' => ∃ n : Nat, z = .int (n : Int) ∧ n < 1000000 ∧ Q z H') E
theorem cr_ownLen (S : Spc X.K C "__len__" g) (F : FnR X.prog X.w X.K X.mg X.base CX k g sp) (hr : Room (k + 1) X.A) (hx : Passes CX X E) : CallR X (.builtin "len") (rOwnLen C sp E) := by
  intro pins s σ H xs us Q I r h
  obtain ⟨x, rfl, ⟨a, dx, fs, rfl, ha⟩, q⟩ := h
  rw [Vals.ref1 r]
  obtain ⟨ox, od, J, _⟩ := Ins.at I ha
  obtain ⟨m, hF⟩ := I.fr
  refine PySem.W.len_K hF I.ok.mod.kin J S.at_ S.fn (wpAny_mono (wpAny_call (SlX.run_at (us := [.ref a]) (ws := [.ref a]) F (Room.in1 hr) I.env0.in1 hx I (.cons rfl .nil) q)) (fun w s' z => ?_) fun _ _ x => x)
  obtain ⟨z', H', I', rz, n, ez, hn, qz⟩ := z
  subst ez
  obtain ⟨t, rfl⟩ := rz
  refine ⟨⟨by omega, ?_⟩, .int n, H', I'.tok _, ⟨_, rfl⟩, qz⟩
  have : (n : Int) < 1000000 := by omega
  omega
/-- abs(x) -/
def rOwnAbs (C : Addr) (sp : Sp) (E : XK) : List V → Hp → VK → Prop := fun xs H Q => ∃ x, xs = [x] ∧ Ins C H x ∧ sp [x] H Q E
theorem cr_ownAbs (S : Spc X.K C "__abs__" g) (F : FnR X.prog X.w X.K X.mg X.base CX k g sp) (hr : Room (k + 1) X.A) (hx : Passes CX X E) : CallR X (.builtin "abs") (rOwnAbs C sp E) := by
  intro pins s σ H xs us Q I r h
  obtain ⟨x, rfl, ⟨a, dx, fs, rfl, ha⟩, q⟩ := h
  rw [Vals.ref1 r]
  obtain ⟨ox, od, J, _⟩ := Ins.at I ha
  refine Calls.call_function_entry kind_abs plain_abs entry_abs (args_abs _) ?_
  unfold Builtin.«abs»
  refine wpAny_bind (m := oneArg "abs" _) (wpAny_pure ?_)
  refine wpAny_bind (m := callSpecial? (.ref a) (Str.ofString "__abs__")) (PySem.W.special_fn I.kIn J S.at_ (beq_iff_eq.mp S.fn) (wpAny_mono (wpAny_call (SlX.run_at (us := [.ref a]) (ws := [.ref a]) F (Room.in1 hr) I.env0.in1 hx I (.cons rfl .nil) q)) (fun w s' z => ?_) fun _ _ x => x))
  exact wpAny_pure ⟨_, rfl, z⟩
/-- str(x) -/
def rOwnStr (C : Addr) (sp : Sp) (E : XK) : List V → Hp → VK → Prop := fun xs H Q => ∃ x, xs = [x] ∧ Ins C H x ∧ sp [x] H (fun z H' => ∃ y, z = .str y ∧ Q z H') E
theorem cr_ownStr (S : Spc X.K C "__str__" g) (F : FnR X.prog X.w X.K X.mg X.base CX k g sp) (hr : Room (k + 2) X.A) (hx : Passes CX X E) : CallR X (.type "str") (rOwnStr C sp E) := by
  intro pins s σ H xs us Q I r h
  obtain ⟨x, rfl, ⟨a, dx, fs, rfl, ha⟩, q⟩ := h
  rw [Vals.ref1 r]
  obtain ⟨ox, od, J, _⟩ := Ins.at I ha
  have hr2 : Room k X.A.in1.in1 := (show Room (k + 1) X.A.in1 from Room.in1 hr).in1
  refine PySem.W.kso_call hr2.units0 I.kIn J S.at_ S.fn (wpAny_mono (wpAny_call (SlX.run_at (us := [.ref a]) (ws := [.ref a]) F hr2 I.env0.in1.in1 hx I (.cons rfl .nil) q)) (fun w s' z => ?_) fun _ _ x => x)
  obtain ⟨z', H', I', rz, y, ez, qz⟩ := z
  subst ez
  obtain ⟨t, rfl⟩ := rz
  exact ⟨.str y, H', I', ⟨_, rfl⟩, qz⟩
end
end S6

/-! W12: the class Web: rules. -/
namespace S6
open PySem PySem.Spec PyProof.Rows L2
/-- a web of a shape, told as data -/
def webD (C : Addr) (S : Shp) : PyData := .dict [(.int (C : Nat), S.dT)]
theorem Da.web_inv {K : Frg} {H : Hp} {v : V} {C : Addr} {S : Shp} (h : Da K H v (webD C S)) : ∃ a dx u, v = .ref a ∧ H a = some (.ins C dx [("shape", u)]) ∧ Da K H u S.dT := by
  unfold webD at h
  generalize he : PyData.dict [(.int (C : Nat), S.dT)] = d at h
  cases h with
  | @web C' a dx u d' ha hd =>
    have e1 := PyData.dict.inj he
    have e2 := (List.cons.inj e1).1
    obtain ⟨e3, e4⟩ := Prod.mk.inj e2
    have e5 := Int.ofNat.inj (PyData.int.inj e3)
    subst e5 e4
    exact ⟨a, dx, u, rfl, ha, hd⟩
  | _ => cases he
/-- a def that stands at an address -/
structure Cm (P : Program) (w : World) (K : Frg) (mg : Str → Option Value) (base : Heap) (k : Nat) (f : Addr) (sp : Sp) : Prop where
  ex : ∃ (fd : FuncData) (ps : List Str), FnOk P w K mg base L2.CX0 k f fd ps sp ∧ Binds K fd ps []
  kp : PySem.W.keepIn K (.ref f) = true
structure Mfn (K : Frg) (x qual : Str) (st : Stmt) (f : Addr) : Prop where
  ex : ∃ fd : FuncData, L2.Fun K x qual st f fd
theorem Cm.r {P : Program} {w : World} {K : Frg} {mg : Str → Option Value} {base : Heap} {k : Nat} {f : Addr} {sp : Sp} (c : Cm P w K mg base k f sp) : FnR P w K mg base L2.CX0 k f sp := by
  obtain ⟨fd, ps, F, b⟩ := c.ex
  exact (F.raw b .nil).imp fun vs H Q E h => by rw [List.append_nil]; exact h
theorem cm_w {P : Program} {w : World} {K : Frg} {mg : Str → Option Value} {base : Heap} {x qual : Str} {st : Stmt} {N ps : List Str} {k : Nat} {sp : Sp} {f : Addr} (D : Mfn K x qual st f) (b : BndOf x qual st ps) (S : FnScope N ps (defScope st)) (len : ∀ vs H Q E, sp vs H Q E → vs.length = ps.length)
    (body : ∀ (cdv : Value) (A : Around) (outer : List Env) (s : Shared) (H : Hp) (vs : List V) (Q : VK) (E : XK), Room k (A.deeper (envOfC qual (defScope st) s.heap.objs.size f cdv)) → sp vs H Q E →
      SW (cxOf L2.CX0 P w K mg base N qual (defScope st) f cdv A outer s H E).nox (defBody st) { nx := fun _ H' => Q .non H', rt := Q } (start N vs) H) : Cm P w K mg base (k + 1) f sp := by
  obtain ⟨fd, F⟩ := D.ex
  exact ⟨⟨fd, ps, F.ok S len fun cdv A outer s H vs Q E hr h => ⟨_, pss_w, body cdv A outer s H vs Q E hr h⟩, F.binds b⟩, F.kp⟩
/-- the class, by what is asked of it -/
structure WebC (K : Frg) (mg : Str → Option Value) (C fI : Addr) (mc : Value) : Prop where
  cls : Cls K C
  na : NoAttr K C "shape"
  mke : Mk K C fI
  gl : mg "Web" = some (.ref C)
  isc : C8.InsC K C
  cr : ClX.CRead K C mc
  sf : PySem.W.selfFirst K C = true
section
variable {X : Cx} {σ : L2.St} {M : List Addr} {H0 : Hp} {e a b o : Expr} {d : PyData} {pos apos p q1 : Pos} {ds : List PyData} {C fI g pp : Addr} {mc : Value} {S T : Shp} {k j : Nat} {R : List PyData → PyData → Prop}
theorem ed_shape (c : WebC X.K X.mg C fI mc) (h : ED X σ M H0 e (webD C S)) (hb : attributeBase e "shape" X.env (eval e X.env) = eval e X.env := by rfl) : ED X σ M H0 (.Attribute e "shape" pos) S.dT := fun H s =>
  ew_of (pe_fld pe_w hb) ((h H s).mono fun v H1 ⟨g, z⟩ => by
    obtain ⟨a, dx, u, rfl, ha, hu⟩ := z.web_inv
    exact ⟨a, C, dx, _, u, rfl, hM_sub _ _ ha, c.cls, c.na, rfl, g, hu⟩)
def sp_init (C : Addr) : Sp := fun vs H Q _ => ∃ x dx v fs, vs = [.ref x, v] ∧ H x = some (.ins C dx fs) ∧ fs.length < 1000 ∧ Q .non (upd H x (.ins C dx (putF "shape" v fs)))
theorem ed_web {x : Str} (c : WebC X.K X.mg C fI mc) (I : Cm X.prog X.w X.K X.mg X.base 1 fI (sp_init C)) (l : Lv M H0) (hr : Room j X.A) (hj : 2 ≤ j) (h : ED X σ M H0 e S.dT) (hx : x = "Web" := by rfl) (hg : Gl X x := by rfl) (hdb : (x == ("__debug__" : Str)) = false := by decide)
    (he : starEach [e] X.env = (false, eval e X.env) :: starEach [] X.env := by rfl) (hpl : (backTo pos (starEach [] X.env)).any (·.1) = false := by rfl) : ED X σ M H0 (.Call (.Name x p) [e] [] pos) (webD C S) := fun H s => by
  obtain ⟨fd, ps, F, b⟩ := I.ex
  subst hx
  refine ew_of (pe_make (CX := L2.CX0) (E := L2.E0) c.mke F (hr.mono hj) hg c.gl b .nil L2.pass0 (pa_cons pe_w pa_nil he) hdb he hpl) ((h H s).mono fun v H1 ⟨g, z⟩ => ?_)
  intro x dx hx hdx hne
  refine ⟨x, dx, v, [], rfl, upd_same, by decide, rfl, ?_, ?_⟩
  · refine g.trans fun y o hy => ?_
    have n1 : y ≠ x := ne_of_none hy hx
    have n2 : y ≠ dx := ne_of_none hy hdx
    rw [upd_ne n1, upd_ne n1, upd_ne n2]
    exact hy
  · have l1 := l.same (s.trans g)
    have hxM := l1.new hx
    refine .web (dx := dx) (v := v) ?_ (z.mono fun y o hy => ?_)
    · rw [hM_out hxM]; exact upd_same
    · have hyM : y ∉ M := fun m => by rw [hM_in m] at hy; cases hy
      rw [hM_out hyM] at hy ⊢
      have n1 : y ≠ x := ne_of_none hy hx
      have n2 : y ≠ dx := ne_of_none hy hdx
      rw [upd_ne n1, upd_ne n1, upd_ne n2]
      exact hy
/-- isinstance(x, Web) -/
theorem ed_isW (c : WebC X.K X.mg C fI mc) (hm : X.mg "isinstance" = none) (h : ED X σ M H0 a (webD C S)) (hg : Gl X "isinstance" := by rfl) (hg2 : Gl X "Web" := by rfl)
    (he : starEach [a, .Name "Web" q1] X.env = (false, eval a X.env) :: starEach [.Name "Web" q1] X.env := by rfl) (he2 : starEach [Expr.Name "Web" q1] X.env = (false, eval (.Name "Web" q1) X.env) :: starEach [] X.env := by rfl) (hpl : (backTo pos (starEach [Expr.Name "Web" q1] X.env)).any (·.1) = false := by rfl) :
    ED X σ M H0 (.Call (.Name "isinstance" p) [a, .Name "Web" q1] [] pos) (.bool true) := fun H s =>
  ew_of (pe_callB (C8.call_isC c.isc) hg hm (by decide +kernel) (pa_cons pe_w (pa_cons (C8.pe_gc (v := .ref C) hg2 ⟨_, c.gl, rfl⟩) pa_nil he2) he) (he := he) (hpl := hpl)) ((h H s).mono fun v H1 ⟨g, z⟩ => by
    obtain ⟨a, dx, u, rfl, ha, hu⟩ := z.web_inv
    exact ⟨a, dx, _, rfl, hM_sub _ _ ha, g, .bl _⟩)
/-- x.f, a property -/
theorem ed_prop {f : Str} (c : WebC X.K X.mg C fI mc) (hp : PropOf X.K C f pp g) (F : Cm X.prog X.w X.K X.mg X.base k g (spR X.K R)) (l : Lv M H0) (hr : Room j X.A) (hj : k + 1 ≤ j) (h : ED X σ M H0 e (webD C S)) (hR : R [webD C S] d)
    (hb : attributeBase e f X.env (eval e X.env) = eval e X.env := by rfl) : ED X σ M H0 (.Attribute e f pos) d := fun H s => by
  obtain ⟨fd, ps, F, b⟩ := F.ex
  refine ew_of (pe_prop (CX := L2.CX0) (E := L2.E0) pe_w c.cls hp F (hr.mono hj) b .nil L2.pass0 hb) ((h H s).mono fun v H1 ⟨g, z⟩ => ?_)
  have z' := z
  obtain ⟨a, dx, u, rfl, ha, hu⟩ := z.web_inv
  exact ⟨a, dx, _, rfl, hM_sub _ _ ha, M, [webD C S], d, l.same (s.trans g), .one z', hR, fun v' H2 g2 z2 => ⟨g.trans g2, z2⟩⟩
/-- x.m() -/
theorem ed_meth0 {m : Str} {pl : Sem Bool} (c : WebC X.K X.mg C fI mc) (hm : Meth X.K C m g) (hne : m ≠ "shape") (F : Cm X.prog X.w X.K X.mg X.base k g (spR X.K R)) (l : Lv M H0) (hr : Room j X.A) (hj : k ≤ j) (h : ED X σ M H0 o (webD C S)) (hR : R [webD C S] d)
    (ht : eval (.Call (.Attribute o m apos) [] [] pos) X.env = (do
      let ov ← eval o X.env
      standAt apos.atName
      let (f, first) ← holding [ov] (getMethod ov m pl)
      callWith pos f first (backTo pos (starEach [] X.env)) (backToKw pos (keywordEach [] X.env))) := by rfl) : ED X σ M H0 (.Call (.Attribute o m apos) [] [] pos) d := fun H s => by
  obtain ⟨fd, ps, F, b⟩ := F.ex
  refine ew_of (pe_meth0 (CX := L2.CX0) (E := L2.E0) pe_w c.cls hm F (hr.mono hj) b .nil L2.pass0 ht) ((h H s).mono fun v H1 ⟨g, z⟩ => ?_)
  have z' := z
  obtain ⟨a, dx, u, rfl, ha, hu⟩ := z.web_inv
  refine ⟨a, dx, _, rfl, hM_sub _ _ ha, ?_, M, [webD C S], d, l.same (s.trans g), .one z', hR, fun v' H2 g2 z2 => ⟨g.trans g2, z2⟩⟩
  show List.lookup m [("shape", u)] = none
  rw [List.lookup_cons, beq_eq_false_iff_ne.mpr hne]
  rfl
/-- Web.m(e), m static -/
theorem ed_smeth {m : Str} {pl : Sem Bool} (c : WebC X.K X.mg C fI mc) (sm : SMet X.K C mc m pp g) (F : Cm X.prog X.w X.K X.mg X.base k g (spR X.K R)) (l : Lv M H0) (hr : Room j X.A) (hj : k ≤ j) (h : ED X σ M H0 e d) {d2 : PyData} (hR : R [d] d2) (hg : Gl X "Web" := by rfl)
    (he : starEach [e] X.env = (false, eval e X.env) :: starEach [] X.env := by rfl) (hpl : (backTo pos (starEach [] X.env)).any (·.1) = false := by rfl)
    (ht : eval (.Call (.Attribute (.Name "Web" p) m apos) [e] [] pos) X.env = (do
      let ov ← eval (.Name "Web" p) X.env
      standAt apos.atName
      let (f, first) ← holding [ov] (getMethod ov m pl)
      callWith pos f first (backTo pos (starEach [e] X.env)) (backToKw pos (keywordEach [] X.env))) := by rfl) : ED X σ M H0 (.Call (.Attribute (.Name "Web" p) m apos) [e] [] pos) d2 := fun H s =>
  ew_of (pe_smeth (CX := L2.CX0) (E := L2.E0) (C8.pe_gc (v := .ref C) hg ⟨_, c.gl, rfl⟩) c.cr sm F.r (hr.mono hj) L2.pass0 (pa_cons pe_w pa_nil he) he hpl ht) ⟨rfl, (h H s).mono fun v H1 ⟨g, z⟩ => ⟨M, [d], d2, l.same (s.trans g), .one z, hR, fun v' H2 g2 z2 => ⟨g.trans g2, z2⟩⟩⟩
theorem ed_smeth0 {m : Str} {pl : Sem Bool} (c : WebC X.K X.mg C fI mc) (sm : SMet X.K C mc m pp g) (F : Cm X.prog X.w X.K X.mg X.base k g (spR X.K R)) (l : Lv M H0) (hr : Room j X.A) (hj : k ≤ j) {d2 : PyData} (hR : R [] d2) (hg : Gl X "Web" := by rfl)
    (ht : eval (.Call (.Attribute (.Name "Web" p) m apos) [] [] pos) X.env = (do
      let ov ← eval (.Name "Web" p) X.env
      standAt apos.atName
      let (f, first) ← holding [ov] (getMethod ov m pl)
      callWith pos f first (backTo pos (starEach [] X.env)) (backToKw pos (keywordEach [] X.env))) := by rfl) : ED X σ M H0 (.Call (.Attribute (.Name "Web" p) m apos) [] [] pos) d2 := fun H s =>
  ew_of (pe_smeth0 (CX := L2.CX0) (E := L2.E0) (C8.pe_gc (v := .ref C) hg ⟨_, c.gl, rfl⟩) c.cr sm F.r (hr.mono hj) L2.pass0 ht) ⟨rfl, M, [], d2, l.same s, .nil, hR, fun v' H2 g2 z2 => ⟨g2, z2⟩⟩
theorem ins_of {H : Hp} {v : V} (h : Da X.K (hM M H) v (webD C S)) : Ins C H v := by
  obtain ⟨a, dx, u, rfl, ha, hu⟩ := h.web_inv
  exact ⟨a, dx, _, rfl, hM_sub _ _ ha⟩
/-- x op y -/
theorem ed_ownB {op : Operator} (c : WebC X.K X.mg C fI mc) (sm : Spc X.K C (PySem.dunder op.info.2) g) (F : Cm X.prog X.w X.K X.mg X.base k g (spR X.K R)) (l : Lv M H0) (hr : Room j X.A) (hj : k ≤ j) (ha : ED X σ M H0 a (webD C S)) (hb : ED X σ M H0 b (webD C T)) (hR : R [webD C S, webD C T] d) : ED X σ M H0 (.BinOp a op b pos) d :=
  ed_op (op_ownB (CX := L2.CX0) (E := L2.E0) c.sf sm F.r (hr.mono hj) L2.pass0) ha hb fun x y H Q s h1 h2 q => ⟨ins_of h1, ins_of h2, M, _, d, l.same s, .two h1 h2, hR, q⟩
theorem ed_ownEq (c : WebC X.K X.mg C fI mc) (sm : Spc X.K C "__eq__" g) (F : Cm X.prog X.w X.K X.mg X.base k g (spR X.K R)) (l : Lv M H0) (hr : Room j X.A) (hj : k ≤ j) (ha : ED X σ M H0 a (webD C S)) (hb : ED X σ M H0 b (webD C T)) (hR : R [webD C S, webD C T] d) (hm : behindInMarks .Eq b = false := by exact nomark _) : ED X σ M H0 (.Compare a [.Eq] [b] pos) d :=
  ed_cmp (op_ownEq (CX := L2.CX0) (E := L2.E0) sm F.r (hr.mono hj) L2.pass0) ha hb (fun x y H Q s h1 h2 q => ⟨ins_of h1, ins_of h2, M, _, d, l.same s, .two h1 h2, hR, q⟩) hm
theorem ed_ownLen {n : Nat} (sm : Spc X.K C "__len__" g) (F : Cm X.prog X.w X.K X.mg X.base k g (spR X.K R)) (l : Lv M H0) (hr : Room j X.A) (hj : k + 1 ≤ j) (hm : X.mg "len" = none) (ha : ED X σ M H0 a (webD C S)) (hR : R [webD C S] (.int n)) (hn : n < 1000000) (hg : Gl X "len" := by rfl) (na : starEach [a] X.env = (false, eval a X.env) :: starEach [] X.env := by rfl) : ED X σ M H0 (.Call (.Name "len" p) [a] [] pos) (.int n) :=
  ed_blt (cr_ownLen (CX := L2.CX0) (E := L2.E0) sm F.r (hr.mono hj) L2.pass0) hm (ad_cons ha ad_nil na) (fun vs H Q s hd q => by
    obtain ⟨v, rfl, h1⟩ := hd.inv1
    exact ⟨v, rfl, ins_of h1, M, _, .int n, l.same s, .one h1, hR, fun z H' g2 z2 => ⟨n, z2.int_inv, hn, q _ _ g2 z2⟩⟩) (hg := hg) (he := na)
theorem ed_ownAbs (sm : Spc X.K C "__abs__" g) (F : Cm X.prog X.w X.K X.mg X.base k g (spR X.K R)) (l : Lv M H0) (hr : Room j X.A) (hj : k + 1 ≤ j) (hm : X.mg "abs" = none) (ha : ED X σ M H0 a (webD C S)) (hR : R [webD C S] d) (hg : Gl X "abs" := by rfl) (na : starEach [a] X.env = (false, eval a X.env) :: starEach [] X.env := by rfl) : ED X σ M H0 (.Call (.Name "abs" p) [a] [] pos) d :=
  ed_blt (cr_ownAbs (CX := L2.CX0) (E := L2.E0) sm F.r (hr.mono hj) L2.pass0) hm (ad_cons ha ad_nil na) (fun vs H Q s hd q => by
    obtain ⟨v, rfl, h1⟩ := hd.inv1
    exact ⟨v, rfl, ins_of h1, M, _, d, l.same s, .one h1, hR, q⟩) (hg := hg) (he := na)
theorem ed_ownStr {x : Str} (sm : Spc X.K C "__str__" g) (F : Cm X.prog X.w X.K X.mg X.base k g (spR X.K R)) (l : Lv M H0) (hr : Room j X.A) (hj : k + 2 ≤ j) (hm : X.mg "str" = none) (ha : ED X σ M H0 a (webD C S)) (hR : R [webD C S] (.str x)) (hg : Gl X "str" := by rfl) (na : starEach [a] X.env = (false, eval a X.env) :: starEach [] X.env := by rfl) : ED X σ M H0 (.Call (.Name "str" p) [a] [] pos) (.str x) :=
  ed_blT (cr_ownStr (CX := L2.CX0) (E := L2.E0) sm F.r (hr.mono hj) L2.pass0) hm (ad_cons ha ad_nil na) (fun vs H Q s hd q => by
    obtain ⟨v, rfl, h1⟩ := hd.inv1
    exact ⟨v, rfl, ins_of h1, M, _, .str x, l.same s, .one h1, hR, fun z H' g2 z2 => ⟨x, z2.str_inv, q _ _ g2 z2⟩⟩) (hg := hg) (he := na)
end
end S6

/-! W13: the class Web: its defs. -/
namespace S6
open PySem PySem.Spec PyProof.Rows L2
theorem sw_expr {X : Cx} {σ : L2.St} {M : List Addr} {H : Hp} {D : Ends} {rest : List Stmt} {e : Expr} {d : PyData} {pos : Pos} (h : ED X σ M H e d) (q : ∀ H', Same H H' → SW X rest D σ H') (hs : swapsWith e none pos.line X.env = pure false := by rfl) : SW X (.Expr e pos :: rest) D σ H :=
  sw_1 (ps_expr pe_w hs) (h.at fun v H' g _ => q H' g)
structure WOk (S : Shp) : Prop where
  nw : NW S
  sz : siz S ≤ 14
  dp : dep S ≤ 5
def netS (S : Shp) : Shp := if isI true S = true then S else mkN (laidS S)
section
variable {P : Program} {w : World} {K : Frg} {mg : Str → Option Value} {base : Heap} {aO aS aB C fI f : Addr} {mc : Value}
theorem c_W_init (c : WebC K mg C fI mc) (D : Mfn K "__init__" "Web.__init__" s_W_init fI) : Cm P w K mg base 1 fI (sp_init C) := by
  refine cm_w D (fun _ _ _ _ _ _ us hl => match us, hl with | [_, _], _ => rfl) sc_W_init (fun vs H Q E h => by obtain ⟨_, _, _, _, rfl, _⟩ := h; rfl) fun cdv A outer s H vs Q E hr h => ?_
  obtain ⟨x, dx, v, fs, rfl, hx, hl, q⟩ := h
  exact sw_1 (ps_fld (pv 0) (pv 1) rfl) ⟨v, rfl, .ref x, rfl, x, C, dx, fs, rfl, hx, c.cls, c.na, hl, sw_nil q⟩
/-- one web -/
def R_w1 (C : Addr) (g : Shp → PyData) : List PyData → PyData → Prop := fun ds d => ∃ S, ds = [webD C S] ∧ WOk S ∧ d = g S
theorem R_w1_len {C : Addr} {g : Shp → PyData} : ∀ vs H Q E, spR K (R_w1 C g) vs H Q E → vs.length = 1 := spR_len fun ds d h => by obtain ⟨_, rfl, _⟩ := h; rfl
def R_sh (C : Addr) : List PyData → PyData → Prop := fun ds d => ∃ (S : Shp) (i : Int), ds = [webD C S, .int i] ∧ d = S.dT
theorem c_shape_of (G : Glo K mg aO aS aB) (c : WebC K mg C fI mc) (D : Dfn K mg "shape_of" s_shape_of) : Cl P w K mg base 1 "shape_of" (spR K (R_sh C)) := by
  refine cl_w D (fun _ _ _ _ _ _ us hl => match us, hl with | [_, _], _ => rfl) sc_shape_of (spR_len fun ds d h => by obtain ⟨_, _, rfl, _⟩ := h; rfl) fun fa cdv A outer s H vs Q E hr h => ?_
  obtain ⟨M, ds, d, lv, ha, ⟨S, i, rfl, rfl⟩, q⟩ := h
  obtain ⟨v0, v1, rfl, hv0, hv1⟩ := ha.inv2
  refine sw_ifT (td_of (M := M) (ed_isW c G.isinstance (ed_v 0 rfl hv0))) fun H1 g1 => ?_
  exact sw_ret (M := M) (ed_shape c (ed_v 0 rfl (hv0.mono (same_hM g1)))) fun v H' g hv => q v H' (g1.trans g) hv
def R_jw (C : Addr) : List PyData → PyData → Prop := fun ds d => ∃ (k : Bool) (Ss : List Shp), ds = [.str (kwd k), .tuple (Ss.map (webD C))] ∧ Ss.length ≤ 4 ∧ (∀ s ∈ Ss, WOk s) ∧ siz (joinS k Ss) ≤ 14 ∧ dep (joinS k Ss) ≤ 5 ∧ d = webD C (joinS k Ss)
theorem c_joined_web (G : Glo K mg aO aS aB) (c : WebC K mg C fI mc) (D : Dfn K mg "joined_web" s_joined_web) (I : Cm P w K mg base 1 fI (sp_init C)) (So : Cl P w K mg base 1 "shape_of" (spR K (R_sh C))) (Js : Cl P w K mg base 1 "joined_shape" (spR K R_js))
    (Pl : Cl P w K mg base 10 "places_in" (spR K R_pl)) (Nf : Cl P w K mg base 1 "need_few" (spR K R_nf)) : Cl P w K mg base 11 "joined_web" (spR K (R_jw C)) := by
  refine cl_w D (fun _ _ _ _ _ _ us hl => match us, hl with | [_, _], _ => rfl) sc_joined_web (spR_len fun ds d h => by obtain ⟨_, _, rfl, _⟩ := h; rfl) fun fa cdv A outer s H vs Q E hr h => ?_
  obtain ⟨M, ds, d, lv, ha, ⟨k, Ss, rfl, hl, hok, hsz, hdp, rfl⟩, q⟩ := h
  obtain ⟨v0, v1, rfl, hv0, hv1⟩ := ha.inv2
  have nd := sc_joined_web.nd
  have hN : NW (joinS k Ss) := NW.join fun s hs => (hok s hs).nw
  refine sw_set (M := M) (d := (joinS k Ss).dT) 2 nd (ed_cl Js hr (by omega) lv (ad_cons (ed_v 0 rfl hv0) (ad_cons (ed_cast (ed_lc (own := [("at", 3), ("part", 4)]) (ls := Ss.zipIdx) (enc := fun p => .tuple [.int (p.2 : Nat), webD C p.1]) (f := fun p => p.1.dT) (fs := fun p => [.int (p.2 : Nat), webD C p.1]) rfl nd lv (by rw [← enu_map]; exact src_enumT G.enumerate (ed_v 1 rfl hv1))
      (blkOk_by (N := n_joined_web) (sc := defScope s_joined_web) (by decide +kernel)) (fun _ _ _ _ _ => pg2 rfl 3 4 (pg1 3 nd) (pg1 4 nd)) tg_2 (by rw [List.length_zipIdx, sizeLine_eq]; omega) (by decide) (fun _ _ => ⟨rfl, rfl⟩) (fun x hx vs D H' s0 h0 C1 cl fp g lv' hvs => ?_)) ?_) ad_nil)) ⟨k, Ss, rfl, by omega, fun s hs => ⟨(hok s hs).nw, (hok s hs).sz, (hok s hs).dp⟩, rfl⟩) fun v2 H2 g2 hv2 => ?_
  · obtain ⟨u, t, rfl, hu, ht⟩ := hvs.inv2
    exact ed_cl So hr (by omega) lv' (ad_cons (ed_v 4 rfl ht) (ad_cons (ed_v 3 rfl hu) ad_nil)) ⟨x.1, _, rfl, rfl⟩
  · have e : Ss = (Ss.zipIdx).map (·.1) := by simp
    conv => rhs; rw [e, List.map_map]
    rfl
  · have lv2 := lv.same g2
    refine sw_expr (M := M) (ed_cl Nf hr (by omega) lv2 (ad_cons (ed_cast (ed_lenL G.len (ed_cl Pl hr (Nat.le_refl _) lv2 (ad_cons (ed_v 2 rfl hv2) ad_nil) ⟨_, rfl, hN, hsz, hdp, rfl⟩)) (by rw [List.length_map])) ad_nil) ⟨_, rfl, by rw [laidS_len]; omega, rfl⟩) fun H3 g3 => ?_
    exact sw_ret (M := M) (ed_web c I (lv2.same g3) hr (by omega) (ed_v 2 rfl (hv2.mono (same_hM g3)))) fun v H' g hv => q v H' (g2.trans (g3.trans g)) hv
def R_lk (C : Addr) : List PyData → PyData → Prop := fun ds d => ∃ x : Str, ds = [.str x] ∧ GN x ∧ d = webD C (.lnk x)
theorem c_W_link (G : Glo K mg aO aS aB) (c : WebC K mg C fI mc) (D : Mfn K "link" "Web.link" s_W_link f) (I : Cm P w K mg base 1 fI (sp_init C)) (Nm : Cl P w K mg base 1 "is_name" (spR K R_in)) : Cm P w K mg base 3 f (spR K (R_lk C)) := by
  refine cm_w D (fun _ _ _ _ _ _ us hl => match us, hl with | [_], _ => rfl) sc_W_link (spR_len fun ds d h => by obtain ⟨_, rfl, _⟩ := h; rfl) fun cdv A outer s H vs Q E hr h => ?_
  obtain ⟨M, ds, d, lv, ha, ⟨x, rfl, hx, rfl⟩, q⟩ := h
  obtain ⟨v0, rfl, hv0⟩ := ha.inv1
  refine sw_ifF (td_not (k := true) (td_of (M := M) (ed_cl Nm hr (by omega) lv (ad_cons (ed_v 0 rfl hv0) ad_nil) ⟨x, rfl, hx, rfl⟩))) fun H1 g1 => ?_
  have lv1 := lv.same g1
  exact sw_ret (M := M) (ed_web (S := .lnk x) c I lv1 hr (by omega) (ed_tup lv1 (ad_cons ed_str (ad_cons (ed_v 0 rfl (hv0.mono (same_hM g1))) ad_nil)) (by show 2 ≤ sizeLine; decide))) fun v H' g hv => q v H' (g1.trans g) hv
def R_nt (C : Addr) : List PyData → PyData → Prop := fun ds d => ∃ (ls : List Lk) (e : PyData), ds = [e] ∧ lksD ls e ∧ ls.length ≤ 14 ∧ (∀ l ∈ ls, GL l) ∧ d = webD C (mkN ls)
theorem c_W_net (G : Glo K mg aO aS aB) (c : WebC K mg C fI mc) (D : Mfn K "net" "Web.net" s_W_net f) (I : Cm P w K mg base 1 fI (sp_init C)) (Nf : Cl P w K mg base 1 "need_few" (spR K R_nf)) (Il : Cl P w K mg base 3 "is_link" (spR K R_il)) (Nt : Cl P w K mg base 2 "net_shape" (spR K R_net)) : Cm P w K mg base 4 f (spR K (R_nt C)) := by
  refine cm_w D (fun _ _ _ _ _ _ us hl => match us, hl with | [_], _ => rfl) sc_W_net (spR_len fun ds d h => by obtain ⟨_, _, rfl, _⟩ := h; rfl) fun cdv A outer s H vs Q E hr h => ?_
  obtain ⟨M, ds, d, lv, ha, ⟨ls, e, rfl, he, hl, hg, rfl⟩, q⟩ := h
  obtain ⟨v0, rfl, hv0⟩ := ha.inv1
  have nd := sc_W_net.nd
  refine sw_ifF (td_not (k := true) (td_of (M := M) (ed_isiLT G.isinstance G.list G.tuple (ed_v 0 rfl hv0) (by rcases he with rfl | rfl; exact .inl rfl; exact .inr rfl)))) fun H1 g1 => ?_
  have lv1 := lv.same g1
  have hv1 := hv0.mono (same_hM (M := M) g1)
  refine sw_expr (M := M) (ed_cl Nf hr (by omega) lv1 (ad_cons (ed_lenLk G.len (ed_v 0 rfl hv1) he) ad_nil) ⟨_, rfl, by omega, rfl⟩) fun H2 g2 => ?_
  have lv2 := lv1.same g2
  have hv2 := hv1.mono (same_hM (M := M) g2)
  refine sw_for (M := M) (ls := ls.zipIdx) (enc := fun p => .tuple [.int (p.2 : Nat), lkD p.1]) (fs := fun p => [.int (p.2 : Nat), lkD p.1]) PassesOwn.never rfl ?_ (pg2 rfl 1 2 (pg1 1 nd) (pg1 2 nd)) tg_2 (fun _ _ => ⟨rfl, rfl⟩) fun H3 g3 => ?_
  · rw [← enu_map]
    rcases he with rfl | rfl
    · exact src_enumL G.enumerate (ed_v 0 rfl hv2)
    · exact src_enumT G.enumerate (ed_v 0 rfl hv2)
  · refine ⟨fun i σ' H' => (∃ o1 o2, σ' = [some v0, o1, o2]) ∧ Same H3 H', ⟨⟨none, none, rfl⟩, Same.refl _⟩, fun i σ' H' p => ⟨same_hM p.2, (lv2.same g3).same p.2⟩, fun i x σ' H' H'' vs hx p gy hvs => ?_, fun σ' H' p => ?_⟩
    · obtain ⟨⟨o1, o2, rfl⟩, p2⟩ := p
      obtain ⟨u, t, rfl, hu, ht⟩ := hvs.inv2
      have hm : x.1 ∈ ls := List.fst_mem_of_mem_zipIdx (List.mem_of_getElem? hx)
      refine sw_ifF (td_not (k := true) (td_of (M := M) (ed_cl Il hr (by omega) (((lv2.same g3).same p2).same gy) (ad_cons (ed_v 2 rfl ht) ad_nil) ⟨x.1, rfl, hg _ hm, rfl⟩))) fun H4 g4 => sw_nil ⟨⟨_, _, rfl⟩, p2.trans (gy.trans g4)⟩
    · obtain ⟨⟨o1, o2, rfl⟩, p2⟩ := p
      have g23 := g3.trans p2
      have lv3 := lv2.same g23
      exact sw_ret (M := M) (ed_web c I lv3 hr (by omega) (ed_cl Nt hr (by omega) lv3 (ad_cons (ed_v 0 rfl (hv2.mono (same_hM g23))) ad_nil) ⟨ls, e, rfl, he, hl, hg, rfl⟩)) fun v H' g hv => q v H' (g1.trans (g2.trans (g23.trans g))) hv
def R_0 (d0 : PyData) : List PyData → PyData → Prop := fun ds d => ds = [] ∧ d = d0
theorem c_W_always (G : Glo K mg aO aS aB) (c : WebC K mg C fI mc) (D : Mfn K "always" "Web.always" s_W_always f) (I : Cm P w K mg base 1 fI (sp_init C)) : Cm P w K mg base 3 f (spR K (R_0 (webD C .opn))) := by
  refine cm_w D (fun _ _ _ _ _ _ us hl => match us, hl with | [], _ => rfl) sc_W_always (spR_len fun ds d h => by obtain ⟨rfl, _⟩ := h; rfl) fun cdv A outer s H vs Q E hr h => ?_
  obtain ⟨M, ds, d, lv, ha, ⟨rfl, rfl⟩, q⟩ := h
  obtain rfl := ha.inv0
  exact sw_ret (M := M) (ed_web (S := .opn) c I lv hr (by omega) (ed_gc rfl G.OPEN G.dO)) q
theorem c_W_never (G : Glo K mg aO aS aB) (c : WebC K mg C fI mc) (D : Mfn K "never" "Web.never" s_W_never f) (I : Cm P w K mg base 1 fI (sp_init C)) : Cm P w K mg base 3 f (spR K (R_0 (webD C .sht))) := by
  refine cm_w D (fun _ _ _ _ _ _ us hl => match us, hl with | [], _ => rfl) sc_W_never (spR_len fun ds d h => by obtain ⟨rfl, _⟩ := h; rfl) fun cdv A outer s H vs Q E hr h => ?_
  obtain ⟨M, ds, d, lv, ha, ⟨rfl, rfl⟩, q⟩ := h
  obtain rfl := ha.inv0
  exact sw_ret (M := M) (ed_web (S := .sht) c I lv hr (by omega) (ed_gc rfl G.SHUT G.dS)) q
theorem c_W_kind (G : Glo K mg aO aS aB) (c : WebC K mg C fI mc) (D : Mfn K "kind" "Web.kind" s_W_kind f) : Cm P w K mg base 1 f (spR K (R_w1 C fun S => .str (knd S))) := by
  refine cm_w D (fun _ _ _ _ _ _ us hl => match us, hl with | [_], _ => rfl) sc_W_kind R_w1_len fun cdv A outer s H vs Q E hr h => ?_
  obtain ⟨M, ds, d, lv, ha, ⟨S, rfl, hS, rfl⟩, q⟩ := h
  obtain ⟨v0, rfl, hv0⟩ := ha.inv1
  obtain ⟨r, hr0, _⟩ := knd_dT S
  exact sw_ret (M := M) (ed_ixT (n := 0) (ed_cast (ed_shape c (ed_v 0 rfl hv0)) hr0) ed_int rfl) q
theorem c_W_links (G : Glo K mg aO aS aB) (c : WebC K mg C fI mc) (D : Mfn K "links" "Web.links" s_W_links f) (L : Cl P w K mg base 9 "laid" (spR K R_laid)) : Cm P w K mg base 10 f (spR K (R_w1 C fun S => .tuple ((laidS S).map lkD))) := by
  refine cm_w D (fun _ _ _ _ _ _ us hl => match us, hl with | [_], _ => rfl) sc_W_links R_w1_len fun cdv A outer s H vs Q E hr h => ?_
  obtain ⟨M, ds, d, lv, ha, ⟨S, rfl, hS, rfl⟩, q⟩ := h
  obtain ⟨v0, rfl, hv0⟩ := ha.inv1
  exact sw_ret (M := M) (ed_cl L hr (Nat.le_refl _) lv (ad_cons (ed_shape c (ed_v 0 rfl hv0)) ad_nil) ⟨S, rfl, hS.nw, hS.sz, hS.dp, rfl⟩) q
theorem c_W_joints (G : Glo K mg aO aS aB) (c : WebC K mg C fI mc) (D : Mfn K "joints" "Web.joints" s_W_joints f) (L : Cl P w K mg base 9 "laid" (spR K R_laid)) (J : Cl P w K mg base 1 "joints_of" (spR K R_jo)) : Cm P w K mg base 10 f (spR K (R_w1 C fun S => .tuple ((jts (laidS S)).map .int))) := by
  refine cm_w D (fun _ _ _ _ _ _ us hl => match us, hl with | [_], _ => rfl) sc_W_joints R_w1_len fun cdv A outer s H vs Q E hr h => ?_
  obtain ⟨M, ds, d, lv, ha, ⟨S, rfl, hS, rfl⟩, q⟩ := h
  obtain ⟨v0, rfl, hv0⟩ := ha.inv1
  exact sw_ret (M := M) (ed_tupL lv G.tuple (ed_cl J hr (by omega) lv (ad_cons (ed_cl L hr (Nat.le_refl _) lv (ad_cons (ed_shape c (ed_v 0 rfl hv0)) ad_nil) ⟨S, rfl, hS.nw, hS.sz, hS.dp, rfl⟩) ad_nil) ⟨laidS S, rfl, by rw [laidS_len]; exact hS.sz, rfl⟩)) q
theorem c_W_names (G : Glo K mg aO aS aB) (c : WebC K mg C fI mc) (D : Mfn K "names" "Web.names" s_W_names f) (Pl : Cl P w K mg base 10 "places_in" (spR K R_pl)) (No : Cl P w K mg base 1 "names_once" (spR K R_no)) : Cm P w K mg base 11 f (spR K (R_w1 C fun S => .tuple ((setS ((laidS S).map (·.1))).map .str))) := by
  refine cm_w D (fun _ _ _ _ _ _ us hl => match us, hl with | [_], _ => rfl) sc_W_names R_w1_len fun cdv A outer s H vs Q E hr h => ?_
  obtain ⟨M, ds, d, lv, ha, ⟨S, rfl, hS, rfl⟩, q⟩ := h
  obtain ⟨v0, rfl, hv0⟩ := ha.inv1
  have := hS.sz
  exact sw_ret (M := M) (ed_cl No hr (by omega) lv (ad_cons (ed_cl Pl hr (Nat.le_refl _) lv (ad_cons (ed_shape c (ed_v 0 rfl hv0)) ad_nil) ⟨S, rfl, hS.nw, hS.sz, hS.dp, rfl⟩) ad_nil) ⟨(laidS S).map (fun l : Lk => l.1), by rw [List.map_map]; rfl, by rw [List.length_map, laidS_len]; omega, rfl⟩) q
theorem c_W_net_of (G : Glo K mg aO aS aB) (c : WebC K mg C fI mc) (D : Mfn K "net_of" "Web.net_of" s_W_net_of f) (I : Cm P w K mg base 1 fI (sp_init C)) (L : Cl P w K mg base 9 "laid" (spR K R_laid)) (Nt : Cl P w K mg base 2 "net_shape" (spR K R_net)) : Cm P w K mg base 10 f (spR K (R_w1 C fun S => webD C (netS S))) := by
  refine cm_w D (fun _ _ _ _ _ _ us hl => match us, hl with | [_], _ => rfl) sc_W_net_of R_w1_len fun cdv A outer s H vs Q E hr h => ?_
  obtain ⟨M, ds, d, lv, ha, ⟨S, rfl, hS, rfl⟩, q⟩ := h
  obtain ⟨v0, rfl, hv0⟩ := ha.inv1
  have hu : (A.deeper (envOfC "Web.net_of" (defScope s_W_net_of) s.heap.objs.size f cdv)).units + 65 < cLine := by have := hr.un; omega
  refine sw_ret (M := M) (ed_if (k := isI true S) (td_cast (td_eqD (M := M) hu (sh_dT hS.nw (by have := hS.dp; omega)) (sh_dT (s := .opn) (by simp [NW]) (by decide)) (ed_shape c (ed_v 0 rfl hv0)) (ed_gc rfl G.OPEN G.dO)) (eq_idlT true S)) (fun z => ?_) fun z => ?_) q
  · dsimp only
    rw [netS, if_pos z]
    exact ed_v 0 rfl hv0
  · dsimp only
    rw [netS, if_neg (by rw [z]; exact Bool.false_ne_true)]
    exact ed_web c I lv hr (by omega) (ed_cl Nt hr (by omega) lv (ad_cons (ed_cl L hr (Nat.le_refl _) lv (ad_cons (ed_shape c (ed_v 0 rfl hv0)) ad_nil) ⟨S, rfl, hS.nw, hS.sz, hS.dp, rfl⟩) ad_nil) ⟨laidS S, _, rfl, .inr rfl, by rw [laidS_len]; exact hS.sz, laidS_GL hS.nw hS.sz, rfl⟩)
theorem c_W_str (G : Glo K mg aO aS aB) (c : WebC K mg C fI mc) (D : Mfn K "__str__" "Web.__str__" s_W_str f) (St : Cl P w K mg base 6 "shape_text" (spR K (R_st 6))) : Cm P w K mg base 7 f (spR K (R_w1 C fun S => .str (txt S))) := by
  refine cm_w D (fun _ _ _ _ _ _ us hl => match us, hl with | [_], _ => rfl) sc_W_str R_w1_len fun cdv A outer s H vs Q E hr h => ?_
  obtain ⟨M, ds, d, lv, ha, ⟨S, rfl, hS, rfl⟩, q⟩ := h
  obtain ⟨v0, rfl, hv0⟩ := ha.inv1
  have := hS.dp
  exact sw_ret (M := M) (ed_strS G.str (ed_cl St hr (Nat.le_refl _) lv (ad_cons (ed_shape c (ed_v 0 rfl hv0)) ad_nil) ⟨S, rfl, hS.nw, hS.sz, hS.dp, by omega, rfl⟩)) q
theorem c_W_len (G : Glo K mg aO aS aB) (c : WebC K mg C fI mc) (D : Mfn K "__len__" "Web.__len__" s_W_len f) (Pl : Cl P w K mg base 10 "places_in" (spR K R_pl)) : Cm P w K mg base 11 f (spR K (R_w1 C fun S => .int (siz S : Nat))) := by
  refine cm_w D (fun _ _ _ _ _ _ us hl => match us, hl with | [_], _ => rfl) sc_W_len R_w1_len fun cdv A outer s H vs Q E hr h => ?_
  obtain ⟨M, ds, d, lv, ha, ⟨S, rfl, hS, rfl⟩, q⟩ := h
  obtain ⟨v0, rfl, hv0⟩ := ha.inv1
  exact sw_ret (M := M) (ed_cast (ed_lenL G.len (ed_cl Pl hr (Nat.le_refl _) lv (ad_cons (ed_shape c (ed_v 0 rfl hv0)) ad_nil) ⟨S, rfl, hS.nw, hS.sz, hS.dp, rfl⟩)) (by rw [List.length_map, laidS_len])) q
theorem c_W_abs (G : Glo K mg aO aS aB) (c : WebC K mg C fI mc) (D : Mfn K "__abs__" "Web.__abs__" s_W_abs f) (Pl : Cl P w K mg base 10 "places_in" (spR K R_pl)) (No : Cl P w K mg base 1 "names_once" (spR K R_no)) : Cm P w K mg base 11 f (spR K (R_w1 C fun S => .int ((setS ((laidS S).map (·.1))).length : Nat))) := by
  refine cm_w D (fun _ _ _ _ _ _ us hl => match us, hl with | [_], _ => rfl) sc_W_abs R_w1_len fun cdv A outer s H vs Q E hr h => ?_
  obtain ⟨M, ds, d, lv, ha, ⟨S, rfl, hS, rfl⟩, q⟩ := h
  obtain ⟨v0, rfl, hv0⟩ := ha.inv1
  have := hS.sz
  exact sw_ret (M := M) (ed_cast (ed_lenT G.len (ed_cl No hr (by omega) lv (ad_cons (ed_cl Pl hr (Nat.le_refl _) lv (ad_cons (ed_shape c (ed_v 0 rfl hv0)) ad_nil) ⟨S, rfl, hS.nw, hS.sz, hS.dp, rfl⟩) ad_nil) ⟨(laidS S).map (fun l : Lk => l.1), by rw [List.map_map]; rfl, by rw [List.length_map, laidS_len]; omega, rfl⟩)) (by rw [List.length_map])) q
/-- two webs -/
def R_w2 (C : Addr) (ok : Shp → Shp → Prop) (g : Shp → Shp → PyData) : List PyData → PyData → Prop := fun ds d => ∃ S T, ds = [webD C S, webD C T] ∧ WOk S ∧ WOk T ∧ ok S T ∧ d = g S T
theorem R_w2_len {C : Addr} {ok : Shp → Shp → Prop} {g : Shp → Shp → PyData} : ∀ vs H Q E, spR K (R_w2 C ok g) vs H Q E → vs.length = 2 := spR_len fun ds d h => by obtain ⟨_, _, rfl, _⟩ := h; rfl
theorem c_W_eq (G : Glo K mg aO aS aB) (c : WebC K mg C fI mc) (D : Mfn K "__eq__" "Web.__eq__" s_W_eq f) : Cm P w K mg base 1 f (spR K (R_w2 C (fun _ _ => True) fun S T => .bool (PyData.eqv S.dT T.dT))) := by
  refine cm_w D (fun _ _ _ _ _ _ us hl => match us, hl with | [_, _], _ => rfl) sc_W_eq R_w2_len fun cdv A outer s H vs Q E hr h => ?_
  obtain ⟨M, ds, d, lv, ha, ⟨S, T, rfl, hS, hT, _, rfl⟩, q⟩ := h
  obtain ⟨v0, v1, rfl, hv0, hv1⟩ := ha.inv2
  have hu : (A.deeper (envOfC "Web.__eq__" (defScope s_W_eq) s.heap.objs.size f cdv)).units + 65 < cLine := by have := hr.un; omega
  exact sw_ret (M := M) (ed_and (k := true) (ed_isW c G.isinstance (ed_v 1 rfl hv1)) (fun _ => ed_one (ed_eqD hu (sh_dT hS.nw (by have := hS.dp; omega)) (sh_dT hT.nw (by have := hT.dp; omega)) (ed_shape c (ed_v 0 rfl hv0)) (ed_shape c (ed_v 1 rfl hv1)))) fun z => nomatch z) q
def jnOk (k : Bool) (S T : Shp) : Prop := siz (joinS k [S, T]) ≤ 14 ∧ dep (joinS k [S, T]) ≤ 5
theorem c_W_and (G : Glo K mg aO aS aB) (c : WebC K mg C fI mc) (D : Mfn K "__and__" "Web.__and__" s_W_and f) (Jw : Cl P w K mg base 11 "joined_web" (spR K (R_jw C))) : Cm P w K mg base 12 f (spR K (R_w2 C (jnOk true) fun S T => webD C (joinS true [S, T]))) := by
  refine cm_w D (fun _ _ _ _ _ _ us hl => match us, hl with | [_, _], _ => rfl) sc_W_and R_w2_len fun cdv A outer s H vs Q E hr h => ?_
  obtain ⟨M, ds, d, lv, ha, ⟨S, T, rfl, hS, hT, hok, rfl⟩, q⟩ := h
  obtain ⟨v0, v1, rfl, hv0, hv1⟩ := ha.inv2
  exact sw_ret (M := M) (ed_cl Jw hr (Nat.le_refl _) lv (ad_cons ed_str (ad_cons (ed_tup lv (ad_cons (ed_v 0 rfl hv0) (ad_cons (ed_v 1 rfl hv1) ad_nil)) (by show 2 ≤ sizeLine; decide)) ad_nil)) ⟨true, [S, T], rfl, by show 2 ≤ 4; decide, fun s hs => by rcases List.mem_cons.mp hs with z | z; rw [z]; exact hS; rw [List.mem_singleton.mp z]; exact hT, hok.1, hok.2, rfl⟩) q
theorem c_W_or (G : Glo K mg aO aS aB) (c : WebC K mg C fI mc) (D : Mfn K "__or__" "Web.__or__" s_W_or f) (Jw : Cl P w K mg base 11 "joined_web" (spR K (R_jw C))) : Cm P w K mg base 12 f (spR K (R_w2 C (jnOk false) fun S T => webD C (joinS false [S, T]))) := by
  refine cm_w D (fun _ _ _ _ _ _ us hl => match us, hl with | [_, _], _ => rfl) sc_W_or R_w2_len fun cdv A outer s H vs Q E hr h => ?_
  obtain ⟨M, ds, d, lv, ha, ⟨S, T, rfl, hS, hT, hok, rfl⟩, q⟩ := h
  obtain ⟨v0, v1, rfl, hv0, hv1⟩ := ha.inv2
  exact sw_ret (M := M) (ed_cl Jw hr (Nat.le_refl _) lv (ad_cons ed_str (ad_cons (ed_tup lv (ad_cons (ed_v 0 rfl hv0) (ad_cons (ed_v 1 rfl hv1) ad_nil)) (by show 2 ≤ sizeLine; decide)) ad_nil)) ⟨false, [S, T], rfl, by show 2 ≤ 4; decide, fun s hs => by rcases List.mem_cons.mp hs with z | z; rw [z]; exact hS; rw [List.mem_singleton.mp z]; exact hT, hok.1, hok.2, rfl⟩) q
end
end S6

/-! W16: the law's plain defs. -/
namespace S6
open PySem PySem.Spec PyProof.Rows L2
mutual
/-- a plan, with its sizes -/
def PV : Shp → Prop
  | .opn => True
  | .sht => True
  | .lnk x => GN x
  | .net ls => ls.length ≤ 14 ∧ ∀ l ∈ ls, GL l
  | .jn _ ps => ps.length ≤ 14 ∧ PVs ps
def PVs : List Shp → Prop
  | [] => True
  | p :: ps => PV p ∧ PVs ps
end
theorem PVs_iff : ∀ {ps : List Shp}, PVs ps ↔ ∀ p ∈ ps, PV p
  | [] => by simp [PVs]
  | p :: ps => by rw [PVs, PVs_iff]; simp
mutual
theorem PV.pw : ∀ {p : Shp}, PV p → PW p
  | .opn, _ => by simp [PW]
  | .sht, _ => by simp [PW]
  | .lnk x, h => by rw [PV] at h; rw [PW]; exact h
  | .net ls, h => by rw [PV] at h; rw [PW]; exact h.2
  | .jn k ps, h => by rw [PV] at h; rw [PW]; exact PVs.pw h.2
theorem PVs.pw : ∀ {ps : List Shp}, PVs ps → PWs ps
  | [], _ => by simp [PWs]
  | p :: ps, h => by rw [PVs] at h; rw [PWs]; exact ⟨PV.pw h.1, PVs.pw h.2⟩
end
def isJn : Shp → Bool
  | .jn _ _ => true
  | _ => false
def isNet : Shp → Bool
  | .net _ => true
  | _ => false
def isLnk : Shp → Bool
  | .lnk _ => true
  | _ => false
def inRB (y : Str) : Bool := decide (y ∈ (["row", "bunch"] : List Str))
theorem knd_in (S : Shp) : decide (knd S ∈ (["row", "bunch"] : List Str)) = isJn S := by
  cases S with
  | jn k ps => show inRB (kwd k) = true; cases k <;> decide +kernel
  | opn => show inRB "open" = false; decide +kernel
  | sht => show inRB "shut" = false; decide +kernel
  | lnk x => show inRB "link" = false; decide +kernel
  | net x => show inRB "net" = false; decide +kernel
theorem knd_net (S : Shp) : decide (knd S = "net") = isNet S := by
  cases S with
  | jn k ps => cases k <;> (show decide (kwd _ = _) = false; decide +kernel)
  | opn => show decide (("open" : Str) = _) = false; decide +kernel
  | sht => show decide (("shut" : Str) = _) = false; decide +kernel
  | lnk x => show decide (("link" : Str) = _) = false; decide +kernel
  | net x => show decide (("net" : Str) = _) = true; decide +kernel
theorem knd_link (S : Shp) : decide (knd S = "link") = isLnk S := by
  cases S with
  | jn k ps => cases k <;> (show decide (kwd _ = _) = false; decide +kernel)
  | opn => show decide (("open" : Str) = _) = false; decide +kernel
  | sht => show decide (("shut" : Str) = _) = false; decide +kernel
  | lnk x => show decide (("link" : Str) = _) = true; decide +kernel
  | net x => show decide (("net" : Str) = _) = false; decide +kernel
section
variable {X : Cx} {σ : L2.St} {M : List Addr} {H0 : Hp} {e a b : Expr} {d : PyData} {pos : Pos} {S : Shp}
theorem ed_neg {i : Int} (h : ED X σ M H0 e (.int i)) : ED X σ M H0 (.UnaryOp .USub e pos) (.int (-i)) := fun H s => ew_of (pe_un un_neg pe_w) ((h H s).mono fun v H' ⟨g, z⟩ => ⟨i, z.int_inv, g, .int _⟩)
/-- plan[0] -/
theorem ed_k0 {pos : Pos} {j : Nat} {p1 : Pos} (h : ED X σ M H0 e S.dL) : ED X σ M H0 (.Subscript e (.Constant (.int 0) j p1) pos) (.str (knd S)) := by
  obtain ⟨r, hr0, _⟩ := knd_dL S
  exact ed_ixT (n := 0) (ed_cast h hr0) ed_int rfl
theorem td_jn {pos p1 p2 p3 p4 : Pos} {j j1 j2 k : Nat} (l : Lv M H0) (h : ED X σ M H0 e S.dL) (na : starEach [Expr.Constant (.str "row") j1 p2, .Constant (.str "bunch") j2 p3] X.env = (false, eval (.Constant (.str "row") j1 p2) X.env) :: starEach [.Constant (.str "bunch") j2 p3] X.env := by rfl) (nb : starEach [Expr.Constant (.str "bunch") j2 p3] X.env = (false, eval (.Constant (.str "bunch") j2 p3) X.env) :: starEach [] X.env := by rfl) :
    TD X σ H0 (.Compare (.Subscript e (.Constant (.int 0) j p1) pos) [.In] [.Tuple [.Constant (.str "row") j1 p2, .Constant (.str "bunch") j2 p3] k p4] pos) (isJn S) :=
  td_cast (td_inS (M := M) (xs := ["row", "bunch"]) (ed_k0 h) (ed_tup l (ad_cons ed_str (ad_cons ed_str ad_nil nb) na) (by show 2 ≤ sizeLine; decide)) (.inr rfl)) (knd_in S)
end
section
variable {P : Program} {w : World} {K : Frg} {mg : Str → Option Value} {base : Heap} {aO aS aB C fI f : Addr} {mc : Value}
theorem sizs_sum : ∀ ps : List Shp, ((ps.map fun p => ((siz p : Nat) : Int)).sum) = ((sizs ps : Nat) : Int)
  | [] => rfl
  | p :: ps => by rw [List.map_cons, List.sum_cons, sizs_sum ps, sizs]; omega
def R_sz (n : Nat) : List PyData → PyData → Prop := fun ds d => ∃ p, ds = [Shp.dL p] ∧ PV p ∧ dep p < n ∧ d = .int (siz p : Nat)
theorem c_size {n : Nat} (G : Glo K mg aO aS aB) (D : Dfn K mg "_law_size" s_law_size) (ih : Cl P w K mg base n "_law_size" (spR K (R_sz n))) : Cl P w K mg base (n + 1) "_law_size" (spR K (R_sz (n + 1))) := by
  refine cl_w D (fun _ _ _ _ _ _ us hl => match us, hl with | [_], _ => rfl) sc_law_size (spR_len fun ds d h => by obtain ⟨_, rfl, _⟩ := h; rfl) fun fa cdv A outer s H vs Q E hr h => ?_
  obtain ⟨M, ds, d, lv, ha, ⟨S, rfl, hP, hd, rfl⟩, q⟩ := h
  obtain ⟨v0, rfl, hv0⟩ := ha.inv1
  have nd := sc_law_size.nd
  refine sw_if (td_cast (td_inS (M := M) (xs := ["row", "bunch"]) (ed_k0 (S := S) (ed_v 0 rfl hv0)) (ed_tup lv (ad_cons ed_str (ad_cons ed_str ad_nil)) (by show 2 ≤ sizeLine; decide)) (.inr rfl)) (knd_in S)) (fun z H1 g1 => ?_) fun z H1 g1 => sw_nil ?_
  · cases S with
    | jn k ps =>
      rw [PV] at hP
      rw [dep] at hd
      have lv1 := lv.same g1
      refine sw_ret (M := M) (ed_cast (ed_sum (ns := ps.map fun p => ((siz p : Nat) : Int)) rfl G.sum (ed_cast (ed_lc (own := [("_law_part", 1)]) (ls := ps) (enc := Shp.dL) (f := fun p => .int (siz p : Nat)) (fs := fun x => [x.dL]) rfl nd lv1 (src_list (ed_cast (ed_ixT (n := 1) (ed_v 0 rfl (hv0.mono (same_hM g1))) ed_int rfl) (by rw [dLs_map])))
        (blkOk_by (N := n_law_size) (sc := defScope s_law_size) (by decide +kernel)) (fun _ _ _ _ _ => pg1 1 nd) tg_name (by rw [sizeLine_eq]; omega) (by decide) (fun _ _ => rfl) (fun x hx vs D H' s0 h0 C1 cl fp g lv' hvs => ?_)) (by rw [List.map_map]; rfl))) ?_) fun v H' g hv => q v H' (g1.trans g) hv
      · obtain ⟨u, rfl, hu⟩ := hvs.inv1
        have := dep_mem hx
        exact ed_cl ih hr (Nat.le_refl _) lv' (ad_cons (ed_v 1 rfl hu) ad_nil) ⟨x, rfl, PVs_iff.mp hP.2 x hx, by omega, rfl⟩
      · rw [sizs_sum]; rfl
    | _ => cases z
  · have hv1 := hv0.mono (same_hM (M := M) g1)
    refine sw_ret (M := M) (ed_if (k := isNet S) (td_cast (td_eqS (M := M) (ed_k0 (S := S) (ed_v 0 rfl hv1)) ed_str) (knd_net S)) (fun y => ?_) fun y => ?_) fun v H' g hv => q v H' (g1.trans g) hv
    · cases S with
      | net ls => exact ed_cast (ed_lenL G.len (ed_ixT (n := 1) (ed_v 0 rfl hv1) ed_int rfl)) (by rw [List.length_map]; rfl)
      | _ => cases y
    · refine ed_cast (ed_intB G.int (ed_cast (ed_eqS (ed_k0 (S := S) (ed_v 0 rfl hv1)) ed_str) (by rw [knd_link]))) ?_
      cases S with
      | net ls => cases y
      | jn k ps => cases z
      | _ => rfl
/-! ### rows -/
theorem tail2 : ∀ n : Nat, n < 100 → Txt.slice (("0" : Str) ++ ((toString (n : Int) : String) : Str)) (some (-2)) none = p2 n := by decide +kernel
theorem low_hi (l : Lk) : (if l.2.1 ≤ l.2.2 then l.2.1 else l.2.2) = (nrm l).2.1 ∧ (if l.2.1 ≤ l.2.2 then l.2.2 else l.2.1) = (nrm l).2.2 ∧ (nrm l).1 = l.1 := by
  unfold nrm
  by_cases h : l.2.1 ≤ l.2.2
  · rw [if_pos h, if_pos h, if_pos h]; exact ⟨rfl, rfl, rfl⟩
  · rw [if_neg h, if_neg h, if_neg h]; exact ⟨rfl, rfl, rfl⟩
def R_ir : List PyData → PyData → Prop := fun ds d => ∃ ls : List Lk, ds = [.list (ls.map lkD)] ∧ ls.length ≤ 14 ∧ (∀ l ∈ ls, GL l) ∧ d = .list ((ordL ls).map lkD)
theorem c_in_rows (G : Glo K mg aO aS aB) (D : Dfn K mg "_law_in_rows" s_law_in_rows) : Cl P w K mg base 1 "_law_in_rows" (spR K R_ir) := by
  refine cl_w D (fun _ _ _ _ _ _ us hl => match us, hl with | [_], _ => rfl) sc_law_in_rows (spR_len fun ds d h => by obtain ⟨_, rfl, _⟩ := h; rfl) fun fa cdv A outer s H vs Q E hr h => ?_
  obtain ⟨M, ds, d, lv, ha, ⟨ls, rfl, hl, hg, rfl⟩, q⟩ := h
  obtain ⟨v0, rfl, hv0⟩ := ha.inv1
  have nd := sc_law_in_rows.nd
  refine sw_new 1 nd fun a hna => ?_
  have lva : Lv (a :: M) (upd H a (.lst [])) := lv.upd.cons upd_same
  have gma : Same (hM M H) (hM (a :: M) (upd H a (.lst []))) := same_skip (same_new hna) hna
  have hnM : a ∉ M := lv.new hna
  refine sw_for (M := a :: M) (ls := ls) (enc := lkD) (fs := fun l => [.str l.1, .int l.2.1, .int l.2.2]) PassesOwn.never rfl (src_list (ed_v 0 rfl (hv0.mono gma))) (pg3 rfl 2 3 4 (pg1 2 nd) (pg1 3 nd) (pg1 4 nd)) tg_3 (fun _ _ => ⟨rfl, rfl⟩) fun H2 g2 => ?_
  refine ⟨fun i σ' H' => (∃ o2 o3 o4 o5 o6, σ' = [some v0, some (.ref a), o2, o3, o4, o5, o6, none, none]) ∧ Same H H' ∧ Lv (a :: M) H' ∧ Same (hM (a :: M) H2) (hM (a :: M) H') ∧ H' a = some (.lst (((ls.take i).map fun l => fmtL (nrm l)).map V.str)),
    ⟨⟨none, none, none, none, none, rfl⟩, (same_put hna (Same.refl H)).trans g2, lva.same g2, Same.refl _, g2 _ _ upd_same⟩, fun i σ' H' p => ⟨p.2.2.2.1, p.2.2.1⟩, fun i l σ' H' H'' vs hx p gy hvs => ?_, fun σ' H' p => ?_⟩
  · obtain ⟨⟨o2, o3, o4, o5, o6, rfl⟩, p1, p2, p3, p4⟩ := p
    obtain ⟨u2, u3, u4, rfl, h2, h3, h4⟩ := hvs.inv3
    have gl := hg l (List.mem_of_getElem? hx)
    have gn := gl.nrm
    have u0 := gn.u0
    have u1 := gn.u1
    have w0 := gn.v0
    have w1 := gn.v1
    have n8 := gn.nm.hi
    obtain ⟨e1, e2, e3⟩ := low_hi l
    have lv3 := p2.same gy
    refine sw_two (M := a :: M) (d := .int (nrm l).2.1) (d2 := .int (nrm l).2.2) 5 6 rfl (pg1 5 nd) (pg1 6 nd) (ed_if (td_le (M := a :: M) (ed_v 3 rfl h3) (ed_v 4 rfl h4)) (fun z => ?_) fun z => ?_) fun v5 v6 H3 g3 h5 h6 => ?_
    · have z := of_decide_eq_true z
      rw [if_pos z] at e1 e2
      rw [← e1, ← e2]
      exact ed_tup lv3 (ad_cons (ed_v 3 rfl h3) (ad_cons (ed_v 4 rfl h4) ad_nil)) (by show 2 ≤ sizeLine; decide)
    · have z := of_decide_eq_false z
      rw [if_neg z] at e1 e2
      rw [← e1, ← e2]
      exact ed_tup lv3 (ad_cons (ed_v 4 rfl h4) (ad_cons (ed_v 3 rfl h3) ad_nil)) (by show 2 ≤ sizeLine; decide)
    · have lv4 := lv3.same g3
      have sm : ∀ i : Int, 0 ≤ i → i ≤ 99 → i.natAbs.log2 < 1920 := fun i h0 h1 => Nat.lt_of_le_of_lt (Nat.log2_le_self _) (by omega)
      have t1 := two_len u0 u1
      have t2 := two_len w0 w1
      have z0 : ("0" : Str).length = 1 := by decide +kernel
      have eu : ((nrm l).2.1.toNat : Int) = (nrm l).2.1 := Int.toNat_of_nonneg u0
      have ev : ((nrm l).2.2.toNat : Int) = (nrm l).2.2 := Int.toNat_of_nonneg w0
      have s1 := tail2 (nrm l).2.1.toNat (by omega)
      have s2 := tail2 (nrm l).2.2.toNat (by omega)
      rw [eu] at s1
      rw [ev] at s2
      refine sw_append (M := a :: M) (d := .str (fmtL (nrm l))) 1 mOk_by rfl ((gy.trans g3) _ _ p4) List.mem_cons_self (by rw [List.length_map, List.length_map, List.length_take, sizeLine_eq]; omega)
        (ed_cast (ed_addS (ed_addS (ed_addS (ed_addS (ed_cast (ed_v 2 rfl (h2.mono (same_hM g3))) (by rw [← e3])) ed_str ?_)
          (ed_slS (ed_addS ed_str (ed_strI G.str (ed_v 5 rfl h5) (sm _ u0 u1)) ?_) (od_some (M := a :: M) ?_) od_none ?_ s1) ?_) ed_str ?_)
          (ed_slS (ed_addS ed_str (ed_strI G.str (ed_v 6 rfl h6) (sm _ w0 w1)) ?_) (od_some (M := a :: M) ?_) od_none ?_ s2) ?_) ?_) fun v H5 g5 hv => sw_nil ?_
      any_goals (simp only [len_app, p2_len, len_sp, z0, sizeLine_eq]; omega)
      · exact ed_neg ed_int
      · exact ed_neg ed_int
      · rw [fmtL]
      · refine ⟨⟨_, _, _, _, _, rfl⟩, same_put hna (p1.trans (gy.trans (g3.trans g5))), (lv4.same g5).upd, ?_, ?_⟩
        · rw [hM_upd List.mem_cons_self]
          exact p3.trans (same_hM (gy.trans (g3.trans g5)))
        · rw [hv.str_inv, take_step hx, List.map_append, List.map_append]
          exact upd_same
  · obtain ⟨⟨o2, o3, o4, o5, o6, rfl⟩, p1, k2, p3, p4⟩ := p
    rw [List.take_length] at p4
    have lv' := k2.tail
    have hT : Da K (hM M H') (.ref a) (.list ((ls.map fun l => fmtL (nrm l)).map .str)) := da_lst_at p4 hnM (.ofStrs _)
    refine sw_setLc (M := M) 7 (own := [("_law_line", 8)]) (ls := ordL ls) (enc := fun l => .str (fmtL l)) (f := fun l => .list [.str l.1, .str (p2 l.2.1.toNat), .str (p2 l.2.2.toNat)]) (fs := fun l => [.str (fmtL l)]) rfl nd lv' ?_ (blkOk_by (N := n_law_in_rows) (sc := defScope s_law_in_rows) (by decide +kernel))
      (fun _ _ _ _ _ => pg1 8 nd) tg_name (by rw [ordL_len]; exact Nat.le_trans hl (by decide)) (by decide) (fun l _ => rfl) (fun l hl vs D H' s0 h0 C cl fp g lv' hx => ?_) fun v2 H2 g2 hv2 => ?_
    · refine src_list (ed_cast (ed_sortS (xs := ls.map fun l => fmtL (nrm l)) lv' G.sorted (ed_cast (ed_lc (own := [("_law_line", 8)]) (ls := ls.map fun l => fmtL (nrm l)) (enc := .str) (f := .str) (fs := fun x => [.str x]) rfl nd lv' (src_list (ed_v 1 rfl hT))
        (blkOk_by (N := n_law_in_rows) (sc := defScope s_law_in_rows) (by decide +kernel)) (fun _ _ _ _ _ => pg1 8 nd) tg_name (by rw [List.length_map]; exact Nat.le_trans hl (by decide)) (by decide) (fun _ _ => rfl) (fun x hx vs D H' s0 h0 C cl fp g lv' hvs => ?_)) rfl) (by rw [List.length_map]; omega)) ?_)
      · obtain ⟨u, rfl, hu⟩ := hvs.inv1
        exact ed_strS G.str (ed_v 8 rfl hu)
      · have e := ordL_texts ls
        rw [List.map_map] at e
        show PyData.list ((srtS (ls.map (fmtL ∘ nrm))).map .str) = _
        rw [e, List.map_map]
        rfl
    · obtain ⟨x, rfl, hx0⟩ := hx.inv1
      have gl := GL.ord hg l hl
      have n8 := gl.nm.hi
      have e1 := fmtL_len l
      refine ed_cast (ed_split lv' (ed_v 8 rfl hx0) ed_str (by decide +kernel) (by rw [sizeLine_eq]; omega)) ?_
      rw [fmtL_split gl]
      rfl
    · refine sw_ret (M := M) (ed_lc (own := [("_law_line", 8)]) (ls := ordL ls) (enc := fun l => .list [.str l.1, .str (p2 l.2.1.toNat), .str (p2 l.2.2.toNat)]) (f := lkD) (fs := fun l => [.list [.str l.1, .str (p2 l.2.1.toNat), .str (p2 l.2.2.toNat)]]) rfl nd (lv'.same g2) (src_list (ed_v 7 rfl hv2))
        (blkOk_by (N := n_law_in_rows) (sc := defScope s_law_in_rows) (by decide +kernel)) (fun _ _ _ _ _ => pg1 8 nd) tg_name (by rw [ordL_len]; exact Nat.le_trans hl (by decide)) (by decide) (fun l _ => rfl) (fun l hl vs D H' s0 h0 C cl fp g lv' hx => ?_)) fun v H' g hv => q v H' (p1.trans (g2.trans g)) hv
      obtain ⟨x, rfl, hx0⟩ := hx.inv1
      have gl := GL.ord hg l hl
      have u0 := gl.u0
      have u1 := gl.u1
      have v0 := gl.v0
      have w1 := gl.v1
      exact ed_tup lv' (ad_cons (ed_ixL (n := 0) (ed_v 8 rfl hx0) ed_int rfl) (ad_cons (ed_cast (ed_intS G.int (ed_ixL (n := 1) (ed_v 8 rfl hx0) ed_int rfl) (p2_num l.2.1.toNat (by omega)) (by rw [p2_len]; omega)) (by rw [Int.toNat_of_nonneg u0]))
        (ad_cons (ed_cast (ed_intS G.int (ed_ixL (n := 2) (ed_v 8 rfl hx0) ed_int rfl) (p2_num l.2.2.toNat (by omega)) (by rw [p2_len]; omega)) (by rw [Int.toNat_of_nonneg v0])) ad_nil))) (by show 3 ≤ sizeLine; decide)
def R_nn : List PyData → PyData → Prop := fun ds d => ∃ ls : List Lk, ds = [.list (ls.map lkD)] ∧ ls.length ≤ 14 ∧ (∀ l ∈ ls, GL l) ∧ d = (mkN ls).dL
theorem eqv_nil0 (ds : List PyData) : PyData.eqv (.list ds) (.list []) = decide (ds = []) := by
  cases ds with
  | nil => decide +kernel
  | cons d ds => rw [decide_eq_false (fun z => nomatch z)]; rfl
theorem sh_lks {ls : List Lk} (h : ∀ l ∈ ls, GL l) : SeqAt.shaped (.list (ls.map lkD)) = true := shaped_of (by rw [PyData.canLay0]; exact (lks_ok h).1) (by rw [PyData.depth]; have := (lks_ok h).2; omega)
theorem c_netted (G : Glo K mg aO aS aB) (D : Dfn K mg "_law_netted" s_law_netted) (Ir : Cl P w K mg base 1 "_law_in_rows" (spR K R_ir)) : Cl P w K mg base 2 "_law_netted" (spR K R_nn) := by
  refine cl_w D (fun _ _ _ _ _ _ us hl => match us, hl with | [_], _ => rfl) sc_law_netted (spR_len fun ds d h => by obtain ⟨_, rfl, _⟩ := h; rfl) fun fa cdv A outer s H vs Q E hr h => ?_
  obtain ⟨M, ds, d, lv, ha, ⟨ls, rfl, hl, hg, rfl⟩, q⟩ := h
  obtain ⟨v0, rfl, hv0⟩ := ha.inv1
  have hun : (A.deeper (envOfC "_law_netted" (defScope s_law_netted) s.heap.objs.size fa cdv)).units + 65 < cLine := by have := hr.un; omega
  refine sw_ret (M := M) (ed_if (k := !decide (ls = [])) (td_cast (td_neD (M := M) hun (sh_lks hg) (by decide +kernel) (ed_v 0 rfl hv0) (ed_lst lv ad_nil (Nat.zero_le _))) (by rw [eqv_nil0]; cases ls <;> rfl)) (fun z => ?_) fun z => ?_) q
  · have hn : ¬ ls = [] := by simpa using z
    refine ed_cast (ed_tup lv (ad_cons ed_str (ad_cons (ed_cl Ir hr (Nat.le_refl _) lv (ad_cons (ed_v 0 rfl hv0) ad_nil) ⟨ls, rfl, hl, hg, rfl⟩) ad_nil)) (by show 2 ≤ sizeLine; decide)) ?_
    rw [mkN, if_neg hn]
    rfl
  · have hn : ls = [] := by simpa using z
    refine ed_cast (ed_tup lv (ad_cons ed_str ad_nil) (by show 1 ≤ sizeLine; decide)) ?_
    rw [mkN, if_pos hn]
    rfl
end
end S6

/-! W22: the pen, a draw. -/
namespace S6
open PySem PySem.Spec PyProof.Rows L2
section
variable {X : Cx} {σ : L2.St} {M : List Addr} {H0 : Hp} {e a b c o : Expr} {d : PyData} {pos p : Pos} {i j : Int}
theorem ed_mul (hc : CMul i j) (ha : ED X σ M H0 a (.int i)) (hb : ED X σ M H0 b (.int j)) : ED X σ M H0 (.BinOp a .Mult b pos) (.int (i * j)) := ed_op op_mul ha hb fun x y _ _ _ h1 h2 q => ⟨i, j, h1.int_inv, h2.int_inv, hc, q _ _ (Same.refl _) (.int _)⟩
theorem ed_mod (hc : 0 < j) (ha : ED X σ M H0 a (.int i)) (hb : ED X σ M H0 b (.int j)) : ED X σ M H0 (.BinOp a .Mod b pos) (.int (i % j)) := ed_op op_mod ha hb fun x y _ _ _ h1 h2 q => ⟨i, j, h1.int_inv, h2.int_inv, hc, q _ _ (Same.refl _) (.int _)⟩
theorem ed_fdiv (hc : 0 < j) (hd : j < 1073741824) (ha : ED X σ M H0 a (.int i)) (hb : ED X σ M H0 b (.int j)) : ED X σ M H0 (.BinOp a .FloorDiv b pos) (.int (i / j)) := ed_op op_fdiv ha hb fun x y _ _ _ h1 h2 q => ⟨i, j, h1.int_inv, h2.int_inv, ⟨hc, hd⟩, q _ _ (Same.refl _) (.int _)⟩
theorem ed_pow (hc : CPow i j) (ha : ED X σ M H0 a (.int i)) (hb : ED X σ M H0 b (.int j)) : ED X σ M H0 (.BinOp a .Pow b pos) (.int (i ^ j.toNat)) := ed_op op_pow ha hb fun x y _ _ _ h1 h2 q => ⟨i, j, h1.int_inv, h2.int_inv, hc, q _ _ (Same.refl _) (.int _)⟩
theorem td_ge (ha : ED X σ M H0 a (.int i)) (hb : ED X σ M H0 b (.int j)) (hm : behindInMarks .GtE b = false := by exact nomark _) : TD X σ H0 (.Compare a [.GtE] [b] pos) (decide (j ≤ i)) := td_cmp op_ge ha hb (fun _ _ _ _ _ h1 h2 q => rd_I0 h1 h2 (.bl _) q) hm
theorem ed_absI (hm : X.mg "abs" = none) (h : ED X σ M H0 a (.int i)) (hg : Gl X "abs" := by rfl) (na : starEach [a] X.env = (false, eval a X.env) :: starEach [] X.env := by rfl) : ED X σ M H0 (.Call (.Name "abs" p) [a] [] pos) (.int (if i < 0 then -i else i)) :=
  ed_blt call_abs hm (ad_cons h ad_nil na) (fun vs H Q s hd q => by
    obtain ⟨v, rfl, h1⟩ := hd.inv1
    rw [h1.int_inv]
    exact ⟨i, rfl, q _ _ (Same.refl _) (.int _)⟩) (hg := hg) (he := na)
end
/-- the pen at p, its cells at c, from which b more draws may be made -/
def Pen (p c : Addr) (b : Nat) (H : Hp) : Prop := ∃ (xs : List Int) (at' rest : Int), H p = some (.lst [.ref c, .int at', .int rest]) ∧ c ≠ p ∧ H c = some (.lst (xs.map V.int)) ∧ xs.length ≤ 63 ∧ 0 ≤ at' ∧ at' + (b : Nat) ≤ 1048576 ∧ 0 ≤ rest
theorem Pen.le {p c : Addr} {b b' : Nat} {H : Hp} (h : Pen p c b H) (l : b' ≤ b) : Pen p c b' H := by
  obtain ⟨xs, a, r, h1, h2, h3, h4, h5, h6, h7⟩ := h
  exact ⟨xs, a, r, h1, h2, h3, h4, h5, by omega, h7⟩
theorem Pen.same {p c : Addr} {b : Nat} {H H' : Hp} (h : Pen p c b H) (g : Same H H') : Pen p c b H' := by
  obtain ⟨xs, a, r, h1, h2, h3, h4⟩ := h
  exact ⟨xs, a, r, g _ _ h1, h2, g _ _ h3, h4⟩
theorem Pen.ne {p c : Addr} {b : Nat} {H : Hp} (h : Pen p c b H) : H p ≠ none := by
  obtain ⟨xs, a, r, h1, _⟩ := h
  rw [h1]
  exact fun z => nomatch z
theorem Pen.nc {p c : Addr} {b : Nat} {H : Hp} (h : Pen p c b H) : H c ≠ none := by
  obtain ⟨xs, a, r, _, _, h1, _⟩ := h
  rw [h1]
  exact fun z => nomatch z
theorem Pen.put {p c D : Addr} {b : Nat} {H : Hp} {o : HO} (h : Pen p c b H) (h1 : D ≠ p) (h2 : D ≠ c) : Pen p c b (upd H D o) := by
  obtain ⟨xs, a, r, a1, a2, a3, a4⟩ := h
  exact ⟨xs, a, r, by rw [upd_ne (Ne.symm h1)]; exact a1, a2, by rw [upd_ne (Ne.symm h2)]; exact a3, a4⟩
def spD : Sp := fun vs H Q _ => ∃ (p c : Addr) (many : Int) (b : Nat), vs = [.ref p, .int many] ∧ 0 < many ∧ many < 1073741824 ∧ Pen p c (b + 1) H ∧ ∀ r H', Kp p H H' → Pen p c b H' → 0 ≤ r → r < many → Q (.int r) H'
section
variable {P : Program} {w : World} {K : Frg} {mg : Str → Option Value} {base : Heap} {aO aS aB : Addr}
theorem da_pen {H : Hp} {p c : Addr} {xs : List Int} {a r : Int} (h : H p = some (.lst [.ref c, .int a, .int r])) (hc : H c = some (.lst (xs.map V.int))) : Da K (hM [] H) (.ref p) (.list [.list (xs.map .int), .int a, .int r]) :=
  .lst (by rw [hM_out (by simp)]; exact h) (.three (.lst (by rw [hM_out (by simp)]; exact hc) (.ofInts xs)) (.int a) (.int r))
theorem sh_ints (xs : List Int) : SeqAt.shaped (.list (xs.map .int)) = true := sh_list fun d hd => by
  obtain ⟨i, _, rfl⟩ := List.mem_map.mp hd
  exact ⟨rfl, by show (0 : Nat) ≤ 50; decide⟩
theorem c_draw (G : Glo K mg aO aS aB) (D : Dfn K mg "_law_draw" s_law_draw) : Cl P w K mg base 1 "_law_draw" spD := by
  refine cl_w D (fun _ _ _ _ _ _ us hl => match us, hl with | [_, _], _ => rfl) sc_law_draw (fun vs H Q E h => by obtain ⟨_, _, _, _, rfl, _⟩ := h; rfl) fun fa cdv A outer s H vs Q E hr h => ?_
  obtain ⟨p, c, many, b, rfl, hm0, hm1, ⟨xs, a, r, hp, hcp, hc, hx, ha0, ha1, hr0⟩, q⟩ := h
  have nd := sc_law_draw.nd
  have hun : (A.deeper (envOfC "_law_draw" (defScope s_law_draw) s.heap.objs.size fa cdv)).units + 65 < cLine := by have := hr.un; omega
  refine sw_if (td_gt (M := []) (ed_ixL (n := 2) (ed_v 0 rfl (da_pen hp hc)) ed_int rfl) ed_int) (fun z H1 g1 => ?_) fun z H1 g1 => sw_nil ?_
  · have z := of_decide_eq_true z
    have hp1 := g1 _ _ hp
    have hc1 := g1 _ _ hc
    refine sw_set (M := []) (d := .int (r % many)) 2 nd (ed_mod hm0 (ed_intI G.int (ed_ixL (n := 2) (ed_v 0 rfl (da_pen hp1 hc1)) ed_int rfl)) (ed_v 1 rfl (.int many))) fun v2 H2 g2 hv2 => ?_
    obtain rfl := hv2.int_inv
    refine sw_lput (M := []) (p := p) (j := 2) (d := .int (r / many)) (ed_fdiv hm0 hm1 (ed_intI G.int (ed_ixL (n := 2) (ed_v 0 rfl (da_pen (g2 _ _ hp1) (g2 _ _ hc1))) ed_int rfl)) (ed_v 1 rfl (.int many))) (ev_v 0 rfl) ed_int (g2 _ _ hp1) (by show 2 < 3; decide) fun v3 H3 g3 hv3 => ?_
    obtain rfl := hv3.int_inv
    refine sw_ret (M := []) (ed_v 2 rfl (.int (r % many))) fun v H4 g4 hv => ?_
    rw [hv.int_inv]
    refine q _ _ ((Kp.of (g1.trans (g2.trans g3))).put.trans (Kp.of g4)) ⟨xs, a, r / many, g4 _ _ upd_same, hcp, g4 _ _ (by rw [upd_ne hcp]; exact g3 _ _ (g2 _ _ hc1)), hx, ha0, by omega, Int.ediv_nonneg hr0 (by omega)⟩ (Int.emod_nonneg _ (by omega)) (Int.emod_lt_of_pos _ hm0)
  · have hp1 := g1 _ _ hp
    have hc1 := g1 _ _ hc
    refine sw_set (M := []) (d := .int a) 3 nd (ed_ixL (n := 1) (ed_v 0 rfl (da_pen hp1 hc1)) ed_int rfl) fun v3 H2 g2 hv3 => ?_
    obtain rfl := hv3.int_inv
    have hp2 := g2 _ _ hp1
    have hc2 := g2 _ _ hc1
    refine sw_lput (M := []) (p := p) (j := 1) (d := .int (a + 1)) (ed_add (ed_v 3 rfl (.int a)) ed_int) (ev_v 0 rfl) ed_int hp2 (by show 1 < 3; decide) fun v4 H3 g3 hv4 => ?_
    obtain rfl := hv4.int_inv
    have k3 : Kp p H (upd H3 p (.lst [.ref c, .int (a + 1), .int r])) := (Kp.of (g1.trans (g2.trans g3))).put
    have hp3 : (upd H3 p (.lst [.ref c, .int (a + 1), .int r])) p = some (.lst [.ref c, .int (a + 1), .int r]) := upd_same
    have hc3 : (upd H3 p (.lst [.ref c, .int (a + 1), .int r])) c = some (.lst (xs.map V.int)) := by rw [upd_ne hcp]; exact g3 _ _ hc2
    show SW _ _ _ _ (upd H3 p (.lst [.ref c, .int (a + 1), .int r]))
    generalize upd H3 p (.lst [.ref c, .int (a + 1), .int r]) = HA at k3 hp3 hc3
    have fin : ∀ (H' : Hp) (x : Int), Same HA H' → Q (.int (x % many)) H' := fun H' x g => q _ _ (k3.trans (Kp.of g)) ⟨xs, a + 1, r, g _ _ hp3, hcp, g _ _ hc3, hx, by omega, by omega, hr0⟩ (Int.emod_nonneg _ (by omega)) (Int.emod_lt_of_pos _ hm0)
    have small : CMul 53087 a := .inl ⟨by decide, by decide⟩
    refine sw_set (M := []) (d := .int (53087 * a + 641)) 4 nd (ed_add (ed_mul small ed_int (ed_v 3 rfl (.int a))) ed_int) fun v4 H4 g4 hv4 => ?_
    obtain rfl := hv4.int_inv
    refine sw_ifM (fun σ' H' => (∃ cell : Int, σ' = [some (.ref p), some (.int many), none, some (.int a), some (.int cell), none, none]) ∧ Same HA H') (td_neD (M := []) hun (sh_ints xs) (by decide +kernel) (ed_ixL (n := 0) (ed_v 0 rfl (da_pen (g4 _ _ hp3) (g4 _ _ hc3))) ed_int rfl) (ed_lst (fun b hb => nomatch hb) ad_nil (Nat.zero_le _))) (fun zz H5 g5 => ?_) (fun zz H5 g5 => sw_nil ⟨⟨_, rfl⟩, g4.trans g5⟩) fun σ' H5 hm => ?_
    · have hne : xs ≠ [] := fun e => by subst e; cases zz
      have hpos : 0 < xs.length := List.length_pos_iff.mpr hne
      have hi0 : 0 ≤ a % (xs.length : Nat) := Int.emod_nonneg _ (by omega)
      have hi1 : a % (xs.length : Nat) < (xs.length : Nat) := Int.emod_lt_of_pos _ (by omega)
      obtain ⟨i, hi⟩ := Int.eq_ofNat_of_zero_le hi0
      have hil : i < xs.length := by omega
      have hp5 := g5 _ _ (g4 _ _ hp3)
      have hc5 := g5 _ _ (g4 _ _ hc3)
      refine sw_set (M := []) (d := .int xs[i]) 4 nd (ed_ixL (n := i) (ds := xs.map .int) (ed_ixL (n := 0) (ed_v 0 rfl (da_pen hp5 hc5)) ed_int rfl) (ed_cast (ed_mod (by rw [List.length_map]; omega) (ed_intI G.int (ed_v 3 rfl (.int a))) (ed_lenL G.len (ed_ixL (n := 0) (ed_v 0 rfl (da_pen hp5 hc5)) ed_int rfl))) (by rw [List.length_map, hi])) (by rw [List.getElem?_map, List.getElem?_eq_getElem hil]; rfl)) fun v5 H6 g6 hv5 => sw_nil ⟨⟨xs[i], by rw [hv5.int_inv]; rfl⟩, g4.trans (g5.trans g6)⟩
    · obtain ⟨⟨cell, rfl⟩, g5⟩ := hm
      have hp5 := g5 _ _ hp3
      have hc5 := g5 _ _ hc3
      refine sw_if (td_and (td_lt (M := []) (ed_v 3 rfl (.int a)) (ed_lenL G.len (ed_ixL (n := 0) (ed_v 0 rfl (da_pen hp5 hc5)) ed_int rfl))) fun _ => td_ge (M := []) (ed_absI G.abs (ed_v 4 rfl (.int cell))) (ed_pow (i := 10) (j := 18) ⟨by decide, by decide, by decide⟩ ed_int ed_int)) (fun zz H6 g6 => ?_) fun zz H6 g6 => sw_nil ?_
      · rw [Bool.and_eq_true, decide_eq_true_eq, decide_eq_true_eq] at zz
        have zz := zz.2
        generalize ha' : (if cell < 0 then -cell else cell) = ab at zz
        have two : CMul 2 (ab - 10 ^ (18 : Int).toNat) := .inl ⟨by decide, by decide⟩
        refine sw_set (M := []) (d := .int (2 * (ab - 10 ^ (18 : Int).toNat) + (if decide (cell < 0) = true then 1 else 0))) 5 nd (ed_add (ed_mul two ed_int (ed_sub (ed_cast (ed_absI G.abs (ed_v 4 rfl (.int cell))) (by rw [ha'])) (ed_pow (i := 10) (j := 18) ⟨by decide, by decide, by decide⟩ ed_int ed_int))) (ed_intB G.int (ed_lt (ed_v 4 rfl (.int cell)) ed_int))) fun v6 H7 g7 hv6 => ?_
        obtain rfl := hv6.int_inv
        have gr0 : 0 ≤ 2 * (ab - 10 ^ (18 : Int).toNat) + (if decide (cell < 0) = true then 1 else 0) := by split <;> omega
        generalize 2 * (ab - 10 ^ (18 : Int).toNat) + (if decide (cell < 0) = true then 1 else 0) = great at gr0
        have g57 := g5.trans (g6.trans g7)
        refine sw_lput (M := []) (p := p) (j := 2) (d := .int (great / many)) (ed_fdiv hm0 hm1 (ed_intI G.int (ed_v 5 rfl (.int great))) (ed_v 1 rfl (.int many))) (ev_v 0 rfl) ed_int (g57 _ _ hp3) (by show 2 < 3; decide) fun v7 H8 g8 hv7 => ?_
        obtain rfl := hv7.int_inv
        refine sw_ret (M := []) (ed_mod hm0 (ed_intI G.int (ed_v 5 rfl (.int great))) (ed_v 1 rfl (.int many))) fun v H9 g9 hv => ?_
        rw [hv.int_inv]
        exact q _ _ (k3.trans ((Kp.of (g57.trans g8)).put.trans (Kp.of g9))) ⟨xs, a + 1, great / many, g9 _ _ upd_same, hcp, g9 _ _ (by rw [upd_ne hcp]; exact g8 _ _ (g57 _ _ hc3)), hx, by omega, by omega, Int.ediv_nonneg gr0 (by omega)⟩ (Int.emod_nonneg _ (by omega)) (Int.emod_lt_of_pos _ hm0)
      · have g56 := g5.trans g6
        have am : a ≤ 1048576 := by omega
        have e5 : (5 : Int).toNat = 5 := rfl
        have e3 : (3 : Int).toNat = 3 := rfl
        have c0 : 0 ≤ cell % 2147483579 := Int.emod_nonneg _ (by decide)
        have c1 : cell % 2147483579 < 2147483579 := Int.emod_lt_of_pos _ (by decide)
        have cp1 : CPow (cell % 2147483579 + 71317 * a + 139) 5 := ⟨by decide, by decide, by omega⟩
        refine sw_set (M := []) (d := .int ((cell % 2147483579 + 71317 * a + 139) ^ (5 : Int).toNat % 2147483629)) 6 nd (ed_mod (by decide) (ed_intI G.int (ed_pow cp1 (ed_add (ed_add (ed_mod (by decide) (ed_intI G.int (ed_v 4 rfl (.int cell))) ed_int) (ed_mul (.inl ⟨by decide, by decide⟩) ed_int (ed_v 3 rfl (.int a)))) ed_int) ed_int)) ed_int) fun v6 H7 g7 hv6 => ?_
        obtain rfl := hv6.int_inv
        have b0 : 0 ≤ (cell % 2147483579 + 71317 * a + 139) ^ (5 : Int).toNat % 2147483629 := Int.emod_nonneg _ (by decide)
        have b1 : (cell % 2147483579 + 71317 * a + 139) ^ (5 : Int).toNat % 2147483629 < 2147483629 := Int.emod_lt_of_pos _ (by decide)
        generalize (cell % 2147483579 + 71317 * a + 139) ^ (5 : Int).toNat % 2147483629 = bl at b0 b1
        have m0 : 0 ≤ bl * (2 * a + 93) := Int.mul_nonneg b0 (by omega)
        have m1 : bl * (2 * a + 93) ≤ 2147483629 * 2097245 := Int.mul_le_mul (by omega) (by omega) (by omega) (by decide)
        have n0 : 0 ≤ 66239 * a * a := Int.mul_nonneg (by omega) ha0
        have n1 : 66239 * a * a ≤ 66239 * 1048576 * 1048576 := Int.mul_le_mul (by omega) am ha0 (by decide)
        have cp2 : CPow (bl * (2 * a + 93) + 66239 * a * a + 43) 3 := ⟨by decide, by decide, by omega⟩
        refine sw_set (M := []) (d := .int ((bl * (2 * a + 93) + 66239 * a * a + 43) ^ (3 : Int).toNat % 2147483587)) 6 nd (ed_mod (by decide) (ed_intI G.int (ed_pow cp2 (ed_add (ed_add (ed_mul (.inl ⟨by omega, by omega⟩) (ed_v 6 rfl (.int bl)) (ed_add (ed_mul (.inl ⟨by decide, by decide⟩) ed_int (ed_v 3 rfl (.int a))) ed_int)) (ed_mul (.inr ⟨by omega, by omega⟩) (ed_mul (.inl ⟨by decide, by decide⟩) ed_int (ed_v 3 rfl (.int a))) (ed_v 3 rfl (.int a)))) ed_int) ed_int)) ed_int) fun v7 H8 g8 hv7 => ?_
        obtain rfl := hv7.int_inv
        refine sw_ret (M := []) (ed_mod hm0 (ed_intI G.int (ed_fdiv (by decide) (by decide) (ed_v 6 rfl (.int _)) ed_int)) (ed_v 1 rfl (.int many))) fun v H9 g9 hv => ?_
        rw [hv.int_inv]
        exact fin _ _ (g56.trans (g7.trans (g8.trans g9)))
end
end S6

/-! W23: expressions that draw; a pick. -/
namespace S6
open PySem PySem.Spec PyProof.Rows L2
/-- from any heap that differs from H0 at the pen only, with c draws left, e gives some data of which Pd is true -/
def EP (X : Cx) (σ : L2.St) (M : List Addr) (p cc : Addr) (c : Nat) (H0 : Hp) (e : Expr) (Pd : PyData → Prop) : Prop := ∀ H b, Kp p H0 H → Pen p cc (b + c) H → EW X e σ H fun v H' => Kp p H H' ∧ Pen p cc b H' ∧ ∃ d, Pd d ∧ Da X.K (hM M H') v d
section
variable {X : Cx} {σ : L2.St} {M : List Addr} {H0 : Hp} {e a o : Expr} {d : PyData} {pos q1 : Pos} {p cc : Addr} {c c' j : Nat} {Pd Pd' : PyData → Prop}
theorem EP.imp (h : EP X σ M p cc c H0 e Pd) (g : ∀ d, Pd d → Pd' d) (l : c ≤ c') : EP X σ M p cc c' H0 e Pd' := fun H b k n => (h H b k (n.le (by omega))).mono fun v H' ⟨k1, n1, d, h1, h2⟩ => ⟨k1, n1, d, g d h1, h2⟩
theorem EP.from {H1 : Hp} (h : EP X σ M p cc c H0 e Pd) (g : Kp p H0 H1) : EP X σ M p cc c H1 e Pd := fun H b k n => h H b (g.trans k) n
theorem EP.at {b : Nat} (h : EP X σ M p cc c H0 e Pd) (n : Pen p cc (b + c) H0) {Q : VK} (q : ∀ v H' d, Kp p H0 H' → Pen p cc b H' → Pd d → Da X.K (hM M H') v d → Q v H') : EW X e σ H0 Q := (h H0 b (Kp.refl _ _) n).mono fun v H' ⟨k1, n1, d, h1, h2⟩ => q v H' d k1 n1 h1 h2
/-- an expression that draws nothing -/
theorem ep_of (h : ∀ H, Kp p H0 H → H p ≠ none → ED X σ M H e d) : EP X σ M p cc 0 H0 e (fun x => x = d) := fun H b k n => (h H k n.ne H (Same.refl H)).mono fun v H' ⟨g, z⟩ => ⟨Kp.of g, n.same g, d, rfl, z⟩
/-- _law_draw(pen, e) -/
theorem ep_draw {many : Int} {i : Nat} {x : Str} (cl : Cl X.prog X.w X.K X.mg X.base 1 "_law_draw" spD) (hr : Room j X.A) (hj : 1 ≤ j) (hv : σ[i]? = some (some (.ref p))) (he : ∀ H, Kp p H0 H → H p ≠ none → ED X σ M H e (.int many)) (h0 : 0 < many) (h1 : many < 1073741824) (hN : X.N[i]? = some x := by rfl) (hs : Vis X.env.scope x := by first | exact Or.inl rfl | exact Or.inr (Or.inl rfl) | exact Or.inr (Or.inr rfl))
    (hb : (x == ("__debug__" : Str)) = false := by decide) (hb2 : (x == ("__classdict__" : Str)) = false := by decide) (hg : Gl X "_law_draw" := by rfl) (na : starEach [.Name x q1, e] X.env = (false, eval (.Name x q1) X.env) :: starEach [e] X.env := by rfl) (nb : starEach [e] X.env = (false, eval e X.env) :: starEach [] X.env := by rfl) (hpl : (backTo pos (starEach [e] X.env)).any (·.1) = false := by rfl) {q2 : Pos} :
    EP X σ M p cc 1 H0 (.Call (.Name "_law_draw" q2) [.Name x q1, e] [] pos) (fun d => ∃ r : Int, d = .int r ∧ 0 ≤ r ∧ r < many) := fun H b k n => by
  refine ew_of (pe_cl cl hr hj hg (pa_cons (pv i hN hs hb hb2) (pa_cons pe_w pa_nil nb) na) (by decide) na hpl) ⟨.ref p, hv, (he H k n.ne H (Same.refl H)).mono fun v H1 ⟨g, z⟩ => ?_⟩
  rw [z.int_inv]
  exact ⟨p, cc, many, b, rfl, h0, h1, n.same g, fun r H' k1 n1 r0 r1 => ⟨(Kp.of g).trans k1, n1, .int r, ⟨r, rfl, r0, r1⟩, .int r⟩⟩
end
def pickable (e : PyData) : Prop := (∃ ds, e = .list ds ∧ ds ≠ [] ∧ ds.length < 1000000) ∨ ∃ x : Str, e = .str x ∧ 0 < x.length ∧ x.length < 1000000
def picked (e d : PyData) : Prop := (∃ ds, e = .list ds ∧ d ∈ ds) ∨ ∃ (x : Str) (k : Nat), e = .str x ∧ d = .str ⟨#[k]⟩ ∧ k ∈ x.cps.toList
def spPk (K : Frg) : Sp := fun vs H Q _ => ∃ p cc M b v e, vs = [.ref p, v] ∧ p ∈ M ∧ Lv M H ∧ Da K (hM M H) v e ∧ pickable e ∧ Pen p cc (b + 1) H ∧ ∀ v' H' d, Kp p H H' → Pen p cc b H' → picked e d → Da K (hM M H') v' d → Q v' H'
section
variable {P : Program} {w : World} {K : Frg} {mg : Str → Option Value} {base : Heap} {aO aS aB : Addr}
theorem c_pick (G : Glo K mg aO aS aB) (D : Dfn K mg "_law_pick" s_law_pick) (Dr : Cl P w K mg base 1 "_law_draw" spD) : Cl P w K mg base 2 "_law_pick" (spPk K) := by
  refine cl_w D (fun _ _ _ _ _ _ us hl => match us, hl with | [_, _], _ => rfl) sc_law_pick (fun vs H Q E h => by obtain ⟨_, _, _, _, _, _, rfl, _⟩ := h; rfl) fun fa cdv A outer s H vs Q E hr h => ?_
  obtain ⟨p, cc, M, b, v, e, rfl, hpM, lv, hv, hpk, hn, q⟩ := h
  rcases hpk with ⟨ds, rfl, h1, h2⟩ | ⟨x, rfl, h1, h2⟩
  · have hpos : 0 < ds.length := List.length_pos_iff.mpr h1
    refine sw_1 (ps_ret (pe_ix ix_list pe_w pe_w (fun _ _ => rfl))) ?_
    refine (ed_v (M := M) 1 rfl hv).at fun y H1 g1 hy => ?_
    refine (ep_draw (M := M) (i := 0) (p := p) (cc := cc) (H0 := H1) (many := (ds.length : Nat)) Dr hr (Nat.le_refl _) rfl (fun H k _ => ed_lenL G.len (ed_v 1 rfl ((hv.mono (same_hM g1)).mono (k.hM hpM)))) (by omega) (by omega)).at (hn.same g1) fun z H2 d k2 n2 hd hz => ?_
    obtain ⟨r, rfl, r0, r1⟩ := hd
    obtain ⟨i, rfl⟩ := Int.eq_ofNat_of_zero_le r0
    have hil : i < ds.length := by omega
    have hy2 := hy.mono (k2.hM hpM)
    obtain ⟨a, xs, rfl, ha, hxs⟩ := hy2.lst_inv
    obtain ⟨u, hu, hud⟩ := hxs.get (List.getElem?_eq_getElem hil)
    exact ⟨a, xs, i, u, rfl, hz.int_inv, SqL.of (hM_sub _ _ ha), atI_nat hu, q u H2 _ ((Kp.of g1).trans k2) n2 (.inl ⟨ds, rfl, List.getElem_mem hil⟩) hud⟩
  · refine sw_1 (ps_ret (pe_ix ix_str pe_w pe_w (fun _ _ => rfl))) ?_
    refine (ed_v (M := M) 1 rfl hv).at fun y H1 g1 hy => ?_
    refine (ep_draw (M := M) (i := 0) (p := p) (cc := cc) (H0 := H1) (many := (x.length : Nat)) Dr hr (Nat.le_refl _) rfl (fun H k _ => ed_lenS G.len (ed_v 1 rfl ((hv.mono (same_hM g1)).mono (k.hM hpM))) (by rw [sizeLine_eq]; omega)) (by omega) (by omega)).at (hn.same g1) fun z H2 d k2 n2 hd hz => ?_
    obtain ⟨r, rfl, r0, r1⟩ := hd
    obtain ⟨i, rfl⟩ := Int.eq_ofNat_of_zero_le r0
    have hil : i < x.cps.toList.length := by
      have h : i < x.length := by omega
      rw [Array.length_toList]
      exact h
    exact ⟨x, i, x.cps.toList[i], hy.str_inv, hz.int_inv, by rw [sizeLine_eq]; omega, atI_nat (List.getElem?_eq_getElem hil), q _ H2 _ ((Kp.of g1).trans k2) n2 (.inr ⟨x, _, rfl, rfl, List.getElem_mem hil⟩) (.str _)⟩
end
end S6

/-! W24: rules for what draws. -/
namespace S6
open PySem PySem.Spec PyProof.Rows L2
section
variable {X : Cx} {σ : L2.St} {M : List Addr} {H0 H : Hp} {e a b o : Expr} {d : PyData} {pos q1 : Pos} {p cc : Addr} {c c1 c2 j n : Nat} {Pd Pa Pb : PyData → Prop} {D : Ends} {rest : List Stmt}
/-- _law_pick(pen, e) -/
theorem ep_pick {e1 : PyData} {i : Nat} {x : Str} (cl : Cl X.prog X.w X.K X.mg X.base 2 "_law_pick" (spPk X.K)) (hr : Room j X.A) (hj : 2 ≤ j) (hpM : p ∈ M) (lv : Lv M H0) (hv : σ[i]? = some (some (.ref p))) (he : ∀ H, Kp p H0 H → Lv M H → ED X σ M H e e1) (hpk : pickable e1) (hN : X.N[i]? = some x := by rfl) (hs : Vis X.env.scope x := by first | exact Or.inl rfl | exact Or.inr (Or.inl rfl) | exact Or.inr (Or.inr rfl))
    (hb : (x == ("__debug__" : Str)) = false := by decide) (hb2 : (x == ("__classdict__" : Str)) = false := by decide) (hg : Gl X "_law_pick" := by rfl) (na : starEach [.Name x q1, e] X.env = (false, eval (.Name x q1) X.env) :: starEach [e] X.env := by rfl) (nb : starEach [e] X.env = (false, eval e X.env) :: starEach [] X.env := by rfl) (hpl : (backTo pos (starEach [e] X.env)).any (·.1) = false := by rfl) {q2 : Pos} :
    EP X σ M p cc 1 H0 (.Call (.Name "_law_pick" q2) [.Name x q1, e] [] pos) (picked e1) := fun H b k n => by
  have lvH := k.lv lv n.ne
  refine ew_of (pe_cl cl hr hj hg (pa_cons (pv i hN hs hb hb2) (pa_cons pe_w pa_nil nb) na) (by decide) na hpl) ⟨.ref p, hv, (he H k lvH H (Same.refl H)).mono fun v H1 ⟨g, z⟩ => ?_⟩
  exact ⟨p, cc, M, b, v, e1, rfl, hpM, lvH.same g, z, hpk, n.same g, fun v' H' d k1 n1 h1 h2 => ⟨(Kp.of g).trans k1, n1, d, h1, h2⟩⟩
/-- return e, x = e -/
theorem sw_retP {b : Nat} (h : EP X σ M p cc c H e Pd) (n : Pen p cc (b + c) H) (q : ∀ v H' d, Kp p H H' → Pen p cc b H' → Pd d → Da X.K (hM M H') v d → D.rt v H') : SW X (.Return (some e) pos :: rest) D σ H := sw_1 (ps_ret pe_w) (h.at n q)
theorem sw_setP {b : Nat} (i : Nat) {x : Str} {pp : Pos} (nd : X.N.Nodup) (h : EP X σ M p cc c H e Pd) (n : Pen p cc (b + c) H) (q : ∀ v H' d, Kp p H H' → Pen p cc b H' → Pd d → Da X.K (hM M H') v d → SW X rest D (σ.set i (some v)) H') (hi : X.N[i]? = some x := by rfl) (hx : Loc X.env.scope x := by first | exact Or.inl rfl | exact Or.inr rfl)
    (hs : swapsWith e (some (.Name x pp)) pos.line X.env = pure false := by rfl) (hf : X.fn x = true ∨ X.env.scope.names.lookup x = some .local := by first | exact .inl rfl | exact .inr rfl) : SW X (.Assign [.Name x pp] e pos :: rest) D σ H :=
  sw_1 (ps_set (i := i) nd hi hx pe_w hs hf) (h.at n q)
/-- x, y = a, b, both may draw -/
theorem sw_parP {b0 : Nat} {x y : Str} {px py pt pt2 : Pos} {kt k2 : Nat} (i j : Nat) (hc : X.calm = true) (nd : X.N.Nodup) (hij : i ≠ j) (h1 : EP X σ M p cc c1 H a Pa) (h2 : EP X σ M p cc c2 H b Pb) (hpM : p ∈ M) (n : Pen p cc (b0 + c2 + c1) H)
    (q : ∀ v v2 H' d d2, Kp p H H' → Pen p cc b0 H' → Pa d → Pb d2 → Da X.K (hM M H') v d → Da X.K (hM M H') v2 d2 → SW X rest D ((σ.set i (some v)).set j (some v2)) H') (hi : X.N[i]? = some x := by rfl) (hj : X.N[j]? = some y := by rfl)
    (hx : X.env.scope.names.lookup x = some .local := by rfl) (hy : X.env.scope.names.lookup y = some .local := by rfl) (hw : swappedStores [.Tuple [.Name x px, .Name y py] kt pt] (.Tuple [a, b] k2 pt2) X.env = pure (some [x, y]) := by rfl)
    (hs : swapsWithSole [.Tuple [.Name x px, .Name y py] kt pt] (.Tuple [a, b] k2 pt2) pos.line X.env = pure false := by rfl) (na : starEach [a, b] X.env = (false, eval a X.env) :: starEach [b] X.env := by rfl) (nb : starEach [b] X.env = (false, eval b X.env) :: starEach [] X.env := by rfl) : SW X (.Assign [.Tuple [.Name x px, .Name y py] kt pt] (.Tuple [a, b] k2 pt2) pos :: rest) D σ H :=
  sw_1 (ps_par hc nd hi hj hij hx hy (pa_cons pe_w (pa_cons pe_w pa_nil nb) na) hw hs) (h1.at n fun v H1 d k1 n1 hd hv => (h2.from k1).at n1 fun v2 H2 d2 k2 n2 hd2 hv2 => ⟨v, v2, rfl, q v v2 H2 d d2 (k1.trans k2) n2 hd hd2 (hv.mono (k2.hM hpM)) hv2⟩)
end
end S6

/-! W25: the pen made. -/
namespace S6
open PySem PySem.Spec PyProof.Rows L2
section
variable {P : Program} {w : World} {K : Frg} {mg : Str → Option Value} {base : Heap} {aO aS aB : Addr}
def R_pn : List PyData → PyData → Prop := fun ds d => ∃ xs : List Int, ds = [.list (xs.map .int)] ∧ d = .list [.list ((xs.take 63).map .int), .int 0, .int 0]
theorem c_law_pen (G : Glo K mg aO aS aB) (D : Dfn K mg "_law_pen" s_law_pen) : Cl P w K mg base 1 "_law_pen" (spR K R_pn) := by
  refine cl_w D (fun _ _ _ _ _ _ us hl => match us, hl with | [_], _ => rfl) sc_law_pen (spR_len fun ds d h => by obtain ⟨_, rfl, _⟩ := h; rfl) fun fa cdv A outer s H vs Q E hr h => ?_
  obtain ⟨M, ds, d, lv, ha, ⟨xs, rfl, rfl⟩, q⟩ := h
  obtain ⟨v0, rfl, hv0⟩ := ha.inv1
  exact sw_ret (M := M) (ed_lst lv (ad_cons (ed_lstL lv G.list (ed_cast (ed_takeL (i := 63) lv (ed_v 0 rfl hv0) ed_int) (by rw [List.map_take]))) (ad_cons ed_int (ad_cons ed_int ad_nil))) (by show 3 ≤ sizeLine; decide)) q
theorem pen_of {M : List Addr} {H : Hp} {v : V} {ys : List Int} (h : Da K (hM M H) v (.list [.list (ys.map .int), .int 0, .int 0])) (hl : ys.length ≤ 63) : ∃ p c, v = .ref p ∧ Pen p c 1048576 H ∧ p ∉ M := by
  obtain ⟨p, xs, rfl, hp, hx⟩ := h.lst_inv
  obtain ⟨v1, v2, v3, rfl, h1, h2, h3⟩ := hx.inv3
  obtain ⟨c, rfl, hc⟩ := h1.lstInts
  rw [h2.int_inv, h3.int_inv] at hp
  have hp' := hM_sub _ _ hp
  have hc' := hM_sub _ _ hc
  refine ⟨p, c, rfl, ⟨ys, 0, 0, hp', fun e => ?_, hc', hl, by decide, by decide, by decide⟩, fun m => by rw [hM_in m] at hp; cases hp⟩
  subst e
  rw [hp'] at hc'
  have e := HO.lst.inj (Option.some.inj hc')
  cases ys with
  | nil => cases e
  | cons y ys => cases e
end
end S6

/-! W26: a comprehension that draws. -/
namespace S6
open PySem PySem.Spec PyProof.Rows L2
section
variable {X : Cx} {σ : L2.St} {M : List Addr} {H0 : Hp} {a elt : Expr} {x : Str} {px q1 q2 pos : Pos} {p cc : Addr} {c0 c1 n k : Nat} {Pe : PyData → Prop} {scope : Scope} {own : List (Str × Nat)}
/-- [elt for x in range(a)], a and elt may draw -/
theorem ep_lcR (hc : X.calm = true) (nd : X.N.Nodup) (hm : X.mg "range" = none) (hpM : p ∈ M) (lv : Lv M H0) (ha : EP X σ M p cc c0 H0 a (fun d => ∃ m : Nat, d = .int (m : Nat) ∧ m ≤ n)) (hn : n < 1000000) (ok : BlkOk X.N X.env.scope scope own) (hk : k ∈ own.map (·.2)) (hg : ∀ (s : Shared) (H : Hp) (C : Addr) (cl : List (Str × Addr)) (fp : List Addr), PG (Blk X scope s H C cl fp) (.Name x px) (gName k))
    (body : ∀ (u : V) (D : Addr) (H1 : Hp) (s0 : Shared) (h0 : Hp) (C : Addr) (cl : List (Str × Addr)) (fp : List Addr), Same (hM M H0) (hM (D :: M) H1) → Lv (D :: M) H1 → EP (Blk X scope s0 h0 C cl fp) ((wipe σ (own.map (·.2))).set k (some u)) (D :: M) p cc c1 H1 elt Pe)
    (hg2 : Gl X "range" := by rfl) (hs2 : starEach [a] X.env = [(false, eval a X.env)] := by rfl) (hs : ∀ z, foldedSetIterable (.Call (.Name "range" q1) [a] [] q2) X.env z = pure z := by intro _; rfl) :
    EP X σ M p cc (c0 + n * c1) H0 (.ListComp elt [⟨.Name x px, .Call (.Name "range" q1) [a] [] q2, [], 0⟩] scope pos) (fun d => ∃ ds, d = .list ds ∧ ds.length ≤ n ∧ ∀ z ∈ ds, Pe z) := fun H b kH pn => by
  refine ew_of (pe_lc (own := own) (g := gName k) (tt := tYes) (te := allE X scope elt) hc nd (pi_range1 hg2 hm (pa_cons pe_w pa_nil (by rw [hs2]; rfl)) hs2) ok hg (fun _ _ _ _ _ => pts_nil) (fun s0 h0 C cl fp => ⟨fun pins s σ H Q I h => (h s0 h0 C cl fp).run pins s I⟩) hs) ?_
  have lvH := kH.lv lv pn.ne
  refine ((ha.from kH).at (b := b + n * c1) (pn.le (by omega))) fun v H1 d k1 n1 hd hv => ?_
  obtain ⟨m, rfl, hmn⟩ := hd
  obtain rfl := hv.int_inv
  have e3 : (m : Int).toNat = m := Int.toNat_natCast m
  have lv1 := k1.lv lvH n1.ne
  have fin : ∀ D, H1 D = none → ∃ W : Nat → Nat → Hp → Prop, (∃ q, W 0 q (upd H1 D (.lst []))) ∧ ∀ i q H', W i q H' → ((Itr 0 m).stop i H' ∧ (Kp p H H' ∧ Pen p cc b H' ∧ ∃ d, (∃ ds, d = PyData.list ds ∧ ds.length ≤ n ∧ ∀ z ∈ ds, Pe z) ∧ Da X.K (hM M H') (.ref D) d)) ∨
      ((Itr 0 m).go i H' ∧ ∃ Nx : Hp → Prop, (∀ H2, Nx H2 → ∃ q', q' < q ∧ W (i + 1) q' H2) ∧ ∀ z H2, (Itr 0 m).yld i H' z H2 → gName k z (wipe σ (own.map (·.2))) H2 fun σ2 H3 => wipe σ2 (own.map (·.2)) = wipe σ (own.map (·.2)) ∧ tYes σ2 H3 fun bb H4 =>
        if bb = true then allE X scope elt σ2 H4 fun y H5 => ∃ acc, H5 D = some (.lst acc) ∧ acc.length < sizeLine ∧ Nx (upd H5 D (.lst (acc ++ [y]))) else Nx H4) := fun D hD => by
    have hDM : D ∉ M := lv1.new hD
    have hDp : D ≠ p := fun e => hDM (by rw [e]; exact hpM)
    refine lc_it (walk_range (lo := 0) (n := m)) (fun i H' => Pen p cc (b + (n - i) * c1) H' ∧ Kp p H1 H' ∧ Lv (D :: M) H' ∧ Same (hM M H1) (hM (D :: M) H') ∧ ∃ acc ds, H' D = some (.lst acc) ∧ DaAll X.K (hM (D :: M) H') acc ds ∧ ds.length = i ∧ ∀ z ∈ ds, Pe z) ?_ (fun _ _ _ _ => trivial) (fun i u H' H'' hi P y => ?_) fun H' P => ?_
    · exact ⟨n1.same (same_new hD), Kp.of (same_new hD), lv1.upd.cons upd_same, same_skip (same_new hD) hD, [], [], upd_same, .nil, rfl, fun z hz => nomatch hz⟩
    · obtain ⟨rfl, rfl⟩ := y
      obtain ⟨p1, p2, p3, p4, acc, ds, p5, p6, p7, p8⟩ := P
      refine ⟨?_, ?_⟩
      · show wipe ((wipe σ (own.map (·.2))).set k _) (own.map (·.2)) = _
        rw [wipe_in hk, wipe_idem]
      · dsimp only [tYes]
        rw [if_pos rfl]
        intro s0 h0 C cl fp
        have hb : b + (n - i) * c1 = (b + (n - (i + 1)) * c1) + c1 := by
          have : n - i = (n - (i + 1)) + 1 := by omega
          rw [this, Nat.add_mul, Nat.one_mul]
          omega
        rw [hb] at p1
        refine ((body _ D H'' s0 h0 C cl fp ((kH.trans k1).hM hpM |>.trans p4) p3).at p1) fun v2 H5 d2 k2 n2 hd2 hv2 => ?_
        have hpD : p ∈ D :: M := List.mem_cons_of_mem _ hpM
        have m2 := k2.hM (M := D :: M) hpD
        have p5' := k2 D _ hDp p5
        have em : hM (D :: M) (upd H5 D (.lst (acc ++ [v2]))) = hM (D :: M) H5 := hM_upd List.mem_cons_self
        refine ⟨acc, p5', by rw [p6.len, sizeLine_eq]; omega, ?_, ?_, (k2.lv p3 n2.ne).upd, by rw [em]; exact p4.trans m2, acc ++ [v2], ds ++ [d2], upd_same, by rw [em]; exact (p6.mono m2).snoc hv2, by rw [List.length_append, p7]; rfl, fun z hz => ?_⟩
        · exact n2.put hDp fun e => n1.nc (by rw [← e]; exact hD)
        · intro y o ny hy
          have : y ≠ D := ne_of_none hy hD
          rw [upd_ne this]
          exact k2 y o ny (p2 y o ny hy)
        · rcases List.mem_append.mp hz with y | y
          · exact p8 z y
          · rw [List.mem_singleton.mp y]; exact hd2
    · obtain ⟨p1, p2, p3, p4, acc, ds, p5, p6, p7, p8⟩ := P
      exact ⟨(k1.trans p2), p1.le (by omega), _, ⟨ds, rfl, by omega, p8⟩, da_lst_at p5 hDM p6⟩
  first
    | exact ⟨(m : Int), rfl, by omega, by omega, by rw [e3]; exact fin⟩
    | exact ⟨(m : Int), rfl, by decide, by omega, by rw [e3]; exact fin⟩
    | exact ⟨(m : Int), rfl, by rw [e3]; exact fin⟩
end
end S6

/-! W27: the law's words. -/
namespace S6
open PySem PySem.Spec PyProof.Rows L2
section
variable {X : Cx} {σ : L2.St} {M : List Addr} {H0 : Hp} {e a b : Expr} {pos : Pos} {p cc : Addr} {c : Nat}
theorem ed_mul01 {x : Str} {k : Bool} (ha : ED X σ M H0 a (.str x)) (hb : ED X σ M H0 b (.int (if k = true then 1 else 0))) : ED X σ M H0 (.BinOp a .Mult b pos) (.str (if k = true then x else Str.empty)) := ed_op op_mul01 ha hb fun y z _ _ _ h1 h2 q => by
  rw [h1.str_inv, h2.int_inv]
  cases k with
  | true => exact ⟨x, rfl, .inr ⟨rfl, q _ _ (Same.refl _) (.str _)⟩⟩
  | false => exact ⟨x, rfl, .inl ⟨rfl, q _ _ (Same.refl _) (.str _)⟩⟩
theorem ed_ixStr {x : Str} {i k : Nat} (ha : ED X σ M H0 a (.str x)) (hb : ED X σ M H0 b (.int (i : Nat))) (hk : x.cps.toList[i]? = some k) (hz : x.length ≤ sizeLine) (hp : PlainIx b := by exact fun _ _ => rfl) : ED X σ M H0 (.Subscript a b pos) (.str ⟨#[k]⟩) :=
  ed_bin (fun _ _ _ q => ew_of (pe_ix ix_str pe_w pe_w hp) q) ha hb fun y z H Q s h1 h2 q => ⟨x, i, k, h1.str_inv, h2.int_inv, hz, atI_nat hk, q _ _ (Same.refl _) (.str _)⟩
/-- ''.join(e), e draws a list of single signs -/
theorem ep_join {n : Nat} {j0 : Nat} {q0 apos : Pos} (he : EP X σ M p cc c H0 e (fun d => ∃ ds, d = .list ds ∧ ds.length ≤ n ∧ ∀ z ∈ ds, ∃ k : Nat, z = .str ⟨#[k]⟩ ∧ 97 ≤ k ∧ k ≤ 122)) (hn : n ≤ 1000) (hpM : p ∈ M)
    (hs : starEach [e] X.env = [(false, eval e X.env)] := by rfl) (hbase : attributeBase (.Constant (.str "") j0 q0) "join" X.env (eval (.Constant (.str "") j0 q0) X.env) = eval (.Constant (.str "") j0 q0) X.env := by rfl) (hline : (apos.endLine == pos.line) = true := by rfl) :
    EP X σ M p cc c H0 (.Call (.Attribute (.Constant (.str "") j0 q0) "join" apos) [e] [] pos) (fun d => ∃ x : Str, d = .str x ∧ x.length ≤ n ∧ AZ x) := fun H b k pn => by
  refine ew_of (pe_join pe_str pe_w hs hbase hline) ⟨⟨"", rfl⟩, (he H b k pn).mono fun v H1 ⟨k1, n1, d, hd, hv⟩ => ?_⟩
  obtain ⟨ds, rfl, hl, hall⟩ := hd
  have hks : ∃ ks : List Nat, ds = ks.map (fun k => .str ⟨#[k]⟩) ∧ ∀ k ∈ ks, 97 ≤ k ∧ k ≤ 122 := by
    clear hl hv
    induction ds with
    | nil => exact ⟨[], rfl, fun _ h => nomatch h⟩
    | cons z ds ih =>
      obtain ⟨k, rfl, hk⟩ := hall z List.mem_cons_self
      obtain ⟨ks, rfl, hks⟩ := ih fun y hy => hall y (List.mem_cons_of_mem _ hy)
      exact ⟨k :: ks, rfl, fun y hy => by
        rcases List.mem_cons.mp hy with e | e
        · rw [e]; exact hk
        · exact hks y e⟩
  obtain ⟨ks, rfl, hks⟩ := hks
  rw [List.length_map] at hl
  have hv' : Da X.K (hM M H1) v (.list ((ks.map fun k => (⟨#[k]⟩ : Str)).map .str)) := by rw [List.map_map]; exact hv
  obtain ⟨r, rfl, hr⟩ := hv'.lstStrs
  have hcps : (Txt.join "" (ks.map fun k => (⟨#[k]⟩ : Str))).cps.toList = ks := by
    show TL.tl _ = _
    rw [TL.join_eq, TL.tl_join]
    have : ∀ l : List Nat, TL.joinL (TL.tl "") ((l.map fun k => (⟨#[k]⟩ : Str)).map TL.tl) = l := by
      intro l
      induction l with
      | nil => rfl
      | cons y l ih =>
        cases l with
        | nil => rfl
        | cons z l =>
          show [y] ++ (TL.tl "" ++ TL.joinL (TL.tl "") (((z :: l).map fun k => (⟨#[k]⟩ : Str)).map TL.tl)) = _
          rw [ih]
          rfl
    exact this ks
  have hlen : (Txt.join "" (ks.map fun k => (⟨#[k]⟩ : Str))).length = ks.length := by rw [len_cps, hcps]
  refine ⟨"", r, _, rfl, rfl, .inl (SqL.of (hM_sub _ _ hr)), ?_, k1, n1, _, ⟨_, rfl, by rw [hlen]; exact hl, fun k hk => hks k (by rw [← hcps]; exact hk)⟩, .str _⟩
  have := join_len "" (ks.map fun k => (⟨#[k]⟩ : Str))
  have h2 := sum_le (f := fun x : Str => x.length) (k := 1) (ls := ks.map fun k => (⟨#[k]⟩ : Str)) fun x hx => by
    obtain ⟨k, _, rfl⟩ := List.mem_map.mp hx
    exact Nat.le_refl 1
  rw [show ("" : Str).length = 0 from rfl]
  rw [List.length_map] at h2 ⊢
  omega
end
end S6

/-! W28: the law's words. -/
namespace S6
open PySem PySem.Spec PyProof.Rows L2
def spWd (K : Frg) : Sp := fun vs H Q _ => ∃ p cc M b many, vs = [.ref p, .int ((many : Nat) : Int)] ∧ p ∈ M ∧ Lv M H ∧ many ≤ 14 ∧ Pen p cc (b + 11) H ∧ ∀ v H' (ws : List Str), Kp p H H' → Pen p cc b H' → ws.length = many → (∀ x ∈ ws, GN x) → Da K (hM M H') v (.list (ws.map .str)) → Q v H'
section
variable {P : Program} {w : World} {K : Frg} {mg : Str → Option Value} {base : Heap} {aO aS aB : Addr}
theorem abc_len : abc.length = 26 := by decide +kernel
theorem abc_az : ∀ k ∈ abc.cps.toList, 97 ≤ k ∧ k ≤ 122 := by decide +kernel
theorem c_words (G : Glo K mg aO aS aB) (D : Dfn K mg "_law_words" s_law_words) (Dr : Cl P w K mg base 1 "_law_draw" spD) (Pk : Cl P w K mg base 2 "_law_pick" (spPk K)) : Cl P w K mg base 3 "_law_words" (spWd K) := by
  refine cl_w D (fun _ _ _ _ _ _ us hl => match us, hl with | [_, _], _ => rfl) sc_law_words (fun vs H Q E h => by obtain ⟨_, _, _, _, _, rfl, _⟩ := h; rfl) fun fa cdv A outer s H vs Q E hr h => ?_
  obtain ⟨p, cc, M, b, many, rfl, hpM, lv, hm, hn, q⟩ := h
  have nd := sc_law_words.nd
  refine sw_set (M := M) (d := .str abc) 2 nd ed_str fun v2 H1 g1 hv2 => ?_
  obtain rfl := hv2.str_inv
  have lv1 := lv.same g1
  have n1 := hn.same g1
  refine sw_setP (M := M) (p := p) (cc := cc) (c := 8) (b := b + 3) 4 nd (ep_join (n := 7) ((ep_lcR (own := [("_law_k", 3)]) (k := 3) (c0 := 1) (c1 := 1) (n := 7) (Pe := fun z => ∃ k : Nat, z = .str ⟨#[k]⟩ ∧ 97 ≤ k ∧ k ≤ 122) rfl nd G.range hpM lv1 ((ep_pick (i := 0) Pk hr (Nat.le_refl _) hpM lv1 rfl (e1 := .list [.int 0, .int 0, .int 1, .int 3, .int 7]) (fun H k l => ed_lst l (ad_cons ed_int (ad_cons ed_int (ad_cons ed_int (ad_cons ed_int (ad_cons ed_int ad_nil))))) (by show 5 ≤ sizeLine; decide)) (.inl ⟨_, rfl, by simp, by show 5 < 1000000; decide⟩)).imp (fun d hd => ?_) (Nat.le_refl _)) (by decide) (blkOk_by (N := n_law_words) (sc := defScope s_law_words) (by decide +kernel)) (by decide) (fun _ _ _ _ _ => pg1 3 nd) (fun u D H2 s0 h0 C cl fp g lv' => ?_)).imp (fun _ h => h) (Nat.le_refl _)) (by decide) hpM) (n1.le (by omega)) fun v4 H2 d4 k2 n2 hd4 hv4 => ?_
  · rcases hd with ⟨ds, e, hd⟩ | ⟨x, k, e, _⟩
    · cases e
      simp only [List.mem_cons, List.not_mem_nil, or_false] at hd
      rcases hd with rfl | rfl | rfl | rfl | rfl
      · exact ⟨0, rfl, by omega⟩
      · exact ⟨0, rfl, by omega⟩
      · exact ⟨1, rfl, by omega⟩
      · exact ⟨3, rfl, by omega⟩
      · exact ⟨7, rfl, by omega⟩
    · cases e
  · exact (ep_pick (i := 0) Pk hr (Nat.le_refl _) (List.mem_cons_of_mem _ hpM) lv' rfl (e1 := .str abc) (fun H k l => ed_v 2 rfl (.str abc)) (.inr ⟨abc, rfl, by rw [abc_len]; decide, by rw [abc_len]; decide⟩)).imp (fun d hd => by
      rcases hd with ⟨ds, e, _⟩ | ⟨x, k, e, hk, hx⟩
      · cases e
      · cases e
        exact ⟨k, hk, abc_az k hx⟩) (Nat.le_refl _)
  · obtain ⟨x4, rfl, h4l, h4z⟩ := hd4
    have lv2 := k2.lv lv1 n2.ne
    have hv42 := hv4
    refine sw_setP (M := M) (p := p) (cc := cc) (c := 1) (b := b + 2) 4 nd ((ep_pick (i := 0) Pk hr (Nat.le_refl _) hpM lv2 rfl (e1 := .list [.str x4, .str x4, .str x4, .str "ope", .str "shu", .str "ne"]) (fun H k l => ed_lst l (ad_cons (ed_v 4 rfl (hv4.mono (k.hM hpM))) (ad_cons (ed_v 4 rfl (hv4.mono (k.hM hpM))) (ad_cons (ed_v 4 rfl (hv4.mono (k.hM hpM))) (ad_cons ed_str (ad_cons ed_str (ad_cons ed_str ad_nil)))))) (by show 6 ≤ sizeLine; decide)) (.inl ⟨_, rfl, by simp, by show 6 < 1000000; decide⟩)).imp (Pd' := fun d => ∃ x : Str, d = .str x ∧ x.length ≤ 7 ∧ AZ x) (fun d hd => ?_) (Nat.le_refl _)) n2 fun v5 H3 d5 k3 n3 hd5 hv5 => ?_
    · rcases hd with ⟨ds, e, hd⟩ | ⟨x, k, e, _⟩
      · cases e
        simp only [List.mem_cons, List.not_mem_nil, or_false] at hd
        rcases hd with rfl | rfl | rfl | rfl | rfl | rfl
        · exact ⟨_, rfl, h4l, h4z⟩
        · exact ⟨_, rfl, h4l, h4z⟩
        · exact ⟨_, rfl, h4l, h4z⟩
        · exact ⟨_, rfl, by decide +kernel, by unfold AZ; decide +kernel⟩
        · exact ⟨_, rfl, by decide +kernel, by unfold AZ; decide +kernel⟩
        · exact ⟨_, rfl, by decide +kernel, by unfold AZ; decide +kernel⟩
      · cases e
    obtain ⟨st, rfl, h5l, h5z⟩ := hd5
    obtain rfl := hv5.str_inv
    have lv3 := k3.lv lv2 n3.ne
    refine sw_parP (M := M) (p := p) (cc := cc) (c1 := 1) (c2 := 1) (b0 := b) 5 6 rfl nd (by decide) (ep_draw (i := 0) (many := ((st.length + 1 : Nat) : Int)) Dr hr (by omega) rfl (fun H k _ => ed_cast (ed_add (ed_lenS G.len (ed_v 4 rfl (.str st)) (by rw [sizeLine_eq]; omega)) ed_int) rfl) (by omega) (by omega)) (ep_draw (i := 0) (many := 26) Dr hr (by omega) rfl (fun H k _ => ed_int) (by decide) (by decide)) hpM n3 fun v6 v7 H4 d6 d7 k4 n4 hd6 hd7 hv6 hv7 => ?_
    obtain ⟨sp, rfl, sp0, sp1⟩ := hd6
    obtain ⟨fr, rfl, fr0, fr1⟩ := hd7
    obtain rfl := hv6.int_inv
    obtain rfl := hv7.int_inv
    have lv4 := k4.lv lv3 n4.ne
    have kk : Kp p H H4 := (Kp.of g1).trans (k2.trans (k3.trans k4))
    refine sw_new 7 nd fun a hna => ?_
    have hHa : H a = none := by
      cases y : H a with
      | none => rfl
      | some o =>
        have : a ≠ p := fun e => by subst e; exact n4.ne hna
        rw [kk a o this y] at hna; cases hna
    have lva : Lv (a :: M) (upd H4 a (.lst [])) := lv4.upd.cons upd_same
    have hnM : a ∉ M := lv4.new hna
    have hap : a ≠ p := fun e => hnM (by rw [e]; exact hpM)
    have npA : Pen p cc b (upd H4 a (.lst [])) := n4.put hap fun e => n4.nc (by rw [← e]; exact hna)
    refine sw_for (M := a :: M) (ls := List.range many) (enc := fun i => .int (i : Nat)) (fs := fun i => [.int (i : Nat)]) PassesOwn.never rfl (src_range G.range (ed_v 1 rfl (.int _)) (by omega)) (pg1 3 nd) tg_name (fun _ _ => rfl) fun H5 g5 => ?_
    refine ⟨fun i σ' H' => (∃ o3 o8, σ' = [some (.ref p), some (.int (many : Nat)), some (.str abc), o3, some (.str st), some (.int sp), some (.int fr), some (.ref a), o8]) ∧ Kp p H H' ∧ Lv (a :: M) H' ∧ Same (hM (a :: M) H5) (hM (a :: M) H') ∧ Pen p cc b H' ∧ ∃ ws : List Str, H' a = some (.lst (ws.map V.str)) ∧ ws.length = i ∧ ∀ x ∈ ws, GN x,
      ⟨⟨none, none, rfl⟩, fun bb o nb hb => g5 _ _ (by rw [upd_ne (ne_of_none hb hHa)]; exact kk bb o nb hb), lva.same g5, Same.refl _, npA.same g5, [], g5 _ _ upd_same, rfl, fun _ h => nomatch h⟩, fun i σ' H' p => ⟨p.2.2.2.1, p.2.2.1⟩, fun i x σ' H' H'' vs hx P gy hvs => ?_, fun σ' H' P => ?_⟩
    · obtain ⟨⟨o3, o8, rfl⟩, p1, p2, p3, p4, ws, p5, p6, p7⟩ := P
      obtain ⟨u, rfl, hu⟩ := hvs.inv1
      obtain rfl := hu.int_inv
      have hil : i < many := by
        have := (List.getElem?_eq_some_iff.mp hx).1
        rwa [List.length_range] at this
      have m0 : 0 ≤ (fr + 5 * (x : Nat)) % 26 := Int.emod_nonneg _ (by decide)
      have m1 : (fr + 5 * (x : Nat)) % 26 < 26 := Int.emod_lt_of_pos _ (by decide)
      obtain ⟨li, hli⟩ := Int.eq_ofNat_of_zero_le m0
      have hll : li < abc.cps.toList.length := by rw [← len_cps, abc_len]; omega
      have z1 : ("q" : Str).length = 1 := by decide +kernel
      have wl := word_len (s := st) (i := sp) abc.cps.toList[li] sp0
      have waz := word_az (s := st) (i := sp) sp0 h5z (abc_az _ (List.getElem_mem hll))
      refine sw_set (M := M) (d := .str (wordS st sp abc.cps.toList[li])) 8 nd (ed_addS (ed_addS (ed_slS (ed_v 4 rfl (.str st)) od_none (od_some (M := M) (ed_v 5 rfl (.int sp))) (by rw [sizeLine_eq]; omega) rfl) (ed_ixStr (i := li) (ed_v 2 rfl (.str abc)) (ed_cast (ed_mod (by decide) (ed_intI G.int (ed_add (ed_v 6 rfl (.int fr)) (ed_mul (.inl ⟨by decide, by decide⟩) ed_int (ed_v 3 rfl (.int _))))) ed_int) (by rw [hli])) (List.getElem?_eq_getElem hll) (by rw [abc_len, sizeLine_eq]; decide)) ?_) (ed_slS (ed_v 4 rfl (.str st)) (od_some (M := M) (ed_v 5 rfl (.int sp))) od_none (by rw [sizeLine_eq]; omega) rfl) ?_) fun v8 H6 g6 hv8 => ?_
      · have wl2 := wl
        unfold wordS at wl2
        rw [len_app, len_app] at wl2
        rw [sizeLine_eq]; omega
      · have wl2 := wl
        unfold wordS at wl2
        rw [len_app] at wl2
        rw [sizeLine_eq]; omega
      · obtain rfl := hv8.str_inv
        have gg := gy.trans g6
        have lv6 := (p2.same gy).same g6
        refine sw_append (M := a :: M) (d := .str (lastS (wordS st sp abc.cps.toList[li]))) 7 mOk_by rfl (gg _ _ p5) List.mem_cons_self (by rw [List.length_map, sizeLine_eq]; omega) (ed_cast (ed_addS (ed_v 8 rfl (.str _)) (ed_mul01 (k := decide (wordS st sp abc.cps.toList[li] ∈ barS)) ed_str (ed_intB G.int (ed_inS (xs := barS) (ed_v 8 rfl (.str _)) (ed_lst lv6 (ad_cons ed_str (ad_cons ed_str (ad_cons ed_str ad_nil))) (by show 3 ≤ sizeLine; decide)) (.inl rfl)))) ?_) ?_) fun v9 H7 g7 hv9 => sw_nil ?_
        · have : (if decide (wordS st sp abc.cps.toList[li] ∈ barS) = true then ("q" : Str) else Str.empty).length ≤ 1 := by
            by_cases c : wordS st sp abc.cps.toList[li] ∈ barS
            · rw [if_pos (decide_eq_true c), z1]; exact Nat.le_refl _
            · rw [if_neg fun z => c (of_decide_eq_true z)]; exact Nat.zero_le _
          rw [wl, sizeLine_eq]; omega
        · unfold lastS
          by_cases c : wordS st sp abc.cps.toList[li] ∈ barS
          · rw [if_pos (decide_eq_true c), if_pos c]
          · rw [if_neg fun z => c (of_decide_eq_true z), if_neg c]
        · obtain rfl := hv9.str_inv
          have gA := gg.trans g7
          have hac : a ≠ cc := fun e => n4.nc (by rw [← e]; exact hna)
          refine ⟨⟨_, _, rfl⟩, fun bb o nb hb => ?_, (p2.same gA).upd, ?_, (p4.same gA).put hap hac, ws ++ [lastS (wordS st sp abc.cps.toList[li])], ?_, by rw [List.length_append, p6]; rfl, fun x hx => ?_⟩
          · have na' : bb ≠ a := ne_of_none hb hHa
            rw [upd_ne na']
            exact gA _ _ (p1 bb o nb hb)
          · rw [hM_upd List.mem_cons_self]
            exact p3.trans (same_hM gA)
          · rw [List.map_append]
            exact upd_same
          · rcases List.mem_append.mp hx with y | y
            · exact p7 x y
            · rw [List.mem_singleton.mp y]
              exact last_ok (by rw [wl]; omega) (by rw [wl]; omega) waz
    · obtain ⟨⟨o3, o8, rfl⟩, p1, p2, p3, p4, ws, p5, p6, p7⟩ := P
      rw [List.length_range] at p6
      refine sw_ret (M := M) (ed_v 7 rfl (da_lst_at p5 hnM (.ofStrs ws))) fun v H8 g8 hv => q v H8 ws (p1.trans (Kp.of g8)) (p4.same g8) p6 p7 hv
end
end S6

/-! W29: more rules for what draws. -/
namespace S6
open PySem PySem.Spec PyProof.Rows L2
/-- a list of expressions, each may draw -/
def AP (X : Cx) (σ : L2.St) (M : List Addr) (p cc : Addr) (c : Nat) (H0 : Hp) (es : List Expr) (Pd : List PyData → Prop) : Prop := ∀ H b, Kp p H0 H → Pen p cc (b + c) H → AW X es σ H fun vs H' => Kp p H H' ∧ Pen p cc b H' ∧ ∃ ds, Pd ds ∧ DaAll X.K (hM M H') vs ds
section
variable {X : Cx} {σ : L2.St} {M : List Addr} {H0 H : Hp} {e a b o : Expr} {es : List Expr} {d : PyData} {pos q1 : Pos} {p cc : Addr} {c c1 c2 j n : Nat} {Pd Pa Pb : PyData → Prop} {Ps : List PyData → Prop} {D : Ends} {rest : List Stmt}
theorem ap_nil : AP X σ M p cc 0 H0 [] (fun ds => ds = []) := fun H b k pn => aw_of pa_nil ⟨Kp.refl _ _, pn, [], rfl, .nil⟩
theorem ap_cons (hpM : p ∈ M) (h : EP X σ M p cc c1 H0 a Pa) (r : AP X σ M p cc c2 H0 es Ps) (hs : starEach (a :: es) X.env = (false, eval a X.env) :: starEach es X.env := by rfl) : AP X σ M p cc (c2 + c1) H0 (a :: es) (fun ds => ∃ d ds', ds = d :: ds' ∧ Pa d ∧ Ps ds') := fun H b k pn =>
  aw_of (pa_cons pe_w pa_w hs) ((h H (b + c2) k (pn.le (by omega))).mono fun v H1 ⟨k1, n1, d, hd, hv⟩ => (r H1 b (k.trans k1) n1).mono fun vs H2 ⟨k2, n2, ds, hds, hvs⟩ => ⟨k1.trans k2, n2, d :: ds, ⟨d, ds, rfl, hd, hds⟩, .cons (hv.mono (k2.hM hpM)) hvs⟩)
theorem AP.imp {Ps' : List PyData → Prop} (h : AP X σ M p cc c H0 es Ps) (g : ∀ d, Ps d → Ps' d) (l : c ≤ c1) : AP X σ M p cc c1 H0 es Ps' := fun H b k n => (h H b k (n.le (by omega))).mono fun v H' ⟨k1, n1, d, h1, h2⟩ => ⟨k1, n1, d, g d h1, h2⟩
theorem ep_tup {x1} (lv : Lv M H0) (h : AP X σ M p cc c H0 es Ps) (hz : ∀ ds, Ps ds → ds.length ≤ sizeLine) : EP X σ M p cc c H0 (.Tuple es x1 pos) (fun d => ∃ ds, d = .tuple ds ∧ Ps ds) := fun H b k pn =>
  ew_of (pe_tup pa_w) ((h H b k pn).mono fun vs H1 ⟨k1, n1, ds, hds, hvs⟩ => ⟨by rw [hvs.len]; exact hz ds hds, fun r hr =>
    ⟨fun y o ny hy => by rw [upd_ne (ne_of_none (k1 y o ny hy) hr)]; exact k1 y o ny hy, n1.same (same_new hr), _, ⟨ds, rfl, hds⟩, da_tup (k1.lv (k.lv lv pn.ne) n1.ne) hr hvs⟩⟩)
theorem ep_lst (lv : Lv M H0) (h : AP X σ M p cc c H0 es Ps) (hz : ∀ ds, Ps ds → ds.length ≤ sizeLine) : EP X σ M p cc c H0 (.List es pos) (fun d => ∃ ds, d = .list ds ∧ Ps ds) := fun H b k pn =>
  ew_of (pe_lst pa_w) ((h H b k pn).mono fun vs H1 ⟨k1, n1, ds, hds, hvs⟩ => ⟨by rw [hvs.len]; exact hz ds hds, fun r hr =>
    ⟨fun y o ny hy => by rw [upd_ne (ne_of_none (k1 y o ny hy) hr)]; exact k1 y o ny hy, n1.same (same_new hr), _, ⟨ds, rfl, hds⟩, da_lst (k1.lv (k.lv lv pn.ne) n1.ne) hr hvs⟩⟩)
/-- an int made of a drawn one -/
theorem ep_opI {op : Operator} {f : Int → Int → Int} {i : Int} (hop : OpR X (binaryOp op) (rI0 fun x y => .int (f x y))) (ha : ∀ H, Kp p H0 H → H p ≠ none → ED X σ M H a (.int i)) (hb : EP X σ M p cc c H0 b Pb) (hi : ∀ d, Pb d → ∃ k : Int, d = .int k) : EP X σ M p cc c H0 (.BinOp a op b pos) (fun d => ∃ k : Int, d = .int (f i k) ∧ Pb (.int k)) := fun H bb k pn =>
  ew_of (pe_op hop pe_w pe_w) ((ha H k pn.ne H (Same.refl H)).mono fun v H1 ⟨g1, hv⟩ => ((hb.from (k.trans (Kp.of g1))) H1 bb (Kp.refl _ _) (pn.same g1)).mono fun v2 H2 ⟨k2, n2, d2, hd2, hv2⟩ => by
    obtain ⟨z, rfl⟩ := hi d2 hd2
    exact ⟨i, z, hv.int_inv, hv2.int_inv, (Kp.of g1).trans k2, n2, _, ⟨z, rfl, hd2⟩, .int _⟩)
/-- x.append(e), e draws, x the list at a1, which is left out -/
theorem sw_appendP {a1 : Addr} {xs : List V} {x : Str} {p1 apos spos : Pos} {bb : Nat} (i : Nat) (k : MOk X x "append" e p1 apos pos spos) (hv : σ[i]? = some (some (.ref a1))) (ha : H a1 = some (.lst xs)) (hM0 : a1 ∈ M) (hap : a1 ≠ p) (hz : xs.length < sizeLine) (h : EP X σ M p cc c H e Pd) (n : Pen p cc (bb + c) H)
    (q : ∀ v H' d, Kp p H H' → Pen p cc bb H' → Pd d → Da X.K (hM M (upd H' a1 (.lst (xs ++ [v])))) v d → SW X rest D σ (upd H' a1 (.lst (xs ++ [v])))) (hN : X.N[i]? = some x := by rfl) :
    SW X (.Expr (.Call (.Attribute (.Name x p1) "append" apos) [e] [] pos) spos :: rest) D σ H := by
  refine sw_1 (ps_expr (pe_bm PySem.F.plainAttrs_list PySem.F.slot_list_append PySem.F.type_list_append mt_append (pv i hN k.hs k.hb k.hb2) (pa_cons pe_w pa_nil k.he) k.hbase k.hfew k.hline k.he k.hpl) k.hsw) ?_
  refine ⟨.ref a1, hv, .inl ⟨rfl, _, SqL.of ha⟩, h.at n fun v H' d k1 n1 hd z => ⟨a1, _, v, rfl, rfl, k1 _ _ hap ha, hz, q v H' d k1 n1 hd ?_⟩⟩
  rw [hM_upd hM0]
  exact z
/-- x, y = e, [] -/
theorem sw_parNew {x y : Str} {px py pt pt2 pl : Pos} {kt k2 : Nat} (i j : Nat) (hc : X.calm = true) (nd : X.N.Nodup) (hij : i ≠ j) (h : ED X σ M H a d)
    (q : ∀ v r H', Same H H' → H' r = none → Da X.K (hM M H') v d → SW X rest D ((σ.set i (some v)).set j (some (.ref r))) (upd H' r (.lst []))) (hi : X.N[i]? = some x := by rfl) (hj : X.N[j]? = some y := by rfl)
    (hx : X.env.scope.names.lookup x = some .local := by rfl) (hy : X.env.scope.names.lookup y = some .local := by rfl) (hw : swappedStores [.Tuple [.Name x px, .Name y py] kt pt] (.Tuple [a, .List [] pl] k2 pt2) X.env = pure (some [x, y]) := by rfl)
    (hs : swapsWithSole [.Tuple [.Name x px, .Name y py] kt pt] (.Tuple [a, .List [] pl] k2 pt2) pos.line X.env = pure false := by rfl) (na : starEach [a, .List [] pl] X.env = (false, eval a X.env) :: starEach [.List [] pl] X.env := by rfl) (nb : starEach [Expr.List [] pl] X.env = (false, eval (.List [] pl) X.env) :: starEach [] X.env := by rfl) : SW X (.Assign [.Tuple [.Name x px, .Name y py] kt pt] (.Tuple [a, .List [] pl] k2 pt2) pos :: rest) D σ H :=
  sw_1 (ps_par hc nd hi hj hij hx hy (pa_cons pe_w (pa_cons (pe_lst pa_nil) pa_nil nb) na) hw hs) ((h H (Same.refl H)).mono fun v H1 ⟨g1, hv⟩ => ⟨Nat.zero_le _, fun r hr => ⟨v, .ref r, rfl, q v r H1 g1 hr hv⟩⟩)
/-- for x in range(e): e draws -/
theorem sw_forR {x : Str} {px q1 q2 : Pos} {body : List Stmt} {bb m0 i0 : Nat} (nd : X.N.Nodup) (hp : PassesOwn (model X.prog X.w) X.A X.env X.xe) (hc : X.calm = true) (hm : X.mg "range" = none) (he : EP X σ M p cc c H e (fun d => ∃ m : Nat, d = .int (m : Nat) ∧ m ≤ m0)) (hm0 : m0 < 1000000) (n : Pen p cc (bb + c) H) (hg : PG X (.Name x px) (gName i0))
    (q : ∀ m H1, m ≤ m0 → Kp p H H1 → Pen p cc bb H1 → ∃ Pv : Nat → L2.St → Hp → Prop, Pv 0 σ H1 ∧ (∀ i σ' H', i < m → Pv i σ' H' → SW X body { D with nx := Pv (i + 1), ct := Pv (i + 1), bk := fun σ H => SW X rest D σ H } (σ'.set i0 (some (.int (i : Nat)))) H') ∧ ∀ σ' H', Pv m σ' H' → SW X rest D σ' H')
    (hg2 : Gl X "range" := by rfl) (hs2 : starEach [e] X.env = [(false, eval e X.env)] := by rfl) (hs : ∀ z, foldedSetIterable (.Call (.Name "range" q1) [e] [] q2) X.env z = pure z := by intro _; rfl) : SW X (.For (.Name x px) (.Call (.Name "range" q1) [e] [] q2) body [] pos :: rest) D σ H := by
  refine sw_1 (ps_for hp hc (pi_range1 hg2 hm (pa_cons pe_w pa_nil (by rw [hs2]; rfl)) hs2) hg pss_w hs) ?_
  refine he.at n fun v H1 d k1 n1 hd hv => ?_
  obtain ⟨m, rfl, hmn⟩ := hd
  obtain rfl := hv.int_inv
  obtain ⟨Pv, p0, pt, pe⟩ := q m H1 hmn k1 n1
  have e3 : (m : Int).toNat = m := Int.toNat_natCast m
  have fin := for_it (walk_range (lo := 0) (n := m)) (g := gName i0) (tb := fun D σ H => SW X body D σ H) (D := { D with nx := fun σ H => SW X rest D σ H }) Pv p0 (fun _ _ _ _ _ => trivial) (fun i u σ' H' H'' hi P y => by
    obtain ⟨rfl, rfl⟩ := y
    show SW X body _ (List.set σ' i0 (some (V.int (0 + ((i : Nat) : Int))))) H''
    rw [Int.zero_add]
    exact pt i σ' _ hi P) pe
  first
    | exact ⟨(m : Int), rfl, by omega, by omega, by rw [e3]; exact fin⟩
    | exact ⟨(m : Int), rfl, by decide, by omega, by rw [e3]; exact fin⟩
    | exact ⟨(m : Int), rfl, by rw [e3]; exact fin⟩
/-- a product made of a drawn int -/
theorem ep_mulI {i : Int} (ha : ∀ H, Kp p H0 H → H p ≠ none → ED X σ M H a (.int i)) (hb : EP X σ M p cc c H0 b Pb) (hi : ∀ d, Pb d → ∃ k : Int, d = .int k ∧ CMul i k) : EP X σ M p cc c H0 (.BinOp a .Mult b pos) (fun d => ∃ k : Int, d = .int (i * k) ∧ Pb (.int k)) := fun H bb k pn =>
  ew_of (pe_op op_mul pe_w pe_w) ((ha H k pn.ne H (Same.refl H)).mono fun v H1 ⟨g1, hv⟩ => ((hb.from (k.trans (Kp.of g1))) H1 bb (Kp.refl _ _) (pn.same g1)).mono fun v2 H2 ⟨k2, n2, d2, hd2, hv2⟩ => by
    obtain ⟨z, rfl, hc⟩ := hi d2 hd2
    exact ⟨i, z, hv.int_inv, hv2.int_inv, hc, (Kp.of g1).trans k2, n2, _, ⟨z, rfl, hd2⟩, .int _⟩)
/-- _law_pick(pen, e), e draws -/
theorem ep_pickP {Pe : PyData → Prop} {i : Nat} {x : Str} (cl : Cl X.prog X.w X.K X.mg X.base 2 "_law_pick" (spPk X.K)) (hr : Room j X.A) (hj : 2 ≤ j) (hpM : p ∈ M) (lv : Lv M H0) (hv : σ[i]? = some (some (.ref p))) (he : EP X σ M p cc c H0 e Pe) (hpk : ∀ d, Pe d → pickable d) (hN : X.N[i]? = some x := by rfl) (hs : Vis X.env.scope x := by first | exact Or.inl rfl | exact Or.inr (Or.inl rfl) | exact Or.inr (Or.inr rfl))
    (hb : (x == ("__debug__" : Str)) = false := by decide) (hb2 : (x == ("__classdict__" : Str)) = false := by decide) (hg : Gl X "_law_pick" := by rfl) (na : starEach [.Name x q1, e] X.env = (false, eval (.Name x q1) X.env) :: starEach [e] X.env := by rfl) (nb : starEach [e] X.env = (false, eval e X.env) :: starEach [] X.env := by rfl) (hpl : (backTo pos (starEach [e] X.env)).any (·.1) = false := by rfl) {q2 : Pos} :
    EP X σ M p cc (c + 1) H0 (.Call (.Name "_law_pick" q2) [.Name x q1, e] [] pos) (fun d => ∃ e1, Pe e1 ∧ picked e1 d) := fun H b k n => by
  refine ew_of (pe_cl cl hr hj hg (pa_cons (pv i hN hs hb hb2) (pa_cons pe_w pa_nil nb) na) (by decide) na hpl) ⟨.ref p, hv, (he H (b + 1) k (n.le (by omega))).mono fun v H1 ⟨k1, n1, e1, he1, z⟩ => ?_⟩
  exact ⟨p, cc, M, b, v, e1, rfl, hpM, (k.trans k1).lv lv n1.ne, z, hpk e1 he1, n1, fun v' H' d k2 n2 h1 h2 => ⟨k1.trans k2, n2, d, ⟨e1, he1, h1⟩, h2⟩⟩
/-- e[n], e a tuple -/
theorem ep_ixT {n : Nat} (he : EP X σ M p cc c H0 e (fun d => ∃ ds z, d = .tuple ds ∧ ds[n]? = some z ∧ Pd z)) {j0 : Nat} : EP X σ M p cc c H0 (.Subscript e (.Constant (.int (n : Nat)) j0 q1) pos) Pd := fun H b k pn =>
  ew_of (pe_ix ix_tup pe_w pe_int (fun _ _ => rfl)) ((he H b k pn).mono fun v H1 ⟨k1, n1, d, ⟨ds, z, e1, e2, hz⟩, hv⟩ => by
    subst e1
    obtain ⟨a1, xs, rfl, hq, hx⟩ := hv.tup_inv
    obtain ⟨u, hu, hud⟩ := hx.get e2
    exact ⟨a1, xs, n, u, rfl, rfl, hq.ext hM_sub, atI_nat hu, k1, n1, z, hz, hud⟩)
/-- e[:n], e a list -/
theorem ep_take {n : Nat} {q2 : Pos} (lv : Lv M H0) (he : EP X σ M p cc c H0 e (fun d => ∃ ds, d = .list ds ∧ Ps ds)) {j0 : Nat} : EP X σ M p cc c H0 (.Subscript e (.Slice none (some (.Constant (.int (n : Nat)) j0 q1)) none q2) pos) (fun d => ∃ ds, d = .list (ds.take n) ∧ Ps ds) := fun H b k pn =>
  ew_of (pe_slice sl_list pe_w po_none (po_some pe_int)) ((he H b k pn).mono fun v H1 ⟨k1, n1, d, ⟨ds, e1, hds⟩, hv⟩ => by
    subst e1
    obtain ⟨a1, xs, rfl, hq, hx⟩ := hv.lst_inv
    refine ⟨n, rfl, a1, xs, rfl, SqL.of (hM_sub _ _ hq), fun r hr => ⟨fun y o ny hy => by rw [upd_ne (ne_of_none (k1 y o ny hy) hr)]; exact k1 y o ny hy, n1.same (same_new hr), _, ⟨ds, rfl, hds⟩, ?_⟩⟩
    have h2 := da_lst (K := X.K) ((k.trans k1).lv lv n1.ne) hr (hx.cut none (some (n : Int)))
    rw [HT.sIx_nat, HT.sIx_none, List.drop_zero, Nat.sub_zero] at h2
    have e3 : ds.take (min n ds.length) = ds.take n := by
      by_cases hi : n ≤ ds.length
      · rw [show min n ds.length = n by omega]
      · rw [List.take_of_length_le (by omega), List.take_of_length_le (by omega)]
    rw [e3] at h2
    exact h2)
/-- e[b:], e a list, b draws -/
theorem ep_dropP {ds : List PyData} {q2 : Pos} (lv : Lv M H0) (hpM : p ∈ M) (he : ∀ H, Kp p H0 H → H p ≠ none → ED X σ M H e (.list ds)) (hb : EP X σ M p cc c H0 b Pb) (hi : ∀ d, Pb d → ∃ k : Nat, d = .int (k : Nat)) : EP X σ M p cc c H0 (.Subscript e (.Slice (some b) none none q2) pos) (fun d => ∃ k : Nat, d = .list (ds.drop k)) := fun H bb k pn =>
  ew_of (pe_slice sl_list pe_w (po_some pe_w) po_none) ((he H k pn.ne H (Same.refl H)).mono fun v H1 ⟨g1, hv⟩ => ((hb.from (k.trans (Kp.of g1))) H1 bb (Kp.refl _ _) (pn.same g1)).mono fun v2 H2 ⟨k2, n2, d2, hd2, hv2⟩ => by
    obtain ⟨n, rfl⟩ := hi d2 hd2
    obtain ⟨a1, xs, rfl, hq, hx⟩ := hv.lst_inv
    have kk : Kp p H H2 := (Kp.of g1).trans k2
    have hx2 := hx.mono (k2.hM hpM)
    refine ⟨n, hv2.int_inv, a1, xs, rfl, SqL.of (hM_sub _ _ (k2.hM hpM _ _ hq)), fun r hr => ⟨fun y o ny hy => by rw [upd_ne (ne_of_none (kk y o ny hy) hr)]; exact kk y o ny hy, n2.same (same_new hr), _, ⟨n, rfl⟩, ?_⟩⟩
    have h2 := da_lst (K := X.K) ((k.trans kk).lv lv n2.ne) hr (hx2.cut (some (n : Int)) none)
    rw [HT.sIx_nat, HT.sIx_none] at h2
    have e3 : (ds.drop (min n ds.length)).take (ds.length - min n ds.length) = ds.drop n := by
      by_cases hi : n ≤ ds.length
      · rw [show min n ds.length = n by omega]
        exact List.take_of_length_le (by rw [List.length_drop]; omega)
      · rw [List.drop_of_length_le (by omega), List.drop_of_length_le (by omega), List.take_nil]
    rw [e3] at h2
    exact h2)
/-- a + b, lists, b draws -/
theorem ep_catL {ds : List PyData} (lv : Lv M H0) (hpM : p ∈ M) (ha : ∀ H, Kp p H0 H → H p ≠ none → ED X σ M H a (.list ds)) (hb : EP X σ M p cc c H0 b (fun d => ∃ es, d = .list es ∧ Ps es)) (hz : ∀ es, Ps es → ds.length + es.length ≤ sizeLine) : EP X σ M p cc c H0 (.BinOp a .Add b pos) (fun d => ∃ es, d = .list (ds ++ es) ∧ Ps es) := fun H bb k pn =>
  ew_of (pe_op op_cat pe_w pe_w) ((ha H k pn.ne H (Same.refl H)).mono fun v H1 ⟨g1, hv⟩ => ((hb.from (k.trans (Kp.of g1))) H1 bb (Kp.refl _ _) (pn.same g1)).mono fun v2 H2 ⟨k2, n2, d2, ⟨es, e2, hes⟩, hv2⟩ => by
    subst e2
    obtain ⟨a1, xs, rfl, hq, hx⟩ := hv.lst_inv
    obtain ⟨a2, ys, rfl, hq2, hy⟩ := hv2.lst_inv
    have kk : Kp p H H2 := (Kp.of g1).trans k2
    have hx2 := hx.mono (k2.hM hpM)
    exact ⟨a1, a2, xs, ys, rfl, rfl, hM_sub _ _ (k2.hM hpM _ _ hq), hM_sub _ _ hq2, by rw [hx.len, hy.len]; exact hz es hes, fun r hr => ⟨fun y o ny hy => by rw [upd_ne (ne_of_none (kk y o ny hy) hr)]; exact kk y o ny hy, n2.same (same_new hr), _, ⟨es, rfl, hes⟩, da_lst ((k.trans kk).lv lv n2.ne) hr (hx2.append hy)⟩⟩)
/-- a + b, lists, a draws -/
theorem ep_catR {es : List PyData} (lv : Lv M H0) (ha : EP X σ M p cc c H0 a (fun d => ∃ ds, d = .list ds ∧ Ps ds)) (hb : ∀ H, Kp p H0 H → H p ≠ none → ED X σ M H b (.list es)) (hz : ∀ ds, Ps ds → ds.length + es.length ≤ sizeLine) : EP X σ M p cc c H0 (.BinOp a .Add b pos) (fun d => ∃ ds, d = .list (ds ++ es) ∧ Ps ds) := fun H bb k pn =>
  ew_of (pe_op op_cat pe_w pe_w) ((ha H bb k pn).mono fun v H1 ⟨k1, n1, d1, ⟨ds, e1, hds⟩, hv⟩ => (hb H1 (k.trans k1) n1.ne H1 (Same.refl H1)).mono fun v2 H2 ⟨g2, hv2⟩ => by
    subst e1
    obtain ⟨a1, xs, rfl, hq, hx⟩ := hv.lst_inv
    obtain ⟨a2, ys, rfl, hq2, hy⟩ := hv2.lst_inv
    have kk : Kp p H H2 := k1.trans (Kp.of g2)
    have hx2 := hx.mono (same_hM (M := M) g2)
    exact ⟨a1, a2, xs, ys, rfl, rfl, g2 _ _ (hM_sub _ _ hq), hM_sub _ _ hq2, by rw [hx.len, hy.len]; exact hz ds hds, fun r hr => ⟨fun y o ny hy => by rw [upd_ne (ne_of_none (kk y o ny hy) hr)]; exact kk y o ny hy, (n1.same g2).same (same_new hr), _, ⟨ds, rfl, hds⟩, da_lst ((k.trans kk).lv lv (n1.same g2).ne) hr (hx2.append hy)⟩⟩)
end
end S6

/-! W30: the law's net. -/
namespace S6
open PySem PySem.Spec PyProof.Rows L2
/-- names that a pick may take -/
structure Nms (ws : List Str) : Prop where
  ne : ws ≠ []
  len : ws.length < 1000
  gn : ∀ x ∈ ws, GN x
theorem Nms.pk {ws : List Str} (h : Nms ws) : pickable (.list (ws.map .str)) := .inl ⟨_, rfl, fun z => h.ne (List.map_eq_nil_iff.mp z), by rw [List.length_map]; have := h.len; omega⟩
theorem Nms.of {ws : List Str} (h : Nms ws) {d : PyData} (g : picked (.list (ws.map .str)) d) : ∃ x, d = .str x ∧ GN x := by
  rcases g with ⟨ds, e, hd⟩ | ⟨x, k, e, _⟩
  · cases e
    obtain ⟨x, hx, rfl⟩ := List.mem_map.mp hd
    exact ⟨x, rfl, h.gn x hx⟩
  · cases e
theorem pick_int {js : List Int} {d : PyData} (g : picked (.list (js.map .int)) d) : ∃ j, d = .int j ∧ j ∈ js := by
  rcases g with ⟨ds, e, hd⟩ | ⟨x, k, e, _⟩
  · cases e
    obtain ⟨x, hx, rfl⟩ := List.mem_map.mp hd
    exact ⟨x, rfl, hx⟩
  · cases e
theorem pick_mem {ds : List PyData} {d : PyData} (g : picked (.list ds) d) : d ∈ ds := by
  rcases g with ⟨ds, e, hd⟩ | ⟨x, k, e, _⟩
  · cases e; exact hd
  · cases e
def spNt (K : Frg) : Sp := fun vs H Q _ => ∃ p cc M b v ws room, vs = [.ref p, v, .int ((room : Nat) : Int)] ∧ p ∈ M ∧ Lv M H ∧ Da K (hM M H) v (.list (ws.map .str)) ∧ Nms ws ∧ Pen p cc (b + 44) H ∧
  ∀ v' H' (ls : List Lk), Kp p H H' → Pen p cc b H' → ls.length ≤ room → ls.length ≤ 14 → (∀ l ∈ ls, GL l) → Da K (hM M H') v' (Shp.net ls).dL → Q v' H'
section
variable {P : Program} {w : World} {K : Frg} {mg : Str → Option Value} {base : Heap} {aO aS aB : Addr}
theorem c_net (G : Glo K mg aO aS aB) (D : Dfn K mg "_law_net" s_law_net) (Pk : Cl P w K mg base 2 "_law_pick" (spPk K)) : Cl P w K mg base 3 "_law_net" (spNt K) := by
  refine cl_w D (fun _ _ _ _ _ _ us hl => match us, hl with | [_, _, _], _ => rfl) sc_law_net (fun vs H Q E h => by obtain ⟨_, _, _, _, _, _, _, rfl, _⟩ := h; rfl) fun fa cdv A outer s H vs Q E hr h => ?_
  obtain ⟨p, cc, M, b, v1, ws, room, rfl, hpM, lv, hv1, hw, hn, q⟩ := h
  have nd := sc_law_net.nd
  refine sw_setP (M := M) (p := p) (cc := cc) (c := 1) (b := b + 43) 3 nd ((ep_pick (i := 0) Pk hr (Nat.le_refl _) hpM lv rfl (e1 := .list [.list [.int 2, .int 3], .list [.int 2, .int 3, .int 4], .list [.int 99, .int 7, .int 40], .list [.int 2], .list []]) (fun H k l => ed_lst l (ad_cons (ed_lst l (ad_cons ed_int (ad_cons ed_int ad_nil)) (by show 2 ≤ sizeLine; decide)) (ad_cons (ed_lst l (ad_cons ed_int (ad_cons ed_int (ad_cons ed_int ad_nil))) (by show 3 ≤ sizeLine; decide)) (ad_cons (ed_lst l (ad_cons ed_int (ad_cons ed_int (ad_cons ed_int ad_nil))) (by show 3 ≤ sizeLine; decide)) (ad_cons (ed_lst l (ad_cons ed_int ad_nil) (by show 1 ≤ sizeLine; decide)) (ad_cons (ed_lst l ad_nil (Nat.zero_le _)) ad_nil))))) (by show 5 ≤ sizeLine; decide)) (.inl ⟨_, rfl, by simp, by show 5 < 1000000; decide⟩)).imp (Pd' := fun d => ∃ js : List Int, d = .list (js.map .int) ∧ js.length ≤ 3 ∧ ∀ j ∈ js, 0 ≤ j ∧ j ≤ 99) (fun d hd => ?_) (Nat.le_refl _)) (hn.le (by omega)) fun v3 H1 d3 k1 n1 hd3 hv3 => ?_
  · have hd := pick_mem hd
    simp only [List.mem_cons, List.not_mem_nil, or_false] at hd
    rcases hd with rfl | rfl | rfl | rfl | rfl
    · exact ⟨[2, 3], rfl, by decide, by decide⟩
    · exact ⟨[2, 3, 4], rfl, by decide, by decide⟩
    · exact ⟨[99, 7, 40], rfl, by decide, by decide⟩
    · exact ⟨[2], rfl, by decide, by decide⟩
    · exact ⟨[], rfl, by decide, by decide⟩
  obtain ⟨js, rfl, hjl, hj⟩ := hd3
  have lv1 := k1.lv lv n1.ne
  refine sw_setP (M := M) (p := p) (cc := cc) (c := 1) (b := b + 42) 4 nd ((ep_pick (i := 0) Pk hr (Nat.le_refl _) hpM lv1 rfl (e1 := .list (([1, 2, 3, 5, 7, 14] : List Int).map .int)) (fun H k l => ed_lst l (ad_cons ed_int (ad_cons ed_int (ad_cons ed_int (ad_cons ed_int (ad_cons ed_int (ad_cons ed_int ad_nil)))))) (by show 6 ≤ sizeLine; decide)) (.inl ⟨_, rfl, by simp, by show 6 < 1000000; decide⟩)).imp (Pd' := fun d => ∃ m : Nat, d = .int (m : Nat) ∧ m ≤ 14) (fun d hd => ?_) (Nat.le_refl _)) n1 fun v4 H2 d4 k2 n2 hd4 hv4 => ?_
  · obtain ⟨j, rfl, hj⟩ := pick_int hd
    simp only [List.mem_cons, List.not_mem_nil, or_false] at hj
    exact ⟨j.toNat, by rw [Int.toNat_of_nonneg (by omega)], by omega⟩
  obtain ⟨m, rfl, hm⟩ := hd4
  obtain rfl := hv4.int_inv
  have lv2 := k2.lv lv1 n2.ne
  have kk2 : Kp p H H2 := k1.trans k2
  have hv12 : Da K (hM M H2) v1 (.list (ws.map .str)) := hv1.mono (kk2.hM hpM)
  have hv32 : Da K (hM M H2) v3 (.list (js.map .int)) := hv3.mono (k2.hM hpM)
  refine sw_new 5 nd fun a hna => ?_
  have hnM : a ∉ M := lv2.new hna
  have hap : a ≠ p := fun e => hnM (by rw [e]; exact hpM)
  have hac : a ≠ cc := fun e => n2.nc (by rw [← e]; exact hna)
  have hHa : H a = none := by
    cases y : H a with
    | none => rfl
    | some o => rw [kk2 a o hap y] at hna; cases hna
  have hpA : p ∈ a :: M := List.mem_cons_of_mem _ hpM
  refine sw_forR (M := a :: M) (p := p) (cc := cc) (c := 0) (bb := b + 42) (m0 := 14) (i0 := 6) nd PassesOwn.never rfl G.range ((ep_of (d := .int (m : Nat)) fun H k _ => ed_v 4 rfl (.int _)).imp (fun d hd => ⟨m, hd, hm⟩) (Nat.le_refl _)) (by decide) (n2.put hap hac) (pg1 6 nd) fun mm H5 hmm k5 n5 => ?_
  have lv5 : Lv (a :: M) H5 := k5.lv (lv2.upd.cons upd_same) n5.ne
  refine ⟨fun i σ' H' => (∃ o6 o7, σ' = [some (.ref p), some v1, some (.int (room : Nat)), some v3, some (.int (m : Nat)), some (.ref a), o6, o7]) ∧ Kp p H H' ∧ Lv (a :: M) H' ∧ Pen p cc (b + (14 - i) * 3) H' ∧ Same (hM M H2) (hM (a :: M) H') ∧ ∃ (ls : List Lk) (xs : List V), H' a = some (.lst xs) ∧ DaAll K (hM (a :: M) H') xs (ls.map lkD) ∧ ls.length ≤ i ∧ ls.length ≤ room ∧ ∀ l ∈ ls, GL l,
    ⟨⟨none, none, rfl⟩, fun y o ny hy => k5 y o ny (by rw [upd_ne (ne_of_none hy hHa)]; exact kk2 y o ny hy), lv5, n5, (same_skip (same_new hna) hna).trans (k5.hM hpA), [], [], k5 a _ hap upd_same, .nil, Nat.zero_le _, Nat.zero_le _, fun l hl => nomatch hl⟩, fun i σ' H' hi P => ?_, fun σ' H' P => ?_⟩
  · obtain ⟨⟨o6, o7, rfl⟩, p1, p2, p3, p4, ls, xs, p5, p6, p7, p8, p9⟩ := P
    refine sw_if (td_lt (M := a :: M) (ed_v 6 rfl (.int _)) (ed_v 2 rfl (.int _))) (fun z H6 g6 => ?_) fun z H6 g6 => sw_nil (sw_nil ⟨⟨_, _, rfl⟩, p1.trans (Kp.of g6), p2.same g6, (p3.same g6).le (by omega), p4.trans (same_hM g6), ls, xs, g6 _ _ p5, p6.mono (same_hM g6), by omega, p8, p9⟩)
    have hir : i < room := by have := of_decide_eq_true z; omega
    have lv6 := p2.same g6
    have hb : b + (14 - i) * 3 = b + (14 - (i + 1)) * 3 + 1 + 2 := by
      have : 14 - i = (14 - (i + 1)) + 1 := by omega
      rw [this]; omega
    have n6 : Pen p cc (b + (14 - (i + 1)) * 3 + 1 + 2) H6 := hb ▸ p3.same g6
    have s6 : Same (hM M H2) (hM (a :: M) H6) := p4.trans (same_hM g6)
    have E1 : ∀ {pos q1 q2 q3 q4 q5 q6 q7 : Pos} {k0 j1 j2 : Nat}, EP (cxOf L2.CX0 P w K mg base n_law_net "_law_net" (defScope s_law_net) fa cdv A outer s H E).nox [some (.ref p), some v1, some (.int (room : Nat)), some v3, some (.int (m : Nat)), some (.ref a), some (.int (i : Nat)), o7] (a :: M) p cc 1 H6
        (.Call (.Name "_law_pick" q1) [.Name "_law_pen_here" q2, .BinOp (.List [.Constant (.int 0) j1 q3, .Constant (.int 1) j2 q4] q5) .Add (.Name "_law_inner" q6) q7] [] pos) (fun d => ∃ j : Int, d = .int j ∧ 0 ≤ j ∧ j ≤ 99) := fun {pos q1 q2 q3 q4 q5 q6 q7 k0 j1 j2} =>
      (ep_pick (i := 0) Pk hr (Nat.le_refl _) hpA lv6 rfl (e1 := .list ((0 :: 1 :: js).map .int)) (fun H k l => ed_cast (ed_cat l (ed_lst l (ad_cons ed_int (ad_cons ed_int ad_nil)) (by show 2 ≤ sizeLine; decide)) (ed_v 3 rfl (hv32.mono (s6.trans (k.hM hpA)))) (by rw [List.length_map, sizeLine_eq]; show 2 + _ ≤ _; omega)) rfl) (.inl ⟨_, rfl, by simp, by rw [List.length_map, List.length_cons, List.length_cons]; omega⟩)).imp (fun d hd => by
        obtain ⟨j, rfl, hjm⟩ := pick_int hd
        refine ⟨j, rfl, ?_⟩
        rcases List.mem_cons.mp hjm with e | hjm
        · omega
        · rcases List.mem_cons.mp hjm with e | hjm
          · omega
          · exact hj j hjm) (Nat.le_refl _)
    refine sw_setP (M := a :: M) (p := p) (cc := cc) (c := 2) (b := b + (14 - (i + 1)) * 3 + 1) 7 nd ((ep_lst lv6 (ap_cons hpA (E1 (k0 := 0)) (ap_cons hpA (E1 (k0 := 0)) ap_nil)) (fun ds hds => by
      obtain ⟨_, _, rfl, _, _, _, rfl, _, rfl⟩ := hds
      show 2 ≤ sizeLine; decide)).imp (fun _ h => h) (by decide)) n6 fun v7 H7 d7 k7 n7 hd7 hv7 => ?_
    obtain ⟨ds, rfl, _, _, rfl, ⟨j1, rfl, hj1⟩, _, _, rfl, ⟨j2, rfl, hj2⟩, rfl⟩ := hd7
    have lv7 := k7.lv lv6 n7.ne
    have s7 := s6.trans (k7.hM hpA)
    have p57 := k7 _ _ hap (g6 _ _ p5)
    refine sw_appendP (M := a :: M) (p := p) (cc := cc) (c := 1) (bb := b + (14 - (i + 1)) * 3) 5 mOk_by rfl p57 List.mem_cons_self hap (by rw [p6.len, List.length_map, sizeLine_eq]; omega) ((ep_tup lv7 (ap_cons hpA (ep_pick (i := 0) Pk hr (Nat.le_refl _) hpA lv7 rfl (e1 := .list (ws.map .str)) (fun H k l => ed_v 1 rfl (hv12.mono (s7.trans (k.hM hpA)))) hw.pk) (ap_cons hpA (ep_of (d := .int j1) fun H k _ => ed_ixL (n := 0) (ed_v 7 rfl (hv7.mono (k.hM hpA))) ed_int rfl) (ap_cons hpA (ep_of (d := .int j2) fun H k _ => ed_ixL (n := 1) (ed_v 7 rfl (hv7.mono (k.hM hpA))) ed_int rfl) ap_nil))) (fun ds hds => by
      obtain ⟨_, _, rfl, _, _, _, rfl, _, _, _, rfl, _, rfl⟩ := hds
      show 3 ≤ sizeLine; decide)).imp (fun _ h => h) (by decide)) n7 fun v8 H8 d8 k8 n8 hd8 hv8 => sw_nil (sw_nil ?_)
    obtain ⟨_, rfl, _, _, rfl, hnm, _, _, rfl, rfl, _, _, rfl, rfl, rfl⟩ := hd8
    obtain ⟨nm, rfl, hgn⟩ := hw.of hnm
    have s8 := s7.trans (k8.hM hpA)
    have kg : Same (hM (a :: M) H') (hM (a :: M) H8) := (same_hM g6).trans ((k7.hM hpA).trans (k8.hM hpA))
    have em : ∀ o, hM (a :: M) (upd H8 a o) = hM (a :: M) H8 := fun o => hM_upd List.mem_cons_self
    refine ⟨⟨_, _, rfl⟩, fun y o ny hy => ?_, (k8.lv lv7 n8.ne).upd, n8.put hap hac, by rw [em]; exact s8, ls ++ [(nm, j1, j2)], xs ++ [v8], upd_same, ?_, by rw [List.length_append, List.length_singleton]; omega, by rw [List.length_append, List.length_singleton]; omega, fun l hl => ?_⟩
    · rw [upd_ne (ne_of_none hy hHa)]
      exact k8 y o ny (k7 y o ny (g6 _ _ (p1 y o ny hy)))
    · rw [em] at hv8 ⊢
      rw [List.map_append]
      exact (p6.mono kg).snoc hv8
    · rcases List.mem_append.mp hl with y | y
      · exact p9 l y
      · rw [List.mem_singleton.mp y]; exact ⟨hgn, hj1.1, hj1.2, hj2.1, hj2.2⟩
  · obtain ⟨⟨o6, o7, rfl⟩, p1, p2, p3, p4, ls, xs, p5, p6, p7, p8, p9⟩ := P
    have lvE : Lv M H' := p2.tail
    exact sw_ret (M := M) (ed_tup lvE (ad_cons ed_str (ad_cons (ed_v 5 rfl (da_lst_at p5 hnM p6)) ad_nil)) (by show 2 ≤ sizeLine; decide)) fun v H9 g9 hv => q v H9 ls (p1.trans (Kp.of g9)) ((p3.same g9).le (by omega)) p8 (by omega) p9 hv
end
end S6

/-! W31: the law's plan. -/
namespace S6
open PySem PySem.Spec PyProof.Rows L2
def cP : Nat → Nat
  | 0 => 46
  | n + 1 => 4 * cP n + 8
def spPl (K : Frg) (n : Nat) : Sp := fun vs H Q _ => ∃ p cc M b v ws room deep, vs = [.ref p, v, .int ((room : Nat) : Int), .int ((deep : Nat) : Int)] ∧ p ∈ M ∧ Lv M H ∧ Da K (hM M H) v (.list (ws.map .str)) ∧ Nms ws ∧ 1 ≤ room ∧ room ≤ 14 ∧ deep ≤ 4 ∧ deep < n ∧ Pen p cc (b + cP deep) H ∧
  ∀ v' H' (S : Shp), Kp p H H' → Pen p cc b H' → PV S → siz S ≤ room → dep S ≤ deep → Da K (hM M H') v' S.dL → Q v' H'
theorem cP_46 : ∀ n, 46 ≤ cP n
  | 0 => Nat.le_refl _
  | n + 1 => by have := cP_46 n; rw [cP]; omega
section
variable {X : Cx} {σ : L2.St} {M : List Addr} {H0 H : Hp} {e e1 e2 e3 : Expr} {pos q1 : Pos} {p cc : Addr} {c j n k R dp i : Nat} {ws : List Str} {x : Str}
/-- _law_plan(pen, e1, e2, e3) -/
theorem ep_plan (cl : Cl X.prog X.w X.K X.mg X.base k "_law_plan" (spPl X.K n)) (hr : Room j X.A) (hj : k ≤ j) (hpM : p ∈ M) (lv : Lv M H0) (hv : σ[i]? = some (some (.ref p))) (hw : Nms ws) (hR : R ≤ 14) (h4 : dp ≤ 4) (hdp : dp < n)
    (ha : AP X σ M p cc c H0 [e1, e2, e3] (fun ds => ∃ room : Nat, ds = [.list (ws.map .str), .int ((room : Nat) : Int), .int ((dp : Nat) : Int)] ∧ 1 ≤ room ∧ room ≤ R)) (hN : X.N[i]? = some x := by rfl) (hs : Vis X.env.scope x := by first | exact Or.inl rfl | exact Or.inr (Or.inl rfl) | exact Or.inr (Or.inr rfl))
    (hb : (x == ("__debug__" : Str)) = false := by decide) (hb2 : (x == ("__classdict__" : Str)) = false := by decide) (hg : Gl X "_law_plan" := by rfl) (na : starEach [.Name x q1, e1, e2, e3] X.env = (false, eval (.Name x q1) X.env) :: starEach [e1, e2, e3] X.env := by rfl) (hpl : (backTo pos (starEach [e1, e2, e3] X.env)).any (·.1) = false := by rfl) {q2 : Pos} :
    EP X σ M p cc (c + cP dp) H0 (.Call (.Name "_law_plan" q2) [.Name x q1, e1, e2, e3] [] pos) (fun d => ∃ S : Shp, d = S.dL ∧ PV S ∧ siz S ≤ R ∧ dep S ≤ dp) := fun H b k pn => by
  refine ew_of (pe_cl cl hr hj hg (pa_cons (pv i hN hs hb hb2) pa_w na) (by decide) na hpl) ⟨.ref p, hv, (ha H (b + cP dp) k (pn.le (by omega))).mono fun vs H1 ⟨k1, n1, ds, hds, hvs⟩ => ?_⟩
  obtain ⟨room, rfl, h1, h2⟩ := hds
  obtain ⟨v1, v2, v3, rfl, a1, a2, a3⟩ := hvs.inv3
  obtain rfl := a2.int_inv
  obtain rfl := a3.int_inv
  exact ⟨p, cc, M, b, v1, ws, room, dp, rfl, hpM, (k.trans k1).lv lv n1.ne, a1, hw, h1, by omega, h4, hdp, n1, fun v' H' S k2 n2 hS hz hd hv => ⟨k1.trans k2, n2, _, ⟨S, rfl, hS, by omega, hd⟩, hv⟩⟩
/-- _law_net(pen, e1, e2) -/
theorem ep_net {room : Nat} (cl : Cl X.prog X.w X.K X.mg X.base 3 "_law_net" (spNt X.K)) (hr : Room j X.A) (hj : 3 ≤ j) (hpM : p ∈ M) (lv : Lv M H0) (hv : σ[i]? = some (some (.ref p))) (hw : Nms ws)
    (ha : ∀ H, Kp p H0 H → H p ≠ none → AD X σ M H [e1, e2] [.list (ws.map .str), .int (room : Nat)]) (hN : X.N[i]? = some x := by rfl) (hs : Vis X.env.scope x := by first | exact Or.inl rfl | exact Or.inr (Or.inl rfl) | exact Or.inr (Or.inr rfl))
    (hb : (x == ("__debug__" : Str)) = false := by decide) (hb2 : (x == ("__classdict__" : Str)) = false := by decide) (hg : Gl X "_law_net" := by rfl) (na : starEach [.Name x q1, e1, e2] X.env = (false, eval (.Name x q1) X.env) :: starEach [e1, e2] X.env := by rfl) (hpl : (backTo pos (starEach [e1, e2] X.env)).any (·.1) = false := by rfl) {q2 : Pos} :
    EP X σ M p cc 44 H0 (.Call (.Name "_law_net" q2) [.Name x q1, e1, e2] [] pos) (fun d => ∃ ls : List Lk, d = (Shp.net ls).dL ∧ ls.length ≤ room ∧ ls.length ≤ 14 ∧ ∀ l ∈ ls, GL l) := fun H b k pn => by
  refine ew_of (pe_cl cl hr hj hg (pa_cons (pv i hN hs hb hb2) pa_w na) (by decide) na hpl) ⟨.ref p, hv, (ha H k pn.ne H (Same.refl H)).mono fun vs H1 ⟨g1, hvs⟩ => ?_⟩
  obtain ⟨v1, v2, rfl, a1, a2⟩ := hvs.inv2
  obtain rfl := a2.int_inv
  exact ⟨p, cc, M, b, v1, ws, room, rfl, hpM, (k.lv lv pn.ne).same g1, a1, hw, pn.same g1, fun v' H' ls k2 n2 h1 h2 h3 hv => ⟨(Kp.of g1).trans k2, n2, _, ⟨ls, rfl, h1, h2, h3⟩, hv⟩⟩
end
theorem dLs_cat (a b : List Shp) : (a ++ b).map Shp.dL = a.map Shp.dL ++ b.map Shp.dL := List.map_append
section
variable {P : Program} {w : World} {K : Frg} {mg : Str → Option Value} {base : Heap} {aO aS aB : Addr}
theorem pick_kw {d : PyData} (g : picked (.list [.str "row", .str "bunch"]) d) : ∃ k : Bool, d = .str (kwd k) := by
  have hd := pick_mem g
  simp only [List.mem_cons, List.not_mem_nil, or_false] at hd
  rcases hd with rfl | rfl
  · exact ⟨true, rfl⟩
  · exact ⟨false, rfl⟩
theorem c_plan {n : Nat} (hn5 : n < 5) (G : Glo K mg aO aS aB) (D : Dfn K mg "_law_plan" s_law_plan) (Dr : Cl P w K mg base 1 "_law_draw" spD) (Pk : Cl P w K mg base 2 "_law_pick" (spPk K)) (Nt : Cl P w K mg base 3 "_law_net" (spNt K)) (Sz : Cl P w K mg base 5 "_law_size" (spR K (R_sz 5))) (ih : Cl P w K mg base (n + 5) "_law_plan" (spPl K n)) : Cl P w K mg base (n + 6) "_law_plan" (spPl K (n + 1)) := by
  refine cl_w D (fun _ _ _ _ _ _ us hl => match us, hl with | [_, _, _, _], _ => rfl) sc_law_plan (fun vs H Q E h => by obtain ⟨_, _, _, _, _, _, _, _, rfl, _⟩ := h; rfl) fun fa cdv A outer s H vs Q E hr h => ?_
  obtain ⟨p, cc, M, b, v1, ws, room, deep, rfl, hpM, lv, hv1, hw, hr1, hr14, hd4, hdn, hn, q⟩ := h
  have nd := sc_law_plan.nd
  have c46 := cP_46 deep
  refine sw_setP (M := M) (p := p) (cc := cc) (c := 1) (b := b + (cP deep - 1)) 4 nd (ep_draw (i := 0) (many := 14) Dr hr (by omega) rfl (fun H k _ => ed_int) (by decide) (by decide)) (hn.le (by omega)) fun v4 H1 d4 k1 n1 hd4' hv4 => ?_
  obtain ⟨wy, rfl, wy0, wy1⟩ := hd4'
  obtain rfl := hv4.int_inv
  have lv1 := k1.lv lv n1.ne
  have hv11 : Da K (hM M H1) v1 (.list (ws.map .str)) := hv1.mono (k1.hM hpM)
  refine sw_if (td_w (wd_or (td_lt (M := M) (ed_v 2 rfl (.int _)) ed_int) fun _ => wd_or (td_eqI (M := M) (ed_v 3 rfl (.int _)) ed_int) fun _ => wd_or1 (td_lt (M := M) (ed_v 4 rfl (.int _)) ed_int))) (fun z H2 g2 => ?_) fun z H2 g2 => sw_nil ?_
  · have lv2 := lv1.same g2
    refine sw_retP (M := M) (p := p) (cc := cc) (c := 1) (b := b) ((ep_tup lv2 (ap_cons hpM (ep_of (d := .str "link") fun H k _ => ed_str) (ap_cons hpM (ep_pick (i := 0) Pk hr (by omega) hpM lv2 rfl (e1 := .list (ws.map .str)) (fun H k l => ed_v 1 rfl (hv11.mono ((same_hM g2).trans (k.hM hpM)))) hw.pk) ap_nil)) (fun ds hds => by
      obtain ⟨_, _, rfl, _, _, _, rfl, _, rfl⟩ := hds
      show 2 ≤ sizeLine; decide)).imp (fun _ h => h) (by decide)) ((n1.same g2).le (by omega)) fun v H' d k3 n3 hd hv => ?_
    obtain ⟨_, rfl, _, _, rfl, rfl, _, _, rfl, hx, rfl⟩ := hd
    obtain ⟨x, rfl, hgx⟩ := hw.of hx
    exact q v H' (.lnk x) (k1.trans ((Kp.of g2).trans k3)) n3 (by rw [PV]; exact hgx) (by rw [siz]; omega) (Nat.zero_le _) hv
  · have z2 : 2 ≤ room ∧ deep ≠ 0 := by
      rw [Bool.or_eq_false_iff, Bool.or_eq_false_iff, decide_eq_false_iff_not, decide_eq_false_iff_not] at z
      obtain ⟨z1, z2, _⟩ := z
      omega
    obtain ⟨dp, rfl⟩ : ∃ dp, deep = dp + 1 := ⟨deep - 1, by omega⟩
    have lv2 := lv1.same g2
    have n2 := n1.same g2
    have hv12 : Da K (hM M H2) v1 (.list (ws.map .str)) := hv11.mono (same_hM g2)
    have kk2 : Kp p H H2 := k1.trans (Kp.of g2)
    refine sw_if (td_lt (M := M) (ed_v 4 rfl (.int _)) ed_int) (fun z H3 g3 => ?_) fun z H3 g3 => sw_nil ?_
    · have lv3 := lv2.same g3
      refine sw_retP (M := M) (p := p) (cc := cc) (c := 44) (b := b) (ep_net (i := 0) (room := room) Nt hr (by omega) hpM lv3 rfl hw fun H k _ => ad_cons (ed_v 1 rfl (hv12.mono ((same_hM g3).trans (k.hM hpM)))) (ad_cons (ed_v 2 rfl (.int _)) ad_nil)) ((n2.same g3).le (by omega)) fun v H' d k3 n3 hd hv => ?_
      obtain ⟨ls, rfl, h1, h2, h3⟩ := hd
      exact q v H' (.net ls) (kk2.trans ((Kp.of g3).trans k3)) n3 (by rw [PV]; exact ⟨h2, h3⟩) (by rw [siz]; omega) (Nat.zero_le _) hv
    · have lv3 := lv2.same g3
      have n3 := n2.same g3
      have kk3 : Kp p H H3 := kk2.trans (Kp.of g3)
      have hv13 : Da K (hM M H3) v1 (.list (ws.map .str)) := hv12.mono (same_hM g3)
      refine sw_if (td_eqI (M := M) (ed_v 4 rfl (.int _)) ed_int) (fun z H4 g4 => ?_) fun z H4 g4 => sw_nil ?_
      · have lv4 := lv3.same g4
        refine sw_retP (M := M) (p := p) (cc := cc) (c := 1) (b := b) (ep_pick (i := 0) Pk hr (by omega) hpM lv4 rfl (e1 := .list [.tuple [.str "open"], .tuple [.str "shut"]]) (fun H k l => ed_lst l (ad_cons (ed_tup l (ad_cons ed_str ad_nil) (by show 1 ≤ sizeLine; decide)) (ad_cons (ed_tup l (ad_cons ed_str ad_nil) (by show 1 ≤ sizeLine; decide)) ad_nil)) (by show 2 ≤ sizeLine; decide)) (.inl ⟨_, rfl, by simp, by show 2 < 1000000; decide⟩)) ((n3.same g4).le (by omega)) fun v H' d k5 n5 hd hv => ?_
        have hd := pick_mem hd
        simp only [List.mem_cons, List.not_mem_nil, or_false] at hd
        have kk := kk3.trans ((Kp.of g4).trans k5)
        rcases hd with rfl | rfl
        · exact q v H' .opn kk n5 (by simp [PV]) (Nat.zero_le _) (Nat.zero_le _) hv
        · exact q v H' .sht kk n5 (by simp [PV]) (Nat.zero_le _) (Nat.zero_le _) hv
      · have lv4 := lv3.same g4
        have n4 := n3.same g4
        have kk4 : Kp p H H4 := kk3.trans (Kp.of g4)
        have hv14 : Da K (hM M H4) v1 (.list (ws.map .str)) := hv13.mono (same_hM g4)
        have eP : cP (dp + 1) = 4 * (1 + cP dp) + 4 := by rw [cP]; omega
        refine sw_parNew (M := M) 5 6 rfl nd (by decide) (ed_v 2 rfl (.int _)) fun v5 a H5 g5 hna hv5 => ?_
        obtain rfl := hv5.int_inv
        have lv5 := lv4.same g5
        have n5 := n4.same g5
        have kk5 : Kp p H H5 := kk4.trans (Kp.of g5)
        have hv15 : Da K (hM M H5) v1 (.list (ws.map .str)) := hv14.mono (same_hM g5)
        have hnM : a ∉ M := lv5.new hna
        have hap : a ≠ p := fun e => hnM (by rw [e]; exact hpM)
        have hac : a ≠ cc := fun e => n5.nc (by rw [← e]; exact hna)
        have hHa : H a = none := by
          cases y : H a with
          | none => rfl
          | some o => rw [kk5 a o hap y] at hna; cases hna
        have hpA : p ∈ a :: M := List.mem_cons_of_mem _ hpM
        refine sw_forR (M := a :: M) (p := p) (cc := cc) (c := 1) (bb := b + 1 + 4 * (1 + cP dp)) (m0 := 4) (i0 := 7) nd PassesOwn.never rfl G.range ((ep_opI (f := fun x y => x + y) op_add (fun H k _ => ed_int) (ep_draw (i := 0) (many := 3) Dr hr (by omega) rfl (fun H k _ => ed_int) (by decide) (by decide)) (fun d hd => by obtain ⟨r, rfl, _⟩ := hd; exact ⟨r, rfl⟩)).imp (fun d hd => by
          obtain ⟨k, rfl, r, e, r0, r1⟩ := hd
          cases e
          exact ⟨(2 + k).toNat, by rw [Int.toNat_of_nonneg (by omega)], by omega⟩) (Nat.le_refl _)) (by decide) ((n5.put hap hac).le (by omega)) (pg1 7 nd) fun mm H6 hmm k6 n6 => ?_
        have lv6 : Lv (a :: M) H6 := k6.lv (lv5.upd.cons upd_same) n6.ne
        refine ⟨fun i σ' H' => (∃ (left : Nat) (o7 o8 : Option V), σ' = [some (.ref p), some v1, some (.int (room : Nat)), some (.int ((dp + 1 : Nat) : Int)), some (.int wy), some (.int (left : Nat)), some (.ref a), o7, o8] ∧ ∃ (ss : List Shp) (xs : List V), H' a = some (.lst xs) ∧ DaAll K (hM (a :: M) H') xs (ss.map Shp.dL) ∧ ss.length ≤ i ∧ left + sizs ss ≤ room ∧ ∀ s ∈ ss, PV s ∧ dep s ≤ dp) ∧ Kp p H H' ∧ Lv (a :: M) H' ∧ Pen p cc (b + 1 + (4 - i) * (1 + cP dp)) H' ∧ Same (hM M H5) (hM (a :: M) H'),
          ⟨⟨room, none, none, rfl, [], [], k6 a _ hap upd_same, .nil, Nat.zero_le _, by rw [sizs]; omega, fun s hs => nomatch hs⟩, fun y o ny hy => k6 y o ny (by rw [upd_ne (ne_of_none hy hHa)]; exact kk5 y o ny hy), lv6, n6, (same_skip (same_new hna) hna).trans (k6.hM hpA)⟩, fun i σ' H' hi P => ?_, fun σ' H' P => ?_⟩
        · obtain ⟨⟨left, o7, o8, rfl, ss, xs, p5, p6, p7, p8, p9⟩, p1, p2, p3, p4⟩ := P
          refine sw_if (td_gt (M := a :: M) (ed_v 5 rfl (.int _)) ed_int) (fun z H7 g7 => ?_) fun z H7 g7 => sw_nil (sw_nil ⟨⟨left, _, _, rfl, ss, xs, g7 _ _ p5, p6.mono (same_hM g7), by omega, p8, p9⟩, p1.trans (Kp.of g7), p2.same g7, (p3.same g7).le (by
            have : (4 - (i + 1)) * (1 + cP dp) ≤ (4 - i) * (1 + cP dp) := Nat.mul_le_mul_right _ (by omega)
            omega), p4.trans (same_hM g7)⟩)
          have hl0 : 0 < left := by have := of_decide_eq_true z; omega
          have lv7 := p2.same g7
          have eb : b + 1 + (4 - i) * (1 + cP dp) = b + 1 + (4 - (i + 1)) * (1 + cP dp) + (1 + cP dp) := by
            have : 4 - i = (4 - (i + 1)) + 1 := by omega
            rw [this, Nat.add_mul, Nat.one_mul]
            omega
          have n7 : Pen p cc (b + 1 + (4 - (i + 1)) * (1 + cP dp) + (1 + cP dp)) H7 := eb ▸ p3.same g7
          have s7 : Same (hM M H5) (hM (a :: M) H7) := p4.trans (same_hM g7)
          refine sw_setP (M := a :: M) (p := p) (cc := cc) (c := 1 + cP dp) (b := b + 1 + (4 - (i + 1)) * (1 + cP dp)) 8 nd ((ep_plan (i := 0) (R := left) (dp := dp) ih hr (by omega) hpA lv7 rfl hw (by omega) (by omega) (by omega) ((ap_cons hpA (ep_of (d := .list (ws.map .str)) fun H k _ => ed_v 1 rfl (hv15.mono (s7.trans (k.hM hpA)))) (ap_cons hpA (ep_opI (f := fun x y => x + y) op_add (fun H k _ => ed_int) (ep_draw (i := 0) (many := (left : Nat)) Dr hr (by omega) rfl (fun H k _ => ed_v 5 rfl (.int _)) (by omega) (by omega)) (fun d hd => by obtain ⟨r, rfl, _⟩ := hd; exact ⟨r, rfl⟩)) (ap_cons hpA (ep_of (d := .int (dp : Nat)) fun H k _ => ed_cast (ed_sub (ed_v 3 rfl (.int _)) ed_int) (by congr 1; omega)) ap_nil))).imp (c1 := 1) (fun ds hds => by
            obtain ⟨_, _, rfl, rfl, _, _, rfl, ⟨k, rfl, r, e, r0, r1⟩, _, _, rfl, rfl, rfl⟩ := hds
            cases e
            exact ⟨(1 + k).toNat, by rw [Int.toNat_of_nonneg (by omega)], by omega, by omega⟩) (by decide)))) n7 fun v8 H8 d8 k8 n8 hd8 hv8 => ?_
          obtain ⟨S, rfl, hS, hz, hd⟩ := hd8
          have lv8 := k8.lv lv7 n8.ne
          refine sw_set (M := a :: M) (d := .int ((left - siz S : Nat) : Int)) 5 nd (ed_cast (ed_sub (ed_v 5 rfl (.int _)) (ed_cl Sz hr (by omega) lv8 (ad_cons (ed_v 8 rfl hv8) ad_nil) ⟨S, rfl, hS, by omega, rfl⟩)) (by congr 1; omega)) fun v9 H9 g9 hv9 => ?_
          obtain rfl := hv9.int_inv
          have p59 := g9 _ _ (k8 _ _ hap (g7 _ _ p5))
          refine sw_append (M := a :: M) (d := S.dL) 6 mOk_by rfl p59 List.mem_cons_self (by rw [p6.len, List.length_map, sizeLine_eq]; omega) (ed_v 8 rfl (hv8.mono (same_hM g9))) fun v10 H10 g10 hv10 => sw_nil (sw_nil ?_)
          have em : ∀ o, hM (a :: M) (upd H10 a o) = hM (a :: M) H10 := fun o => hM_upd List.mem_cons_self
          have kg : Same (hM (a :: M) H') (hM (a :: M) H10) := (same_hM g7).trans ((k8.hM hpA).trans (same_hM (g9.trans g10)))
          refine ⟨⟨left - siz S, _, _, rfl, ss ++ [S], xs ++ [v10], upd_same, ?_, by rw [List.length_append, List.length_singleton]; omega, ?_, fun t ht => ?_⟩, fun y o ny hy => ?_, ((lv8.same g9).same g10).upd, ((n8.same g9).same g10).put hap hac, by rw [em]; exact p4.trans kg⟩
          · rw [em] at hv10 ⊢
            rw [List.map_append]
            exact (p6.mono kg).snoc hv10
          · rw [sizs_append, sizs, sizs]; omega
          · rcases List.mem_append.mp ht with y | y
            · exact p9 t y
            · rw [List.mem_singleton.mp y]; exact ⟨hS, hd⟩
          · rw [upd_ne (ne_of_none hy hHa)]
            exact g10 _ _ (g9 _ _ (k8 y o ny (g7 _ _ (p1 y o ny hy))))
        · obtain ⟨⟨left, o7, o8, rfl, ss, xs, p5, p6, p7, p8, p9⟩, p1, p2, p3, p4⟩ := P
          have lvE : Lv M H' := p2.tail
          refine sw_retP (M := M) (p := p) (cc := cc) (c := 1) (b := b) ((ep_tup lvE (ap_cons hpM (ep_pick (i := 0) Pk hr (by omega) hpM lvE rfl (e1 := .list [.str "row", .str "bunch"]) (fun H k l => ed_lst l (ad_cons ed_str (ad_cons ed_str ad_nil)) (by show 2 ≤ sizeLine; decide)) (.inl ⟨_, rfl, by simp, by show 2 < 1000000; decide⟩)) (ap_cons hpM (ep_of (d := .list (ss.map Shp.dL)) fun H k _ => ed_v 6 rfl ((da_lst_at p5 hnM p6).mono (k.hM hpM))) ap_nil)) (fun ds hds => by
            obtain ⟨_, _, rfl, _, _, _, rfl, _, rfl⟩ := hds
            show 2 ≤ sizeLine; decide)).imp (fun _ h => h) (by decide)) (p3.le (by omega)) fun v H9 d k9 n9 hd hv => ?_
          obtain ⟨_, rfl, _, _, rfl, hk, _, _, rfl, rfl, rfl⟩ := hd
          obtain ⟨k, rfl⟩ := pick_kw hk
          refine q v H9 (.jn k ss) (p1.trans k9) n9 ?_ ?_ ?_ ?_
          · rw [PV]; exact ⟨by omega, PVs_iff.mpr fun s hs => (p9 s hs).1⟩
          · rw [siz]; omega
          · rw [dep]
            have := deps_le (n := dp) fun s hs => (p9 s hs).2
            omega
          · rw [Shp.dL, dLs_map]; exact hv
end
end S6

/-! W32: the law's wide net. -/
namespace S6
open PySem PySem.Spec PyProof.Rows L2
def spWn (K : Frg) : Sp := fun vs H Q _ => ∃ p cc M b v ws, vs = [.ref p, v] ∧ p ∈ M ∧ Lv M H ∧ Da K (hM M H) v (.list (ws.map .str)) ∧ Nms ws ∧ Pen p cc (b + 59) H ∧
  ∀ v' H' (ls : List Lk), Kp p H H' → Pen p cc b H' → ls.length ≤ 14 → (∀ l ∈ ls, GL l) → Da K (hM M H') v' (Shp.net ls).dL → Q v' H'
section
variable {X : Cx} {σ : L2.St} {M : List Addr} {H0 H : Hp} {e e1 e2 e3 : Expr} {pos q1 : Pos} {p cc : Addr} {c j n k R dp i : Nat} {ws : List Str} {x : Str}
/-- _law_wide_net(pen, e1) -/
theorem ep_wide (cl : Cl X.prog X.w X.K X.mg X.base 3 "_law_wide_net" (spWn X.K)) (hr : Room j X.A) (hj : 3 ≤ j) (hpM : p ∈ M) (lv : Lv M H0) (hv : σ[i]? = some (some (.ref p))) (hw : Nms ws)
    (ha : ∀ H, Kp p H0 H → H p ≠ none → ED X σ M H e1 (.list (ws.map .str))) (hN : X.N[i]? = some x := by rfl) (hs : Vis X.env.scope x := by first | exact Or.inl rfl | exact Or.inr (Or.inl rfl) | exact Or.inr (Or.inr rfl))
    (hb : (x == ("__debug__" : Str)) = false := by decide) (hb2 : (x == ("__classdict__" : Str)) = false := by decide) (hg : Gl X "_law_wide_net" := by rfl) (na : starEach [.Name x q1, e1] X.env = (false, eval (.Name x q1) X.env) :: starEach [e1] X.env := by rfl) (nb : starEach [e1] X.env = (false, eval e1 X.env) :: starEach [] X.env := by rfl) (hpl : (backTo pos (starEach [e1] X.env)).any (·.1) = false := by rfl) {q2 : Pos} :
    EP X σ M p cc 59 H0 (.Call (.Name "_law_wide_net" q2) [.Name x q1, e1] [] pos) (fun d => ∃ ls : List Lk, d = (Shp.net ls).dL ∧ ls.length ≤ 14 ∧ ∀ l ∈ ls, GL l) := fun H b k pn => by
  refine ew_of (pe_cl cl hr hj hg (pa_cons (pv i hN hs hb hb2) (pa_cons pe_w pa_nil nb) na) (by decide) na hpl) ⟨.ref p, hv, (ha H k pn.ne H (Same.refl H)).mono fun v H1 ⟨g1, hv⟩ => ?_⟩
  exact ⟨p, cc, M, b, v, ws, rfl, hpM, (k.lv lv pn.ne).same g1, hv, hw, pn.same g1, fun v' H' ls k2 n2 h2 h3 hv => ⟨(Kp.of g1).trans k2, n2, _, ⟨ls, rfl, h2, h3⟩, hv⟩⟩
end
section
variable {P : Program} {w : World} {K : Frg} {mg : Str → Option Value} {base : Heap} {aO aS aB : Addr}
theorem c_wide_net (G : Glo K mg aO aS aB) (D : Dfn K mg "_law_wide_net" s_law_wide_net) (Dr : Cl P w K mg base 1 "_law_draw" spD) (Pk : Cl P w K mg base 2 "_law_pick" (spPk K)) : Cl P w K mg base 3 "_law_wide_net" (spWn K) := by
  refine cl_w D (fun _ _ _ _ _ _ us hl => match us, hl with | [_, _], _ => rfl) sc_law_wide_net (fun vs H Q E h => by obtain ⟨_, _, _, _, _, _, rfl, _⟩ := h; rfl) fun fa cdv A outer s H vs Q E hr h => ?_
  obtain ⟨p, cc, M, b, v1, ws, rfl, hpM, lv, hv1, hw, hn, q⟩ := h
  have nd := sc_law_wide_net.nd
  refine sw_parP (M := M) (p := p) (cc := cc) (c1 := 1) (c2 := 1) (b0 := b + 57) 2 3 rfl nd (by decide) ((ep_pick (i := 0) Pk hr (Nat.le_refl _) hpM lv rfl (e1 := .list (([2, 40, 70] : List Int).map .int)) (fun H k l => ed_lst l (ad_cons ed_int (ad_cons ed_int (ad_cons ed_int ad_nil))) (by show 3 ≤ sizeLine; decide)) (.inl ⟨_, rfl, by simp, by show 3 < 1000000; decide⟩)).imp (Pd' := fun d => ∃ f : Int, d = .int f ∧ 2 ≤ f ∧ f ≤ 70) (fun d hd => ?_) (Nat.le_refl _)) ((ep_pick (i := 0) Pk hr (Nat.le_refl _) hpM lv rfl (e1 := .list (([1, 2] : List Int).map .int)) (fun H k l => ed_lst l (ad_cons ed_int (ad_cons ed_int ad_nil)) (by show 2 ≤ sizeLine; decide)) (.inl ⟨_, rfl, by simp, by show 2 < 1000000; decide⟩)).imp (Pd' := fun d => ∃ f : Int, d = .int f ∧ (f = 1 ∨ f = 2)) (fun d hd => ?_) (Nat.le_refl _)) hpM (hn.le (by omega)) fun v2 v3 H1 d2 d3 k1 n1 hd2 hd3 hv2 hv3 => ?_
  · obtain ⟨j, rfl, hj⟩ := pick_int hd
    simp only [List.mem_cons, List.not_mem_nil, or_false] at hj
    exact ⟨j, rfl, by omega, by omega⟩
  · obtain ⟨j, rfl, hj⟩ := pick_int hd
    simp only [List.mem_cons, List.not_mem_nil, or_false] at hj
    exact ⟨j, rfl, hj⟩
  obtain ⟨fr, rfl, fr0, fr1⟩ := hd2
  obtain ⟨st, rfl, hst⟩ := hd3
  obtain rfl := hv2.int_inv
  obtain rfl := hv3.int_inv
  have lv1 := k1.lv lv n1.ne
  have hv11 : Da K (hM M H1) v1 (.list (ws.map .str)) := hv1.mono (k1.hM hpM)
  refine sw_new 4 nd fun a hna => ?_
  have hnM : a ∉ M := lv1.new hna
  have hap : a ≠ p := fun e => hnM (by rw [e]; exact hpM)
  have hac : a ≠ cc := fun e => n1.nc (by rw [← e]; exact hna)
  have hHa : H a = none := by
    cases y : H a with
    | none => rfl
    | some o => rw [k1 a o hap y] at hna; cases hna
  have hpA : p ∈ a :: M := List.mem_cons_of_mem _ hpM
  refine sw_forR (M := a :: M) (p := p) (cc := cc) (c := 1) (bb := b + 14 * 4) (m0 := 14) (i0 := 5) nd PassesOwn.never rfl G.range ((ep_opI (f := fun x y => x + y) op_add (fun H k _ => ed_int) (ep_draw (i := 0) (many := 14) Dr hr (by omega) rfl (fun H k _ => ed_int) (by decide) (by decide)) (fun d hd => by obtain ⟨r, rfl, _⟩ := hd; exact ⟨r, rfl⟩)).imp (fun d hd => by
    obtain ⟨k, rfl, r, e, r0, r1⟩ := hd
    cases e
    exact ⟨(1 + k).toNat, by rw [Int.toNat_of_nonneg (by omega)], by omega⟩) (Nat.le_refl _)) (by decide) ((n1.put hap hac).le (by omega)) (pg1 5 nd) fun mm H5 hmm k5 n5 => ?_
  have lv5 : Lv (a :: M) H5 := k5.lv (lv1.upd.cons upd_same) n5.ne
  refine ⟨fun i σ' H' => (∃ o5 o6 o7, σ' = [some (.ref p), some v1, some (.int fr), some (.int st), some (.ref a), o5, o6, o7]) ∧ Kp p H H' ∧ Lv (a :: M) H' ∧ Pen p cc (b + (14 - i) * 4) H' ∧ Same (hM M H1) (hM (a :: M) H') ∧ ∃ (ls : List Lk) (xs : List V), H' a = some (.lst xs) ∧ DaAll K (hM (a :: M) H') xs (ls.map lkD) ∧ ls.length ≤ i ∧ ∀ l ∈ ls, GL l,
    ⟨⟨none, none, none, rfl⟩, fun y o ny hy => k5 y o ny (by rw [upd_ne (ne_of_none hy hHa)]; exact k1 y o ny hy), lv5, n5, (same_skip (same_new hna) hna).trans (k5.hM hpA), [], [], k5 a _ hap upd_same, .nil, Nat.zero_le _, fun l hl => nomatch hl⟩, fun i σ' H' hi P => ?_, fun σ' H' P => ?_⟩
  · obtain ⟨⟨o5, o6, o7, rfl⟩, p1, p2, p3, p4, ls, xs, p5, p6, p7, p9⟩ := P
    have hb : b + (14 - i) * 4 = b + (14 - (i + 1)) * 4 + 3 + 1 := by
      have : 14 - i = (14 - (i + 1)) + 1 := by omega
      rw [this]; omega
    rw [hb] at p3
    have jn : ∀ r : Int, 0 ≤ r → r < 14 → 0 ≤ fr + st * r ∧ fr + st * r ≤ 99 := fun r r0 r1 => by
      rcases hst with rfl | rfl <;> omega
    refine sw_setP (M := a :: M) (p := p) (cc := cc) (c := 1) (b := b + (14 - (i + 1)) * 4 + 3) 6 nd ((ep_opI (f := fun x y => x + y) op_add (fun H k _ => ed_v 2 rfl (.int fr)) (ep_mulI (fun H k _ => ed_v 3 rfl (.int st)) (ep_draw (i := 0) (many := 14) Dr hr (by omega) rfl (fun H k _ => ed_int) (by decide) (by decide)) (fun d hd => by obtain ⟨r, rfl, _, _⟩ := hd; exact ⟨r, rfl, .inl ⟨by omega, by omega⟩⟩)) (fun d hd => by obtain ⟨r, rfl, _⟩ := hd; exact ⟨_, rfl⟩)).imp (Pd' := fun d => ∃ u : Int, d = .int u ∧ 0 ≤ u ∧ u ≤ 99) (fun d hd => by
      obtain ⟨k, rfl, r, e, r', e', r0, r1⟩ := hd
      cases e
      cases e'
      exact ⟨_, rfl, jn _ r0 r1⟩) (Nat.le_refl _)) p3 fun v6 H6 d6 k6 n6 hd6 hv6 => ?_
    obtain ⟨u, rfl, hu⟩ := hd6
    obtain rfl := hv6.int_inv
    have lv6 := k6.lv p2 n6.ne
    have s6 := p4.trans (k6.hM hpA)
    refine sw_setP (M := a :: M) (p := p) (cc := cc) (c := 2) (b := b + (14 - (i + 1)) * 4 + 1) 7 nd ((ep_pickP (i := 0) Pk hr (Nat.le_refl _) hpA lv6 rfl (ep_lst lv6 (ap_cons hpA (ep_of (d := .int u) fun H k _ => ed_v 6 rfl (.int u)) (ap_cons hpA (ep_of (d := .int 0) fun H k _ => ed_int) (ap_cons hpA (ep_of (d := .int 1) fun H k _ => ed_int) (ap_cons hpA (ep_opI (f := fun x y => x + y) op_add (fun H k _ => ed_v 2 rfl (.int fr)) (ep_mulI (fun H k _ => ed_v 3 rfl (.int st)) (ep_draw (i := 0) (many := 14) Dr hr (by omega) rfl (fun H k _ => ed_int) (by decide) (by decide)) (fun d hd => by obtain ⟨r, rfl, _, _⟩ := hd; exact ⟨r, rfl, .inl ⟨by omega, by omega⟩⟩)) (fun d hd => by obtain ⟨r, rfl, _⟩ := hd; exact ⟨_, rfl⟩)) ap_nil)))) (fun ds hds => by
      obtain ⟨_, _, rfl, _, _, _, rfl, _, _, _, rfl, _, _, _, rfl, _, rfl⟩ := hds
      show 4 ≤ sizeLine; decide)) (fun d hd => by
      obtain ⟨_, rfl, _, _, rfl, _, _, _, rfl, _, _, _, rfl, _, _, _, rfl, _, rfl⟩ := hd
      exact .inl ⟨_, rfl, by simp, by show 4 < 1000000; decide⟩)).imp (Pd' := fun d => ∃ u : Int, d = .int u ∧ 0 ≤ u ∧ u ≤ 99) (fun d hd => by
      obtain ⟨_, ⟨_, rfl, _, _, rfl, rfl, _, _, rfl, rfl, _, _, rfl, rfl, _, _, rfl, ⟨k, rfl, r, e, r', e', r0, r1⟩, rfl⟩, hp⟩ := hd
      cases e
      cases e'
      have hp := pick_mem hp
      simp only [List.mem_cons, List.not_mem_nil, or_false] at hp
      rcases hp with rfl | rfl | rfl | rfl
      · exact ⟨_, rfl, hu⟩
      · exact ⟨_, rfl, by decide, by decide⟩
      · exact ⟨_, rfl, by decide, by decide⟩
      · exact ⟨_, rfl, jn _ r0 r1⟩) (by decide)) (n6.le (by omega)) fun v7 H7 d7 k7 n7 hd7 hv7 => ?_
    obtain ⟨vv, rfl, hvv⟩ := hd7
    obtain rfl := hv7.int_inv
    have lv7 := k7.lv lv6 n7.ne
    have s7 := s6.trans (k7.hM hpA)
    have p57 := k7 _ _ hap (k6 _ _ hap p5)
    refine sw_appendP (M := a :: M) (p := p) (cc := cc) (c := 1) (bb := b + (14 - (i + 1)) * 4) 4 mOk_by rfl p57 List.mem_cons_self hap (by rw [p6.len, List.length_map, sizeLine_eq]; omega) ((ep_tup lv7 (ap_cons hpA (ep_pick (i := 0) Pk hr (Nat.le_refl _) hpA lv7 rfl (e1 := .list (ws.map .str)) (fun H k l => ed_v 1 rfl (hv11.mono (s7.trans (k.hM hpA)))) hw.pk) (ap_cons hpA (ep_of (d := .int u) fun H k _ => ed_v 6 rfl (.int u)) (ap_cons hpA (ep_of (d := .int vv) fun H k _ => ed_v 7 rfl (.int vv)) ap_nil))) (fun ds hds => by
      obtain ⟨_, _, rfl, _, _, _, rfl, _, _, _, rfl, _, rfl⟩ := hds
      show 3 ≤ sizeLine; decide)).imp (fun _ h => h) (by decide)) n7 fun v8 H8 d8 k8 n8 hd8 hv8 => sw_nil ?_
    obtain ⟨_, rfl, _, _, rfl, hnm, _, _, rfl, rfl, _, _, rfl, rfl, rfl⟩ := hd8
    obtain ⟨nm, rfl, hgn⟩ := hw.of hnm
    have s8 := s7.trans (k8.hM hpA)
    have kg : Same (hM (a :: M) H') (hM (a :: M) H8) := (k6.hM hpA).trans ((k7.hM hpA).trans (k8.hM hpA))
    have em : ∀ o, hM (a :: M) (upd H8 a o) = hM (a :: M) H8 := fun o => hM_upd List.mem_cons_self
    refine ⟨⟨_, _, _, rfl⟩, fun y o ny hy => ?_, (k8.lv lv7 n8.ne).upd, n8.put hap hac, by rw [em]; exact s8, ls ++ [(nm, u, vv)], xs ++ [v8], upd_same, ?_, by rw [List.length_append, List.length_singleton]; omega, fun l hl => ?_⟩
    · rw [upd_ne (ne_of_none hy hHa)]
      exact k8 y o ny (k7 y o ny (k6 y o ny (p1 y o ny hy)))
    · rw [em] at hv8 ⊢
      rw [List.map_append]
      exact (p6.mono kg).snoc hv8
    · rcases List.mem_append.mp hl with y | y
      · exact p9 l y
      · rw [List.mem_singleton.mp y]; exact ⟨hgn, hu.1, hu.2, hvv.1, hvv.2⟩
  · obtain ⟨⟨o5, o6, o7, rfl⟩, p1, p2, p3, p4, ls, xs, p5, p6, p7, p9⟩ := P
    have lvE : Lv M H' := p2.tail
    exact sw_ret (M := M) (ed_tup lvE (ad_cons ed_str (ad_cons (ed_v 4 rfl (da_lst_at p5 hnM p6)) ad_nil)) (by show 2 ≤ sizeLine; decide)) fun v H9 g9 hv => q v H9 ls (p1.trans (Kp.of g9)) ((p3.same g9).le (by omega)) (by omega) p9 hv
end
end S6

/-! W33: the law's drawn web. -/
namespace S6
open PySem PySem.Spec PyProof.Rows L2
def spDw (K : Frg) : Sp := fun vs H Q _ => ∃ p cc M b v ws, vs = [.ref p, v] ∧ p ∈ M ∧ Lv M H ∧ Da K (hM M H) v (.list (ws.map .str)) ∧ Nms ws ∧ Pen p cc (b + 20000) H ∧
  ∀ v' H' (S : Shp), Kp p H H' → Pen p cc b H' → PV S → siz S ≤ 14 → dep S ≤ 4 → Da K (hM M H') v' S.dL → Q v' H'
section
variable {P : Program} {w : World} {K : Frg} {mg : Str → Option Value} {base : Heap} {aO aS aB : Addr}
theorem cP_4 : cP 4 = 12456 := by decide
theorem lks6 {ls : List Lk} (h : ∀ l ∈ ls, GL l) : PV (.net (ls.take 6)) ∧ siz (.net (ls.take 6)) ≤ 6 := by
  refine ⟨?_, ?_⟩
  · rw [PV, List.length_take]
    exact ⟨by omega, fun l hl => h l (List.mem_of_mem_take hl)⟩
  · rw [siz, List.length_take]; omega
theorem drop_le {k : Nat} : ∀ {ss : List Shp}, sizs (ss.drop k) ≤ sizs ss := fun {ss} => by
  have := sizs_append (ss.take k) (ss.drop k)
  rw [List.take_append_drop] at this
  omega
theorem c_drawn (G : Glo K mg aO aS aB) (D : Dfn K mg "_law_drawn" s_law_drawn) (Dr : Cl P w K mg base 1 "_law_draw" spD) (Pk : Cl P w K mg base 2 "_law_pick" (spPk K)) (Wn : Cl P w K mg base 3 "_law_wide_net" (spWn K)) (Pl : Cl P w K mg base 10 "_law_plan" (spPl K 5)) : Cl P w K mg base 11 "_law_drawn" (spDw K) := by
  refine cl_w D (fun _ _ _ _ _ _ us hl => match us, hl with | [_, _], _ => rfl) sc_law_drawn (fun vs H Q E h => by obtain ⟨_, _, _, _, _, _, rfl, _⟩ := h; rfl) fun fa cdv A outer s H vs Q E hr h => ?_
  obtain ⟨p, cc, M, b, v1, ws, rfl, hpM, lv, hv1, hw, hn, q⟩ := h
  have nd := sc_law_drawn.nd
  refine sw_setP (M := M) (p := p) (cc := cc) (c := 1) (b := b + 19999) 2 nd (ep_draw (i := 0) (many := 6) Dr hr (by omega) rfl (fun H k _ => ed_int) (by decide) (by decide)) (hn.le (by omega)) fun v2 H1 d2 k1 n1 hd2 hv2 => ?_
  obtain ⟨wy, rfl, wy0, wy1⟩ := hd2
  obtain rfl := hv2.int_inv
  have lv1 := k1.lv lv n1.ne
  have hv11 : Da K (hM M H1) v1 (.list (ws.map .str)) := hv1.mono (k1.hM hpM)
  refine sw_if (td_eqI (M := M) (ed_v 2 rfl (.int _)) ed_int) (fun z H2 g2 => ?_) fun z H2 g2 => sw_nil ?_
  · have lv2 := lv1.same g2
    refine sw_retP (M := M) (p := p) (cc := cc) (c := 59) (b := b) (ep_wide (i := 0) Wn hr (by omega) hpM lv2 rfl hw fun H k _ => ed_v 1 rfl (hv11.mono ((same_hM g2).trans (k.hM hpM)))) ((n1.same g2).le (by omega)) fun v H' d k3 n3 hd hv => ?_
    obtain ⟨ls, rfl, h2, h3⟩ := hd
    exact q v H' (.net ls) (k1.trans ((Kp.of g2).trans k3)) n3 (by rw [PV]; exact ⟨h2, h3⟩) (by rw [siz]; exact h2) (Nat.zero_le _) hv
  have lv2 := lv1.same g2
  have n2 := n1.same g2
  have kk2 : Kp p H H2 := k1.trans (Kp.of g2)
  have hv12 : Da K (hM M H2) v1 (.list (ws.map .str)) := hv11.mono (same_hM g2)
  refine sw_if (td_eqI (M := M) (ed_v 2 rfl (.int _)) ed_int) (fun z H3 g3 => ?_) fun z H3 g3 => sw_nil ?_
  · have lv3 := lv2.same g3
    have n3 := n2.same g3
    have kk3 : Kp p H H3 := kk2.trans (Kp.of g3)
    have hv13 : Da K (hM M H3) v1 (.list (ws.map .str)) := hv12.mono (same_hM g3)
    refine sw_setP (M := M) (p := p) (cc := cc) (c := 60) (b := b + 200) 3 nd ((ep_lst lv3 (ap_cons hpM (ep_tup lv3 (ap_cons hpM (ep_of (d := .str "link") fun H k _ => ed_str) (ap_cons hpM (ep_pick (i := 0) Pk hr (by omega) hpM lv3 rfl (e1 := .list (ws.map .str)) (fun H k l => ed_v 1 rfl (hv13.mono (k.hM hpM))) hw.pk) ap_nil)) (fun ds hds => by
      obtain ⟨_, _, rfl, _, _, _, rfl, _, rfl⟩ := hds
      show 2 ≤ sizeLine; decide)) (ap_cons hpM (ep_tup lv3 (ap_cons hpM (ep_of (d := .str "net") fun H k _ => ed_str) (ap_cons hpM (ep_take (n := 6) (Ps := fun ds => ∃ ls : List Lk, ds = ls.map lkD ∧ ∀ l ∈ ls, GL l) lv3 (ep_ixT (n := 1) ((ep_wide (i := 0) Wn hr (by omega) hpM lv3 rfl hw fun H k _ => ed_v 1 rfl (hv13.mono (k.hM hpM))).imp (fun d hd => by
      obtain ⟨ls, rfl, h2, h3⟩ := hd
      exact ⟨_, _, rfl, rfl, ls.map lkD, rfl, ls, rfl, h3⟩) (Nat.le_refl _)))) ap_nil)) (fun ds hds => by
      obtain ⟨_, _, rfl, _, _, _, rfl, _, rfl⟩ := hds
      show 2 ≤ sizeLine; decide)) ap_nil)) (fun ds hds => by
      obtain ⟨_, _, rfl, _, _, _, rfl, _, rfl⟩ := hds
      show 2 ≤ sizeLine; decide)).imp (Pd' := fun d => ∃ ss : List Shp, d = .list (ss.map Shp.dL) ∧ ss.length = 2 ∧ sizs ss ≤ 7 ∧ ∀ s ∈ ss, PV s ∧ dep s = 0) (fun d hd => by
      obtain ⟨_, rfl, _, _, rfl, ⟨_, rfl, _, _, rfl, rfl, _, _, rfl, hx, rfl⟩, _, _, rfl, ⟨_, rfl, _, _, rfl, rfl, _, _, rfl, ⟨_, rfl, ls, rfl, h3⟩, rfl⟩, rfl⟩ := hd
      obtain ⟨x, rfl, hgx⟩ := hw.of hx
      obtain ⟨a1, a2⟩ := lks6 h3
      refine ⟨[.lnk x, .net (ls.take 6)], ?_, rfl, ?_, fun s hs => ?_⟩
      · show PyData.list _ = PyData.list [_, PyData.tuple [_, PyData.list ((ls.take 6).map lkD)]]
        rw [List.map_take]
        rfl
      · rw [sizs, sizs, sizs, siz]; omega
      · simp only [List.mem_cons, List.not_mem_nil, or_false] at hs
        rcases hs with rfl | rfl
        · exact ⟨by rw [PV]; exact hgx, rfl⟩
        · exact ⟨a1, rfl⟩) (by decide)) (n3.le (by omega)) fun v3 H4 d3 k4 n4 hd3 hv3 => ?_
    obtain ⟨ss, rfl, sl, sz, sp⟩ := hd3
    have lv4 := k4.lv lv3 n4.ne
    have hv14 : Da K (hM M H4) v1 (.list (ws.map .str)) := hv13.mono (k4.hM hpM)
    refine sw_setP (M := M) (p := p) (cc := cc) (c := 59) (b := b + 100) 3 nd ((ep_catL (ds := ss.map Shp.dL) lv4 hpM (fun H k _ => ed_v 3 rfl (hv3.mono (k.hM hpM))) (ep_lst lv4 (ap_cons hpM (ep_tup lv4 (ap_cons hpM (ep_of (d := .str "net") fun H k _ => ed_str) (ap_cons hpM (ep_take (n := 6) (Ps := fun ds => ∃ ls : List Lk, ds = ls.map lkD ∧ ∀ l ∈ ls, GL l) lv4 (ep_ixT (n := 1) ((ep_wide (i := 0) Wn hr (by omega) hpM lv4 rfl hw fun H k _ => ed_v 1 rfl (hv14.mono (k.hM hpM))).imp (fun d hd => by
      obtain ⟨ls, rfl, h2, h3⟩ := hd
      exact ⟨_, _, rfl, rfl, ls.map lkD, rfl, ls, rfl, h3⟩) (Nat.le_refl _)))) ap_nil)) (fun ds hds => by
      obtain ⟨_, _, rfl, _, _, _, rfl, _, rfl⟩ := hds
      show 2 ≤ sizeLine; decide)) ap_nil) (fun ds hds => by
      obtain ⟨_, _, rfl, _, rfl⟩ := hds
      show 1 ≤ sizeLine; decide)) (fun es hes => by
      obtain ⟨_, _, rfl, _, rfl⟩ := hes
      rw [List.length_map, sl]; show 3 ≤ sizeLine; decide)).imp (Pd' := fun d => ∃ ss : List Shp, d = .list (ss.map Shp.dL) ∧ ss.length = 3 ∧ sizs ss ≤ 13 ∧ ∀ s ∈ ss, PV s ∧ dep s = 0) (fun d hd => by
      obtain ⟨_, rfl, _, _, rfl, ⟨_, rfl, _, _, rfl, rfl, _, _, rfl, ⟨_, rfl, ls, rfl, h3⟩, rfl⟩, rfl⟩ := hd
      obtain ⟨a1, a2⟩ := lks6 h3
      refine ⟨ss ++ [.net (ls.take 6)], ?_, by rw [List.length_append, sl]; rfl, ?_, fun s hs => ?_⟩
      · rw [List.map_append]
        show PyData.list _ = PyData.list (_ ++ [PyData.tuple [_, PyData.list ((ls.take 6).map lkD)]])
        rw [List.map_take]
      · rw [sizs_append, sizs, sizs]; omega
      · rcases List.mem_append.mp hs with y | y
        · exact sp s y
        · rw [List.mem_singleton.mp y]; exact ⟨a1, rfl⟩) (by decide)) (n4.le (by omega)) fun v4 H5 d4 k5 n5 hd4 hv4 => ?_
    obtain ⟨tt, rfl, tl, tz, tp⟩ := hd4
    have lv5 := k5.lv lv4 n5.ne
    have hv15 : Da K (hM M H5) v1 (.list (ws.map .str)) := hv14.mono (k5.hM hpM)
    obtain ⟨w0, wr, hws⟩ : ∃ w0 wr, ws = w0 :: wr := by
      cases ws with
      | nil => exact absurd rfl hw.ne
      | cons a b => exact ⟨a, b, rfl⟩
    have hg0 : GN w0 := hw.gn w0 (by rw [hws]; exact List.mem_cons_self)
    refine sw_retP (M := M) (p := p) (cc := cc) (c := 2) (b := b) ((ep_tup lv5 (ap_cons hpM (ep_pick (i := 0) Pk hr (by omega) hpM lv5 rfl (e1 := .list [.str "row", .str "bunch"]) (fun H k l => ed_lst l (ad_cons ed_str (ad_cons ed_str ad_nil)) (by show 2 ≤ sizeLine; decide)) (.inl ⟨_, rfl, by simp, by show 2 < 1000000; decide⟩)) (ap_cons hpM (ep_catR (es := [(Shp.lnk w0).dL]) (Ps := fun ds => ∃ k : Nat, ds = (tt.map Shp.dL).drop k) lv5 ((ep_dropP (ds := tt.map Shp.dL) lv5 hpM (fun H k _ => ed_v 3 rfl (hv4.mono (k.hM hpM))) (ep_draw (i := 0) (many := 2) Dr hr (by omega) rfl (fun H k _ => ed_int) (by decide) (by decide)) (fun d hd => by
      obtain ⟨r, rfl, r0, r1⟩ := hd
      exact ⟨r.toNat, by rw [Int.toNat_of_nonneg r0]⟩)).imp (fun d hd => by
      obtain ⟨k, rfl⟩ := hd
      exact ⟨_, rfl, k, rfl⟩) (Nat.le_refl _)) (fun H k h => ed_lst (k.lv lv5 h) (ad_cons (ed_tup (k.lv lv5 h) (ad_cons ed_str (ad_cons (ed_ixL (n := 0) (ed_v 1 rfl (hv15.mono (k.hM hpM))) ed_int (by rw [hws]; rfl)) ad_nil)) (by show 2 ≤ sizeLine; decide)) ad_nil) (by show 1 ≤ sizeLine; decide)) (fun ds hds => by
      obtain ⟨k, rfl⟩ := hds
      rw [List.length_drop, List.length_map, tl, sizeLine_eq]; show 3 - k + 1 ≤ _; omega)) ap_nil)) (fun ds hds => by
      obtain ⟨_, _, rfl, _, _, _, rfl, _, rfl⟩ := hds
      show 2 ≤ sizeLine; decide)).imp (fun _ h => h) (by decide)) (n5.le (by omega)) fun v H' d k6 n6 hd hv => ?_
    obtain ⟨_, rfl, _, _, rfl, hk, _, _, rfl, ⟨_, rfl, kk, rfl⟩, rfl⟩ := hd
    obtain ⟨k, rfl⟩ := pick_kw hk
    have hmem : ∀ s ∈ tt.drop kk ++ [.lnk w0], PV s ∧ dep s = 0 := fun s hs => by
      rcases List.mem_append.mp hs with y | y
      · exact tp s (List.mem_of_mem_drop y)
      · rw [List.mem_singleton.mp y]; exact ⟨by rw [PV]; exact hg0, rfl⟩
    have hd := drop_le (k := kk) (ss := tt)
    refine q v H' (.jn k (tt.drop kk ++ [.lnk w0])) (kk3.trans (k4.trans (k5.trans k6))) n6 ?_ ?_ ?_ ?_
    · rw [PV]
      exact ⟨by rw [List.length_append, List.length_drop, tl]; show 3 - kk + 1 ≤ 14; omega, PVs_iff.mpr fun s hs => (hmem s hs).1⟩
    · rw [siz, sizs_append, sizs, sizs, siz]; omega
    · rw [dep]
      have := deps_le (n := 0) fun s hs => Nat.le_of_eq (hmem s hs).2
      omega
    · rw [Shp.dL, dLs_map, List.map_append, List.map_drop]; exact hv
  · have lv3 := lv2.same g3
    have n3 := n2.same g3
    have kk3 : Kp p H H3 := kk2.trans (Kp.of g3)
    have hv13 : Da K (hM M H3) v1 (.list (ws.map .str)) := hv12.mono (same_hM g3)
    refine sw_retP (M := M) (p := p) (cc := cc) (c := 1 + cP 4) (b := b) (ep_plan (i := 0) (R := 14) (dp := 4) Pl hr (Nat.le_refl _) hpM lv3 rfl hw (Nat.le_refl _) (by decide) (by decide) ((ap_cons hpM (ep_of (d := .list (ws.map .str)) fun H k _ => ed_v 1 rfl (hv13.mono (k.hM hpM))) (ap_cons hpM (ep_pick (i := 0) Pk hr (by omega) hpM lv3 rfl (e1 := .list (([4, 8, 14] : List Int).map .int)) (fun H k l => ed_lst l (ad_cons ed_int (ad_cons ed_int (ad_cons ed_int ad_nil))) (by show 3 ≤ sizeLine; decide)) (.inl ⟨_, rfl, by simp, by show 3 < 1000000; decide⟩)) (ap_cons hpM (ep_of (d := .int (4 : Nat)) fun H k _ => ed_int) ap_nil))).imp (c1 := 1) (fun ds hds => by
      obtain ⟨_, _, rfl, rfl, _, _, rfl, hj, _, _, rfl, rfl, rfl⟩ := hds
      obtain ⟨j, rfl, hjj⟩ := pick_int hj
      simp only [List.mem_cons, List.not_mem_nil, or_false] at hjj
      exact ⟨j.toNat, by rw [Int.toNat_of_nonneg (by omega)], by omega, by omega⟩) (by decide))) (n3.le (by rw [cP_4]; omega)) fun v H' d k4 n4 hd hv => ?_
    obtain ⟨S, rfl, hS, hz, hd⟩ := hd
    exact q v H' S (kk3.trans k4) n4 hS hz hd hv
end
end S6

/-! RH: yield from a list. -/
namespace S6
open PySem PySem.Spec PyProof.Rows L2
section
variable {prog : Program} {w : World} {A : Around} {E : Value → Shared → Prop} {s : Shared}
theorem special_list_item {it t : Addr} {i : Nat} {items : Array Value} {x : Value} {Q : Option Value → Shared → Prop} (hit : s.heap.IsListIter it t i) (ht : s.heap.IsList t items) (hx : items[i]? = some x)
    (hQ : ∀ h', h'.IsListIter it t (i + 1) → Heap.SameBut it s.heap h' → Q (some x) { s with heap := h' }) : wpAny (model prog w) A (callSpecial? (.ref it) "__next__") Q E s := by
  obtain ⟨o, ho, hc, hd⟩ := id hit
  obtain ⟨ol, hol, _, nl, hdl⟩ := ht
  refine wpAny_callSpecial?_slot (name := Str.ofString "__next__") hit.typeIs slot_listiter_next (wpAny_call_entry slot_listiter_next hit.typeIs entry_listiter_next ?_ (args_listiter_next _))
  show wpAny _ _ (field (.ref it) 0 >>= _) _ _ s
  refine wpAny_bind (wpAny_field ho hd (x := .ref t) rfl ?_)
  show wpAny _ _ (if (Value.ref t == Value.none) = true then _ else _) _ _ s
  rw [if_neg (show ¬ ((Value.ref t == Value.none) = true) from Bool.false_ne_true)]
  show wpAny _ _ (field (.ref it) 1 >>= _) _ _ s
  refine wpAny_bind (wpAny_field ho hd (x := .int i 0) rfl ?_)
  show wpAny _ _ (seqItems? (.ref t) >>= _) _ _ s
  refine wpAny_bind (wpAny_seqItems hol hdl ?_)
  simp only [Int.toNat_natCast, hx]
  refine wpAny_bind (wpAny_setField ho hd (by simp) (wpAny_pure ⟨x, rfl, hQ _ ?_ (Heap.SameBut.update ..)⟩))
  exact ⟨_, Heap.get?_update_self _ ho (Obj.isFreed_of_fields (Obj.data_mapFields hd _)), (Obj.cls_mapFields ..).trans hc, by
    rw [Obj.data_mapFields hd]; simp [rawInt]⟩
theorem special_list_end {it t : Addr} {i : Nat} {items : Array Value} {Q : Option Value → Shared → Prop} (hh : A.handled = none) (hit : s.heap.IsListIter it t i) (ht : s.heap.IsList t items) (hx : items[i]? = none)
    (hE : ∀ e h', StopX e h' → Heap.ExtBut it s.heap h' → E e { s with heap := h' }) : wpAny (model prog w) A (callSpecial? (.ref it) "__next__") Q E s := by
  obtain ⟨o, ho, hc, hd⟩ := id hit
  obtain ⟨ol, hol, _, nl, hdl⟩ := ht
  refine wpAny_callSpecial?_slot (name := Str.ofString "__next__") hit.typeIs slot_listiter_next (wpAny_call_entry slot_listiter_next hit.typeIs entry_listiter_next ?_ (args_listiter_next _))
  show wpAny _ _ (field (.ref it) 0 >>= _) _ _ s
  refine wpAny_bind (wpAny_field ho hd (x := .ref t) rfl ?_)
  show wpAny _ _ (if (Value.ref t == Value.none) = true then _ else _) _ _ s
  rw [if_neg (show ¬ ((Value.ref t == Value.none) = true) from Bool.false_ne_true)]
  show wpAny _ _ (field (.ref it) 1 >>= _) _ _ s
  refine wpAny_bind (wpAny_field ho hd (x := .int i 0) rfl ?_)
  show wpAny _ _ (seqItems? (.ref t) >>= _) _ _ s
  refine wpAny_bind (wpAny_seqItems hol hdl ?_)
  simp only [Int.toNat_natCast, hx]
  refine wpAny_bind (wpAny_rule (wpAny_bind (wpAny_setField ho hd (by simp) ?_)))
  show wpAny _ _ (newExc (.type "StopIteration") [] >>= _) _ _ _
  refine wpAny_bind ?_
  simp only [newExc, newTuple]
  refine wpAny_bind (wpAny_newObj_type ?_ (by size_fits))
  refine wpAny_bind (m := firstArgMember _ _) (wpAny_of_eq (a := Value.none) (by first | rfl | (simp only [firstArgMember]; rfl)) ?_)
  refine wpAny_newObj_type ?_ (by size_fits)
  simp only [raiseNew]
  refine wpAny_bind (wpAny_handled ?_)
  first | rw [show A.in1.handled = none from hh] | rw [hh]
  refine wpAny_bind (wpAny_pure (wpAny_throw ?_))
  refine hE _ _ ⟨_, _, _, rfl, Heap.get?_push_size _ rfl, rfl, rfl, ?_⟩ (((Heap.SameBut.update ..).extBut.push _).push _)
  first
    | rfl
    | (rw [Array.getElem?_append_left (by decide)]; rfl)
    | kernel_rfl
end
section
variable {X : Cx} {e : Expr} {te : TE}
def tYfList (te : TE) : TYf := fun σ H Q => te σ H fun x H1 => ∃ a xs, x = .ref a ∧ H1 a = some (.lst xs) ∧ Q xs H1
theorem close_list : typeLookup (.type "list_iterator") "close" = pure none := by rw [typeLookup_type, builtinLookup_eq_fast]; kernel_rfl
theorem yf_list (he : PE X e te) : YfE X e (tYfList te) := by
  refine ⟨fun pins s σ H Q I h => ?_⟩
  refine thn (he.run pins s σ H _ I h) fun v s1 ⟨x, H1, I1, r1, a, xs, ex, ha, hq⟩ => ?_
  subst ex
  obtain rfl : v = Value.ref a := r1
  obtain ⟨hlen, its, cc, rits, ht0⟩ := I1.hok a _ ha
  have ht : s1.heap.IsList a its.toArray := ⟨_, ht0, rfl, cc, rfl⟩
  refine ⟨"list", ht.typeIs, by decide, wpAny_pyIter_list ht ?_⟩
  have ksz : ∀ b o, s1.heap.get? b = some o → b ≠ s1.heap.objs.size := fun b o e => Nat.ne_of_lt (Heap.lt_size e)
  have kp : ∀ b o, s1.heap.get? b = some o → (s1.heap.push { cls := .type "list_iterator", data := .fields #[.ref a, .int 0 0] }).get? b = some o := fun b o e => Heap.get?_push_of_some _ e
  refine ⟨s1.heap.objs.size, H1, xs, fun j h => h.IsListIter s1.heap.objs.size a j ∧ h.IsList a its.toArray, rfl, I1.kept (t' := s1.toks) kp, .inr I1.sz, Nat.ne_of_gt I1.lt, fun y c hy => ?_, I1.hok.fresh (Nat.le_refl _), fun p hp => ?_,
    ⟨⟨_, Heap.get?_push_size _ rfl, rfl, rfl⟩, ht.push _⟩, ⟨⟨"list_iterator", fun j h q => ?_, close_list, by decide⟩, fun j h h' q hk => ?_, fun A' j x s2 Q' E' hA hx q hQ => ?_, fun A' s2 Q' E' hA q hE => ?_⟩, hq⟩
  · obtain ⟨v, o, ho, _⟩ := I1.cell y c hy
    exact ksz c o ho
  · exact ksz p.1 _ (I1.pin p hp).1
  · obtain ⟨⟨o, ho, hc, _⟩, _⟩ := q
    exact ⟨o, ho, hc⟩
  · obtain ⟨⟨o, ho, r⟩, o2, ho2, r2⟩ := q
    exact ⟨⟨o, hk _ o (.inl rfl) ho, r⟩, o2, hk _ o2 (.inr (by rw [ha]; exact fun z => by cases z)) ho2, r2⟩
  · obtain ⟨q1, q2⟩ := q
    obtain ⟨u, hu, ru⟩ := rits.get hx
    have hne : a ≠ s1.heap.objs.size := by
      obtain ⟨o, ho, _⟩ := ht
      exact Nat.ne_of_lt (Heap.lt_size ho)
    exact special_list_item q1 q2 (x := u) (by simpa using hu) fun h' q1' hs => hQ u h' s2.toks ru ⟨q1', q2.extBut hs.extBut hne⟩ fun b o hb eb => hs.extBut b o hb eb
  · obtain ⟨q1, q2⟩ := q
    have hnone : its.toArray[xs.length]? = none := by
      have e := rits.length
      have e2 : its[xs.length]? = none := List.getElem?_eq_none_iff.mpr (by omega)
      simpa using e2
    exact special_list_end hA q1 q2 hnone fun e h' hS hk => hE e h' s2.toks hS fun b o hb eb => hk b o hb eb
end
end S6

/-! W11: sides_of. -/
namespace S6
open PySem PySem.Spec PyProof.Rows L2
theorem side1_get {s : List Int} {j : Int} {i : Nat} {a : List Int} {f : List (List Int)} (h : f[i]? = some a) : (side1 s f j)[i]? = some a := by
  unfold side1
  by_cases c : srtI (s ++ [j]) ∈ f
  · rw [if_pos c]; exact h
  · rw [if_neg c, List.getElem?_append_left (List.getElem?_eq_some_iff.mp h).1]; exact h
theorem sides_get {s : List Int} {i : Nat} {a : List Int} : ∀ {js : List Int} {f : List (List Int)}, f[i]? = some a → (js.foldl (side1 s) f)[i]? = some a
  | [], f, h => h
  | j :: js, f, h => sides_get (js := js) (side1_get h)
theorem SInv.foldS {ls : List Lk} {s : List Int} : ∀ {js : List Int} {f : List (List Int)}, SInv ls f → s ∈ f → (∀ j ∈ js, j ∈ nextJ ls s) → SInv ls (js.foldl (side1 s) f)
  | [], f, h, _, _ => h
  | j :: js, f, h, hs, hj => by
    refine SInv.foldS (js := js) (h.step (h.sub s hs) (hj j List.mem_cons_self)) ?_ fun k hk => hj k (List.mem_cons_of_mem _ hk)
    unfold side1
    by_cases c : srtI (s ++ [j]) ∈ f
    · rw [if_pos c]; exact hs
    · rw [if_neg c]; exact List.mem_append_left _ hs
theorem SInv.slen {ls : List Lk} {f : List (List Int)} {s : List Int} (h : SInv ls f) (hs : s ∈ f) (hl : ls.length ≤ 7) : s.length ≤ 15 := by
  obtain ⟨p, rfl⟩ := h.sub s hs
  have := setI_len (0 :: endsL (ls.filter p))
  rw [List.length_cons, endsL_len] at this
  have := List.length_filter_le p ls
  unfold sd
  omega
theorem iD_nint {H : Hp} {K : Frg} {xs : List V} {f : List (List Int)} (h : DaAll K H xs (f.map iD)) (hf : f ≠ []) (ns : List Int) : xs ≠ ns.map V.int := fun e => by
  cases f with
  | nil => exact hf rfl
  | cons s f =>
    rw [List.map_cons] at h
    cases h with
    | cons h1 h2 =>
      obtain ⟨a, ys, rfl, _⟩ := h1.tup_inv
      cases ns with
      | nil => cases e
      | cons n ns => cases e
theorem kV_int (ns : List Int) : (ns.map (Sum.inl : Int → L2.Key)).map kV = ns.map V.int := by rw [List.map_map]; rfl
theorem inl_inj {a b : List Int} (h : a.map (Sum.inl : Int → L2.Key) = b.map Sum.inl) : a = b := (List.map_inj_right fun x y e => Sum.inl.inj e).mp h
section
variable {P : Program} {w : World} {K : Frg} {mg : Str → Option Value} {base : Heap} {aO aS aB : Addr}
def R_so : List PyData → PyData → Prop := fun ds d => ∃ ls : List Lk, ds = [.list (ls.map lkD)] ∧ ls.length ≤ 7 ∧ d = .list ((sides ls).map iD)
/-- known and found, ahead of a turn -/
structure SdI (K : Frg) (M : List Addr) (H : Hp) (p kp : Addr) (f : List (List Int)) (H' : Hp) : Prop where
  lst : ∃ xs, H' p = some (.lst xs) ∧ DaAll K (hM (p :: kp :: M) H') xs (f.map iD)
  dct : ∃ kvs : List (List L2.Key × V), H' kp = some (.dT kvs) ∧ kvs.length ≤ f.length ∧ ∀ s : List Int, (valV kvs (s.map Sum.inl)).isSome = decide (s ∈ f)
  grow : Same H H'
  lv : Lv (p :: kp :: M) H'
  facts : Same (hM M H) (hM (p :: kp :: M) H')
theorem SdI.same {M : List Addr} {H H' H2 : Hp} {p kp : Addr} {f : List (List Int)} (h : SdI K M H p kp f H') (g : Same H' H2) : SdI K M H p kp f H2 := by
  obtain ⟨xs, a1, a2⟩ := h.lst
  obtain ⟨kvs, b1, b2⟩ := h.dct
  exact ⟨⟨xs, g _ _ a1, a2.mono (same_hM g)⟩, ⟨kvs, g _ _ b1, b2⟩, h.grow.trans g, h.lv.same g, h.facts.trans (same_hM g)⟩
theorem c_sides_of (G : Glo K mg aO aS aB) (D : Dfn K mg "sides_of" s_sides_of) (Nj : Cl P w K mg base 2 "next_joints" (spR K R_nj)) : Cl P w K mg base 3 "sides_of" (spR K R_so) := by
  refine cl_w D (fun _ _ _ _ _ _ us hl => match us, hl with | [_], _ => rfl) sc_sides_of (spR_len fun ds d h => by obtain ⟨_, rfl, _⟩ := h; rfl) fun fa cdv A outer s H vs Q E hr h => ?_
  obtain ⟨M, ds, d, lv, ha, ⟨ls, rfl, hl, rfl⟩, q⟩ := h
  obtain ⟨v0, rfl, hv0⟩ := ha.inv1
  have nd := sc_sides_of.nd
  have hun : (A.deeper (envOfC "sides_of" (defScope s_sides_of) s.heap.objs.size fa cdv)).units + 1 < cLine := by have := hr.un; omega
  have pw : 2 ^ ls.length ≤ 128 := Nat.le_trans (Nat.pow_le_pow_right (i := ls.length) (j := 7) (by decide) hl) (by decide)
  refine sw_lst (M := M) (ds := [iD [0]]) 1 nd (ad_cons (ed_tup lv (ad_cons (ed_gc rfl G.LEFT fun _ => .int 0) ad_nil) (by show 1 ≤ sizeLine; decide)) ad_nil) (by show 1 ≤ sizeLine; decide) fun p vs H1 g1 hp hvs => ?_
  have hpH : H p = none := by
    cases h : H p with
    | none => rfl
    | some o => have := g1 _ _ h; rw [hp] at this; cases this
  have hnM : p ∉ M := (lv.same g1).new hp
  refine sw_dict1T (d := .bool true) (ns := [0]) 2 nd hun (fun H' g' => ev_tup (M := []) (ad_cons (ed_gc rfl G.LEFT fun _ => .int 0) ad_nil) (by show 1 ≤ sizeLine; decide)) (fun H' => ed_bl) fun kp v2 H2 g2 hk0 hkp => ?_
  have ne : p ≠ kp := fun e => by rw [← e, upd_same] at hk0; cases hk0
  have hk1 : H1 kp = none := by rwa [upd_ne (Ne.symm ne)] at hk0
  have hkH : H kp = none := by
    cases h : H kp with
    | none => rfl
    | some o => have := g1 _ _ h; rw [hk1] at this; cases this
  have hkM : kp ∉ M := (lv.same g1).new hk1
  have hp2 : H2 p = some (.lst vs) := g2 _ _ upd_same
  have g12 : Same H1 H2 := (same_new hp).trans g2
  have lv2 : Lv (p :: kp :: M) H2 := ((lv.same (g1.trans g12)).cons hkp).cons hp2
  have ff : ∀ {Hx : Hp}, Same H1 Hx → Same (hM M H1) (hM (p :: kp :: M) Hx) := fun {Hx} gx => by
    intro b o hb
    by_cases hm : b ∈ M
    · rw [hM_in hm] at hb; cases hb
    · rw [hM_out hm] at hb
      rw [hM_out]
      · exact gx _ _ hb
      · intro z
        rcases List.mem_cons.mp z with z | z
        · rw [z, hp] at hb; cases hb
        · rcases List.mem_cons.mp z with z | z
          · rw [z, hk1] at hb; cases hb
          · exact hm z
  have start : SdI K M H p kp [[0]] H2 := ⟨⟨vs, hp2, hvs.mono (ff g12)⟩, ⟨[([0].map Sum.inl, v2)], hkp, Nat.le_refl _, fun t => by
    by_cases c : t = [0]
    · subst c
      rw [decide_eq_true (by simp)]
      rfl
    · rw [decide_eq_false (by simpa using c)]
      show (valV (putK [] ([0].map Sum.inl) v2) (t.map Sum.inl)).isSome = false
      rw [valV_put, if_neg fun z => c (inl_inj z)]
      rfl⟩, g1.trans g12, lv2, (same_hM g1).trans (ff g12)⟩
  refine sw_set (M := M) (d := .int 0) 3 nd ed_int fun v3 H3 g3 hv3 => ?_
  obtain rfl := hv3.int_inv
  refine sw_while PassesOwn.never (fun σ' H' => ∃ (i : Nat) (f : List (List Int)) (o4 o5 o6 : Option V), σ' = [some v0, some (.ref p), some (.ref kp), some (.int i), o4, o5, o6] ∧ SdI K M H p kp f H' ∧ sidesGo ls (2 ^ ls.length - i) i f = sides ls ∧ SInv ls f ∧ i ≤ f.length ∧ f ≠ [])
    (fun σ' H' => match σ' with | [_, _, _, some (.int i), _, _, _] => 1000 - i.toNat | _ => 0) ⟨0, [[0]], none, none, none, rfl, start.same g3, rfl, SInv.start ls, Nat.zero_le _, by simp⟩ ?_
  rintro σ' H' ⟨i, f, o4, o5, o6, rfl, S, p2, p3, p4, p5⟩
  have hnkM : p ∉ kp :: M := fun z => (List.mem_cons.mp z).elim ne hnM
  have rdF : ∀ {f' : List (List Int)} {Hx : Hp}, SdI K M H p kp f' Hx → Da K (hM (kp :: M) Hx) (.ref p) (.list (f'.map iD)) := fun {f' Hx} S => by
    obtain ⟨xs, a1, a2⟩ := S.lst
    exact da_lst_at a1 hnkM a2
  have flen := p3.len
  refine ⟨_, td_lt (M := kp :: M) (ed_v 3 rfl (.int _)) (ed_lenL G.len (ed_v 1 rfl (rdF S))), fun hb H3 g3 => ?_, fun hb H3 g3 => ?_⟩
  · have hb := of_decide_eq_true hb
    rw [List.length_map] at hb
    have hi : i < f.length := by omega
    obtain ⟨t, ht⟩ : ∃ t, f[i]? = some t := ⟨_, List.getElem?_eq_getElem hi⟩
    have htm : t ∈ f := List.mem_of_getElem? ht
    have tlen := p3.slen htm hl
    have S3 := S.same g3
    obtain ⟨xs, hx1, hx2⟩ := S3.lst
    have lvk : Lv (kp :: M) H3 := S3.lv.tail
    refine sw_for (M := p :: kp :: M) (ls := nextJ ls t) (enc := .int) (fs := fun j => [.int j]) PassesOwn.never rfl (src_list (ed_mask (xs := xs) (ed_cl (M := kp :: M) Nj hr (Nat.le_refl _) lvk (ad_cons (ed_v 0 rfl ((hv0.mono S3.facts).mono hM_cons)) (ad_cons (ed_ixL (n := i) (ed_v 1 rfl (rdF S3)) (ed_v 3 rfl (.int _)) (by rw [List.getElem?_map, ht]; rfl)) ad_nil)) ⟨ls, t, rfl, by omega, by omega, rfl⟩) hx1 (iD_nint hx2 p5 _))) (pg1 4 nd) tg_name (fun _ _ => rfl) fun H4 g4 => ?_
    have S4 := S3.same g4
    refine ⟨fun k σ' H' => ∃ o4 o5 o6, σ' = [some v0, some (.ref p), some (.ref kp), some (.int i), o4, o5, o6] ∧ SdI K M H p kp (((nextJ ls t).take k).foldl (side1 t) f) H' ∧ Same (hM (p :: kp :: M) H4) (hM (p :: kp :: M) H'),
      ⟨o4, o5, o6, rfl, S4, Same.refl _⟩, fun k σ' H' ⟨_, _, _, _, b3, b4⟩ => ⟨b4, b3.lv⟩, ?_, ?_⟩
    · rintro k j σ' H5 H6 vs hk ⟨o4', o5', o6', rfl, S5, b4⟩ g6 hvs
      obtain ⟨u, rfl, hu⟩ := hvs.inv1
      obtain rfl := hu.int_inv
      have inv := p3.foldS (js := (nextJ ls t).take k) htm fun x hx => List.mem_of_mem_take hx
      have S6 := S5.same g6
      have b6 := b4.trans (same_hM (M := p :: kp :: M) g6)
      have hF2 : ((nextJ ls t).take (k + 1)).foldl (side1 t) f = side1 t (((nextJ ls t).take k).foldl (side1 t) f) j := by rw [take_step hk, List.foldl_append]; rfl
      have htF : (((nextJ ls t).take k).foldl (side1 t) f)[i]? = some t := sides_get ht
      generalize ((nextJ ls t).take k).foldl (side1 t) f = F at inv S6 htF hF2
      have Flen := inv.len
      have hFne : F ≠ [] := fun e => by rw [e] at htF; cases htF
      obtain ⟨xs6, y1, y2⟩ := S6.lst
      have lvk6 : Lv (kp :: M) H6 := S6.lv.tail
      refine sw_setE 5 nd (ev_tupI (M := p :: kp :: M) (xs := srtI (t ++ [j])) S6.lv G.tuple (ed_mask (xs := xs6) (ed_sortI (M := kp :: M) (xs := t ++ [j]) lvk6 G.sorted (ed_lc (own := [("one", 6)]) (ls := t ++ [j]) (enc := .int) (f := .int) (fs := fun j => [.int j]) rfl nd lvk6 (src_tup (ed_cast (ed_tup lvk6 (ad_starT (ed_ixL (n := i) (ed_v 1 rfl (rdF S6)) (ed_v 3 rfl (.int _)) (by rw [List.getElem?_map, htF]; rfl)) (ad_cons (ed_v 4 rfl (.int j)) ad_nil)) ?_) ?_))
        (blkOk_by (N := n_sides_of) (sc := defScope s_sides_of) (by decide +kernel)) (fun _ _ _ _ _ => pg1 6 nd) tg_name (by rw [List.length_append, sizeLine_eq, List.length_singleton]; omega) (by decide) (fun _ _ => rfl) (fun x hx vs D H' s0 h0 C cl fp g lv' hvs => ?_))) y1 (iD_nint y2 hFne _))) fun v H7 g7 hv => ?_
      · rw [List.length_append, List.length_map, sizeLine_eq]; show _ + 1 ≤ _; omega
      · rw [List.map_append]; rfl
      · obtain ⟨u, rfl, hu⟩ := hvs.inv1
        exact ed_intI G.int (ed_v 6 rfl hu)
      · obtain ⟨b, rfl, hb, hbM⟩ := hv
        have S7 := S6.same g7
        have b7 := b6.trans (same_hM (M := p :: kp :: M) g7)
        obtain ⟨kvs, d1, d2, d3⟩ := S7.dct
        have hb' : H7 b = some (.tup (((srtI (t ++ [j])).map (Sum.inl : Int → L2.Key)).map kV)) := by rw [kV_int]; exact hb
        refine sw_if (td_dninT (k := (srtI (t ++ [j])).map Sum.inl) (b1 := b) (p := kp) (kvs := kvs) hun (ev_at 5 rfl hb') (ev_v 2 rfl) d1) (fun hc H8 g8 => ?_) (fun hc H8 g8 => ?_)
        · rw [d3, Bool.not_eq_true', decide_eq_false_iff_not] at hc
          have S8 := S7.same g8
          have b8 := b7.trans (same_hM (M := p :: kp :: M) g8)
          refine sw_dputT (M := M) (d := .bool true) (p := kp) (b1 := b) (kvs := kvs) (ky := (srtI (t ++ [j])).map Sum.inl) hun ed_bl (ev_v 2 rfl) (ev_at 5 rfl (g8 _ _ hb')) (g8 _ _ d1) (by rw [sizeLine_eq]; omega) fun v9 H9 g9 => ?_
          have S9 := S8.same g9
          have b9 := b8.trans (same_hM (M := p :: kp :: M) g9)
          have em : ∀ {o : HO}, hM (p :: kp :: M) (upd H9 kp o) = hM (p :: kp :: M) H9 := fun {o} => hM_upd (List.mem_cons_of_mem _ List.mem_cons_self)
          obtain ⟨xs9, z1, z2⟩ := S9.lst
          have bne : b ≠ kp := fun e => hbM (by rw [e]; exact List.mem_cons_of_mem _ List.mem_cons_self)
          have hb9 : H9 b = some (.tup ((srtI (t ++ [j])).map V.int)) := g9 _ _ (g8 _ _ hb)
          refine sw_append (M := p :: kp :: M) (d := iD (srtI (t ++ [j]))) 1 mOk_by rfl (xs := xs9) (by rw [upd_ne ne]; exact z1) List.mem_cons_self (by rw [z2.len, List.length_map, sizeLine_eq]; omega) (ed_v 5 rfl (.tup (.inl (.inl (by rw [em, hM_out hbM]; exact hb9))) (.ofInts _))) fun v10 H10 g10 hv10 => sw_nil (sw_nil ?_)
          have em2 : ∀ {o : HO}, hM (p :: kp :: M) (upd H10 p o) = hM (p :: kp :: M) H10 := fun {o} => hM_upd List.mem_cons_self
          have k10 : Same (hM (p :: kp :: M) H9) (hM (p :: kp :: M) H10) := by
            have := same_hM (M := p :: kp :: M) g10
            rwa [em] at this
          have hs1 : side1 t F j = F ++ [srtI (t ++ [j])] := by unfold side1; rw [if_neg hc]
          rw [em2] at hv10
          have res : SdI K M H p kp (F ++ [srtI (t ++ [j])]) (upd H10 p (.lst (xs9 ++ [v10]))) := by
            refine ⟨⟨_, upd_same, ?_⟩, ⟨putK kvs ((srtI (t ++ [j])).map Sum.inl) v9, by rw [upd_ne (Ne.symm ne)]; exact g10 _ _ upd_same, ?_, fun x => ?_⟩, ?_, ?_, ?_⟩
            · rw [em2, List.map_append]
              exact (z2.mono k10).snoc hv10
            · have := length_putK kvs ((srtI (t ++ [j])).map Sum.inl) v9
              rw [List.length_append, List.length_singleton]
              omega
            · rw [valV_put]
              by_cases c : x = srtI (t ++ [j])
              · rw [c, if_pos rfl, decide_eq_true (by simp)]; rfl
              · rw [if_neg fun z => c (inl_inj z), d3]
                exact decide_eq_decide.mpr ⟨fun z => List.mem_append_left _ z, fun z => (List.mem_append.mp z).elim id fun z => absurd (List.mem_singleton.mp z) c⟩
            · exact same_put hpH ((same_put hkH S9.grow).trans g10)
            · exact ((S9.lv.upd).same g10).upd
            · rw [em2]; exact S9.facts.trans k10
          exact ⟨_, _, _, rfl, by rw [hF2, hs1]; exact res, by rw [em2]; exact b9.trans k10⟩
        · rw [d3, Bool.not_eq_false', decide_eq_true_eq] at hc
          have hs1 : side1 t F j = F := by unfold side1; rw [if_pos hc]
          exact sw_nil (sw_nil ⟨_, _, _, rfl, by rw [hF2, hs1]; exact S7.same g8, b7.trans (same_hM g8)⟩)
    · rintro σ' H5 ⟨o4', o5', o6', rfl, S5, b4⟩
      rw [List.take_length] at S5
      refine sw_addI (M := M) (k := 1) 3 nd rfl ed_int fun H6 g6 => sw_nil ?_
      have hg := sides_get (s := t) (js := nextJ ls t) ht
      refine ⟨⟨i + 1, (nextJ ls t).foldl (side1 t) f, o4', o5', o6', rfl, S5.same g6, ?_, p3.foldS htm fun x hx => hx, ?_, fun e => by rw [e] at hg; cases hg⟩, ?_⟩
      · rw [← p2, sidesGo_step ht (by omega)]
      · have := (List.getElem?_eq_some_iff.mp hg).1
        omega
      · show 1000 - ((i : Int) + 1).toNat < 1000 - ((i : Int)).toNat
        omega
  · have hb := of_decide_eq_false hb
    rw [List.length_map] at hb
    have hi : f.length ≤ i := by omega
    rw [sidesGo_end hi] at p2
    refine sw_ret (M := M) (ed_v 1 rfl (((rdF S).mono hM_cons).mono (same_hM g3))) fun v H4 g4 hv => q v H4 (S.grow.trans (g3.trans g4)) ?_
    rw [← p2]
    exact hv
end
end S6

/-! W14: ways and cuts. -/
namespace S6
open PySem PySem.Spec PyProof.Rows L2
def wksS (S : Shp) : List (List Nat) := if knd S = "open" then [[]] else walksL (laidS S)
def wayS (S : Shp) : List (List Str) := inOrd ((wksS S).map fun w => cnt (laidS S) w)
def cutS (S : Shp) : List (List Str) := if knd S = "open" then [] else cutsL (laidS S)
theorem cnt_small {ls : List Lk} {ps : List Nat} (h : ∀ l ∈ ls, GL l) : ∀ x ∈ cnt ls ps, x.length ≤ 8 := fun x hx => by
  obtain ⟨i, hi, rfl⟩ := List.mem_map.mp ((srtS_perm _).mem_iff.mp hx)
  rw [List.getD_eq_getElem?_getD]
  cases e : ls[i]? with
  | none => exact Nat.zero_le _
  | some l => exact (h l (List.mem_of_getElem? e)).nm.hi
theorem leave_lt {ls : List Lk} {s : List Int} : ∀ i ∈ leave ls s, i < ls.length := fun i hi => by
  obtain ⟨x, hx, rfl⟩ := List.mem_map.mp hi
  have := List.snd_lt_of_mem_zipIdx (List.mem_filter.mp hx).1
  simpa using this
theorem leave_len (ls : List Lk) (s : List Int) : (leave ls s).length ≤ ls.length := by
  unfold leave
  rw [List.length_map]
  refine Nat.le_trans (List.length_filter_le _ _) ?_
  rw [List.length_zipIdx]
  exact Nat.le_refl _
theorem eqv_nil (ds : List PyData) : PyData.eqv (.list ds) (.list []) = decide (ds = []) := by
  cases ds with
  | nil => decide +kernel
  | cons d ds => rw [decide_eq_false (fun z => nomatch z)]; rfl
section
variable {P : Program} {w : World} {K : Frg} {mg : Str → Option Value} {base : Heap} {aO aS aB C fI f gk pk gl pl : Addr} {mc : Value}
def R_w7 (C : Addr) (g : Shp → PyData) : List PyData → PyData → Prop := fun ds d => ∃ S, ds = [webD C S] ∧ WOk S ∧ siz S ≤ 7 ∧ d = g S
theorem R_w7_len {C : Addr} {g : Shp → PyData} : ∀ vs H Q E, spR K (R_w7 C g) vs H Q E → vs.length = 1 := spR_len fun ds d h => by obtain ⟨_, rfl, _⟩ := h; rfl
/-- kind and links -/
structure KL (P : Program) (w : World) (K : Frg) (mg : Str → Option Value) (base : Heap) (C gk pk gl pl : Addr) : Prop where
  pK : PropOf K C "kind" pk gk
  cK : Cm P w K mg base 1 gk (spR K (R_w1 C fun S => .str (knd S)))
  pL : PropOf K C "links" pl gl
  cL : Cm P w K mg base 10 gl (spR K (R_w1 C fun S => .tuple ((laidS S).map lkD)))
theorem c_walks_of (G : Glo K mg aO aS aB) (c : WebC K mg C fI mc) (kl : KL P w K mg base C gk pk gl pl) (D : Dfn K mg "walks_of" s_walks_of) (W : Cl P w K mg base 10 "walks" (spR K R_wk)) : Cl P w K mg base 12 "walks_of" (spR K (R_w7 C fun S => .list ((wksS S).map wD))) := by
  refine cl_w D (fun _ _ _ _ _ _ us hl => match us, hl with | [_], _ => rfl) sc_walks_of R_w7_len fun fa cdv A outer s H vs Q E hr h => ?_
  obtain ⟨M, ds, d, lv, ha, ⟨S, rfl, hS, h7, rfl⟩, q⟩ := h
  obtain ⟨v0, rfl, hv0⟩ := ha.inv1
  refine sw_ret (M := M) (ed_if (td_eqS (M := M) (ed_prop c kl.pK kl.cK lv hr (by omega) (ed_v 0 rfl hv0) ⟨S, rfl, hS, rfl⟩) ed_str) (fun z => ?_) fun z => ?_) q
  · dsimp only
    rw [wksS, if_pos (of_decide_eq_true z)]
    exact ed_lst lv (ad_cons (ed_tup lv ad_nil (Nat.zero_le _)) ad_nil) (by show 1 ≤ sizeLine; decide)
  · dsimp only
    rw [wksS, if_neg (of_decide_eq_false z)]
    exact ed_cl W hr (by omega) lv (ad_cons (ed_prop c kl.pL kl.cL lv hr (by omega) (ed_v 0 rfl hv0) ⟨S, rfl, hS, rfl⟩) ad_nil) ⟨laidS S, rfl, by rw [laidS_len]; exact h7, rfl⟩
theorem wks_len {S : Shp} (h : siz S ≤ 7) : (wksS S).length ≤ 128 := by
  unfold wksS
  by_cases c : knd S = "open"
  · rw [if_pos c]; decide
  · rw [if_neg c]; exact walksL_len (by rw [laidS_len]; exact h)
theorem wks_mem {S : Shp} {x : List Nat} (h : x ∈ wksS S) : x.length ≤ siz S ∧ ∀ i ∈ x, i < (laidS S).length := by
  unfold wksS at h
  by_cases c : knd S = "open"
  · rw [if_pos c] at h
    rw [List.mem_singleton.mp h]
    exact ⟨Nat.zero_le _, fun i hi => nomatch hi⟩
  · rw [if_neg c] at h
    have := walksL_mem h
    rw [laidS_len] at this
    exact ⟨this.1, by rw [laidS_len]; exact this.2⟩
theorem c_way_counts (G : Glo K mg aO aS aB) (c : WebC K mg C fI mc) (kl : KL P w K mg base C gk pk gl pl) (D : Dfn K mg "way_counts" s_way_counts) (Wo : Cl P w K mg base 12 "walks_of" (spR K (R_w7 C fun S => .list ((wksS S).map wD)))) (Co : Cl P w K mg base 1 "count_of" (spR K R_co)) (Io : Cl P w K mg base 1 "in_order" (spR K R_io)) :
    Cl P w K mg base 13 "way_counts" (spR K (R_w7 C fun S => .list ((wayS S).map cD))) := by
  refine cl_w D (fun _ _ _ _ _ _ us hl => match us, hl with | [_], _ => rfl) sc_way_counts R_w7_len fun fa cdv A outer s H vs Q E hr h => ?_
  obtain ⟨M, ds, d, lv, ha, ⟨S, rfl, hS, h7, rfl⟩, q⟩ := h
  obtain ⟨v0, rfl, hv0⟩ := ha.inv1
  have nd := sc_way_counts.nd
  have wl := wks_len h7
  refine sw_ret (M := M) (ed_cl Io hr (by omega) lv (ad_cons (ed_cast (ed_lc (own := [("walk", 1)]) (ls := wksS S) (enc := wD) (f := fun x => cD (cnt (laidS S) x)) (fs := fun x => [wD x]) rfl nd lv (src_list (ed_cl Wo hr (by omega) lv (ad_cons (ed_v 0 rfl hv0) ad_nil) ⟨S, rfl, hS, h7, rfl⟩))
    (blkOk_by (N := n_way_counts) (sc := defScope s_way_counts) (by decide +kernel)) (fun _ _ _ _ _ => pg1 1 nd) tg_name (by rw [sizeLine_eq]; omega) (by decide) (fun _ _ => rfl) (fun x hx vs D H' s0 h0 C1 cl fp g lv' hvs => ?_)) (by rw [List.map_map]; rfl)) ad_nil) ⟨(wksS S).map fun w => cnt (laidS S) w, rfl, by rw [List.length_map]; omega, fun k hk => ?_, rfl⟩) q
  · obtain ⟨u, rfl, hu⟩ := hvs.inv1
    have := wks_mem hx
    exact ed_cl Co hr (by omega) lv' (ad_cons (ed_prop c kl.pL kl.cL lv' hr (by omega) (ed_v 0 rfl (hv0.mono g)) ⟨S, rfl, hS, rfl⟩) (ad_cons (ed_v 1 rfl hu) ad_nil)) ⟨laidS S, x, _, _, rfl, .inr rfl, .inr rfl, this.2, by omega, rfl⟩
  · obtain ⟨x, hx, rfl⟩ := List.mem_map.mp hk
    have := wks_mem hx
    exact ⟨by rw [cnt_len]; omega, cnt_small (laidS_GL hS.nw hS.sz)⟩
theorem c_cut_counts (G : Glo K mg aO aS aB) (c : WebC K mg C fI mc) (kl : KL P w K mg base C gk pk gl pl) (D : Dfn K mg "cut_counts" s_cut_counts) (Ow : Cl P w K mg base 11 "on_walks" (spR K R_ow)) (Co : Cl P w K mg base 1 "count_of" (spR K R_co)) (Io : Cl P w K mg base 1 "in_order" (spR K R_io))
    (Lv : Cl P w K mg base 1 "leaving" (spR K R_lv)) (So : Cl P w K mg base 3 "sides_of" (spR K R_so)) (Ls : Cl P w K mg base 3 "is_least" (spR K R_ls)) : Cl P w K mg base 12 "cut_counts" (spR K (R_w7 C fun S => .list ((cutS S).map cD))) := by
  refine cl_w D (fun _ _ _ _ _ _ us hl => match us, hl with | [_], _ => rfl) sc_cut_counts R_w7_len fun fa cdv A outer s H vs Q E hr h => ?_
  obtain ⟨M, ds, d, lv, ha, ⟨S, rfl, hS, h7, rfl⟩, q⟩ := h
  obtain ⟨v0, rfl, hv0⟩ := ha.inv1
  have nd := sc_cut_counts.nd
  have hun : (A.deeper (envOfC "cut_counts" (defScope s_cut_counts) s.heap.objs.size fa cdv)).units + 65 < cLine := by have := hr.un; omega
  refine sw_if (td_eqS (M := M) (ed_prop c kl.pK kl.cK lv hr (by omega) (ed_v 0 rfl hv0) ⟨S, rfl, hS, rfl⟩) ed_str) (fun z H1 g1 => ?_) fun z H1 g1 => sw_nil ?_
  · refine sw_ret (M := M) (ed_cast (ed_lst (lv.same g1) ad_nil (Nat.zero_le _)) ?_) fun v H' g hv => q v H' (g1.trans g) hv
    dsimp only
    rw [cutS, if_pos (of_decide_eq_true z)]
    rfl
  · have hk := of_decide_eq_false z
    have lv1 := lv.same g1
    have hG : ∀ l ∈ onW (laidS S), GL l := fun l hl => laidS_GL hS.nw hS.sz l (onW_mem hl)
    have hlen : (onW (laidS S)).length ≤ 7 := by have := onW_len (laidS S); rw [laidS_len] at this; omega
    refine sw_set (M := M) (d := .list ((onW (laidS S)).map lkD)) 1 nd (ed_cl Ow hr (by omega) lv1 (ad_cons (ed_prop c kl.pL kl.cL lv1 hr (by omega) (ed_v 0 rfl (hv0.mono (same_hM g1))) ⟨S, rfl, hS, rfl⟩) ad_nil) ⟨laidS S, rfl, by rw [laidS_len]; exact h7, rfl⟩) fun v1 H2 g2 hv1 => ?_
    have lv2 := lv1.same g2
    have g12 := g1.trans g2
    have q : ∀ v H', Same H2 H' → Da K (hM M H') v (.list ((cutsL (onW (laidS S) |> fun _ => laidS S)).map cD)) → Q v H' := fun v H' g hv => q v H' (g12.trans g) (by dsimp only; rw [cutS, if_neg hk]; exact hv)
    dsimp only at q
    generalize hL : onW (laidS S) = L at hG hlen hv1
    have hcut : cutsL (laidS S) = if L = [] then [[]] else inOrd (((sides L).filter fun s => least L s).map fun s => cnt L (leave L s)) := by rw [cutsL, hL]
    rw [hcut] at q
    have shp : SeqAt.shaped (.list (L.map lkD)) = true := shaped_of (by rw [PyData.canLay0]; exact (lks_ok hG).1) (by rw [PyData.depth]; have := (lks_ok hG).2; omega)
    refine sw_if (td_cast (td_eqD (M := M) hun shp (by decide +kernel) (ed_v 1 rfl hv1) (ed_lst lv2 ad_nil (Nat.zero_le _))) (eqv_nil _)) (fun z H3 g3 => ?_) fun z H3 g3 => sw_nil ?_
    · have hn : L = [] := List.map_eq_nil_iff.mp (of_decide_eq_true z)
      rw [if_pos hn] at q
      exact sw_ret (M := M) (ed_lst (lv2.same g3) (ad_cons (ed_tup (lv2.same g3) ad_nil (Nat.zero_le _)) ad_nil) (by show 1 ≤ sizeLine; decide)) fun v H' g hv => q v H' (g3.trans g) hv
    · have hn : ¬ L = [] := fun e => of_decide_eq_false z (by rw [e]; rfl)
      rw [if_neg hn] at q
      have lv3 := lv2.same g3
      have hv13 := hv1.mono (same_hM (M := M) g3)
      have sl := (sides_inv L).len
      have pw : 2 ^ L.length ≤ 128 := Nat.le_trans (Nat.pow_le_pow_right (i := L.length) (j := 7) (by decide) hlen) (by decide)
      have fl := List.length_filter_le (fun s => least L s) (sides L)
      refine sw_ret (M := M) (ed_cl Io hr (by omega) lv3 (ad_cons (ed_cast (ed_lcIf (own := [("side", 2)]) (ls := sides L) (enc := iD) (f := fun s => cD (cnt L (leave L s))) (p := fun s => least L s) (fs := fun x => [iD x]) rfl nd lv3 (src_list (ed_cl So hr (by omega) lv3 (ad_cons (ed_v 1 rfl hv13) ad_nil) ⟨L, rfl, hlen, rfl⟩))
        (blkOk_by (N := n_cut_counts) (sc := defScope s_cut_counts) (by decide +kernel)) (fun _ _ _ _ _ => pg1 2 nd) tg_name (by rw [sizeLine_eq]; omega) (by decide) (fun _ _ => rfl) (fun x hx vs D H' s0 h0 C1 cl fp g lv' hvs => ?_) (fun x hx hp vs D H' s0 h0 C1 cl fp g lv' hvs => ?_)) (by rw [List.map_map]; rfl)) ad_nil) ⟨((sides L).filter fun s => least L s).map fun s => cnt L (leave L s), rfl, by rw [List.length_map]; omega, fun k hk => ?_, rfl⟩) fun v H' g hv => q v H' (g3.trans g) hv
      · obtain ⟨u, rfl, hu⟩ := hvs.inv1
        exact td_of (ed_cl Ls hr (by omega) lv' (ad_cons (ed_v 1 rfl (hv13.mono g)) (ad_cons (ed_v 2 rfl hu) ad_nil)) ⟨L, x, rfl, by omega, rfl⟩)
      · obtain ⟨u, rfl, hu⟩ := hvs.inv1
        have ll := leave_len L x
        exact ed_cl Co hr (by omega) lv' (ad_cons (ed_v 1 rfl (hv13.mono g)) (ad_cons (ed_cl Lv hr (by omega) lv' (ad_cons (ed_v 1 rfl (hv13.mono g)) (ad_cons (ed_v 2 rfl hu) ad_nil)) ⟨L, x, rfl, by omega, rfl⟩) ad_nil)) ⟨L, leave L x, _, _, rfl, .inl rfl, .inl rfl, leave_lt, by omega, rfl⟩
      · obtain ⟨x, hx, rfl⟩ := List.mem_map.mp hk
        have ll := leave_len L x
        exact ⟨by rw [cnt_len]; omega, cnt_small hG⟩
end
end S6

/-! W15: generators. -/
namespace S6
open PySem PySem.Spec PyProof.Rows L2
theorem gs_ways : GScope n_ways ["web"] (defScope s_ways) := ⟨rfl, rfl, rfl, by decide +kernel, rfl, by decide +kernel, by decide +kernel⟩
theorem gs_cuts : GScope n_cuts ["web"] (defScope s_cuts) := ⟨rfl, rfl, rfl, by decide +kernel, rfl, by decide +kernel, by decide +kernel⟩
structure GCl (P : Program) (w : World) (K : Frg) (mg : Str → Option Value) (base : Heap) (k : Nat) (x : Str) (sp : SpG) : Prop where
  ex : ∃ (f : Addr) (fd : FuncData) (ps : List Str), GFn P w K mg base k f fd ps sp ∧ mg x = some (.ref f) ∧ PySem.W.keepIn K (.ref f) = true ∧ Binds K fd ps []
def spG (K : Frg) (C : Addr) (g : Shp → List PyData) : SpG := fun vs H Q _ => ∃ M S, Lv M H ∧ DaAll K (hM M H) vs [webD C S] ∧ WOk S ∧ siz S ≤ 7 ∧ ∀ ys H', Same H H' → DaAll K (hM M H') ys (g S) → Q ys H'
section
variable {P : Program} {w : World} {K : Frg} {mg : Str → Option Value} {base : Heap} {aO aS aB C fI f : Addr} {mc : Value}
theorem inOrd_len (cs : List (List Str)) : (inOrd cs).length ≤ cs.length := by
  unfold inOrd
  rw [List.length_map]
  refine Nat.le_trans (setS_len _) ?_
  rw [List.length_map]
  exact Nat.le_refl _
theorem wayS_len {S : Shp} (h : siz S ≤ 7) : (wayS S).length ≤ 128 := by
  refine Nat.le_trans (inOrd_len _) ?_
  rw [List.length_map]
  exact wks_len h
theorem cutS_len {S : Shp} (h : siz S ≤ 7) : (cutS S).length ≤ 128 := by
  unfold cutS cutsL
  by_cases c : knd S = "open"
  · rw [if_pos c]; decide
  · rw [if_neg c]
    by_cases e : onW (laidS S) = []
    · rw [if_pos e]; decide
    · rw [if_neg e]
      refine Nat.le_trans (inOrd_len _) ?_
      rw [List.length_map]
      have h1 := List.length_filter_le (fun s => least (onW (laidS S)) s) (sides (onW (laidS S)))
      have h2 := (sides_inv (onW (laidS S))).len
      have h3 := onW_len (laidS S)
      rw [laidS_len] at h3
      have h4 : 2 ^ (onW (laidS S)).length ≤ 128 := Nat.le_trans (Nat.pow_le_pow_right (j := 7) (by decide) (by omega)) (by decide)
      omega
theorem g_ways (D : Dfn K mg "ways" s_ways) (Wc : Cl P w K mg base 13 "way_counts" (spR K (R_w7 C fun S => .list ((wayS S).map cD)))) : GCl P w K mg base 14 "ways" (spG K C fun S => (wayS S).map cD) := by
  obtain ⟨f, fd, F, hm⟩ := D.ex
  obtain ⟨oc, od, kV, doc, pm, an, cdv, ct, osl, rfl, lk, hcd⟩ := F.ex
  refine ⟨f, _, ["web"], gfn_of lk hcd gs_ways (fun vs H Q E h => by obtain ⟨M, S, _, h1, _⟩ := h; exact h1.len) fun A outer s H vs Q E pn hr h => ⟨_, gss_cons (gs_yieldFrom (yf_list pe_w) hr.hd) gss_nil, ?_⟩, hm, F.kp, F.binds fun _ _ _ _ _ _ us hl => match us, hl with | [_], _ => rfl⟩
  obtain ⟨M, S, lv, ha, hS, h7, q⟩ := h
  obtain ⟨v0, rfl, hv0⟩ := ha.inv1
  refine (ed_cl (M := M) Wc hr (Nat.le_refl _) lv (ad_cons (ed_v 0 rfl hv0) ad_nil) ⟨S, rfl, hS, h7, rfl⟩).at fun v H' g z => ?_
  obtain ⟨a, xs, rfl, hx, hxs⟩ := z.lst_inv
  have := wayS_len h7
  exact ⟨a, xs, rfl, hM_sub _ _ hx, by rw [hxs.len, List.length_map, sizeLine_eq]; show 0 + _ ≤ _; omega, q xs H' g hxs⟩
theorem g_cuts (D : Dfn K mg "cuts" s_cuts) (Wc : Cl P w K mg base 12 "cut_counts" (spR K (R_w7 C fun S => .list ((cutS S).map cD)))) : GCl P w K mg base 13 "cuts" (spG K C fun S => (cutS S).map cD) := by
  obtain ⟨f, fd, F, hm⟩ := D.ex
  obtain ⟨oc, od, kV, doc, pm, an, cdv, ct, osl, rfl, lk, hcd⟩ := F.ex
  refine ⟨f, _, ["web"], gfn_of lk hcd gs_cuts (fun vs H Q E h => by obtain ⟨M, S, _, h1, _⟩ := h; exact h1.len) fun A outer s H vs Q E pn hr h => ⟨_, gss_cons (gs_yieldFrom (yf_list pe_w) hr.hd) gss_nil, ?_⟩, hm, F.kp, F.binds fun _ _ _ _ _ _ us hl => match us, hl with | [_], _ => rfl⟩
  obtain ⟨M, S, lv, ha, hS, h7, q⟩ := h
  obtain ⟨v0, rfl, hv0⟩ := ha.inv1
  refine (ed_cl (M := M) Wc hr (Nat.le_refl _) lv (ad_cons (ed_v 0 rfl hv0) ad_nil) ⟨S, rfl, hS, h7, rfl⟩).at fun v H' g z => ?_
  obtain ⟨a, xs, rfl, hx, hxs⟩ := z.lst_inv
  have := cutS_len h7
  exact ⟨a, xs, rfl, hM_sub _ _ hx, by rw [hxs.len, List.length_map, sizeLine_eq]; show 0 + _ ≤ _; omega, q xs H' g hxs⟩
end
section
variable {X : Cx} {σ : L2.St} {M : List Addr} {H0 : Hp} {e : Expr} {pos p pos' p' : Pos} {C : Addr} {S : Shp} {k j : Nat} {g : Shp → List PyData} {x : Str}
theorem pass1 {X : Cx} : Passes (CX X.prog X.w) X L2.E0 := fun _ _ _ _ _ _ _ h => by
  obtain ⟨_, _, _, _, _, _, _, _, _, _, _, _, z⟩ := h
  exact z.elim
/-- list(ways(e)) -/
theorem ed_listG (G : GCl X.prog X.w X.K X.mg X.base k x (spG X.K C g)) (l : Lv M H0) (hr : Room j X.A) (hj : k + 3 ≤ j) (hm : X.mg "list" = none) (h : ED X σ M H0 e (webD C S)) (hS : WOk S) (h7 : siz S ≤ 7) (hg : Gl X x := by rfl) (hg2 : Gl X "list" := by rfl)
    (hdb : (x == ("__debug__" : Str)) = false := by decide) (he : starEach [e] X.env = (false, eval e X.env) :: starEach [] X.env := by rfl) (hpl : (backTo pos' (starEach [] X.env)).any (·.1) = false := by rfl)
    (he2 : starEach [Expr.Call (.Name x p) [e] [] pos'] X.env = (false, eval (.Call (.Name x p) [e] [] pos') X.env) :: starEach [] X.env := by rfl) :
    ED X σ M H0 (.Call (.Name "list" p') [.Call (.Name x p) [e] [] pos'] [] pos) (.list (g S)) := fun H s => by
  obtain ⟨f, fd, ps, F, hmx, kp, b⟩ := G.ex
  refine ew_of (pe_listG (k := k) (E := L2.E0) (pgen_call F (hr.mono (by omega)) hg hmx kp b .nil (pa_cons pe_w pa_nil he) hdb he hpl) pass1 (fun _ _ _ z => z.elim) (hr.mono hj) hg2 hm (by decide +kernel) (by decide) (by decide) he2) ((h H s).mono fun v H1 ⟨g1, z⟩ => ?_)
  exact ⟨M, S, l.same (s.trans g1), .one z, hS, h7, fun ys H' g2 hys r hr' => ⟨g1.trans (g2.trans (same_new hr')), da_lst (l.same (s.trans (g1.trans g2))) hr' hys⟩⟩
end
end S6

/-! M8: plain facts for right. -/
namespace S6
open PySem PySem.Spec PyProof.Rows L2
/-! ### texts of valid signs -/
def CpOk (l : List Nat) : Prop := ∀ c ∈ l, c < 0x110000
theorem strOk_iff {x : Str} : PyData.strOk x = true ↔ CpOk (TL.tl x) := by
  unfold PyData.strOk CpOk
  rw [← Array.all_toList, List.all_eq_true]
  exact ⟨fun h c hc => of_decide_eq_true (h c hc), fun h c hc => decide_eq_true (h c hc)⟩
theorem wstep_ok {st : List (List Nat) × List Nat} {c : Nat} (h1 : ∀ w ∈ st.1, CpOk w) (h2 : CpOk st.2) (hc : c < 0x110000) : (∀ w ∈ (TL.wstep st c).1, CpOk w) ∧ CpOk (TL.wstep st c).2 := by
  unfold TL.wstep
  by_cases a : Unicode.isSpace c = true
  · rw [if_pos a]
    by_cases b : st.2 = []
    · rw [if_pos b]; exact ⟨h1, h2⟩
    · rw [if_neg b]
      refine ⟨fun w hw => ?_, fun c hc => nomatch hc⟩
      rcases List.mem_append.mp hw with y | y
      · exact h1 w y
      · rw [List.mem_singleton.mp y]; exact h2
  · rw [if_neg a]
    refine ⟨h1, fun d hd => ?_⟩
    rcases List.mem_append.mp hd with y | y
    · exact h2 d y
    · rw [List.mem_singleton.mp y]; exact hc
theorem wfold_ok : ∀ {l : List Nat} {st : List (List Nat) × List Nat}, CpOk l → (∀ w ∈ st.1, CpOk w) → CpOk st.2 → (∀ w ∈ (l.foldl TL.wstep st).1, CpOk w) ∧ CpOk (l.foldl TL.wstep st).2
  | [], _, _, h1, h2 => ⟨h1, h2⟩
  | c :: l, st, h, h1, h2 => by
    obtain ⟨a, b⟩ := wstep_ok h1 h2 (h c List.mem_cons_self)
    exact wfold_ok (l := l) (fun d hd => h d (List.mem_cons_of_mem _ hd)) a b
theorem words_ok {t : Str} (h : PyData.strOk t = true) : ∀ w ∈ Txt.words t, PyData.strOk w = true := fun w hw => by
  rw [strOk_iff] at h ⊢
  have hm : TL.tl w ∈ (Txt.words t).map TL.tl := List.mem_map.mpr ⟨w, hw, rfl⟩
  rw [TL.words_tl] at hm
  obtain ⟨a, b⟩ := wfold_ok (st := ([], [])) h (fun _ h => nomatch h) fun _ h => nomatch h
  unfold TL.wfin at hm
  split at hm
  · exact a _ hm
  · rcases List.mem_append.mp hm with y | y
    · exact a _ y
    · rw [List.mem_singleton.mp y]; exact b
theorem joinL_ok {s : List Nat} (hs : CpOk s) : ∀ {ys : List (List Nat)}, (∀ y ∈ ys, CpOk y) → CpOk (TL.joinL s ys)
  | [], _ => fun c hc => nomatch hc
  | [y], h => h y List.mem_cons_self
  | y :: z :: ys, h => fun c hc => by
    have hc' : c ∈ y ++ (s ++ TL.joinL s (z :: ys)) := by simpa [TL.joinL] using hc
    rcases List.mem_append.mp hc' with e | e
    · exact h y List.mem_cons_self c e
    · rcases List.mem_append.mp e with e | e
      · exact hs c e
      · exact joinL_ok hs (ys := z :: ys) (fun w hw => h w (List.mem_cons_of_mem _ hw)) c e
theorem cntT_ok {c : List Str} (h : c.length ≤ 14) (h8 : ∀ x ∈ c, PyData.strOk x = true) : PyData.strOk (cntT c) = true := by
  rw [strOk_iff]
  unfold cntT
  rw [catS_tl]
  intro k hk
  have p2ok : ∀ n : Nat, n < 15 → CpOk (TL.tl (p2 n)) := by unfold CpOk; decide +kernel
  have sp : CpOk (TL.tl (" " : Str)) := by unfold CpOk; decide +kernel
  simp only [List.map_cons, List.map_nil, List.flatten_cons, List.flatten_nil, List.append_nil] at hk
  rcases List.mem_append.mp hk with e | e
  · exact nomatch e
  · rcases List.mem_append.mp e with e | e
    · exact p2ok _ (by omega) k e
    · rcases List.mem_append.mp e with e | e
      · exact sp k e
      · rw [TL.join_eq, TL.tl_join] at e
        refine joinL_ok sp (fun y hy => ?_) k e
        obtain ⟨x, hx, rfl⟩ := List.mem_map.mp hy
        exact strOk_iff.mp (h8 x hx)
theorem inOrd_ok {cs : List (List Str)} (h : ∀ c ∈ cs, c.length ≤ 14 ∧ ∀ x ∈ c, PyData.strOk x = true) : ∀ c ∈ inOrd cs, ∀ x ∈ c, PyData.strOk x = true := fun c hc x hx => by
  unfold inOrd at hc
  obtain ⟨t, ht, rfl⟩ := List.mem_map.mp hc
  obtain ⟨c, hcc, rfl⟩ := List.mem_map.mp (setS_mem ht)
  obtain ⟨a, b⟩ := h c hcc
  exact words_ok (cntT_ok a b) x (List.mem_of_mem_drop hx)
theorem cnt_ok {ls : List Lk} {ps : List Nat} (h : ∀ l ∈ ls, GL l) : ∀ x ∈ cnt ls ps, PyData.strOk x = true := fun x hx => by
  unfold cnt at hx
  have hx := (srtS_perm _).mem_iff.mp hx
  obtain ⟨i, _, rfl⟩ := List.mem_map.mp hx
  rw [List.getD_eq_getElem?_getD]
  cases e : ls[i]? with
  | none => decide +kernel
  | some l => exact gn_ok (h l (List.mem_of_getElem? e)).nm
theorem wayS_ok {S : Shp} (hS : WOk S) (h7 : siz S ≤ 7) : ∀ c ∈ wayS S, ∀ x ∈ c, PyData.strOk x = true := by
  unfold wayS
  refine inOrd_ok fun c hc => ?_
  obtain ⟨w, hw, rfl⟩ := List.mem_map.mp hc
  have := (wks_mem hw).1
  exact ⟨by rw [cnt_len]; omega, cnt_ok (laidS_GL hS.nw hS.sz)⟩
theorem cutS_ok {S : Shp} (hS : WOk S) (h7 : siz S ≤ 7) : ∀ c ∈ cutS S, ∀ x ∈ c, PyData.strOk x = true := by
  unfold cutS
  by_cases a : knd S = "open"
  · rw [if_pos a]; exact fun c hc => nomatch hc
  · rw [if_neg a]
    unfold cutsL
    by_cases b : onW (laidS S) = []
    · rw [if_pos b]
      intro c hc x hx
      rw [List.mem_singleton.mp hc] at hx
      exact nomatch hx
    · rw [if_neg b]
      have hG : ∀ l ∈ onW (laidS S), GL l := fun l hl => laidS_GL hS.nw hS.sz l (onW_mem hl)
      have hl : (onW (laidS S)).length ≤ 7 := by have := onW_len (laidS S); rw [laidS_len] at this; omega
      refine inOrd_ok fun c hc => ?_
      obtain ⟨s, hs, rfl⟩ := List.mem_map.mp hc
      have := leave_len (onW (laidS S)) s
      exact ⟨by rw [cnt_len]; omega, cnt_ok hG⟩
theorem canAll_of {ds : List PyData} (h : ∀ d ∈ ds, PyData.canLay0 d = true) : PyData.canLayAll0 ds = true := by
  induction ds with
  | nil => rfl
  | cons d ds ih => rw [PyData.canLayAll0, h d List.mem_cons_self, ih fun x hx => h x (List.mem_cons_of_mem _ hx)]; rfl
theorem depAll_of {ds : List PyData} {n : Nat} (h : ∀ d ∈ ds, PyData.depth d ≤ n) : PyData.depthAll ds ≤ n := by
  induction ds with
  | nil => exact Nat.zero_le _
  | cons d ds ih =>
    rw [PyData.depthAll]
    have := h d List.mem_cons_self
    have := ih fun x hx => h x (List.mem_cons_of_mem _ hx)
    omega
theorem cD_ok {c : List Str} (h : ∀ x ∈ c, PyData.strOk x = true) : PyData.canLay0 (cD c) = true ∧ PyData.depth (cD c) ≤ 50 := by
  refine ⟨?_, ?_⟩
  · rw [cD, PyData.canLay0]
    refine canAll_of fun d hd => ?_
    obtain ⟨x, hx, rfl⟩ := List.mem_map.mp hd
    exact h x hx
  · rw [cD, PyData.depth]
    have := depAll_of (ds := c.map PyData.str) (n := 0) fun d hd => by
      obtain ⟨x, hx, rfl⟩ := List.mem_map.mp hd
      exact Nat.le_refl _
    omega
theorem sh_cDs {cs : List (List Str)} (h : ∀ c ∈ cs, ∀ x ∈ c, PyData.strOk x = true) : SeqAt.shaped (.list (cs.map cD)) = true := sh_list fun d hd => by
  obtain ⟨c, hc, rfl⟩ := List.mem_map.mp hd
  exact cD_ok (h c hc)
/-! ### the net of a web -/
theorem isI_open (S : Shp) : isI true S = decide (knd S = "open") := by
  cases S with
  | opn => decide +kernel
  | sht => decide +kernel
  | lnk x => show false = decide (("link" : Str) = "open"); decide +kernel
  | net ls => show false = decide (("net" : Str) = "open"); decide +kernel
  | jn k ps => show false = decide (kwd k = "open"); cases k <;> decide +kernel
theorem isI_opn {S : Shp} (h : isI true S = true) : S = .opn := by
  cases S <;> first | rfl | cases h
theorem laid_opn : laidS .opn = [] := by show ordL [] = []; exact ordL_nil.mpr rfl
theorem laid_sht : laidS .sht = [] := by show ordL [] = []; exact ordL_nil.mpr rfl
theorem laid_mkN {L : List Lk} (h : ordL L = L) : laidS (mkN L) = L := by
  unfold mkN
  by_cases e : L = []
  · rw [if_pos e, e]; exact laid_sht
  · rw [if_neg e]; exact h
theorem siz_mkN (L : List Lk) : siz (mkN L) = L.length := by
  unfold mkN
  by_cases e : L = []
  · rw [if_pos e, e]; rfl
  · rw [if_neg e, siz, ordL_len]
theorem isI_mkN (L : List Lk) : isI true (mkN L) = false := by
  unfold mkN
  by_cases e : L = []
  · rw [if_pos e]; rfl
  · rw [if_neg e]; rfl
theorem laid_netS {S : Shp} (h : NW S) : laidS (netS S) = laidS S := by
  unfold netS
  by_cases e : isI true S = true
  · rw [if_pos e]
  · rw [if_neg e]; exact laid_mkN (laidS_ord h)
theorem siz_netS (S : Shp) : siz (netS S) = siz S := by
  unfold netS
  by_cases e : isI true S = true
  · rw [if_pos e]
  · rw [if_neg e, siz_mkN, laidS_len]
theorem netS_ok {S : Shp} (h : WOk S) : WOk (netS S) := by
  refine ⟨?_, by rw [siz_netS]; exact h.sz, ?_⟩
  · unfold netS
    by_cases e : isI true S = true
    · rw [if_pos e]; exact h.nw
    · rw [if_neg e]; exact NW.mkN (laidS_GL h.nw h.sz)
  · unfold netS
    by_cases e : isI true S = true
    · rw [if_pos e]; exact h.dp
    · rw [if_neg e]
      unfold mkN
      by_cases c : laidS S = []
      · rw [if_pos c]; exact Nat.zero_le _
      · rw [if_neg c]; exact Nat.zero_le _
theorem netS_netS {S : Shp} (h : NW S) : netS (netS S) = netS S := by
  by_cases e : isI true S = true
  · have : netS S = S := if_pos e
    rw [this, this]
  · have e1 : netS S = mkN (laidS S) := if_neg e
    have e2 : netS (netS S) = mkN (laidS (netS S)) := if_neg (by rw [e1, isI_mkN]; exact Bool.false_ne_true)
    rw [e2, laid_netS h, e1]
theorem knd_netS_o {S : Shp} (h : knd S = "open") : knd (netS S) = "open" := by
  have e : isI true S = true := by rw [isI_open]; exact decide_eq_true h
  have : netS S = S := if_pos e
  rw [this, h]
theorem netS_no {S : Shp} (h : ¬ knd S = "open") : netS S = mkN (laidS S) := if_neg (by rw [isI_open, decide_eq_false h]; exact Bool.false_ne_true)
theorem knd_mkN_n {L : List Lk} (h : L ≠ []) : knd (mkN L) = "net" := by unfold mkN; rw [if_neg h]; rfl
theorem knd_mkN_s {L : List Lk} (h : L = []) : knd (mkN L) = "shut" := by unfold mkN; rw [if_pos h]; rfl
theorem way_netS {S : Shp} (h : NW S) : wayS (netS S) = wayS S := by
  have e := laid_netS h
  unfold wayS wksS
  rw [e]
  by_cases a : knd S = "open"
  · rw [if_pos a, if_pos (knd_netS_o a)]
  · rw [if_neg a, if_neg fun z => ?_]
    rw [netS_no a] at z
    by_cases c : laidS S = []
    · rw [knd_mkN_s c] at z; exact absurd z (by decide +kernel)
    · rw [knd_mkN_n c] at z; exact absurd z (by decide +kernel)
theorem cut_netS {S : Shp} (h : NW S) : cutS (netS S) = cutS S := by
  have e := laid_netS h
  unfold cutS
  rw [e]
  by_cases a : knd S = "open"
  · rw [if_pos a, if_pos (knd_netS_o a)]
  · rw [if_neg a, if_neg fun z => ?_]
    rw [netS_no a] at z
    by_cases c : laidS S = []
    · rw [knd_mkN_s c] at z; exact absurd z (by decide +kernel)
    · rw [knd_mkN_n c] at z; exact absurd z (by decide +kernel)
theorem eqv_self {S : Shp} (h : NW S) : PyData.eqv S.dT S.dT = true := SeqAt.eqv_refl _ (dT_ok h).1
def nosKinds : List Str := ["net", "open", "shut"]
theorem eqv_kind {S T : Shp} (h : knd S ≠ knd T) : PyData.eqv S.dT T.dT = false := by
  obtain ⟨r, e1, _⟩ := knd_dT S
  obtain ⟨t, e2, _⟩ := knd_dT T
  rw [e1, e2, PyData.eqv, PyData.eqvAll, PyData.eqv]
  have : (knd S == knd T) = false := by simpa using h
  simp [this, h]
theorem eqv_netS {S : Shp} (h : NW S) : PyData.eqv (netS S).dT S.dT = decide (knd S ∈ nosKinds) := by
  have key : knd S ∈ nosKinds → netS S = S := fun hk => by
    cases S with
    | opn => rfl
    | sht => show mkN (laidS .sht) = _; rw [laid_sht]; rfl
    | net ls =>
      rw [NW] at h
      show mkN ls = _
      unfold mkN
      rw [if_neg h.1, h.2.1]
    | lnk x => exact absurd hk (by show ¬ ("link" : Str) ∈ nosKinds; decide +kernel)
    | jn k ps => exact absurd hk (by show ¬ kwd k ∈ nosKinds; cases k <;> decide +kernel)
  by_cases hk : knd S ∈ nosKinds
  · rw [key hk, decide_eq_true hk]; exact eqv_self h
  · rw [decide_eq_false hk]
    refine eqv_kind fun e => hk ?_
    rw [← e]
    by_cases a : knd S = "open"
    · rw [knd_netS_o a]; decide +kernel
    · rw [netS_no a]
      by_cases c : laidS S = []
      · rw [knd_mkN_s c]; decide +kernel
      · rw [knd_mkN_n c]; decide +kernel
/-! ### what repr asks of data -/
structure RDat (n k : Nat) (d : PyData) : Prop where
  sh : d.showable = true
  nd : d.hasDict = false
  dp : d.depth ≤ k
  lf : d.leavesShort 13 = true
  wt : d.weight ≤ n
theorem RDat.mono {n k n' k' : Nat} {d : PyData} (h : RDat n k d) (a : n ≤ n') (b : k ≤ k') : RDat n' k' d := ⟨h.sh, h.nd, Nat.le_trans h.dp b, h.lf, Nat.le_trans h.wt a⟩
theorem RDat.nat {i : Int} (h0 : 0 ≤ i) (h1 : i ≤ 999) : RDat 10 0 (.int i) := by
  have all : ∀ n : Nat, n < 1000 → (PyData.int (n : Int)).showable = true ∧ (PyData.int (n : Int)).leavesShort 13 = true ∧ (PyData.int (n : Int)).weight ≤ 10 := by decide +kernel
  obtain ⟨n, rfl⟩ := Int.eq_ofNat_of_zero_le h0
  obtain ⟨a, b, c⟩ := all n (by omega)
  exact ⟨a, rfl, Nat.le_refl _, b, c⟩
theorem RDat.str {x : Str} (h : PyData.strOk x = true) (hl : x.length ≤ 50) : RDat 50 0 (.str x) := by
  refine ⟨rfl, rfl, Nat.le_refl _, ?_, hl⟩
  rw [PyData.leavesShort, List.all_eq_true]
  intro c hc
  have := strOk_iff.mp h c hc
  exact decide_eq_true (Nat.lt_trans this (by decide))
theorem RDat.all {n k : Nat} : ∀ {ds : List PyData}, (∀ d ∈ ds, RDat n k d) → PyData.showableAll ds = true ∧ PyData.hasDictAll ds = false ∧ PyData.depthAll ds ≤ k ∧ PyData.leavesShortAll 13 ds = true ∧ PyData.weightAll ds ≤ ds.length * (n + 1)
  | [], _ => ⟨rfl, rfl, Nat.zero_le _, rfl, Nat.zero_le _⟩
  | d :: ds, h => by
    have h1 := h d List.mem_cons_self
    obtain ⟨a, b, c, e, f⟩ := RDat.all fun x hx => h x (List.mem_cons_of_mem _ hx)
    refine ⟨by rw [PyData.showableAll, h1.sh, a]; rfl, by rw [PyData.hasDictAll, h1.nd, b]; rfl, by rw [PyData.depthAll]; have := h1.dp; omega, by rw [PyData.leavesShortAll, h1.lf, e]; rfl, ?_⟩
    rw [PyData.weightAll, List.length_cons, Nat.add_mul, Nat.one_mul]
    have := h1.wt
    omega
theorem RDat.list {n k m : Nat} {ds : List PyData} (h : ∀ d ∈ ds, RDat n k d) (hl : ds.length ≤ m) : RDat (m * (n + 1)) (k + 1) (.list ds) := by
  obtain ⟨a, b, c, e, f⟩ := RDat.all h
  refine ⟨by rw [PyData.showable]; exact a, by rw [PyData.hasDict]; exact b, by rw [PyData.depth]; omega, by rw [PyData.leavesShort]; exact e, by rw [PyData.weight]; exact Nat.le_trans f (Nat.mul_le_mul_right _ hl)⟩
theorem RDat.tuple {n k m : Nat} {ds : List PyData} (h : ∀ d ∈ ds, RDat n k d) (hl : ds.length ≤ m) : RDat (m * (n + 1)) (k + 1) (.tuple ds) := by
  obtain ⟨a, b, c, e, f⟩ := RDat.all h
  refine ⟨by rw [PyData.showable]; exact a, by rw [PyData.hasDict]; exact b, by rw [PyData.depth]; omega, by rw [PyData.leavesShort]; exact e, by rw [PyData.weight]; exact Nat.le_trans f (Nat.mul_le_mul_right _ hl)⟩
theorem RDat.lk {l : Lk} (g : GL l) : RDat 153 1 (lkD l) := RDat.tuple (m := 3) (n := 50) (k := 0) (fun d hd => by
  simp only [List.mem_cons, List.not_mem_nil, or_false] at hd
  rcases hd with rfl | rfl | rfl
  · exact RDat.str (gn_ok g.nm) (Nat.le_trans g.nm.hi (by decide))
  · exact (RDat.nat g.u0 (by have := g.u1; omega)).mono (by decide) (Nat.le_refl _)
  · exact (RDat.nat g.v0 (by have := g.v1; omega)).mono (by decide) (Nat.le_refl _)) (Nat.le_refl _)
theorem RDat.fits {n k : Nat} {d : PyData} (h : RDat n k d) (hn : n ≤ 1048576) : d.shown.length ≤ sizeLine := PyData.shown_fits (B := 13) (by decide) (by decide) h.lf (Nat.le_trans h.wt hn)
/-- what right wants: the five readings of links -/
def wantD (L : List Lk) : List PyData := [.tuple (L.map lkD), .tuple ((jts L).map .int), .tuple ((setS (L.map (·.1))).map .str), .int (L.length : Nat), .int ((setS (L.map (·.1))).length : Nat)]
theorem jts_99 {L : List Lk} (h : ∀ l ∈ L, GL l) : ∀ j ∈ jts L, 0 ≤ j ∧ j ≤ 99 := fun j hj => by
  rcases List.mem_append.mp (setI_mem.mp hj) with e | e
  · simp only [List.mem_cons, List.not_mem_nil, or_false] at e; omega
  · rcases List.mem_append.mp e with e | e
    · obtain ⟨l, hl, rfl⟩ := List.mem_map.mp e
      exact ⟨(h l hl).u0, (h l hl).u1⟩
    · obtain ⟨l, hl, rfl⟩ := List.mem_map.mp e
      exact ⟨(h l hl).v0, (h l hl).v1⟩
theorem want_all {L : List Lk} (h : ∀ l ∈ L, GL l) (hl : L.length ≤ 14) : ∀ d ∈ wantD L, RDat 5000 2 d := fun d hd => by
  unfold wantD at hd
  have sl : (setS (L.map (·.1))).length ≤ 14 := by
    have := setS_len (L.map (·.1))
    rw [List.length_map] at this
    omega
  simp only [List.mem_cons, List.not_mem_nil, or_false] at hd
  rcases hd with rfl | rfl | rfl | rfl | rfl
  · exact (RDat.tuple (m := 14) (n := 153) (k := 1) (fun d hd => by
      obtain ⟨l, hl, rfl⟩ := List.mem_map.mp hd
      exact RDat.lk (h l hl)) (by rw [List.length_map]; exact hl)).mono (by decide) (Nat.le_refl _)
  · refine (RDat.tuple (m := 30) (n := 10) (k := 0) (fun d hd => by
      obtain ⟨j, hj, rfl⟩ := List.mem_map.mp hd
      have := jts_99 h j hj
      exact RDat.nat this.1 (by omega)) (by rw [List.length_map]; have := jts_len L; omega)).mono (by decide) (by decide)
  · refine (RDat.tuple (m := 14) (n := 50) (k := 0) (fun d hd => by
      obtain ⟨x, hx, rfl⟩ := List.mem_map.mp hd
      obtain ⟨l, hl, rfl⟩ := List.mem_map.mp (setS_mem hx)
      exact RDat.str (gn_ok (h l hl).nm) (Nat.le_trans (h l hl).nm.hi (by decide))) (by rw [List.length_map]; exact sl)).mono (by decide) (by decide)
  · exact (RDat.nat (by omega) (by omega)).mono (by decide) (by decide)
  · exact (RDat.nat (by omega) (by omega)).mono (by decide) (by decide)
theorem want_ok {L : List Lk} (h : ∀ l ∈ L, GL l) (hl : L.length ≤ 14) : RDat 25005 3 (.list (wantD L)) := RDat.list (m := 5) (n := 5000) (k := 2) (want_all h hl) (Nat.le_refl _)
theorem want2_ok {L : List Lk} (h : ∀ l ∈ L, GL l) (hl : L.length ≤ 14) : RDat 25005 3 (.list ((wantD L).take 2)) := RDat.list (m := 5) (n := 5000) (k := 2) (fun d hd => want_all h hl d (List.mem_of_mem_take hd)) (by show 2 ≤ 5; decide)
end S6

/-! RC: repr of data where no repr runs outside; calls that tell so. -/
namespace S6
open PySem PySem.Spec PyProof.Rows L2
/-- FnOk below a caller within no repr -/
structure FnG (P : Program) (w : World) (K : Frg) (mg : Str → Option Value) (base : Heap) (k : Nat) (f : Addr) (fd : FuncData) (ps : List Str) (sp : Sp) : Prop where
  len : ∀ vs H Q E, sp vs H Q E → vs.length = ps.length
  run : ∀ (A : Around) (outer : List Env) (s : Shared) (H : Hp) (args : Args) (us : List Value) (vs : List V) (Q : VK) (E : XK), A.guards = some [] → Room k A → Env0 P w K mg base A outer s H → BindsTo s fd args (ps.zip us) → Vals vs us → sp vs H Q E →
    codeAny (model P w) A (.call (.ref f) args) (CR L2.CX0 outer P w H s Q E) s
theorem fnG_of {P : Program} {w : World} {K : Frg} {mg : Str → Option Value} {base : Heap} {k : Nat} {f : Addr} {name qual : Str} {params : Arguments} {body : List Stmt} {scope : Scope} {dV kV doc pm cdv ct oc : Value} {an od : Option Addr}
    {osl : Array (Option Value)} {N ps : List Str} {sp : Sp} (lk : K.lookup f = some ⟨oc, od, .func (PySem.W.fnOf name qual params body scope dV kV doc pm an cdv ct), osl⟩) (hcd : PySem.W.codeIn K cdv qual = true) (S : FnScope N ps scope)
    (len : ∀ vs H Q E, sp vs H Q E → vs.length = ps.length)
    (hbody : ∀ (A : Around) (outer : List Env) (s : Shared) (H : Hp) (vs : List V) (Q : VK) (E : XK), A.guards = some [] → Room k (A.deeper (envOfC qual scope s.heap.objs.size f cdv)) → sp vs H Q E →
      ∃ t, PSs (cxOf L2.CX0 P w K mg base N qual scope f cdv A outer s H E) body t ∧ t { nx := fun _ H' => Q .non H', rt := Q } (start N vs) H) :
    FnG P w K mg base (k + 1) f (PySem.W.fnOf name qual params body scope dV kV doc pm an cdv ct) ps sp := by
  refine ⟨len, fun A outer s H args us vs Q E hg hr e0 hb r hsp => ?_⟩
  have hl := len _ _ _ _ hsp
  have KX : K.In s.heap := e0.mod.kin.keeps fun b o e => (e0.bs b o e).1
  have lim : s.heap.NoLimit := e0.mod.nolimit.keeps fun b o e => (e0.bs b o e).1
  have hkind : ∀ y ∈ ps.zip us, scope.names.lookup y.1 = some .local ∨ (scope.names.lookup y.1 = some .cell ∧ ((cellsFrom (s.heap.objs.size + 1) scope.names []).lookup y.1).isSome = true) := fun ⟨n, v⟩ hy => by
    rcases S.par n (List.of_mem_zip hy).1 with q | q
    · exact .inl q
    · exact .inr ⟨q, PySem.W.cellsFrom_some _ _ _ (.inl q)⟩
  refine codeAny_call_function hr.depth (KX _ _ lk) rfl S.co S.gen rfl (PySem.W.codeRec_of KX hcd) (hb _ _ _ _ ?_)
  refine wpAny_newFunctionEnv_cells S.kind hkind fun env he s1 x => ?_
  subst he
  refine ⟨lim.keeps x.toInCall.keep, codeAny_func ?_⟩
  obtain ⟨t, ht, hq⟩ := hbody A outer s H vs Q E hg (hr.deeper _) hsp
  have I : Inv (cxOf L2.CX0 P w K mg base N qual scope f cdv A outer s H E) [] (start N vs) H s1 := inv_start S hr.hd e0 hl r x
  refine wpAny_mono (ht.run [] s1 (start N vs) H _ I hq) (fun fl s' hs => ?_) fun e s' hs => hs
  have fin : ∀ {σ' : L2.St} {H' : Hp} {v : V} {u : Value}, Inv (cxOf L2.CX0 P w K mg base N qual scope f cdv A outer s H E) [] σ' H' s' → RelV v u → Q v H' → CE outer P w H s Q u s' :=
    fun {σ' H' v u} J rv q => ⟨v, H', J.os, J.bare, J.base, J.hok, rv, q⟩
  cases fl with
  | ret u =>
    obtain ⟨v, σ', H', J, rv, q⟩ := hs
    exact fin J rv q
  | next =>
    obtain ⟨σ', H', J, q⟩ := hs
    exact fin (v := V.non) (u := Value.none) J rfl q
  | brk =>
    obtain ⟨_, _, _, q⟩ := hs
    exact False.elim q
  | cont =>
    obtain ⟨_, _, _, q⟩ := hs
    exact False.elim q
section
variable {P : Program} {w : World} {K : Frg} {mg : Str → Option Value} {base : Heap}
theorem fun_okG {x qual : Str} {st : Stmt} {f : Addr} {fd : FuncData} {N ps : List Str} {k : Nat} {sp : Sp} (F : L2.Fun K x qual st f fd) (S : FnScope N ps (defScope st)) (len : ∀ vs H Q E, sp vs H Q E → vs.length = ps.length)
    (hbody : ∀ (cdv : Value) (A : Around) (outer : List Env) (s : Shared) (H : Hp) (vs : List V) (Q : VK) (E : XK), A.guards = some [] → Room k (A.deeper (envOfC qual (defScope st) s.heap.objs.size f cdv)) → sp vs H Q E →
      ∃ t, PSs (cxOf CX0 P w K mg base N qual (defScope st) f cdv A outer s H E).nox (defBody st) t ∧ t { nx := fun _ H' => Q .non H', rt := Q } (start N vs) H) : FnG P w K mg base (k + 1) f fd ps sp := by
  obtain ⟨oc, od, kV, doc, pm, an, cdv, ct, osl, rfl, lk, hcd⟩ := F.ex
  refine fnG_of lk hcd S len fun A outer s H vs Q E hg hr hsp => ?_
  obtain ⟨t, h, q⟩ := hbody cdv A outer s H vs Q E hg hr hsp
  exact ⟨t, h.nox, q⟩
/-- a def that may be called by its name where no repr runs -/
structure ClG (P : Program) (w : World) (K : Frg) (mg : Str → Option Value) (base : Heap) (k : Nat) (x : Str) (sp : Sp) : Prop where
  ex : ∃ (f : Addr) (fd : FuncData) (ps : List Str), FnG P w K mg base k f fd ps sp ∧ mg x = some (.ref f) ∧ PySem.W.keepIn K (.ref f) = true ∧ Binds K fd ps []
abbrev BodyOkG (P : Program) (w : World) (K : Frg) (mg : Str → Option Value) (base : Heap) (k : Nat) (qual : Str) (st : Stmt) (N : List Str) (sp : Sp) (f : Addr) : Prop :=
  ∀ (cdv : Value) (A : Around) (outer : List Env) (s : Shared) (H : Hp) (vs : List V) (Q : VK) (E : XK), A.guards = some [] → Room k (A.deeper (envOfC qual (defScope st) s.heap.objs.size f cdv)) → sp vs H Q E →
    ∃ t, PSs (cxOf L2.CX0 P w K mg base N qual (defScope st) f cdv A outer s H E).nox (defBody st) t ∧ t { nx := fun _ H' => Q .non H', rt := Q } (start N vs) H
theorem clG_of {x : Str} {st : Stmt} {N ps : List Str} {k : Nat} {sp : Sp} (D : Dfn K mg x st) (b : BndOf x x st ps) (S : FnScope N ps (defScope st)) (len : ∀ vs H Q E, sp vs H Q E → vs.length = ps.length)
    (body : ∀ f, BodyOkG P w K mg base k x st N sp f) : ClG P w K mg base (k + 1) x sp := by
  obtain ⟨f, fd, F, hm⟩ := D.ex
  exact ⟨f, fd, ps, fun_okG F S len (body f), hm, F.kp, F.binds b⟩
end
section
variable {X : Cx} {k j : Nat} {x : Str} {sp : Sp} {p pos : Pos} {e : Expr} {es : List Expr} {t : TA}
theorem pe_clG (hgd : X.A.guards = some []) (c : ClG X.prog X.w X.K X.mg X.base k x sp) (hr : Room j X.A) (hk : k ≤ j) (hg : Gl X x) (ha : PA X (e :: es) t)
    (hdb : (x == ("__debug__" : Str)) = false := by decide) (he : starEach (e :: es) X.env = (false, eval e X.env) :: starEach es X.env := by rfl) (hpl : (backTo pos (starEach es X.env)).any (·.1) = false := by rfl) :
    PE X (.Call (.Name x p) (e :: es) [] pos) (tCall sp [] L2.E0 t) := by
  obtain ⟨f, fd, ps, F, hm, kp, b⟩ := c.ex
  refine ⟨fun pins s σ H Q I h => ?_⟩
  refine wpAny_Call_Name_kw (ld_glob I hg hm ?_ hdb)
  refine PySem.W.callWith_K (h₀ := X.base) I.ok.mod.kin kp (thn (ha.run pos pins s σ H _ I h) fun us s1 ⟨vs, H1, I1, r, q⟩ => ⟨I1.kIn, ?_⟩) he hpl
  have q : sp (vs ++ []) H1 Q L2.E0 := q
  rw [List.append_nil] at q
  have hl : us.length = ps.length := by rw [← r.length]; exact F.len _ _ _ _ q
  have hb := b s1 us I1.kIn (by simpa using hl)
  refine wpAny_call (codeAny_mono (F.run X.A X.stack s1 H1 ⟨us, []⟩ us vs Q L2.E0 hgd (hr.mono hk) I1.env0 (by simpa using hb) r q) fun r s' hq => ?_)
  cases r with
  | error e => exact L2.pass0 pins σ H1 s1 e s' I1 hq
  | ok fl =>
    cases fl with
    | ret u => exact I1.after hq
    | next => exact False.elim hq
    | brk => exact False.elim hq
    | cont => exact False.elim hq
/-- repr(x), x data -/
def rRepr (K : Frg) : List V → Hp → VK → Prop := fun vs H Q => ∃ (a : Addr) (d : PyData), vs = [.ref a] ∧ Dp K H (.ref a) d ∧ d.showable = true ∧ d.hasDict = false ∧ d.depth ≤ 40 ∧ d.shown.length ≤ sizeLine ∧ Q (.str d.shown) H
theorem cr_repr (hgd : X.A.guards = some []) (hr : Room 4 X.A) : CallR X (.builtin "repr") (rRepr X.K) := by
  intro pins s σ H vs us Q I r h
  obtain ⟨a, d, rfl, hd, hs, hh, hz, hl, q⟩ := h
  rw [Vals.ref1 r]
  obtain ⟨as, R⟩ := Dp.reads I d (.ref a) (.ref a) hd rfl
  have hu := hr.un
  refine repr_of_reads' R hs (fun z => by rw [hh] at z; cases z) hgd (by omega) (fun _ _ z => z) (fun h' u tk hk => ?_) hl
  exact ⟨.str _, H, I.kept hk, ⟨_, rfl⟩, q⟩
end
/-! ### the end -/
theorem law_callG {P : Program} {w : World} {K : Frg} {mg mb : Str → Option Value} {k : Nat} {fa a : Addr} {fd : FuncData} {x : Str} {sp : Sp} {s₁ : Shared} {vs : List Value} {ns : List Int}
    (KX : K.In s₁.heap) (hns : s₁.heap.Ns mainGlobals mg) (hb : s₁.heap.Ns builtinsNs mb) (hbb : ∀ x : Str, x ≠ "__name__" → mb x = bootBuiltins x) (hlim : s₁.heap.NoLimit) (hg : s₁.gens = #[])
    (ha : s₁.heap.get? a = some { cls := .type "list", data := .seq vs.toArray }) (hi : IntsAre vs ns) (hl : ns.length ≤ sizeLine) (hr : Room k callerA)
    (F : ∀ base : Heap, K.In base → base.Ns mainGlobals mg → FnG P w K mg base k fa fd [x] sp) (hbind : ∀ (s : Shared) (u : Value), BindsTo s fd ⟨[u], []⟩ [(x, u)])
    (hsp : ∀ H : Hp, Only H → SqL K H a (ns.map V.int) → sp [.ref a] H (fun v _ => v = .bl true) fun _ _ _ => False)
    (hCX : ∀ H e s', L2.CX0 [] H s₁ (fun _ _ _ => False) e s' → False) :
    codeAny (model P w) callerA (.call (.ref fa) ⟨[.ref a], []⟩) (fun r s' => r = .ok (.ret (.bool true)) ∧ OldK s₁.heap s'.heap ∧ s'.os = s₁.os ∧ AllBare s'.gens) s₁ := by
  have rv := vals_ints hi
  have lenV := hi.length
  have core : ∀ H : Hp, Only H → SqL K H a (ns.map V.int) → HOk P w H s₁.heap → (∀ b, H b ≠ none → b = a) → (H a ≠ none → K.lookup a = none) →
      codeAny (model P w) callerA (.call (.ref fa) ⟨[.ref a], []⟩) (fun r s' => r = .ok (.ret (.bool true)) ∧ OldK s₁.heap s'.heap ∧ s'.os = s₁.os ∧ AllBare s'.gens) s₁ := by
    intro H hO hS hok hA hK
    have base_of : ∀ {b : Addr} {o : Obj}, s₁.heap.get? b = some o → H b = none → (hidT s₁.heap H).get? b = some o := fun e n => hidT_get e n
    have noA : ∀ {b : Addr} {o : Obj} {es : Array DictEntry} {ep : Nat}, s₁.heap.get? b = some o → o.data = .dict es ep → H b = none := fun {b o es ep} e d => by
      cases q : H b with
      | none => rfl
      | some u =>
        have e' : b = a := hA b (by rw [q]; simp)
        subst e'
        rw [ha] at e; cases e
        have d' : Data.seq vs.toArray _ = Data.dict es ep := d
        cases d'
    have nsK : ∀ {b : Addr} {m : Str → Option Value}, s₁.heap.Ns b m → (hidT s₁.heap H).Ns b m := fun {b m} ⟨o, es, ep, e, d, r⟩ => ⟨o, es, ep, base_of e (noA e d), d, r⟩
    have hKb : K.In (hidT s₁.heap H) := fun b o e => base_of (KX b o e) (by
      cases q : H b with
      | none => rfl
      | some u =>
        have e' : b = a := hA b (by rw [q]; simp)
        subst e'
        rw [hK (by rw [q]; simp)] at e; cases e)
    have hM : Mod K mg (hidT s₁.heap H) := ⟨hKb, nsK hns, ⟨mb, nsK hb, hbb⟩, let ⟨mc, h1, h2⟩ := hlim; ⟨mc, nsK h1, h2⟩⟩
    have e0 : Env0 P w K mg (hidT s₁.heap H) callerA [] s₁ H := ⟨rfl, hM, fun b o e => of_hidT e, Nat.le_of_eq (hidT_size _ _), trivial, fun b hb => absurd (show b ∈ ([] : List Addr) from hb) (by simp), hok, .of_eq hg⟩
    refine codeAny_mono ((F _ hKb (nsK hns)).run callerA [] s₁ H ⟨[.ref a], []⟩ [.ref a] [.ref a] _ _ rfl hr e0 (hbind s₁ (.ref a)) (.cons rfl .nil) (hsp H hO hS)) fun r s' h => ?_
    cases r with
    | error e => exact (hCX H e s' h).elim
    | ok fl =>
      cases fl with
      | next => exact False.elim h
      | brk => exact False.elim h
      | cont => exact False.elim h
      | ret u =>
        obtain ⟨v, H', os, bare, un, hok', r', q⟩ := h
        have q' : v = .bl true := q
        subst q'
        obtain rfl : u = Value.bool true := r'
        refine ⟨rfl, OldK.of_keep fun b o e => ?_, os, bare⟩
        cases q : H b with
        | none => exact un.keep b o e q (by intro z; exact absurd (show b ∈ ([] : List Addr) from z) (by simp)) (by simp)
        | some u =>
          rcases hO b with z | ⟨ob, xs, z⟩
          · rw [q] at z; cases z
          · have z2 := un.frzs b ob _ z
            obtain ⟨e1, _⟩ := hok b _ z
            obtain ⟨e2, _⟩ := hok' b _ z2
            rw [e] at e1; cases e1
            exact e2
  cases hk : K.lookup a with
  | some o =>
    have e := KX a o hk
    rw [ha] at e
    cases e
    refine core (fun _ => none) (fun _ => .inl rfl) (.inr ⟨_, vs.toArray, _, hk, rfl, rfl, rfl, by rw [List.size_toArray, lenV]; exact hl, by simpa using rv⟩) (fun b u z => by have z' : (none : Option HO) = some u := z; cases z') (fun b z => absurd rfl z) fun z => absurd rfl z
  | none =>
    refine core (fun b => if b = a then some (.frz { cls := .type "list", data := .seq vs.toArray } (.lst (ns.map V.int))) else none) (fun b => ?_) (.inl (.inr ⟨{ cls := .type "list", data := .seq vs.toArray }, if_pos rfl⟩)) (fun b u z => ?_) (fun b z => ?_) fun _ => hk
    · by_cases hb : b = a
      · exact .inr ⟨_, _, if_pos hb⟩
      · exact .inl (if_neg hb)
    · by_cases hb : b = a
      · have z' := (if_pos hb).symm.trans z
        cases z'
        subst hb
        exact ⟨ha, by rw [List.length_map]; exact hl, vs, _, rv, ha⟩
      · have z' := (if_neg hb).symm.trans z
        cases z'
    · by_cases hb : b = a
      · exact hb
      · exact absurd (if_neg hb) z
/-- the law's walk, by facts of the heap behind the top; the script's bits told -/
theorem walk_G {l : PySem.W.OpenLaw} {n k : Nat} {q : Program} {loose : List Str} {XP : (Str → Option Value) → Heap → Prop} {YP : World → Heap → Prop} {d : DefRec} {x : Str}
    (hn : l.most = some n) (hn2 : n ≤ sizeLine) (hdf : d.params.defaults = []) (hr : Room k callerA)
    (F : ∀ (w : World) (mg : Str → Option Value) (fa : Addr) (h : Heap), YP w h → h.Ns mainGlobals mg → mg d.name = some (.ref fa) →
      ∃ (K : Frg) (fd : FuncData) (sp : Sp), K.In h ∧ (∀ (s : Shared) (u : Value), BindsTo s fd ⟨[u], []⟩ [(x, u)]) ∧
        (∀ (H : Hp) (a : Addr) (ns : List Int), ns.length ≤ n → (∀ z ∈ ns, Builtin.Int.intBits z ≤ 1048576) → Only H → SqL K H a (ns.map V.int) → sp [.ref a] H (fun v _ => v = .bl true) fun _ _ _ => False) ∧
        ∀ base : Heap, K.In base → base.Ns mainGlobals mg → FnG l.prog w K mg base k fa fd [x] sp)
    (hCX : ∀ (H : Hp) (s : Shared) (e : Value) (s' : Shared), L2.CX0 [] H s (fun _ _ _ => False) e s' → False) :
    PySem.W.WalkO q loose XP YP l.row.toRowW d [] (fun f vs => PySem.call f vs) := by
  refine Att.attach_callB hn hdf fun w s₀ s₁ mg mb fa o pm cd doc a vs ns G Y ho hd hcd hmg hobj hints hlen hbits hg => ?_
  obtain ⟨K, fd, sp, KX, hb, hsp, hF⟩ := F w mg fa _ Y G.T.g hmg
  exact law_callG KX G.T.g G.T.b G.T.builtins G.T.nolimit hg hobj hints (Nat.le_trans hlen hn2) hr hF hb (fun H hO hS => hsp H a ns hlen hbits hO hS) fun H e s' => hCX H s₁ e s'
end S6

/-! W17: the law's joined, made. -/
namespace S6
open PySem PySem.Spec PyProof.Rows L2
section
variable {P : Program} {w : World} {K : Frg} {mg : Str → Option Value} {base : Heap} {aO aS aB C fI f : Addr} {mc : Value}
def R_jl : List PyData → PyData → Prop := fun ds d => ∃ (k : Bool) (ss : List Shp), ds = [.str (kwd k), .list (ss.map Shp.dL)] ∧ ss.length ≤ 20 ∧ (∀ s ∈ ss, NW s ∧ siz s ≤ 14 ∧ dep s ≤ 5) ∧ d = (joinS k ss).dL
theorem c_joined (G : Glo K mg aO aS aB) (D : Dfn K mg "_law_joined" s_law_joined) : Cl P w K mg base 1 "_law_joined" (spR K R_jl) := by
  refine cl_w D (fun _ _ _ _ _ _ us hl => match us, hl with | [_, _], _ => rfl) sc_law_joined (spR_len fun ds d h => by obtain ⟨k, ss, rfl, _⟩ := h; rfl) fun f cdv A outer s H vs Q E hr h => ?_
  obtain ⟨M, ds, d, lv, ha, ⟨k, ss, rfl, h20, hN, rfl⟩, q⟩ := h
  obtain ⟨v0, v1, rfl, hv0, hv1⟩ := ha.inv2
  have nd := sc_law_joined.nd
  have hu2 : (A.deeper (envOfC "_law_joined" (defScope s_law_joined) s.heap.objs.size f cdv)).units + 65 < cLine := by have := hr.un; omega
  refine sw_two (M := M) (d := (idl k).dL) (d2 := (idl !k).dL) 2 3 rfl (pg1 2 nd (hx := Or.inr rfl)) (pg1 3 nd) (ed_if (td_eqS (ed_v 0 rfl hv0) ed_str) (fun h => ?_) (fun h => ?_)) fun v2 v3 H1 g1 hv2 hv3 => ?_
  · have e : k = true := kwd_eq.mp ((of_decide_eq_true h).trans kwd_row.symm)
    subst e
    exact ed_tup lv (ad_cons (ed_tup lv (ad_cons ed_str ad_nil) (by show 1 ≤ sizeLine; decide)) (ad_cons (ed_tup lv (ad_cons ed_str ad_nil) (by show 1 ≤ sizeLine; decide)) ad_nil)) (by show 2 ≤ sizeLine; decide)
  · have e : k = false := by
      cases k with
      | false => rfl
      | true => exact absurd kwd_row (of_decide_eq_false h)
    subst e
    exact ed_tup lv (ad_cons (ed_tup lv (ad_cons ed_str ad_nil) (by show 1 ≤ sizeLine; decide)) (ad_cons (ed_tup lv (ad_cons ed_str ad_nil) (by show 1 ≤ sizeLine; decide)) ad_nil)) (by show 2 ≤ sizeLine; decide)
  have lv1 := lv.same g1
  refine sw_set (M := M) (d := .list []) 4 nd (ed_lst lv1 ad_nil (Nat.zero_le _)) fun v4 H2 g2 hv4 => ?_
  have g12 := g1.trans g2
  have lv2 := lv.same g12
  refine sw_for (M := M) (ls := ss) (enc := Shp.dL) (fs := fun s => [s.dL]) PassesOwn.never rfl (src_list (ed_v 1 rfl (hv1.mono (same_hM g12)))) (pg1 5 nd) tg_name (fun _ _ => rfl) fun H3 g3 => ?_
  refine ⟨fun i σ' H' => (∃ v4 o, σ' = [some v0, some v1, some v2, some v3, some v4, o, none] ∧ Da K (hM M H') v4 (.list (((ss.take i).flatMap (flat1 k)).map Shp.dL))) ∧ Same H3 H',
    ⟨⟨v4, none, rfl, hv4.mono (same_hM g3)⟩, Same.refl _⟩, fun i σ' H' p => ⟨same_hM p.2, (lv2.same g3).same p.2⟩, fun i x σ' H' H'' vs hx p gy hvs => ?_, fun σ' H' p => ?_⟩
  · obtain ⟨⟨v4', o, rfl, p4⟩, p2⟩ := p
    obtain ⟨u, rfl, hu0⟩ := hvs.inv1
    have hmem := List.mem_of_getElem? hx
    obtain ⟨n1, n2, n3⟩ := hN x hmem
    have f1 : Same H H'' := g12.trans (g3.trans (p2.trans gy))
    have hv0' := hv0.mono (same_hM (M := M) f1)
    have lv4 := lv.same f1
    have lx := flat_len (k := k) (ss := ss.take i) fun s hs => hN s (List.mem_of_mem_take hs)
    rw [List.length_take] at lx
    have lf := flat1_len (k := k) n1
    refine sw_set (M := M) (d := .list (((ss.take (i + 1)).flatMap (flat1 k)).map Shp.dL)) 4 nd (ed_cast (ed_cat (ds := ((ss.take i).flatMap (flat1 k)).map Shp.dL) (es := (flat1 k x).map Shp.dL) lv4 (ed_v 4 rfl (p4.mono (same_hM gy))) ?_ (by rw [List.length_map, List.length_map, sizeLine_eq]; omega)) ?_) fun v5 H5 g5 hv5 => sw_nil ⟨⟨v5, _, rfl, hv5⟩, p2.trans (gy.trans g5)⟩
    · have one : ED (cxOf L2.CX0 P w K mg base n_law_joined "_law_joined" (defScope s_law_joined) f cdv A outer s H E).nox (sets [some v0, some v1, some v2, some v3, some v4', o, none] [5] [u]) M H'' (.List [.Name "_law_part" ⟨562, 0, 0, 0⟩] ⟨0, 0, 0, 0⟩) (.list [x.dL]) := ed_lst lv4 (ad_cons (ed_v 5 rfl hu0) ad_nil) (by show 1 ≤ sizeLine; decide)
      clear one
      cases x with
      | opn => exact ed_ifF (td_cast (td_eqS (ed_ixT (n := 0) (ed_v 5 rfl hu0) ed_int rfl) (ed_v 0 rfl hv0')) (by cases k <;> decide +kernel)) (ed_lst lv4 (ad_cons (ed_v 5 rfl hu0) ad_nil) (by show 1 ≤ sizeLine; decide))
      | sht => exact ed_ifF (td_cast (td_eqS (ed_ixT (n := 0) (ed_v 5 rfl hu0) ed_int rfl) (ed_v 0 rfl hv0')) (by cases k <;> decide +kernel)) (ed_lst lv4 (ad_cons (ed_v 5 rfl hu0) ad_nil) (by show 1 ≤ sizeLine; decide))
      | lnk y => exact ed_ifF (td_cast (td_eqS (ed_ixT (n := 0) (ed_v 5 rfl hu0) ed_int rfl) (ed_v 0 rfl hv0')) (by cases k <;> decide +kernel)) (ed_lst lv4 (ad_cons (ed_v 5 rfl hu0) ad_nil) (by show 1 ≤ sizeLine; decide))
      | net ls => exact ed_ifF (td_cast (td_eqS (ed_ixT (n := 0) (ed_v 5 rfl hu0) ed_int rfl) (ed_v 0 rfl hv0')) (by cases k <;> decide +kernel)) (ed_lst lv4 (ad_cons (ed_v 5 rfl hu0) ad_nil) (by show 1 ≤ sizeLine; decide))
      | jn k' ps =>
        by_cases e : k' = k
        · refine ed_ifT (td_cast (td_eqS (ed_ixT (n := 0) (ed_v 5 rfl hu0) ed_int rfl) (ed_v 0 rfl hv0')) (by rw [e]; exact decide_eq_true rfl)) ?_
          rw [flat1_jn, if_pos e, ← dLs_map]
          exact ed_ixT (n := 1) (ed_v 5 rfl hu0) ed_int rfl
        · refine ed_ifF (td_cast (td_eqS (ed_ixT (n := 0) (ed_v 5 rfl hu0) ed_int rfl) (ed_v 0 rfl hv0')) (decide_eq_false fun z => e (kwd_eq.mp z))) ?_
          rw [flat1_jn, if_neg e]
          exact ed_lst lv4 (ad_cons (ed_v 5 rfl hu0) ad_nil) (by show 1 ≤ sizeLine; decide)
    · rw [take_step hx, List.flatMap_append, List.map_append, List.flatMap_cons, List.flatMap_nil, List.append_nil]
  · obtain ⟨⟨v4', o, rfl, hflat⟩, p2⟩ := p
    rw [List.take_length] at hflat
    have p1 : Same H H' := g12.trans (g3.trans p2)
    have lv' := lv.same p1
    have hv0' := hv0.mono (same_hM (M := M) p1)
    have hv2' := hv2.mono (same_hM (M := M) (g2.trans (g3.trans p2)))
    have hv3' := hv3.mono (same_hM (M := M) (g2.trans (g3.trans p2)))
    have fN := flat_NW (k := k) hN
    have lx := flat_len (k := k) hN
    refine sw_if (td_inD hu2 (sh_dL (NW.idl _) (by rw [idl_dep]; omega)) (sh_listL fN) (ed_v 3 rfl hv3') (ed_v 4 rfl hflat)) (fun h H3 g3 => ?_) (fun h H3 g3 => sw_nil ?_)
    · have e : joinS k ss = idl !k := by
        unfold joinS fin
        rw [List.any_map] at h
        rw [if_pos]
        exact (any_eq fun x => (eq_idlL (!k) x).symm).trans h
      rw [e] at q
      exact sw_ret (ed_v 3 rfl (hv3'.mono (same_hM g3))) fun v H4 g4 hv => q v H4 (p1.trans (g3.trans g4)) hv
    · have e0 : (ss.flatMap (flat1 k)).any (isI !k) = false := by
        rw [List.any_map] at h
        exact (any_eq fun x => (eq_idlL (!k) x).symm).trans h
      have lv3 := lv'.same g3
      refine sw_setLcIf (M := M) 6 (own := [("_law_part", 5)]) (ls := ss.flatMap (flat1 k)) (enc := Shp.dL) (f := Shp.dL) (p := fun x => !isI k x) (fs := fun x => [x.dL]) rfl nd lv3 (src_list (ed_v 4 rfl (hflat.mono (same_hM g3)))) (blkOk_by (N := n_law_joined) (sc := defScope s_law_joined) (by decide +kernel))
        (fun _ _ _ _ _ => pg1 5 nd) tg_name (by rw [sizeLine_eq]; omega) (by decide) (fun _ _ => rfl) (fun x hx vs D H5 s0 h0 C cl fp g lv5 hvs => ?_) (fun x hx _ vs D H5 s0 h0 C cl fp g lv5 hvs => ?_) fun v6 H4 g4 hv6 => ?_
      · obtain ⟨u, rfl, hu0⟩ := hvs.inv1
        obtain ⟨n1, n2⟩ := fN x hx
        exact td_cast (td_neD (M := D :: M) hu2 (sh_dL n1 n2) (sh_dL (NW.idl k) (by rw [idl_dep]; omega)) (ed_v 5 rfl hu0) (ed_v 2 rfl ((hv2'.mono (same_hM g3)).mono g))) (by rw [eq_idlL])
      · obtain ⟨u, rfl, hu0⟩ := hvs.inv1
        exact ed_v 5 rfl hu0
      · have ef : joinS k ss = match (ss.flatMap (flat1 k)).filter (fun s => !isI k s) with
          | [] => idl k
          | [x] => x
          | x :: y :: r => .jn k (x :: y :: r) := by
          unfold joinS
          conv => lhs; unfold fin
          rw [if_neg (by rw [e0]; exact Bool.false_ne_true)] <;> rfl
        rw [ef] at q
        have hl6 : ((ss.flatMap (flat1 k)).filter (fun s => !isI k s)).length ≤ 300 := Nat.le_trans (List.length_filter_le _ _) (by omega)
        have kN : ∀ s ∈ (ss.flatMap (flat1 k)).filter (fun s => !isI k s), NW s ∧ dep s ≤ 20 := fun s hs => fN s (List.mem_filter.mp hs).1
        have lv4 := lv3.same g4
        have p4' : Same H H4 := p1.trans (g3.trans g4)
        generalize (ss.flatMap (flat1 k)).filter (fun s => !isI k s) = kp at q hv6 hl6 kN
        refine sw_if (td_cast (td_eqD (M := M) hu2 (sh_listL kN) (by decide +kernel) (ed_v 6 rfl hv6) (ed_lst lv4 ad_nil (Nat.zero_le _))) (eqv_nil0 _)) (fun h H5 g5 => ?_) (fun h H5 g5 => sw_nil ?_)
        · have hk0 : kp = [] := List.map_eq_nil_iff.mp (of_decide_eq_true h)
          subst hk0
          exact sw_ret (ed_v 2 rfl (hv2'.mono (same_hM (g3.trans (g4.trans g5))))) fun v H6 g6 hv => q v H6 (p4'.trans (g5.trans g6)) hv
        · have h' : ¬ kp = [] := fun e => of_decide_eq_false h (by rw [e]; rfl)
          refine sw_ret (ed_if (td_eqI (ed_lenL G.len (ed_v 6 rfl (hv6.mono (same_hM g5)))) ed_int) (fun h1 => ?_) (fun h1 => ?_)) fun v H6 g6 hv => q v H6 (p4'.trans (g5.trans g6)) hv
          · rw [List.length_map] at h1
            have h1' := of_decide_eq_true h1
            match kp, h', h1' with
            | [], h', _ => exact absurd rfl h'
            | [x], _, _ => exact ed_ixL (n := 0) (ed_v 6 rfl (hv6.mono (same_hM g5))) ed_int rfl
            | x :: y :: r, _, h1' => simp at h1'; omega
          · rw [List.length_map] at h1
            have h1' := of_decide_eq_false h1
            match kp, h', h1', hv6 with
            | [], h', _, _ => exact absurd rfl h'
            | [x], _, h1', _ => exact absurd rfl h1'
            | x :: y :: r, _, _, hv6 =>
              refine ed_cast (ed_tup (lv4.same g5) (ad_cons (ed_v 0 rfl ((hv0'.mono (same_hM (g3.trans (g4.trans g5)))))) (ad_cons (ed_v 6 rfl (hv6.mono (same_hM g5))) ad_nil)) (by show 2 ≤ sizeLine; decide)) ?_
              show _ = Shp.dL (.jn k (x :: y :: r))
              rw [Shp.dL, dLs_map]
def R_md (n : Nat) : List PyData → PyData → Prop := fun ds d => ∃ p, ds = [Shp.dL p] ∧ PV p ∧ siz p ≤ 14 ∧ dep p ≤ 4 ∧ dep p < n ∧ d = (made p).dL
theorem c_made {n : Nat} (G : Glo K mg aO aS aB) (D : Dfn K mg "_law_made" s_law_made) (Jn : Cl P w K mg base 1 "_law_joined" (spR K R_jl)) (Nt : Cl P w K mg base 2 "_law_netted" (spR K R_nn)) (ih : Cl P w K mg base (n + 2) "_law_made" (spR K (R_md n))) : Cl P w K mg base (n + 3) "_law_made" (spR K (R_md (n + 1))) := by
  refine cl_w D (fun _ _ _ _ _ _ us hl => match us, hl with | [_], _ => rfl) sc_law_made (spR_len fun ds d h => by obtain ⟨_, rfl, _⟩ := h; rfl) fun fa cdv A outer s H vs Q E hr h => ?_
  obtain ⟨M, ds, d, lv, ha, ⟨S, rfl, hP, h14, h4, hd, rfl⟩, q⟩ := h
  obtain ⟨v0, rfl, hv0⟩ := ha.inv1
  have nd := sc_law_made.nd
  refine sw_if (td_cast (td_inS (M := M) (xs := ["row", "bunch"]) (ed_k0 (S := S) (ed_v 0 rfl hv0)) (ed_tup lv (ad_cons ed_str (ad_cons ed_str ad_nil)) (by show 2 ≤ sizeLine; decide)) (.inr rfl)) (knd_in S)) (fun z H1 g1 => ?_) fun z H1 g1 => sw_nil ?_
  · cases S with
    | jn k ps =>
      have hP0 := hP
      rw [PV] at hP
      rw [dep] at hd h4
      rw [siz] at h14
      have lv1 := lv.same g1
      have hv1 := hv0.mono (same_hM (M := M) g1)
      have m1 := mades_siz ps
      refine sw_ret (M := M) (ed_cast (ed_cl Jn hr (by omega) lv1 (ad_cons (ed_k0 (S := .jn k ps) (ed_v 0 rfl hv1)) (ad_cons (ed_cast (ed_lc (own := [("_law_part", 1)]) (ls := ps) (enc := Shp.dL) (f := fun p => (made p).dL) (fs := fun x => [x.dL]) rfl nd lv1 (src_list (ed_cast (ed_ixT (n := 1) (ed_v 0 rfl hv1) ed_int rfl) (by rw [dLs_map])))
        (blkOk_by (N := n_law_made) (sc := defScope s_law_made) (by decide +kernel)) (fun _ _ _ _ _ => pg1 1 nd) tg_name (by rw [sizeLine_eq]; omega) (by decide) (fun _ _ => rfl) (fun x hx vs D H' s0 h0 C1 cl fp g lv' hvs => ?_)) (by rw [mades_map, List.map_map]; rfl)) ad_nil)) ⟨k, mades ps, rfl, by rw [mades_map, List.length_map]; omega, fun s hs => ⟨mades_NW (PVs.pw hP.2) s hs, ?_, ?_⟩, rfl⟩) rfl) fun v H' g hv => q v H' (g1.trans g) hv
      · obtain ⟨u, rfl, hu⟩ := hvs.inv1
        have := dep_mem hx
        have := siz_mem hx
        exact ed_cl ih hr (Nat.le_refl _) lv' (ad_cons (ed_v 1 rfl hu) ad_nil) ⟨x, rfl, PVs_iff.mp hP.2 x hx, by omega, by omega, by omega, rfl⟩
      · have := siz_mem hs
        omega
      · have := mades_dep ps s hs
        omega
    | _ => cases z
  · have hv1 := hv0.mono (same_hM (M := M) g1)
    have lv1 := lv.same g1
    refine sw_ret (M := M) (ed_if (k := isNet S) (td_cast (td_eqS (M := M) (ed_k0 (S := S) (ed_v 0 rfl hv1)) ed_str) (knd_net S)) (fun y => ?_) fun y => ?_) fun v H' g hv => q v H' (g1.trans g) hv
    · cases S with
      | net ls =>
        rw [PV] at hP
        exact ed_cl Nt hr (by omega) lv1 (ad_cons (ed_ixT (n := 1) (ed_v 0 rfl hv1) ed_int rfl) ad_nil) ⟨ls, rfl, hP.1, hP.2, rfl⟩
      | _ => cases y
    · cases S with
      | net ls => cases y
      | jn k ps => cases z
      | _ => exact ed_v 0 rfl hv1
end
end S6

/-! W18: the law's shown, web. -/
namespace S6
open PySem PySem.Spec PyProof.Rows L2
theorem ed_sgn {X : Cx} {σ : L2.St} {M : List Addr} {H0 : Hp} {e : Expr} {pos q1 q2 q3 q4 q5 : Pos} {j1 j2 j3 j4 : Nat} {k : Bool} (hu : X.A.units + 1 < cLine) (h : ED X σ M H0 e (.str (kwd k))) (hs : NoSl e := by exact fun _ _ => rfl) :
    ED X σ M H0 (.Subscript (.Dict [some (.Constant (.str "row") j1 q1), some (.Constant (.str "bunch") j2 q2)] [.Constant (.str " & ") j3 q3, .Constant (.str " | ") j4 q4] q5) e pos) (.str (sgn k)) := fun H s => by
  refine ew_of (pe_dget hu (pe_disp (pps_cons pe_str pe_str (pps_cons pe_str pe_str pps_nil)) rfl rfl (by simp) (by show 2 ≤ 15; decide)) pe_w hs) fun p hp => ?_
  refine ⟨upd_same, [(Sum.inr "row", .str " & "), (Sum.inr "bunch", .str " | ")], rfl, by decide, ?_⟩
  rw [upd_upd]
  refine (h _ (s.trans (same_new hp))).mono fun y H2 ⟨g, z⟩ => ?_
  rw [z.str_inv]
  refine ⟨p, .str (sgn k), rfl, .inl ⟨_, Sum.inr (kwd k), .inl (g _ _ upd_same), rfl, ?_⟩, (same_new hp).trans g, .str _⟩
  cases k <;> rfl
section
variable {P : Program} {w : World} {K : Frg} {mg : Str → Option Value} {base : Heap} {aO aS aB C fI f : Addr} {mc : Value}
def R_sn (n : Nat) : List PyData → PyData → Prop := fun ds d => ∃ S, ds = [Shp.dL S] ∧ NW S ∧ siz S ≤ 14 ∧ dep S ≤ 5 ∧ dep S < n ∧ d = .str (txt S)
theorem c_shown {n : Nat} (G : Glo K mg aO aS aB) (D : Dfn K mg "_law_shown" s_law_shown) (ih : Cl P w K mg base n "_law_shown" (spR K (R_sn n))) : Cl P w K mg base (n + 1) "_law_shown" (spR K (R_sn (n + 1))) := by
  refine cl_w D (fun _ _ _ _ _ _ us hl => match us, hl with | [_], _ => rfl) sc_law_shown (spR_len fun ds d h => by obtain ⟨S, rfl, _⟩ := h; rfl) fun fa cdv A outer s H vs Q E hr h => ?_
  obtain ⟨M, ds, d, lv, ha, ⟨S, rfl, hN, hs, hd5, hd, rfl⟩, q⟩ := h
  obtain ⟨v0, rfl, hv0⟩ := ha.inv1
  have nd := sc_law_shown.nd
  have hun : (A.deeper (envOfC "_law_shown" (defScope s_law_shown) s.heap.objs.size fa cdv)).units + 1 < cLine := by have := hr.un; omega
  refine sw_if (td_cast (td_eqS (M := M) (ed_k0 (S := S) (ed_v 0 rfl hv0)) ed_str) (knd_link S)) (fun z H1 g1 => ?_) fun z H1 g1 => sw_nil ?_
  · cases S with
    | lnk x => exact sw_ret (M := M) (ed_ixT (n := 1) (ed_v 0 rfl (hv0.mono (same_hM g1))) ed_int rfl) fun v H' g hv => q v H' (g1.trans g) hv
    | _ => cases z
  have hv1 := hv0.mono (same_hM (M := M) g1)
  refine sw_if (td_cast (td_eqS (M := M) (ed_k0 (S := S) (ed_v 0 rfl hv1)) ed_str) (knd_net S)) (fun z2 H2 g2 => ?_) fun z2 H2 g2 => sw_nil ?_
  · cases S with
    | net ls =>
      have g12 := g1.trans g2
      have lv2 := lv.same g12
      rw [NW] at hN
      have hl : ls.length ≤ 14 := hs
      have hn := hN.2.2
      have jl := join_len " " (ls.map txtL)
      have hsum := sum_le (f := fun x : Str => x.length) (k := 14) (ls := ls.map txtL) (fun y hy => by
        obtain ⟨l, hl, rfl⟩ := List.mem_map.mp hy
        exact txtL_len (hn l hl))
      rw [List.length_map] at hsum jl
      rw [show (" " : Str).length = 1 from len_sp] at jl
      have z0 : ("-" : Str).length = 1 := by decide +kernel
      have z1 : ("[" : Str).length = 1 := by decide +kernel
      have z3 : ("]" : Str).length = 1 := by decide +kernel
      refine sw_ret (M := M) (ed_cast (ed_addS (ed_addS ed_str (ed_join (ys := ls.map txtL) ed_str (ed_cast (ed_lc (own := [("_law_name", 1), ("_law_u", 2), ("_law_v", 3)]) (ls := ls) (enc := lkD) (f := fun l => .str (txtL l)) (fs := fun l => [.str l.1, .int l.2.1, .int l.2.2]) rfl nd lv2 (src_list (ed_ixT (n := 1) (ed_v 0 rfl (hv0.mono (same_hM g12))) ed_int rfl))
        (blkOk_by (N := n_law_shown) (sc := defScope s_law_shown) (by decide +kernel)) (fun _ _ _ _ _ => pg3 rfl 1 2 3 (pg1 1 nd) (pg1 2 nd) (pg1 3 nd)) tg_3 (by rw [sizeLine_eq]; omega) (by decide) (fun l _ => ⟨rfl, rfl⟩) (fun l hl vs D H' s0 h0 C cl fp g lv' hx => ?_)) (by rw [List.map_map]; rfl)) (by rw [List.length_map, len_sp]; omega)) (by rw [z1, sizeLine_eq]; omega)) ed_str (by rw [len_app, z1, z3, sizeLine_eq]; omega)) (by rw [txt])) fun v H' g hv => q v H' (g12.trans g) hv
      obtain ⟨x, u, v, rfl, hx1, hx2, hx3⟩ := hx.inv3
      have gl := hn l hl
      have b1 := two_len gl.u0 gl.u1
      have b2 := two_len gl.v0 gl.v1
      have b3 := gl.nm.hi
      have sm : ∀ i : Int, 0 ≤ i → i ≤ 99 → i.natAbs.log2 < 1920 := fun i h0 h1 => Nat.lt_of_le_of_lt (Nat.log2_le_self _) (by omega)
      refine ed_cast (ed_addS (ed_addS (ed_addS (ed_addS (ed_strI G.str (ed_v 2 rfl hx2) (sm _ gl.u0 gl.u1)) ed_str ?_) (ed_v 1 rfl hx1) ?_) ed_str ?_) (ed_strI G.str (ed_v 3 rfl hx3) (sm _ gl.v0 gl.v1)) ?_) rfl
      all_goals (simp only [len_app, z0, sizeLine_eq]; omega)
    | _ => cases z2
  have g12 := g1.trans g2
  have hv2 := hv0.mono (same_hM (M := M) g12)
  have lv2 := lv.same g12
  refine sw_if (td_cast (td_inS (M := M) (xs := ["row", "bunch"]) (ed_k0 (S := S) (ed_v 0 rfl hv2)) (ed_tup lv2 (ad_cons ed_str (ad_cons ed_str ad_nil)) (by show 2 ≤ sizeLine; decide)) (.inr rfl)) (knd_in S)) (fun z3 H3 g3 => ?_) fun z3 H3 g3 => sw_nil ?_
  · cases S with
    | jn k ps =>
      have g13 := g12.trans g3
      have hv3 := hv0.mono (same_hM (M := M) g13)
      have lv3 := lv.same g13
      rw [NW] at hN
      have hlen := NWs_len hN.2
      rw [siz] at hs
      rw [dep] at hd hd5
      have ts := txts_len hN.2
      have h2 : (17 + 8 * deps ps) * sizs ps ≤ (17 + 8 * 4) * 14 := Nat.mul_le_mul (by omega) hs
      have jl := join_len (sgn k) (txts ps)
      have h4 : (txts ps).length = ps.length := by rw [txts_map, List.length_map]
      rw [h4, sgn_len] at jl
      have z1 : ("(" : Str).length = 1 := by decide +kernel
      have z3 : (")" : Str).length = 1 := by decide +kernel
      refine sw_ret (M := M) (ed_cast (ed_addS (ed_addS ed_str (ed_join (ys := txts ps) (ed_sgn hun (ed_k0 (S := .jn k ps) (ed_v 0 rfl hv3))) (ed_cast (ed_lc (own := [("_law_part", 4)]) (ls := ps) (enc := Shp.dL) (f := fun p => .str (txt p)) (fs := fun p => [p.dL]) rfl nd lv3 (src_list (ed_cast (ed_ixT (n := 1) (ed_v 0 rfl hv3) ed_int rfl) (by rw [dLs_map])))
        (blkOk_by (N := n_law_shown) (sc := defScope s_law_shown) (by decide +kernel)) (fun _ _ _ _ _ => pg1 4 nd) tg_name (by rw [sizeLine_eq]; omega) (by decide) (fun _ _ => rfl) (fun p hp vs D H' s0 h0 C cl fp g lv' hx => ?_)) (by rw [txts_map, List.map_map]; rfl)) (by rw [h4, sgn_len]; omega)) (by rw [z1, sizeLine_eq]; omega)) ed_str (by rw [len_app, z1, z3, sizeLine_eq]; omega)) (by rw [txt])) fun v H' g hv => q v H' (g13.trans g) hv
      obtain ⟨u, rfl, hu⟩ := hx.inv1
      have := siz_mem hp
      have := dep_mem hp
      exact ed_cl ih hr (Nat.le_refl _) lv' (ad_cons (ed_v 4 rfl hu) ad_nil) ⟨p, rfl, (NWs_iff.mp hN.2 p hp).1, by omega, by omega, by omega, rfl⟩
    | _ => cases z3
  · have hv3 := hv0.mono (same_hM (M := M) (g12.trans g3))
    refine sw_ret (M := M) (ed_cast (ed_k0 (S := S) (ed_v 0 rfl hv3)) ?_) fun v H' g hv => q v H' ((g12.trans g3).trans g) hv
    cases S with
    | opn => rfl
    | sht => rfl
    | lnk x => cases z
    | net ls => cases z2
    | jn k ps => cases z3
end
end S6

/-! W19: the law's web. -/
namespace S6
open PySem PySem.Spec PyProof.Rows L2
/-- what the class offers -/
structure WebM (P : Program) (w : World) (K : Frg) (mg : Str → Option Value) (base : Heap) (C fI : Addr) (mc : Value) : Prop where
  c : WebC K mg C fI mc
  link : ∃ p g, SMet K C mc "link" p g ∧ Cm P w K mg base 3 g (spR K (R_lk C))
  net : ∃ p g, SMet K C mc "net" p g ∧ Cm P w K mg base 4 g (spR K (R_nt C))
  always : ∃ p g, SMet K C mc "always" p g ∧ Cm P w K mg base 3 g (spR K (R_0 (webD C .opn)))
  never : ∃ p g, SMet K C mc "never" p g ∧ Cm P w K mg base 3 g (spR K (R_0 (webD C .sht)))
  kind : ∃ p g, PropOf K C "kind" p g ∧ Cm P w K mg base 1 g (spR K (R_w1 C fun S => .str (knd S)))
  links : ∃ p g, PropOf K C "links" p g ∧ Cm P w K mg base 10 g (spR K (R_w1 C fun S => .tuple ((laidS S).map lkD)))
  joints : ∃ p g, PropOf K C "joints" p g ∧ Cm P w K mg base 10 g (spR K (R_w1 C fun S => .tuple ((jts (laidS S)).map .int)))
  names : ∃ p g, PropOf K C "names" p g ∧ Cm P w K mg base 11 g (spR K (R_w1 C fun S => .tuple ((setS ((laidS S).map (·.1))).map .str)))
  net_of : ∃ g, Meth K C "net_of" g ∧ Cm P w K mg base 10 g (spR K (R_w1 C fun S => webD C (netS S)))
  str : ∃ g, Spc K C "__str__" g ∧ Cm P w K mg base 7 g (spR K (R_w1 C fun S => .str (txt S)))
  len : ∃ g, Spc K C "__len__" g ∧ Cm P w K mg base 11 g (spR K (R_w1 C fun S => .int (siz S : Nat)))
  abs : ∃ g, Spc K C "__abs__" g ∧ Cm P w K mg base 11 g (spR K (R_w1 C fun S => .int ((setS ((laidS S).map (·.1))).length : Nat)))
  eq : ∃ g, Spc K C "__eq__" g ∧ Cm P w K mg base 1 g (spR K (R_w2 C (fun _ _ => True) fun S T => .bool (PyData.eqv S.dT T.dT)))
  and : ∃ g, Spc K C "__and__" g ∧ Cm P w K mg base 12 g (spR K (R_w2 C (jnOk true) fun S T => webD C (joinS true [S, T])))
  or : ∃ g, Spc K C "__or__" g ∧ Cm P w K mg base 12 g (spR K (R_w2 C (jnOk false) fun S T => webD C (joinS false [S, T])))
theorem sizs_le {ps : List Shp} : ∀ {n i : Nat}, sizs ps ≤ n → sizs (ps.take i) ≤ n := fun {n i} h => by
  have := sizs_append (ps.take i) (ps.drop i)
  rw [List.take_append_drop] at this
  omega
section
variable {P : Program} {w : World} {K : Frg} {mg : Str → Option Value} {base : Heap} {aO aS aB C fI f : Addr} {mc : Value}
def R_wb (C : Addr) (n : Nat) : List PyData → PyData → Prop := fun ds d => ∃ p, ds = [Shp.dL p] ∧ PV p ∧ siz p ≤ 14 ∧ dep p ≤ 4 ∧ dep p < n ∧ d = webD C (made p)
theorem c_web {n : Nat} (G : Glo K mg aO aS aB) (W : WebM P w K mg base C fI mc) (D : Dfn K mg "_law_web" s_law_web) (ih : Cl P w K mg base (n + 12) "_law_web" (spR K (R_wb C n))) : Cl P w K mg base (n + 13) "_law_web" (spR K (R_wb C (n + 1))) := by
  refine cl_w D (fun _ _ _ _ _ _ us hl => match us, hl with | [_], _ => rfl) sc_law_web (spR_len fun ds d h => by obtain ⟨S, rfl, _⟩ := h; rfl) fun fa cdv A outer s H vs Q E hr h => ?_
  obtain ⟨M, ds, d, lv, ha, ⟨S, rfl, hP, h14, h4, hd, rfl⟩, q⟩ := h
  obtain ⟨v0, rfl, hv0⟩ := ha.inv1
  have nd := sc_law_web.nd
  obtain ⟨pl, gl, sl, cl⟩ := W.link
  obtain ⟨pn, gn, sn, cn⟩ := W.net
  obtain ⟨pa, ga, sa, ca⟩ := W.always
  obtain ⟨pv, gv, sv, cv⟩ := W.never
  obtain ⟨gA, sA, cA⟩ := W.and
  obtain ⟨gO, sO, cO⟩ := W.or
  refine sw_if (td_cast (td_eqS (M := M) (ed_k0 (S := S) (ed_v 0 rfl hv0)) ed_str) (knd_link S)) (fun z H1 g1 => ?_) fun z H1 g1 => sw_nil ?_
  · cases S with
    | lnk x =>
      rw [PV] at hP
      exact sw_ret (M := M) (ed_smeth W.c sl cl (lv.same g1) hr (by omega) (ed_ixT (n := 1) (ed_v 0 rfl (hv0.mono (same_hM g1))) ed_int rfl) ⟨x, rfl, hP, rfl⟩) fun v H' g hv => q v H' (g1.trans g) hv
    | _ => cases z
  have hv1 := hv0.mono (same_hM (M := M) g1)
  refine sw_if (td_cast (td_eqS (M := M) (ed_k0 (S := S) (ed_v 0 rfl hv1)) ed_str) (knd_net S)) (fun z2 H2 g2 => ?_) fun z2 H2 g2 => sw_nil ?_
  · cases S with
    | net ls =>
      rw [PV] at hP
      have g12 := g1.trans g2
      have lv2 := lv.same g12
      exact sw_ret (M := M) (ed_smeth W.c sn cn lv2 hr (by omega) (ed_lstL lv2 G.list (ed_ixT (n := 1) (ed_v 0 rfl (hv0.mono (same_hM g12))) ed_int rfl)) ⟨ls, _, rfl, .inl rfl, hP.1, hP.2, rfl⟩) fun v H' g hv => q v H' (g12.trans g) hv
    | _ => cases z2
  have g12 := g1.trans g2
  have hv2 := hv0.mono (same_hM (M := M) g12)
  have lv2 := lv.same g12
  refine sw_if (td_cast (td_ninS (M := M) (xs := ["row", "bunch"]) (ed_k0 (S := S) (ed_v 0 rfl hv2)) (ed_tup lv2 (ad_cons ed_str (ad_cons ed_str ad_nil)) (by show 2 ≤ sizeLine; decide)) (.inr rfl)) (by rw [knd_in S])) (fun z3 H3 g3 => ?_) fun z3 H3 g3 => sw_nil ?_
  · have g13 := g12.trans g3
    have hv3 := hv0.mono (same_hM (M := M) g13)
    have lv3 := lv.same g13
    cases S with
    | opn => exact sw_ret (M := M) (ed_ifT (td_cast (td_eqS (M := M) (ed_k0 (S := .opn) (ed_v 0 rfl hv3)) ed_str) (by decide +kernel)) (ed_smeth0 W.c sa ca lv3 hr (by omega) ⟨rfl, rfl⟩)) fun v H' g hv => q v H' (g13.trans g) hv
    | sht => exact sw_ret (M := M) (ed_ifF (td_cast (td_eqS (M := M) (ed_k0 (S := .sht) (ed_v 0 rfl hv3)) ed_str) (by decide +kernel)) (ed_smeth0 W.c sv cv lv3 hr (by omega) ⟨rfl, rfl⟩)) fun v H' g hv => q v H' (g13.trans g) hv
    | lnk x => cases z
    | net ls => cases z2
    | jn k ps => cases z3
  · cases S with
    | jn k ps =>
      have g13 := g12.trans g3
      have hv3 := hv0.mono (same_hM (M := M) g13)
      have lv3 := lv.same g13
      rw [PV] at hP
      rw [dep] at hd h4
      rw [siz] at h14
      have hmN : ∀ s ∈ ps.map made, NW s := fun s hs => by
        rw [← mades_map] at hs
        exact mades_NW (PVs.pw hP.2) s hs
      have hmD : ∀ s ∈ ps.map made, dep s ≤ 3 := fun s hs => by
        rw [← mades_map] at hs
        have := mades_dep ps s hs
        omega
      have hmS : sizs (ps.map made) ≤ 14 := by
        rw [← mades_map]
        have := mades_siz ps
        omega
      refine sw_set (M := M) (d := webD C (idl k)) 1 nd (ed_if (k := k) (td_cast (td_eqS (M := M) (ed_k0 (S := .jn k ps) (ed_v 0 rfl hv3)) ed_str) (by cases k <;> (show decide (kwd _ = "row") = _; decide +kernel))) (fun y => ?_) fun y => ?_) fun v1 H4 g4 hw => ?_
      · subst y
        exact ed_smeth0 W.c sa ca lv3 hr (by omega) ⟨rfl, rfl⟩
      · subst y
        exact ed_smeth0 W.c sv cv lv3 hr (by omega) ⟨rfl, rfl⟩
      have g14 := g13.trans g4
      have lv4 := lv.same g14
      have hv4 := hv0.mono (same_hM (M := M) g14)
      refine sw_for (M := M) (ls := ps) (enc := Shp.dL) (fs := fun s => [s.dL]) PassesOwn.never rfl (src_list (ed_cast (ed_ixT (n := 1) (ed_v 0 rfl hv4) ed_int rfl) (by rw [dLs_map]))) (pg1 2 nd) tg_name (fun _ _ => rfl) fun H5 g5 => ?_
      refine ⟨fun i σ' H' => (∃ v1 o, σ' = [some v0, some v1, o] ∧ Da K (hM M H') v1 (webD C (joinS k ((ps.map made).take i)))) ∧ Same H5 H',
        ⟨⟨v1, none, rfl, hw.mono (same_hM g5)⟩, Same.refl _⟩, fun i σ' H' p => ⟨same_hM p.2, (lv4.same g5).same p.2⟩, fun i x σ' H' H'' vs hx p gy hvs => ?_, fun σ' H' p => ?_⟩
      · obtain ⟨⟨v1', o, rfl, p4⟩, p2⟩ := p
        obtain ⟨u, rfl, hu0⟩ := hvs.inv1
        have hmem := List.mem_of_getElem? hx
        have f1 : Same H H'' := g14.trans (g5.trans (p2.trans gy))
        have lv6 := lv.same f1
        have hv6 := hv0.mono (same_hM (M := M) f1)
        have p4' := p4.mono (same_hM (M := M) gy)
        have hxm : (ps.map made)[i]? = some (made x) := by rw [List.getElem?_map, hx]; rfl
        have hst := take_step hxm
        have tN : ∀ s ∈ (ps.map made).take i, NW s := fun s hs => hmN s (List.mem_of_mem_take hs)
        have two := joinS_two (k := k) (as := (ps.map made).take i) (b := made x) fun s hs => (tN s hs).kOk k
        have okA : WOk (joinS k ((ps.map made).take i)) := ⟨NW.join tN, Nat.le_trans (joinS_siz k _) (sizs_le hmS), by have := joinS_dep (k := k) (ss := (ps.map made).take i) (n := 3) fun s hs => hmD s (List.mem_of_mem_take hs); omega⟩
        have xm : made x ∈ ps.map made := List.mem_map.mpr ⟨x, hmem, rfl⟩
        have okB : WOk (made x) := ⟨hmN _ xm, Nat.le_trans (siz_mem xm) hmS, by have := hmD _ xm; omega⟩
        have okJ : jnOk k (joinS k ((ps.map made).take i)) (made x) := by
          unfold jnOk
          rw [two, ← hst]
          exact ⟨Nat.le_trans (joinS_siz k _) (sizs_le hmS), by have := joinS_dep (k := k) (ss := (ps.map made).take (i + 1)) (n := 3) fun s hs => hmD s (List.mem_of_mem_take hs); omega⟩
        have px := PVs_iff.mp hP.2 x hmem
        have sx := siz_mem hmem
        have dx := dep_mem hmem
        refine sw_set (M := M) (d := webD C (joinS k ((ps.map made).take (i + 1)))) 1 nd (ed_cast (ed_if (d := webD C (joinS k [joinS k ((ps.map made).take i), made x])) (k := k) (td_cast (td_eqS (M := M) (ed_k0 (S := .jn k ps) (ed_v 0 rfl hv6)) ed_str) (by cases k <;> (show decide (kwd _ = "row") = _; decide +kernel))) (fun y => ?_) fun y => ?_) (by rw [two, ← hst])) fun v5 H7 g7 hv5 => sw_nil ⟨⟨v5, _, rfl, hv5⟩, p2.trans (gy.trans g7)⟩
        · subst y
          exact ed_ownB W.c sA cA lv6 hr (by omega) (ed_v 1 rfl p4') (ed_cl ih hr (Nat.le_refl _) lv6 (ad_cons (ed_v 2 rfl hu0) ad_nil) ⟨x, rfl, px, by omega, by omega, by omega, rfl⟩) ⟨_, _, rfl, okA, okB, okJ, rfl⟩
        · subst y
          exact ed_ownB W.c sO cO lv6 hr (by omega) (ed_v 1 rfl p4') (ed_cl ih hr (Nat.le_refl _) lv6 (ad_cons (ed_v 2 rfl hu0) ad_nil) ⟨x, rfl, px, by omega, by omega, by omega, rfl⟩) ⟨_, _, rfl, okA, okB, okJ, rfl⟩
      · obtain ⟨⟨v1', o, rfl, p4⟩, p2⟩ := p
        rw [List.take_of_length_le (by rw [List.length_map]; exact Nat.le_refl _)] at p4
        refine sw_ret (M := M) (ed_v 1 rfl p4) fun v H8 g8 hv => q v H8 (g14.trans (g5.trans (p2.trans g8))) ?_
        rw [made, mades_map]
        exact hv
    | opn => cases z3
    | sht => cases z3
    | lnk x => cases z3
    | net ls => cases z3
end
end S6

/-! M6: new numbers, one by one. -/
namespace S6
open PySem PySem.Spec PyProof.Rows L2
def ends2 (ls : List Lk) : List Int := ls.map (·.2.1) ++ ls.map (·.2.2)
def inn (ls : List Lk) : List Int := (setI (ends2 ls)).filter fun j => decide (1 < j)
theorem jts_inn {ls : List Lk} (h : ∀ l ∈ ls, 0 ≤ l.2.1 ∧ 0 ≤ l.2.2) : jts ls = 0 :: 1 :: inn ls := by
  symm
  refine setI_of ?_ fun k => ?_
  · have nd : (inn ls).Nodup := (setI_nd _).filter _
    have pw : (inn ls).Pairwise (· ≤ ·) := (setI_pw _).filter _
    have g1 : ∀ k ∈ inn ls, 1 < k := fun k hk => of_decide_eq_true (List.mem_filter.mp hk).2
    refine List.pairwise_cons.mpr ⟨fun k hk => ?_, List.pairwise_cons.mpr ⟨g1, ?_⟩⟩
    · rcases List.mem_cons.mp hk with z | z
      · omega
      · have := g1 k z; omega
    · have nd' : (inn ls).Pairwise (fun a b => a ≠ b) := nd
      exact (pw.and nd').imp fun ⟨a, b⟩ => by omega
  · have e : ([0, 1] ++ (ls.map (·.2.1) ++ ls.map (·.2.2)) : List Int) = 0 :: 1 :: ends2 ls := rfl
    rw [e, List.mem_cons, List.mem_cons, List.mem_cons, List.mem_cons, inn, List.mem_filter, setI_mem, decide_eq_true_eq]
    constructor
    · rintro (z | z | ⟨z, _⟩)
      · exact .inl z
      · exact .inr (.inl z)
      · exact .inr (.inr z)
    · rintro (z | z | z)
      · exact .inl z
      · exact .inr (.inl z)
      · have p : 0 ≤ k := by
          unfold ends2 at z
          rcases List.mem_append.mp z with y | y
          · obtain ⟨l, hl, rfl⟩ := List.mem_map.mp y; exact (h l hl).1
          · obtain ⟨l, hl, rfl⟩ := List.mem_map.mp y; exact (h l hl).2
        by_cases c : 1 < k
        · exact .inr (.inr ⟨z, c⟩)
        · have : k = 0 ∨ k = 1 := by omega
          rcases this with y | y
          · exact .inl y
          · exact .inr (.inl y)
def numV (done : List Int) (l r f : Int) (u : Int) : Option V := if u = 0 then some (.int l) else if u = 1 then some (.int r) else if u ∈ done then some (.int (f + (done.idxOf u : Nat))) else none
theorem num_start (l r f : Int) (u : Int) : valV (mergeK [] [(Sum.inl 0, V.int l), (Sum.inl 1, V.int r)]) (Sum.inl u) = numV [] l r f u := by
  show valV (putK (putK ([] : List (L2.Key × V)) (Sum.inl 0) (V.int l)) (Sum.inl 1) (V.int r)) (Sum.inl u) = _
  rw [valV_put, valV_put]
  unfold numV
  by_cases h1 : u = 1
  · subst h1
    rw [if_pos rfl, if_neg (by decide), if_pos rfl]
  · rw [if_neg fun z => h1 (Sum.inl.inj z)]
    by_cases h0 : u = 0
    · subst h0
      rw [if_pos rfl, if_pos rfl]
    · rw [if_neg fun z => h0 (Sum.inl.inj z), if_neg h0, if_neg h1, if_neg (by simp)]
      rfl
theorem num_step {kvs : List (L2.Key × V)} {done : List Int} {l r f j : Int} (h : ∀ u, valV kvs (Sum.inl u) = numV done l r f u) (hj : 1 < j) (hn : j ∉ done) (u : Int) : valV (putK kvs (Sum.inl j) (.int (f + (done.length : Nat)))) (Sum.inl u) = numV (done ++ [j]) l r f u := by
  rw [valV_put, h u]
  unfold numV
  by_cases hu : u = j
  · subst hu
    rw [if_pos rfl, if_neg (by omega), if_neg (by omega), if_pos (by simp)]
    have : (done ++ [u]).idxOf u = done.length := by
      rw [List.idxOf_append, if_neg hn]
      simp
    rw [this]
  · rw [if_neg fun z => hu (Sum.inl.inj z)]
    by_cases h0 : u = 0
    · rw [if_pos h0, if_pos h0]
    · rw [if_neg h0, if_neg h0]
      by_cases h1 : u = 1
      · rw [if_pos h1, if_pos h1]
      · rw [if_neg h1, if_neg h1]
        by_cases hm : u ∈ done
        · rw [if_pos hm, if_pos (List.mem_append_left _ hm), List.idxOf_append, if_pos hm]
        · rw [if_neg hm, if_neg]
          rw [List.mem_append, List.mem_singleton, not_or]
          exact ⟨hm, hu⟩
theorem num_ren {ls : List Lk} {l r f u : Int} (h : ∀ l ∈ ls, 0 ≤ l.2.1 ∧ 0 ≤ l.2.2) (hu : u ∈ jts ls) : numV (inn ls) l r f u = some (.int (ren (jts ls) (l :: r :: upFrom f ((jts ls).length - 2)) u)) := by
  have e := jts_inn h
  rw [e] at hu ⊢
  unfold numV ren
  by_cases h0 : u = 0
  · subst h0
    rw [if_pos rfl]
    simp
  · rw [if_neg h0]
    by_cases h1 : u = 1
    · subst h1
      rw [if_pos rfl]
      have hi : (0 :: 1 :: inn ls : List Int).idxOf 1 = 1 := by
        rw [List.idxOf_cons, cond_eq_ite, if_neg (by decide), List.idxOf_cons_self]
      rw [hi]
      rfl
    · rw [if_neg h1]
      have hm : u ∈ inn ls := by
        rcases List.mem_cons.mp hu with z | z
        · exact absurd z h0
        · rcases List.mem_cons.mp z with z | z
          · exact absurd z h1
          · exact z
      rw [if_pos hm]
      have hi : (0 :: 1 :: inn ls : List Int).idxOf u = (inn ls).idxOf u + 2 := by
        rw [List.idxOf_cons, cond_eq_ite, if_neg (by simpa using fun z => h0 z.symm), List.idxOf_cons, cond_eq_ite, if_neg (by simpa using fun z => h1 z.symm)]
      rw [hi]
      have hlt : (inn ls).idxOf u < (inn ls).length := List.idxOf_lt_length_of_mem hm
      show some (V.int _) = some (V.int ((l :: r :: upFrom f ((inn ls).length)).getD ((inn ls).idxOf u + 2) 0))
      rw [List.getD_cons_succ, List.getD_cons_succ, upFrom, List.getD_eq_getElem?_getD, List.getElem?_map, List.getElem?_range hlt]
      rfl
end S6

/-! W20: the law's between, links. -/
namespace S6
open PySem PySem.Spec PyProof.Rows L2
theorem cl_noneS {P : Program} {w : World} {K : Frg} {mg : Str → Option Value} {base : Heap} {x : Str} {st : Stmt} {ps : List Str} {k : Nat} {sp : Sp} (D : Dfn K mg x st) (b : BndOf x x st ps) (no : ∀ vs H Q E, ¬ sp vs H Q E) : Cl P w K mg base k x sp := by
  obtain ⟨f, fd, F, hm⟩ := D.ex
  exact ⟨f, fd, ps, ⟨fun vs H Q E h => absurd h (no vs H Q E), fun A outer s H args us vs Q E _ _ _ _ h => absurd h (no vs H Q E)⟩, hm, F.kp, F.binds b⟩
def spB (K : Frg) (n : Nat) : Sp := fun vs H Q _ => ∃ (p : Addr) (M : List Addr) (v0 : V) (S : Shp) (l r f : Int), vs = [v0, .int l, .int r, .ref p] ∧ p ∈ M ∧ Lv M H ∧ H p = some (.lst [.int f]) ∧ Da K (hM M H) v0 S.dL ∧ NW S ∧ siz S ≤ 14 ∧ dep S < n ∧
  ∀ v H', Kp p H H' → H' p = some (.lst [.int (lay S l r f).2]) → Da K (hM M H') v (.list ((lay S l r f).1.map lkD)) → Q v H'
section
variable {P : Program} {w : World} {K : Frg} {mg : Str → Option Value} {base : Heap} {aO aS aB : Addr}
theorem da_one {H : Hp} {p : Addr} {x : Int} (h : H p = some (.lst [.int x])) : Da K (hM [] H) (.ref p) (.list [.int x]) := .lst (by rw [hM_out (by simp)]; exact h) (.one (.int x))
def BtI (M : List Addr) (H H4 : Hp) (p dq : Addr) (v0 : V) (l r f : Int) (i : Nat) (done : List Int) (σ' : L2.St) (H' : Hp) : Prop :=
  (∃ o5, σ' = [some v0, some (.int l), some (.int r), some (.ref p), some (.ref dq), o5, none, none, none, none, none, none, none, none, none]) ∧ Kp p H H' ∧ Lv (dq :: M) H' ∧ Same (hM (dq :: M) H4) (hM (dq :: M) H') ∧ Same (hM M H) (hM (dq :: M) H') ∧
    H' p = some (.lst [.int (f + (done.length : Nat))]) ∧ ∃ kvs : List (L2.Key × V), H' dq = some (.dK kvs) ∧ kvs.length ≤ 2 + i ∧ ∀ u, valV kvs (Sum.inl u) = numV done l r f u
theorem c_between {n : Nat} (G : Glo K mg aO aS aB) (D : Dfn K mg "_law_between" s_law_between) (ih : Cl P w K mg base n "_law_between" (spB K n)) : Cl P w K mg base (n + 1) "_law_between" (spB K (n + 1)) := by
  refine cl_w D (fun _ _ _ _ _ _ us hl => match us, hl with | [_, _, _, _], _ => rfl) sc_law_between (fun vs H Q E h => by obtain ⟨_, _, _, _, _, _, _, rfl, _⟩ := h; rfl) fun fa cdv A outer s H vs Q E hr h => ?_
  obtain ⟨p, M, v0, S, l, r, f, rfl, hpM, lv, hp, hv0, hN, hs, hd, q⟩ := h
  have nd := sc_law_between.nd
  have hun : (A.deeper (envOfC "_law_between" (defScope s_law_between) s.heap.objs.size fa cdv)).units + 1 < cLine := by have := hr.un; omega
  refine sw_if (td_cast (td_eqS (M := M) (ed_k0 (S := S) (ed_v 0 rfl hv0)) ed_str) (knd_link S)) (fun z H1 g1 => ?_) fun z H1 g1 => sw_nil ?_
  · cases S with
    | lnk x =>
      have lv1 := lv.same g1
      exact sw_ret (M := M) (ed_lst lv1 (ad_cons (ed_tup lv1 (ad_cons (ed_ixT (n := 1) (ed_v 0 rfl (hv0.mono (same_hM g1))) ed_int rfl) (ad_cons (ed_v 1 rfl (.int l)) (ad_cons (ed_v 2 rfl (.int r)) ad_nil))) (by show 3 ≤ sizeLine; decide)) ad_nil) (by show 1 ≤ sizeLine; decide)) fun v H' g hv => q v H' (Kp.of (g1.trans g)) ((g1.trans g) _ _ hp) hv
    | _ => cases z
  have hv1 := hv0.mono (same_hM (M := M) g1)
  refine sw_if (td_cast (td_eqS (M := M) (ed_k0 (S := S) (ed_v 0 rfl hv1)) ed_str) (knd_net S)) (fun z2 H2 g2 => ?_) fun z2 H2 g2 => sw_nil ?_
  · cases S with
    | net ls =>
      rw [NW] at hN
      have hl : ls.length ≤ 14 := hs
      have hg := hN.2.2
      have h0 : ∀ l ∈ ls, 0 ≤ l.2.1 ∧ 0 ≤ l.2.2 := fun l hl => ⟨(hg l hl).u0, (hg l hl).v0⟩
      have g12 := g1.trans g2
      refine sw_dict2 (M := []) 4 nd (ed_v 1 rfl (.int l)) (ed_v 2 rfl (.int r)) fun dq H3 g3 hdq hk => ?_
      have g13 := g12.trans g3
      have hdH : H dq = none := by
        cases y : H dq with
        | none => rfl
        | some o => rw [g12 _ _ y] at hdq; cases hdq
      have hdM : dq ∉ M := lv.new hdH
      have lv3 : Lv M H3 := lv.same g13
      have lvd : Lv (dq :: M) H3 := lv3.cons hk
      have fd : Same (hM M H) (hM (dq :: M) H3) := same_skip g13 hdH
      have hvd := hv0.mono fd
      have pd : p ≠ dq := fun e => by rw [e, hdH] at hp; cases hp
      have el : (ends2 ls).length < 63 := by unfold ends2; rw [List.length_append, List.length_map, List.length_map]; omega
      refine sw_for (M := dq :: M) (ls := setI (ends2 ls)) (enc := .int) (fs := fun j => [.int j]) PassesOwn.never rfl (src_list (ed_setI (ns := ends2 ls) lvd rfl G.sorted G.set (ed_cast (ed_cat lvd
        (ed_lc (own := [("_law_one", 14)]) (ls := ls) (enc := lkD) (f := fun l => .int l.2.1) (fs := fun l => [lkD l]) rfl nd lvd (src_list (ed_ixT (n := 1) (ed_v 0 rfl hvd) ed_int rfl)) (blkOk_by (N := n_law_between) (sc := defScope s_law_between) (by decide +kernel)) (fun _ _ _ _ _ => pg1 14 nd) tg_name (by rw [sizeLine_eq]; omega) (by decide) (fun _ _ => rfl) (fun l hl vs D H' s0 h0 C cl fp g lv' hvs => ?_))
        (ed_lc (own := [("_law_one", 14)]) (ls := ls) (enc := lkD) (f := fun l => .int l.2.2) (fs := fun l => [lkD l]) rfl nd lvd (src_list (ed_ixT (n := 1) (ed_v 0 rfl hvd) ed_int rfl)) (blkOk_by (N := n_law_between) (sc := defScope s_law_between) (by decide +kernel)) (fun _ _ _ _ _ => pg1 14 nd) tg_name (by rw [sizeLine_eq]; omega) (by decide) (fun _ _ => rfl) (fun l hl vs D H' s0 h0 C cl fp g lv' hvs => ?_))
        (by rw [List.length_map, List.length_map, sizeLine_eq]; omega)) ?_) el)) (pg1 5 nd) tg_name (fun _ _ => rfl) fun H4 g4 => ?_
      · obtain ⟨u, rfl, hu⟩ := hvs.inv1
        exact ed_intI G.int (ed_ixT (n := 1) (ed_v 14 rfl hu) ed_int rfl)
      · obtain ⟨u, rfl, hu⟩ := hvs.inv1
        exact ed_intI G.int (ed_ixT (n := 2) (ed_v 14 rfl hu) ed_int rfl)
      · unfold ends2
        rw [List.map_append, List.map_map, List.map_map]
        rfl
      · have sl := setI_len (ends2 ls)
        have snd := setI_nd (ends2 ls)
        refine ⟨fun i => BtI M H H4 p dq v0 l r f i (((setI (ends2 ls)).take i).filter fun j => decide (1 < j)),
          ⟨⟨none, rfl⟩, Kp.of (g13.trans g4), lvd.same g4, Same.refl _, fd.trans (same_hM g4), by rw [List.take_zero]; show _ = some (HO.lst [V.int (f + 0)]); rw [Int.add_zero]; exact (g13.trans g4) _ _ hp, _, g4 _ _ hk, length_mergeK _ _, num_start l r f⟩, fun i σ' H' p => ⟨p.2.2.2.1, p.2.2.1⟩, fun i j σ' H' H'' vs hx P gy hvs => ?_, fun σ' H' P => ?_⟩
        · obtain ⟨⟨o5, rfl⟩, p1, p2, p3, p4, p5, kvs, p6, p7, p8⟩ := P
          obtain ⟨u, rfl, hu⟩ := hvs.inv1
          obtain rfl := hu.int_inv
          have hil : i < (setI (ends2 ls)).length := (List.getElem?_eq_some_iff.mp hx).1
          have hnew : j ∉ ((setI (ends2 ls)).take i).filter fun j => decide (1 < j) := fun m => by
            have m1 := (List.mem_filter.mp m).1
            have hsp : setI (ends2 ls) = (setI (ends2 ls)).take i ++ (setI (ends2 ls)).drop i := (List.take_append_drop _ _).symm
            have dj : j ∈ (setI (ends2 ls)).drop i := by
              rw [List.mem_iff_getElem?]
              exact ⟨0, by rw [List.getElem?_drop]; exact hx⟩
            rw [hsp] at snd
            exact (List.nodup_append.mp snd).2.2 j m1 j dj rfl
          have hF : ((setI (ends2 ls)).take (i + 1)).filter (fun j => decide (1 < j)) = ((setI (ends2 ls)).take i).filter (fun j => decide (1 < j)) ++ [j].filter fun j => decide (1 < j) := by rw [take_step hx, List.filter_append]
          generalize ((setI (ends2 ls)).take i).filter (fun j => decide (1 < j)) = done at p5 p8 hnew hF
          have p5' := gy _ _ p5
          have p6' := gy _ _ p6
          refine sw_if (td_gt (M := []) (ed_v 5 rfl (.int j)) ed_int) (fun hb H5 g5 => ?_) fun hb H5 g5 => sw_nil ?_
          · have hb' := of_decide_eq_true hb
            have e1 : ([j].filter fun j => decide (1 < j)) = [j] := by rw [List.filter_cons, if_pos hb]; rfl
            rw [e1] at hF
            refine sw_dputK (M := []) (p := dq) (kvs := kvs) (u := j) (d := .int (f + (done.length : Nat))) hun (ed_ixL (n := 0) (ed_v 3 rfl (da_one (g5 _ _ p5'))) ed_int rfl) (ev_v 4 rfl) (ed_v 5 rfl (.int j)) (g5 _ _ p6') (by rw [sizeLine_eq]; omega) fun v6 H6 g6 hv6 => ?_
            obtain rfl := hv6.int_inv
            have p5a : (upd H6 dq (.dK (putK kvs (Sum.inl j) (.int (f + (done.length : Nat)))))) p = some (.lst [.int (f + (done.length : Nat))]) := by rw [upd_ne pd]; exact g6 _ _ (g5 _ _ p5')
            refine sw_lput (M := []) (p := p) (j := 0) (d := .int (f + (done.length : Nat) + 1)) (ed_add (ed_ixL (n := 0) (ed_v 3 rfl (da_one p5a)) ed_int rfl) ed_int) (ev_v 3 rfl) ed_int p5a (by show 0 < 1; decide) fun v7 H7 g7 hv7 => sw_nil (sw_nil ?_)
            show BtI _ _ _ _ _ _ _ _ _ _ _ _ _
            rw [hF]
            obtain rfl := hv7.int_inv
            have em : ∀ {Hx : Hp} {o : HO}, hM (dq :: M) (upd Hx dq o) = hM (dq :: M) Hx := fun {Hx o} => hM_upd List.mem_cons_self
            have em2 : ∀ {Hx : Hp} {o : HO}, hM (dq :: M) (upd Hx p o) = hM (dq :: M) Hx := fun {Hx o} => hM_upd (List.mem_cons_of_mem _ hpM)
            have k7 : Same (hM (dq :: M) H') (hM (dq :: M) H7) := by
              have := same_hM (M := dq :: M) g7
              rw [em] at this
              exact (same_hM (gy.trans (g5.trans g6))).trans this
            refine ⟨⟨_, rfl⟩, ?_, ?_, ?_, ?_, ?_, putK kvs (Sum.inl j) (.int (f + (done.length : Nat))), ?_, ?_, fun u => num_step p8 hb' hnew u⟩
            · refine Kp.put (fun b o nb ob => g7 _ _ ?_)
              have : b ≠ dq := fun e => by rw [e, hdH] at ob; cases ob
              rw [upd_ne this]
              exact g6 _ _ (g5 _ _ (gy _ _ (p1 b o nb ob)))
            · exact ((((p2.same gy).same g5).same g6).upd.same g7).upd
            · rw [em2]; exact p3.trans k7
            · rw [em2]; exact p4.trans k7
            · rw [upd_same, List.length_append]
              show some (HO.lst [V.int (f + (done.length : Nat) + 1)]) = some (HO.lst [V.int (f + ((done.length + 1 : Nat)))])
              rw [Int.natCast_add, Int.add_assoc]
              rfl
            · rw [upd_ne (Ne.symm pd)]; exact g7 _ _ upd_same
            · have := length_putK kvs (Sum.inl j) (V.int (f + (done.length : Nat)))
              omega
          · have e1 : ([j].filter fun j => decide (1 < j)) = [] := by rw [List.filter_cons, if_neg (by rw [hb]; exact Bool.false_ne_true)]; rfl
            rw [e1, List.append_nil] at hF
            refine sw_nil ?_
            show BtI _ _ _ _ _ _ _ _ _ _ _ _ _
            rw [hF]
            exact ⟨⟨_, rfl⟩, p1.trans (Kp.of (gy.trans g5)), (p2.same gy).same g5, p3.trans (same_hM (gy.trans g5)), p4.trans (same_hM (gy.trans g5)), g5 _ _ p5', kvs, g5 _ _ p6', by omega, p8⟩
        · obtain ⟨⟨o5, rfl⟩, p1, p2, p3, p4, p5, kvs, p6, p7, p8⟩ := P
          rw [List.take_length] at p5 p8
          have hdn : ∀ u, valV kvs (Sum.inl u) = numV (inn ls) l r f u := p8
          have lvM : Lv M H' := p2.tail
          have hv' := hv0.mono (p4.trans hM_cons)
          have hin : hM M H' dq = some (.dK kvs) := by rw [hM_out hdM]; exact p6
          have jl := jts_inn h0
          refine sw_ret (M := M) (d := .list ((lay (.net ls) l r f).1.map lkD)) (ed_cast (ed_lc (own := [("_law_name", 11), ("_law_u", 12), ("_law_v", 13)]) (ls := ls) (enc := lkD) (f := fun x => lkD (renL (jts ls) (l :: r :: upFrom f ((jts ls).length - 2)) x)) (fs := fun l => [.str l.1, .int l.2.1, .int l.2.2]) rfl nd lvM (src_list (ed_ixT (n := 1) (ed_v 0 rfl hv') ed_int rfl))
            (blkOk_by (N := n_law_between) (sc := defScope s_law_between) (by decide +kernel)) (fun _ _ _ _ _ => pg3 rfl 11 12 13 (pg1 11 nd) (pg1 12 nd) (pg1 13 nd)) tg_3 (by rw [sizeLine_eq]; omega) (by decide) (fun l _ => ⟨rfl, rfl⟩) (fun x hx vs D H5 s0 h0' C cl fp g lv' hvs => ?_)) ?_) fun v H6 g6 hv => q v H6 (p1.trans (Kp.of g6)) ?_ ?_
          · obtain ⟨u1, u2, u3, rfl, h1, h2, h3⟩ := hvs.inv3
            have hk5 := hM_sub _ _ (g _ _ hin)
            have hun5 := hun
            exact ed_tup lv' (ad_cons (ed_v 11 rfl h1) (ad_cons (ed_dget hun5 (ev_v 4 rfl) hk5 (ed_v 12 rfl h2) ((hdn _).trans (num_ren h0 (jts_u hx))) (.int _)) (ad_cons (ed_dget hun5 (ev_v 4 rfl) hk5 (ed_v 13 rfl h3) ((hdn _).trans (num_ren h0 (jts_v hx))) (.int _)) ad_nil))) (by show 3 ≤ sizeLine; decide)
          · rw [lay, List.map_map]; rfl
          · rw [g6 _ _ p5, lay]
            show some (HO.lst [V.int (f + ((inn ls).length : Nat))]) = _
            rw [jl]
            rfl
          · exact hv
    | _ => cases z2
  · have hS : ∃ k ps, (S = .jn k ps ∨ (ps = [] ∧ k = false ∧ (S = .opn ∨ S = .sht))) := by
      cases S with
      | jn k ps => exact ⟨k, ps, .inl rfl⟩
      | opn => exact ⟨false, [], .inr ⟨rfl, rfl, .inl rfl⟩⟩
      | sht => exact ⟨false, [], .inr ⟨rfl, rfl, .inr rfl⟩⟩
      | lnk x => cases z
      | net ls => cases z2
    obtain ⟨k, ps, hS⟩ := hS
    have hlay : lay S l r f = layK k ps l l r f := by
      rcases hS with rfl | ⟨rfl, rfl, rfl | rfl⟩
      · exact lay_jn k ps l r f
      · rfl
      · rfl
    have hps : NWs k ps ∧ sizs ps ≤ siz S ∧ ∀ x ∈ ps, dep x < n := by
      rcases hS with rfl | ⟨rfl, rfl, _⟩
      · rw [NW] at hN
        rw [dep] at hd
        refine ⟨hN.2, Nat.le_refl _, fun x hx => ?_⟩
        have := dep_mem hx
        omega
      · exact ⟨trivial, Nat.zero_le _, fun x hx => nomatch hx⟩
    obtain ⟨hNs, hsz, hdp⟩ := hps
    have hlen := NWs_len hNs
    have g12 := g1.trans g2
    have lv2 := lv.same g12
    have hv2 := hv0.mono (same_hM (M := M) g12)
    refine sw_par3 (M := M) (d1 := .list []) (d2 := .int l) (d3 := .list (ps.map Shp.dL)) 6 7 8 rfl nd (by decide) (by decide) (by decide) (ad_cons (ed_lst lv2 ad_nil (Nat.zero_le _)) (ad_cons (ed_v 1 rfl (.int l)) (ad_cons ?_ ad_nil))) fun v6 v7 v8 H3 g3 hv6 hv7 hv8 => ?_
    · refine ed_if (k := isJn S) (td_cast (td_inS (M := M) (xs := ["row", "bunch"]) (ed_k0 (S := S) (ed_v 0 rfl hv2)) (ed_tup lv2 (ad_cons ed_str (ad_cons ed_str ad_nil)) (by show 2 ≤ sizeLine; decide)) (.inr rfl)) (knd_in S)) (fun y => ?_) fun y => ?_
      · rcases hS with rfl | ⟨rfl, rfl, rfl | rfl⟩
        · rw [← dLs_map]
          exact ed_ixT (n := 1) (ed_v 0 rfl hv2) ed_int rfl
        · cases y
        · cases y
      · rcases hS with rfl | ⟨rfl, rfl, rfl | rfl⟩
        · cases y
        · exact ed_lst lv2 ad_nil (Nat.zero_le _)
        · exact ed_lst lv2 ad_nil (Nat.zero_le _)
    · obtain rfl := hv7.int_inv
      have g13 := g12.trans g3
      have lv3 := lv.same g13
      refine sw_for (M := M) (ls := List.range ps.length) (enc := fun i => .int (i : Nat)) (fs := fun i => [.int (i : Nat)]) PassesOwn.never rfl (src_range G.range (ed_cast (ed_lenL G.len (ed_v 8 rfl hv8)) (by rw [List.length_map])) (by omega)) (pg1 9 nd) tg_name (fun _ _ => rfl) fun H4 g4 => ?_
      refine ⟨fun i σ' H' => (∃ (b fr : Int) (o9 o10 : Option V) (v6 : V) (acc : List Lk), σ' = [some v0, some (.int l), some (.int r), some (.ref p), none, none, some v6, some (.int b), some v8, o9, o10, none, none, none, none] ∧
          Da K (hM M H') v6 (.list (acc.map lkD)) ∧ H' p = some (.lst [.int fr]) ∧ (acc ++ (layK k (ps.drop i) l b r fr).1, (layK k (ps.drop i) l b r fr).2) = lay S l r f ∧ (k = false → b = l)) ∧ Kp p H H' ∧ Lv M H' ∧ Same (hM M H4) (hM M H') ∧ Same (hM M H) (hM M H') ∧ Same (hM M H3) (hM M H'),
        ⟨⟨l, f, none, none, v6, [], rfl, hv6.mono (same_hM g4), (g13.trans g4) _ _ hp, by rw [hlay]; rfl, fun _ => rfl⟩, Kp.of (g13.trans g4), lv3.same g4, Same.refl _, same_hM (g13.trans g4), same_hM g4⟩, fun i σ' H' p => ⟨p.2.2.2.1, p.2.2.1⟩, fun i x σ' H' H'' vs hx P gy hvs => ?_, fun σ' H' P => ?_⟩
      · obtain ⟨⟨b, fr, o9, o10, v6', acc, rfl, p4, p5, p6, p9⟩, p1, p2, p3, p7, p8⟩ := P
        obtain ⟨u, rfl, hu⟩ := hvs.inv1
        obtain rfl := hu.int_inv
        have hip : i < ps.length := by
          have := (List.getElem?_eq_some_iff.mp hx).1
          rwa [List.length_range] at this
        have hxi : x = i := by
          rw [List.getElem?_range hip] at hx
          exact (Option.some.inj hx).symm
        subst hxi
        obtain ⟨part, hpt⟩ : ∃ part, ps[x]? = some part := ⟨_, List.getElem?_eq_getElem hip⟩
        have hmem : part ∈ ps := List.mem_of_getElem? hpt
        have hdrop : ps.drop x = part :: ps.drop (x + 1) := by
          rw [List.drop_eq_getElem_cons hip]
          rw [List.getElem?_eq_getElem hip] at hpt
          rw [Option.some.inj hpt]
        obtain ⟨np, np1, np2, _⟩ := NWs_iff.mp hNs part hmem
        have psz := siz_mem hmem
        have pdp := hdp part hmem
        have hjn : S = .jn k ps := by
          rcases hS with y | ⟨y, _⟩
          · exact y
          · subst y; cases hmem
        subst hjn
        have hrest : k = true ∧ ps.drop (x + 1) ≠ [] ↔ (k && decide ((x : Int) < (ps.length : Nat) - 1)) = true := by
          rw [Bool.and_eq_true, decide_eq_true_eq]
          refine and_congr_right fun _ => ?_
          rw [Ne, List.drop_eq_nil_iff]
          omega
        rw [hdrop] at p6
        have hst := layK_step (p := part) (rest := ps.drop (x + 1)) (r := r) (f := fr) p9 rfl rfl
        have lacc : acc.length ≤ 14 := by
          have e := congrArg (fun z : List Lk × Int => z.1.length) p6
          dsimp only at e
          rw [lay_len, List.length_append] at e
          omega
        generalize he : (if k = true ∧ ps.drop (x + 1) ≠ [] then fr else r) = e at hst
        generalize hf : (if k = true ∧ ps.drop (x + 1) ≠ [] then fr + 1 else fr) = f1 at hst
        have lv5 := p2.same gy
        have hv05 := (hv0.mono p7).mono (same_hM (M := M) gy)
        have hv85 := (hv8.mono p8).mono (same_hM (M := M) gy)
        have p5' := gy _ _ p5
        refine sw_set (M := M) 10 nd (ed_v 2 rfl (.int r)) fun v10 H6 g6 hv10 => ?_
        obtain rfl := hv10.int_inv
        refine sw_ifM (fun σ6 H7 => σ6 = [some v0, some (.int l), some (.int r), some (.ref p), none, none, some v6', some (.int b), some v8, some (.int x), some (.int e), none, none, none, none] ∧ Kp p H6 H7 ∧ H7 p = some (.lst [.int f1]))
          (td_and (td_cast (y := k) (td_eqS (M := M) (x := kwd k) (ed_k0 (S := .jn k ps) (ed_v 0 rfl (hv05.mono (same_hM g6)))) ed_str) (by cases k <;> decide +kernel)) fun _ => td_lt (M := M) (ed_v 9 rfl (.int _)) (ed_sub (ed_cast (ed_lenL G.len (ed_v 8 rfl (hv85.mono (same_hM g6)))) (by rw [List.length_map])) ed_int))
          (fun hh H7 g7 => ?_) (fun hh H7 g7 => ?_) fun σ6 H7 hm => ?_
        · have hc := hrest.mpr hh
          rw [if_pos hc] at he hf
          subst he hf
          have p57 := g7 _ _ (g6 _ _ p5')
          refine sw_set (M := []) (d := .int fr) 10 nd (ed_ixL (n := 0) (ed_v 3 rfl (da_one p57)) ed_int rfl) fun v10 H8 g8 hv10 => ?_
          obtain rfl := hv10.int_inv
          refine sw_lput (M := []) (p := p) (j := 0) (d := .int (fr + 1)) (ed_add (ed_v 10 rfl (.int fr)) ed_int) (ev_v 3 rfl) ed_int (g8 _ _ p57) (by show 0 < 1; decide) fun v11 H9 g9 hv11 => sw_nil ?_
          obtain rfl := hv11.int_inv
          exact ⟨rfl, Kp.put (Kp.of (g7.trans (g8.trans g9))), upd_same⟩
        · have hc : ¬ (k = true ∧ ps.drop (x + 1) ≠ []) := fun z => by rw [hrest.mp z] at hh; cases hh
          rw [if_neg hc] at he hf
          subst he hf
          exact sw_nil ⟨rfl, Kp.of g7, g7 _ _ (g6 _ _ p5')⟩
        · obtain ⟨rfl, k7, p7'⟩ := hm
          have k57 : Kp p H'' H7 := (Kp.of g6).trans k7
          have lv7 : Lv M H7 := k57.lv lv5 (by rw [p7']; exact fun z => nomatch z)
          have m7 := k57.hM (M := M) hpM
          have hv87 := hv85.mono m7
          refine sw_1 (ps_set (i := 6) nd rfl (.inl rfl) (pe_op op_cat pe_w (pe_cl ih hr (Nat.le_refl _) rfl (pa_cons pe_w (pa_cons pe_w (pa_cons pe_w (pa_cons (pv 3) pa_nil))))))) ?_
          refine (ed_v (M := M) 6 rfl ((p4.mono (same_hM gy)).mono m7)).at fun x8 H8 g8 hx8 => ?_
          refine (ed_ixL (M := M) (n := x) (d := part.dL) (ed_v 8 rfl (hv87.mono (same_hM g8))) (ed_v 9 rfl (.int _)) (by rw [List.getElem?_map, hpt]; rfl)).at fun w1 H9 g9 hw1 => ?_
          refine (ed_v (M := M) 7 rfl (.int b)).at fun w2 H10 g10 hw2 => ?_
          refine (ed_v (M := M) 10 rfl (.int e)).at fun w3 H11 g11 hw3 => ⟨.ref p, rfl, ?_⟩
          obtain rfl := hw2.int_inv
          obtain rfl := hw3.int_inv
          have g811 := g9.trans (g10.trans g11)
          have g711 := g8.trans g811
          refine ⟨p, M, w1, part, b, e, f1, rfl, hpM, lv7.same g711, g711 _ _ p7', hw1.mono (same_hM (g10.trans g11)), np, by omega, by omega, fun v12 H12 k12 hp12 hv12 => ?_⟩
          have m812 : Same (hM M H8) (hM M H12) := (same_hM g811).trans (k12.hM hpM)
          have lv12 : Lv M H12 := k12.lv (lv7.same g711) (by rw [hp12]; exact fun z => nomatch z)
          have hx12 := hx8.mono m812
          obtain ⟨a1, xs, rfl, hq1, hxs⟩ := hx12.lst_inv
          obtain ⟨a2, ys, rfl, hq2, hys⟩ := hv12.lst_inv
          refine ⟨a1, a2, xs, ys, rfl, rfl, hM_sub _ _ hq1, hM_sub _ _ hq2, by rw [hxs.len, hys.len, List.length_map, List.length_map, lay_len, sizeLine_eq]; omega, fun t ht => ?_⟩
          have hT := da_lst lv12 ht (hxs.append hys)
          rw [← List.map_append] at hT
          have kT : Kp p H'' (upd H12 t (.lst (xs ++ ys))) := k57.trans ((Kp.of g711).trans (k12.trans (Kp.of (same_new ht))))
          have pT : (upd H12 t (.lst (xs ++ ys))) p = some (.lst [.int (lay part b e f1).2]) := same_new ht _ _ hp12
          generalize upd H12 t (.lst (xs ++ ys)) = HT at hT kT pT
          have lvT : Lv M HT := kT.lv lv5 (by rw [pT]; exact fun z => nomatch z)
          have mT := kT.hM (M := M) hpM
          refine sw_set (M := M) (d := .int (if k = true then e else l)) 7 nd (ed_if (k := k) (td_cast (td_eqS (M := M) (x := kwd k) (ed_k0 (S := .jn k ps) (ed_v 0 rfl (hv05.mono mT))) ed_str) (by cases k <;> decide +kernel)) (fun z => ?_) fun z => ?_) fun w6 H13 g13 hw6 => sw_nil ?_
          · rw [if_pos z]
            exact ed_v 10 rfl (.int e)
          · rw [if_neg (by rw [z]; exact Bool.false_ne_true)]
            exact ed_v 1 rfl (.int l)
          · obtain rfl := hw6.int_inv
            have mTT : Same (hM M H'') (hM M H13) := mT.trans (same_hM g13)
            refine ⟨⟨if k = true then e else l, (lay part b e f1).2, _, _, _, acc ++ (lay part b e f1).1, rfl, hT.mono (same_hM g13), g13 _ _ pT, ?_, fun z => by rw [if_neg (by rw [z]; exact Bool.false_ne_true)]⟩, p1.trans ((Kp.of gy).trans (kT.trans (Kp.of g13))), lvT.same g13, p3.trans ((same_hM gy).trans mTT), p7.trans ((same_hM gy).trans mTT), p8.trans ((same_hM gy).trans mTT)⟩
            rw [← p6, hst]
            cases k with
            | true => rw [if_pos rfl, List.append_assoc]
            | false => rw [if_neg Bool.false_ne_true, List.append_assoc]; rfl
      · obtain ⟨⟨b, fr, o9, o10, v6', acc, rfl, p4, p5, p6, p9⟩, p1, p2, p3, p7, p8⟩ := P
        rw [List.length_range, List.drop_length, layK_nil, List.append_nil] at p6
        refine sw_ret (M := M) (ed_v 6 rfl p4) fun v H5 g5 hv => q v H5 (p1.trans (Kp.of g5)) ?_ ?_
        · rw [g5 _ _ p5, ← p6]
        · rw [← p6]; exact hv
end
end S6

/-! W21: the law's links. -/
namespace S6
open PySem PySem.Spec PyProof.Rows L2
section
variable {P : Program} {w : World} {K : Frg} {mg : Str → Option Value} {base : Heap} {aO aS aB : Addr}
def R_ll : List PyData → PyData → Prop := fun ds d => ∃ S, ds = [Shp.dL S] ∧ NW S ∧ siz S ≤ 14 ∧ dep S ≤ 5 ∧ d = .list ((laidS S).map lkD)
theorem c_links (G : Glo K mg aO aS aB) (D : Dfn K mg "_law_links" s_law_links) (Bt : Cl P w K mg base 6 "_law_between" (spB K 6)) (Ir : Cl P w K mg base 1 "_law_in_rows" (spR K R_ir)) : Cl P w K mg base 7 "_law_links" (spR K R_ll) := by
  refine cl_w D (fun _ _ _ _ _ _ us hl => match us, hl with | [_], _ => rfl) sc_law_links (spR_len fun ds d h => by obtain ⟨S, rfl, _⟩ := h; rfl) fun fa cdv A outer s H vs Q E hr h => ?_
  obtain ⟨M, ds, d, lv, ha, ⟨S, rfl, hN, hs, hd, rfl⟩, q⟩ := h
  obtain ⟨v0, rfl, hv0⟩ := ha.inv1
  refine sw_ret (M := M) (ed_if (k := isNet S) (td_cast (td_eqS (M := M) (ed_k0 (S := S) (ed_v 0 rfl hv0)) ed_str) (knd_net S)) (fun y => ?_) fun y => ?_) q
  · cases S with
    | net ls => exact ed_ixT (n := 1) (ed_v 0 rfl hv0) ed_int rfl
    | _ => cases y
  · have e : laidS S = ordL (lay S 0 1 2).1 := by
      cases S with
      | net ls => cases y
      | _ => rfl
    rw [e]
    refine ed_cl Ir hr (by omega) lv (ad_cons (d := .list ((lay S 0 1 2).1.map lkD)) (fun H1 s1 => ew_of (pe_cl Bt hr (Nat.le_refl _) rfl (pa_cons pe_w (pa_cons pe_int (pa_cons pe_int (pa_cons (pe_lst (pa_cons pe_int pa_nil)) pa_nil))))) ?_) ad_nil) ⟨(lay S 0 1 2).1, rfl, by rw [lay_len]; exact hs, lay0_GL hN hs, rfl⟩
    refine (ed_v (M := M) 0 rfl (hv0.mono (same_hM s1))).at fun w1 H2 g2 hw1 => ⟨by show 1 ≤ sizeLine; decide, fun p hp => ?_⟩
    have lv2 := lv.same (s1.trans g2)
    have hpM : p ∉ M := lv2.new hp
    refine ⟨p, p :: M, w1, S, 0, 1, 2, rfl, List.mem_cons_self, lv2.upd.cons upd_same, upd_same, hw1.mono (same_skip (same_new hp) hp), hN, hs, by omega, fun v H3 k3 _ hv => ⟨fun b o hb => ?_, hv.mono hM_cons⟩⟩
    have hb2 := g2 _ _ hb
    have nb : b ≠ p := ne_of_none hb2 hp
    exact k3 b o nb (by rw [upd_ne nb]; exact hb2)
end
end S6

/-! W34: the law's right. -/
namespace S6
open PySem PySem.Spec PyProof.Rows L2
section
variable {P : Program} {w : World} {K : Frg} {mg : Str → Option Value} {base : Heap}
theorem clG_w {x : Str} {st : Stmt} {N ps : List Str} {k : Nat} {sp : Sp} (D : Dfn K mg x st) (b : BndOf x x st ps) (S : FnScope N ps (defScope st)) (len : ∀ vs H Q E, sp vs H Q E → vs.length = ps.length)
    (body : ∀ (f : Addr) (cdv : Value) (A : Around) (outer : List Env) (s : Shared) (H : Hp) (vs : List V) (Q : VK) (E : XK), A.guards = some [] → Room k (A.deeper (envOfC x (defScope st) s.heap.objs.size f cdv)) → sp vs H Q E →
      SW (cxOf L2.CX0 P w K mg base N x (defScope st) f cdv A outer s H E).nox (defBody st) { nx := fun _ H' => Q .non H', rt := Q } (start N vs) H) : ClG P w K mg base (k + 1) x sp :=
  clG_of D b S len fun f cdv A outer s H vs Q E hg hr h => ⟨_, pss_w, body f cdv A outer s H vs Q E hg hr h⟩
end
section
variable {X : Cx} {σ : L2.St} {M : List Addr} {H0 : Hp} {e a b : Expr} {d : PyData} {pos p : Pos} {ds : List PyData} {x y : Str} {j : Nat}
theorem ed_repr {n k : Nat} (hgd : X.A.guards = some []) (hr : Room j X.A) (hj : 4 ≤ j) (hm : X.mg "repr" = none) (h : ED X σ M H0 a (.list ds)) (hd : RDat n k (.list ds)) (hn : n ≤ 1048576) (hk : k ≤ 40) (hg : Gl X "repr" := by rfl) (na : starEach [a] X.env = (false, eval a X.env) :: starEach [] X.env := by rfl) : ED X σ M H0 (.Call (.Name "repr" p) [a] [] pos) (.str (PyData.list ds).shown) :=
  ed_blt (cr_repr hgd (hr.mono hj)) hm (ad_cons h ad_nil na) (fun vs H Q s hv q => by
    obtain ⟨v, rfl, h1⟩ := hv.inv1
    have h2 := h1
    obtain ⟨r, xs, rfl, _, _⟩ := h2.lst_inv
    exact ⟨r, _, rfl, Da.dp h1.up hd.nd, hd.sh, hd.nd, Nat.le_trans hd.dp hk, hd.fits hn, q _ _ (Same.refl _) (.str _)⟩) (hg := hg) (he := na)
theorem ed_neS (ha : ED X σ M H0 a (.str x)) (hb : ED X σ M H0 b (.str y)) (hm : behindInMarks .NotEq b = false := by exact nomark _) : ED X σ M H0 (.Compare a [.NotEq] [b] pos) (.bool (!decide (x = y))) := ed_cmp op_ne ha hb (fun _ _ _ _ _ h1 h2 q => rd_neS h1 h2 q) hm
theorem td_ownEq {C fI g : Addr} {mc : Value} {S T : Shp} {k : Nat} {R : List PyData → PyData → Prop} {kk : Bool} (c : WebC X.K X.mg C fI mc) (sm : Spc X.K C "__eq__" g) (F : Cm X.prog X.w X.K X.mg X.base k g (spR X.K R)) (l : Lv M H0) (hr : Room j X.A) (hj : k ≤ j) (ha : ED X σ M H0 a (webD C S)) (hb : ED X σ M H0 b (webD C T)) (hR : R [webD C S, webD C T] (.bool kk)) (hm : behindInMarks .Eq b = false := by exact nomark _) : TD X σ H0 (.Compare a [.Eq] [b] pos) kk :=
  td_cmp (op_ownEq (CX := L2.CX0) (E := L2.E0) sm F.r (hr.mono hj) L2.pass0) ha hb (fun x y H Q s h1 h2 q => ⟨ins_of h1, ins_of h2, M, _, .bool kk, l.same s, .two h1 h2, hR, q⟩) hm
theorem ne_no {α : Type} [DecidableEq α] {x y : α} (h : x = y) : (!decide (x = y)) = false := by rw [decide_eq_true h]; rfl
end
def R_rt : List PyData → PyData → Prop := fun ds d => ∃ p, ds = [Shp.dL p] ∧ PV p ∧ siz p ≤ 14 ∧ dep p ≤ 4 ∧ d = .bool true
section
variable {P : Program} {w : World} {K : Frg} {mg : Str → Option Value} {base : Heap} {aO aS aB C fI f : Addr} {mc : Value}
theorem c_right (G : Glo K mg aO aS aB) (W : WebM P w K mg base C fI mc) (D : Dfn K mg "_law_right" s_law_right) (Md : Cl P w K mg base 7 "_law_made" (spR K (R_md 5))) (Wb : Cl P w K mg base 17 "_law_web" (spR K (R_wb C 5))) (Lk : Cl P w K mg base 7 "_law_links" (spR K R_ll)) (Sh : Cl P w K mg base 6 "_law_shown" (spR K (R_sn 6)))
    (Ws : GCl P w K mg base 14 "ways" (spG K C fun S => (wayS S).map cD)) (Cs : GCl P w K mg base 13 "cuts" (spG K C fun S => (cutS S).map cD)) : ClG P w K mg base 18 "_law_right" (spR K R_rt) := by
  refine clG_w D (fun _ _ _ _ _ _ us hl => match us, hl with | [_], _ => rfl) sc_law_right (spR_len fun ds d h => by obtain ⟨_, rfl, _⟩ := h; rfl) fun fa cdv A outer s H vs Q E hgd hr h => ?_
  obtain ⟨M, ds, d, lv, ha, ⟨p, rfl, hP, hs, hd, rfl⟩, q⟩ := h
  obtain ⟨v0, rfl, hv0⟩ := ha.inv1
  have nd := sc_law_right.nd
  have hun : (A.deeper (envOfC "_law_right" (defScope s_law_right) s.heap.objs.size fa cdv)).units + 65 < cLine := by have := hr.un; omega
  have c := W.c
  refine sw_set (M := M) (d := (made p).dL) 1 nd (ed_cl Md hr (by omega) lv (ad_cons (ed_v 0 rfl hv0) ad_nil) ⟨p, rfl, hP, hs, hd, by omega, rfl⟩) fun v1 H1 g1 hv1 => ?_
  have lv1 := lv.same g1
  have hN : NW (made p) := made_NW hP.pw
  have hz : siz (made p) ≤ 14 := Nat.le_trans (made_siz p) hs
  have hdp : dep (made p) ≤ 5 := Nat.le_trans (made_dep p) (by omega)
  have hS : WOk (made p) := ⟨hN, hz, hdp⟩
  refine sw_par (M := M) (d := webD C (made p)) (d2 := .list ((laidS (made p)).map lkD)) 2 3 rfl nd (by decide) (ad_cons (ed_cl Wb hr (by omega) lv1 (ad_cons (ed_v 0 rfl (hv0.mono (same_hM g1))) ad_nil) ⟨p, rfl, hP, hs, hd, by omega, rfl⟩) (ad_cons (ed_cl Lk hr (by omega) lv1 (ad_cons (ed_v 1 rfl hv1) ad_nil) ⟨made p, rfl, hN, hz, hdp, rfl⟩) ad_nil)) fun v2 v3 H2 g2 hv2 hv3 => ?_
  have hv12 := hv1.mono (same_hM (M := M) g2)
  have lv2 := lv1.same g2
  have q2 : ∀ v H', Same H2 H' → Da K (hM M H') v (.bool true) → Q v H' := fun v H' g hv => q v H' ((g1.trans g2).trans g) hv
  clear q hv0 hv1
  generalize hSe : made p = S at *
  have hL14 : (laidS S).length ≤ 14 := by rw [laidS_len]; exact hz
  have hGL : ∀ l ∈ laidS S, GL l := laidS_GL hN hz
  have hlz : (laidS S).length ≤ sizeLine := by rw [sizeLine_eq]; omega
  -- joints
  refine sw_set (M := M) (d := .list ((jts (laidS S)).map .int)) 4 nd (ed_cast (ed_setI (ns := ([0, 1] ++ (laidS S).map (·.2.1)) ++ (laidS S).map (·.2.2)) lv2 rfl G.sorted G.set (ed_cast (ed_cat lv2 (ed_cat (ds := ([0, 1] : List Int).map .int) lv2 (ed_lst lv2 (ad_cons ed_int (ad_cons ed_int ad_nil)) (by show 2 ≤ sizeLine; decide))
      (ed_lc (own := [("_law_one", 10)]) (ls := laidS S) (enc := lkD) (f := fun l => .int l.2.1) (fs := fun l => [lkD l]) rfl nd lv2 (src_list (ed_v 3 rfl hv3)) (blkOk_by (N := n_law_right) (sc := defScope s_law_right) (by decide +kernel)) (fun _ _ _ _ _ => pg1 10 nd) tg_name hlz (by decide) (fun _ _ => rfl) (fun l hl vs D H' s0 h0 C1 cl fp g lv' hx => ?_)) ?_)
      (ed_lc (own := [("_law_one", 10)]) (ls := laidS S) (enc := lkD) (f := fun l => .int l.2.2) (fs := fun l => [lkD l]) rfl nd lv2 (src_list (ed_v 3 rfl hv3)) (blkOk_by (N := n_law_right) (sc := defScope s_law_right) (by decide +kernel)) (fun _ _ _ _ _ => pg1 10 nd) tg_name hlz (by decide) (fun _ _ => rfl) (fun l hl vs D H' s0 h0 C1 cl fp g lv' hx => ?_)) ?_) ?_) ?_) ?_) fun v4 H3 g3 hv4 => ?_
  · obtain ⟨u, rfl, hu⟩ := hx.inv1
    exact ed_intI G.int (ed_ixT (n := 1) (ed_v 10 rfl hu) ed_int rfl)
  · rw [List.length_map, List.length_map, sizeLine_eq]; show 2 + _ ≤ _; omega
  · obtain ⟨u, rfl, hu⟩ := hx.inv1
    exact ed_intI G.int (ed_ixT (n := 2) (ed_v 10 rfl hu) ed_int rfl)
  · rw [List.length_append, List.length_map, List.length_map, List.length_map, sizeLine_eq]; show 2 + _ + _ ≤ _; omega
  · rw [List.map_append, List.map_append, List.map_map, List.map_map]; rfl
  · rw [List.length_append, List.length_append, List.length_map, List.length_map]; show 2 + _ + _ < _; omega
  · rw [jts, List.append_assoc]
  have lv3 := lv2.same g3
  have hv13 := hv12.mono (same_hM (M := M) g3)
  have hv23 := hv2.mono (same_hM (M := M) g3)
  have hv33 := hv3.mono (same_hM (M := M) g3)
  -- called
  refine sw_set (M := M) (d := .list ((setS ((laidS S).map (·.1))).map .str)) 5 nd (ed_setS (ns := (laidS S).map (·.1)) lv3 rfl G.sorted G.set (ed_cast (ed_lc (own := [("_law_one", 10)]) (ls := laidS S) (enc := lkD) (f := fun l => .str l.1) (fs := fun l => [lkD l]) rfl nd lv3 (src_list (ed_v 3 rfl hv33)) (blkOk_by (N := n_law_right) (sc := defScope s_law_right) (by decide +kernel)) (fun _ _ _ _ _ => pg1 10 nd) tg_name hlz (by decide) (fun _ _ => rfl) (fun l hl vs D H' s0 h0 C1 cl fp g lv' hx => ?_)) ?_) ?_) fun v5 H4 g4 hv5 => ?_
  · obtain ⟨u, rfl, hu⟩ := hx.inv1
    exact ed_strS G.str (ed_ixT (n := 0) (ed_v 10 rfl hu) ed_int rfl)
  · rw [List.map_map]; rfl
  · rw [List.length_map]; omega
  have lv4 := lv3.same g4
  have hv14 := hv13.mono (same_hM (M := M) g4)
  have hv24 := hv23.mono (same_hM (M := M) g4)
  have hv34 := hv33.mono (same_hM (M := M) g4)
  have hv44 := hv4.mono (same_hM (M := M) g4)
  -- wanted
  refine sw_set (M := M) (d := .list (wantD (laidS S))) 6 nd (ed_lst lv4 (ad_cons (ed_tupL lv4 G.tuple (ed_v 3 rfl hv34)) (ad_cons (ed_tupL lv4 G.tuple (ed_v 4 rfl hv44)) (ad_cons (ed_tupL lv4 G.tuple (ed_v 5 rfl hv5)) (ad_cons (ed_cast (ed_lenL G.len (ed_v 3 rfl hv34)) (by rw [List.length_map])) (ad_cons (ed_cast (ed_lenL G.len (ed_v 5 rfl hv5)) (by rw [List.length_map])) ad_nil))))) (by show 5 ≤ sizeLine; decide)) fun v6 H5 g5 hv6 => ?_
  have lv5 := lv4.same g5
  have hv15 := hv14.mono (same_hM (M := M) g5)
  have hv25 := hv24.mono (same_hM (M := M) g5)
  have hv35 := hv34.mono (same_hM (M := M) g5)
  have q5 : ∀ v H', Same H5 H' → Da K (hM M H') v (.bool true) → Q v H' := fun v H' g hv => q2 v H' ((g3.trans (g4.trans g5)).trans g) hv
  have wok := want_ok hGL hL14
  have w2ok := want2_ok hGL hL14
  obtain ⟨pl, gl, PL, FL⟩ := W.links
  obtain ⟨pj, gj, PJ, FJ⟩ := W.joints
  obtain ⟨pn, gn, PN, FN⟩ := W.names
  obtain ⟨pk, gk, PK, FK⟩ := W.kind
  obtain ⟨gln, SLn, FLn⟩ := W.len
  obtain ⟨gab, SAb, FAb⟩ := W.abs
  obtain ⟨gno, MNo, FNo⟩ := W.net_of
  obtain ⟨geq, SEq, FEq⟩ := W.eq
  obtain ⟨gst, SSt, FSt⟩ := W.str
  obtain ⟨pnt, gnt, SNt, FNt⟩ := W.net
  -- twice read
  refine sw_for (M := M) (ls := List.range 2) (enc := fun i => .int (i : Nat)) (fs := fun i => [.int (i : Nat)]) PassesOwn.never rfl (src_range G.range (ed_int (i := 2)) (by decide)) (pg1 7 nd) tg_name (fun _ _ => rfl) fun H6 g6 => ?_
  refine ⟨fun i σ' H' => (∃ o7, σ' = [some v0, some v1, some v2, some v3, some v4, some v5, some v6, o7, none, none, none]) ∧ Same H6 H', ⟨⟨none, rfl⟩, Same.refl _⟩, fun i σ' H' P => ⟨same_hM P.2, (lv5.same g6).same P.2⟩, fun i x σ' H' H'' vs hx P gy hvs => ?_, fun σ' H' P => ?_⟩
  · obtain ⟨⟨o7, rfl⟩, p2⟩ := P
    obtain ⟨u, rfl, hu⟩ := hvs.inv1
    have gg := (g6.trans p2).trans gy
    have lv6 := lv5.same gg
    have hw2 := hv25.mono (same_hM (M := M) gg)
    refine sw_ifF (td_cast (td_neS (M := M) (ed_repr hgd hr (by omega) G.repr (ed_lst (ds := wantD (laidS S)) lv6 (ad_cons (ed_prop c PL FL lv6 hr (by omega) (ed_v 2 rfl hw2) ⟨S, rfl, hS, rfl⟩) (ad_cons (ed_prop c PJ FJ lv6 hr (by omega) (ed_v 2 rfl hw2) ⟨S, rfl, hS, rfl⟩) (ad_cons (ed_prop c PN FN lv6 hr (by omega) (ed_v 2 rfl hw2) ⟨S, rfl, hS, rfl⟩) (ad_cons (ed_cast (ed_ownLen SLn FLn lv6 hr (by omega) G.len (ed_v 2 rfl hw2) ⟨S, rfl, hS, rfl⟩ (by omega)) (by rw [laidS_len])) (ad_cons (ed_ownAbs SAb FAb lv6 hr (by omega) G.abs (ed_v 2 rfl hw2) ⟨S, rfl, hS, rfl⟩) ad_nil))))) (by show 5 ≤ sizeLine; decide)) wok (by decide) (by decide)) (ed_repr hgd hr (by omega) G.repr (ed_v 6 rfl (hv6.mono (same_hM (M := M) gg))) wok (by decide) (by decide))) (ne_no rfl)) fun H7 g7 => sw_nil ⟨⟨_, rfl⟩, p2.trans (gy.trans g7)⟩
  obtain ⟨⟨o7, rfl⟩, p2⟩ := P
  have p2 := g6.trans p2
  have lv6 := lv5.same p2
  have hv16 := hv15.mono (same_hM (M := M) p2)
  have hv26 := hv25.mono (same_hM (M := M) p2)
  have hv36 := hv35.mono (same_hM (M := M) p2)
  have hv66 := hv6.mono (same_hM (M := M) p2)
  have q6 : ∀ v H'', Same H' H'' → Da K (hM M H'') v (.bool true) → Q v H'' := fun v H'' g hv => q5 v H'' (p2.trans g) hv
  clear q5 q2 hv15 hv25 hv35 hv6 hv14 hv24 hv34 hv44 hv5 hv13 hv23 hv33 hv4 hv12 hv2 hv3
  have hNt := netS_ok hS
  -- its net
  refine sw_set (M := M) (d := webD C (netS S)) 8 nd (ed_meth0 c MNo (by decide) FNo lv6 hr (by omega) (ed_v 2 rfl hv26) ⟨S, rfl, hS, rfl⟩) fun v8 H7 g7 hv8 => ?_
  have lv7 := lv6.same g7
  have hv17 := hv16.mono (same_hM (M := M) g7)
  have hv27 := hv26.mono (same_hM (M := M) g7)
  have hv37 := hv36.mono (same_hM (M := M) g7)
  have hv67 := hv66.mono (same_hM (M := M) g7)
  have shL : SeqAt.shaped (.list ((laidS S).map lkD)) = true := sh_lks hGL
  refine sw_set (M := M) (d := .str (knd (netS S))) 9 nd (ed_if (k := decide (knd S = "open")) (td_eqS (M := M) (ed_k0 (ed_v 1 rfl hv17)) ed_str) (fun z => ed_cast ed_str (by rw [knd_netS_o (of_decide_eq_true z)])) fun z => ed_if (k := !decide (laidS S = [])) (td_cast (td_neD (M := M) hun shL (by decide +kernel) (ed_v 3 rfl hv37) (ed_lst lv7 ad_nil (Nat.zero_le _))) (by rw [eqv_nil]; congr 1; simp)) (fun y => ed_cast ed_str (by rw [netS_no (of_decide_eq_false z), knd_mkN_n (by simpa using y)])) fun y => ed_cast ed_str (by rw [netS_no (of_decide_eq_false z), knd_mkN_s (by simpa using y)])) fun v9 H8 g8 hv9 => ?_
  obtain rfl := hv9.str_inv
  have lv8 := lv7.same g8
  have hv18 := hv17.mono (same_hM (M := M) g8)
  have hv28 := hv27.mono (same_hM (M := M) g8)
  have hv38 := hv37.mono (same_hM (M := M) g8)
  have hv68 := hv67.mono (same_hM (M := M) g8)
  have hv88 := hv8.mono (same_hM (M := M) g8)
  have q8 : ∀ v H'', Same H8 H'' → Da K (hM M H'') v (.bool true) → Q v H'' := fun v H'' g hv => q6 v H'' ((g7.trans g8).trans g) hv
  clear q6 hv8 hv17 hv27 hv37 hv67 hv16 hv26 hv36 hv66
  have eN : netS (netS S) = netS S := netS_netS hN
  refine sw_ifF (td_w (wd_or (k := false) (m := false) (td_cast (td_neS (M := M) (ed_prop c PK FK lv8 hr (by omega) (ed_v 8 rfl hv88) ⟨netS S, rfl, hNt, rfl⟩) (ed_v 9 rfl (.str _))) (ne_no rfl)) fun _ => wd_or (k := false) (m := false) (td_cast (td_neS (M := M) (ed_repr (ds := (wantD (laidS S)).take 2) hgd hr (by omega) G.repr (ed_lst lv8 (ad_cons (ed_cast (ed_prop c PL FL lv8 hr (by omega) (ed_v 8 rfl hv88) ⟨netS S, rfl, hNt, rfl⟩) (by dsimp only; rw [laid_netS hN])) (ad_cons (ed_cast (ed_prop c PJ FJ lv8 hr (by omega) (ed_v 8 rfl hv88) ⟨netS S, rfl, hNt, rfl⟩) (by dsimp only; rw [laid_netS hN])) ad_nil)) (by show 2 ≤ sizeLine; decide)) w2ok (by decide) (by decide)) (ed_repr hgd hr (by omega) G.repr (ed_takeL (i := 2) lv8 (ed_v 6 rfl hv68) ed_int) w2ok (by decide) (by decide))) (ne_no rfl)) fun _ => wd_or1 (td_cast (td_not ((td_ownEq (M := M) c SEq FEq lv8 hr (by omega) (ed_meth0 c MNo (by decide) FNo lv8 hr (by omega) (ed_v 8 rfl hv88) ⟨netS S, rfl, hNt, rfl⟩) (ed_v 8 rfl hv88) ⟨netS (netS S), netS S, rfl, netS_ok hNt, hNt, trivial, rfl⟩))) (by rw [eN, eqv_self hNt.nw]; rfl)))) fun H9 g9 => ?_
  have lv9 := lv8.same g9
  have hv19 := hv18.mono (same_hM (M := M) g9)
  have hv29 := hv28.mono (same_hM (M := M) g9)
  have hv39 := hv38.mono (same_hM (M := M) g9)
  have hv89 := hv88.mono (same_hM (M := M) g9)
  refine sw_ifF (td_w (wd_or (k := false) (m := false) (td_cast (td_neB (M := M) (ed_ownEq c SEq FEq lv9 hr (by omega) (ed_v 8 rfl hv89) (ed_v 2 rfl hv29) ⟨netS S, S, rfl, hNt, hS, trivial, rfl⟩) (ed_inS (xs := nosKinds) (ed_k0 (ed_v 1 rfl hv19)) (ed_tup lv9 (ad_cons ed_str (ad_cons ed_str (ad_cons ed_str ad_nil))) (by show 3 ≤ sizeLine; decide)) (.inr rfl))) (ne_no (eqv_netS hN))) fun _ => wd_or1 (td_cast (td_neS (M := M) (ed_ownStr SSt FSt lv9 hr (by omega) G.str (ed_v 2 rfl hv29) ⟨S, rfl, hS, rfl⟩) (ed_cl Sh hr (by omega) lv9 (ad_cons (ed_v 1 rfl hv19) ad_nil) ⟨S, rfl, hN, hz, hdp, by omega, rfl⟩)) (ne_no rfl)))) fun H10 g10 => ?_
  have lv10 := lv9.same g10
  have hv2a := hv29.mono (same_hM (M := M) g10)
  have hv3a := hv39.mono (same_hM (M := M) g10)
  have hv8a := hv89.mono (same_hM (M := M) g10)
  refine sw_ifF (td_cast (td_and (m := false) (td_lt (M := M) (ed_lenL G.len (ed_v 3 rfl hv3a)) ed_int) fun z => ?_) (Bool.and_false _)) fun H11 g11 => ?_
  · have h7 : siz S ≤ 7 := by have := of_decide_eq_true z; rw [List.length_map, laidS_len] at this; omega
    have h7n : siz (netS S) ≤ 7 := by rw [siz_netS]; exact h7
    have sh1 := sh_cDs (wayS_ok hS h7)
    refine td_cast (td_neD (M := M) hun sh1 sh1 (ed_cast (ed_listG Ws lv10 hr (by omega) G.list (ed_v 8 rfl hv8a) hNt h7n) (by rw [way_netS hN])) (ed_listG Ws lv10 hr (by omega) G.list (ed_v 2 rfl hv2a) hS h7)) ?_
    rw [SeqAt.eqv_refl _ (by rw [PyData.canLay0]; exact canAll_of fun d hd => by obtain ⟨c, hc, rfl⟩ := List.mem_map.mp hd; exact (cD_ok (wayS_ok hS h7 c hc)).1)]
    rfl
  have lv11 := lv10.same g11
  have hv2b := hv2a.mono (same_hM (M := M) g11)
  have hv3b := hv3a.mono (same_hM (M := M) g11)
  have hv8b := hv8a.mono (same_hM (M := M) g11)
  refine sw_ifF (td_cast (td_and (m := false) (td_lt (M := M) (ed_lenL G.len (ed_v 3 rfl hv3b)) ed_int) fun z => ?_) (Bool.and_false _)) fun H12 g12 => ?_
  · have h7 : siz S ≤ 7 := by have := of_decide_eq_true z; rw [List.length_map, laidS_len] at this; omega
    have h7n : siz (netS S) ≤ 7 := by rw [siz_netS]; exact h7
    have sh1 := sh_cDs (cutS_ok hS h7)
    refine td_cast (td_neD (M := M) hun sh1 sh1 (ed_cast (ed_listG Cs lv11 hr (by omega) G.list (ed_v 8 rfl hv8b) hNt h7n) (by rw [cut_netS hN])) (ed_listG Cs lv11 hr (by omega) G.list (ed_v 2 rfl hv2b) hS h7)) ?_
    rw [SeqAt.eqv_refl _ (by rw [PyData.canLay0]; exact canAll_of fun d hd => by obtain ⟨c, hc, rfl⟩ := List.mem_map.mp hd; exact (cD_ok (cutS_ok hS h7 c hc)).1)]
    rfl
  have lv12 := lv11.same g12
  have hv2c := hv2b.mono (same_hM (M := M) g12)
  have hv8c := hv8b.mono (same_hM (M := M) g12)
  refine sw_ret (M := M) (ed_or (k := !decide (knd (netS S) = "net")) (ed_neS (ed_v 9 rfl (.str _)) ed_str) (fun z => ed_one (ed_cast (ed_ownEq c SEq FEq lv12 hr (by omega) (ed_v 8 rfl hv8c) (ed_smeth c SNt FNt lv12 hr (by omega) (ed_prop c PL FL lv12 hr (by omega) (ed_v 2 rfl hv2c) ⟨S, rfl, hS, rfl⟩) ⟨laidS S, _, rfl, .inr rfl, hL14, hGL, rfl⟩) ⟨netS S, mkN (laidS S), rfl, hNt, ?_, trivial, rfl⟩) ?_)) fun z => rfl) fun v H13 g13 hv => q8 v H13 ((g9.trans (g10.trans (g11.trans g12))).trans g13) hv
  · refine ⟨NW.mkN hGL, by rw [siz_mkN]; exact hL14, ?_⟩
    unfold mkN
    by_cases c : laidS S = []
    · rw [if_pos c]; exact Nat.zero_le _
    · rw [if_neg c]; exact Nat.zero_le _
  · have hno : ¬ knd S = "open" := fun e => by
      rw [knd_netS_o e] at z
      exact absurd z (by decide +kernel)
    dsimp only
    rw [← netS_no hno, eqv_self hNt.nw]
end
end S6

/-! W35: the law. -/
namespace S6
open PySem PySem.Spec PyProof.Rows L2
section
variable {X : Cx} {σ : L2.St} {M : List Addr} {H0 H : Hp} {e a b : Expr} {es : List Expr} {d : PyData} {pos q1 : Pos} {p cc : Addr} {c j k i : Nat} {ds : List PyData} {x : Str} {ns : List Int} {D : Ends} {rest : List Stmt} {R : List PyData → PyData → Prop}
/-- script[:n], the script may be frozen -/
theorem ed_takeSq {a1 : Addr} {n : Nat} {q2 : Pos} {hi : Expr} (lv : Lv M H0) (hl : ED X σ M H0 hi (.int (n : Nat))) (hv : σ[i]? = some (some (.ref a1))) (hs : SqL X.K H0 a1 (ns.map V.int)) (hN : X.N[i]? = some x := by rfl) (hvis : Vis X.env.scope x := by first | exact Or.inl rfl | exact Or.inr (Or.inl rfl) | exact Or.inr (Or.inr rfl))
    (hb : (x == ("__debug__" : Str)) = false := by decide) (hb2 : (x == ("__classdict__" : Str)) = false := by decide) : ED X σ M H0 (.Subscript (.Name x q1) (.Slice none (some hi) none q2) pos) (.list ((ns.take n).map .int)) := fun H s => by
  refine ew_of (pe_slice sl_list (pv i hN hvis hb hb2) po_none (po_some pe_w)) ⟨.ref a1, hv, (hl H s).mono fun v H1 ⟨g, z⟩ => ⟨n, z.int_inv, a1, _, rfl, (s.trans g).seq hs, fun r hr => ⟨g.trans (same_new hr), ?_⟩⟩⟩
  have h2 := da_lst (K := X.K) (lv.same (s.trans g)) hr ((DaAll.ofInts (K := X.K) (H := hM M H1) ns).cut none (some (n : Int)))
  rw [HT.sIx_nat, HT.sIx_none, List.drop_zero, Nat.sub_zero] at h2
  have e3 : (ns.map PyData.int).take (min n (ns.map PyData.int).length) = (ns.take n).map .int := by
    rw [List.map_take, List.length_map]
    by_cases hi : n ≤ ns.length
    · rw [show min n ns.length = n by omega]
    · rw [List.take_of_length_le (by rw [List.length_map]; omega), List.take_of_length_le (by rw [List.length_map]; omega)]
  rw [e3] at h2
  exact h2
theorem ed_clG {p1 : Pos} (cl : ClG X.prog X.w X.K X.mg X.base k x (spR X.K R)) (hr : Room j X.A) (hk : k ≤ j) (l : Lv M H0) (ha : AD X σ M H0 (e :: es) ds) (hR : R ds d) (hgd : X.A.guards = some []) (hg : Gl X x := by rfl)
    (hdb : (x == ("__debug__" : Str)) = false := by decide) (he : starEach (e :: es) X.env = (false, eval e X.env) :: starEach es X.env := by rfl) (hpl : (backTo pos (starEach es X.env)).any (·.1) = false := by rfl) :
    ED X σ M H0 (.Call (.Name x p1) (e :: es) [] pos) d := fun H s =>
  ew_of (pe_clG hgd cl hr hk hg pa_w hdb he hpl) ((ha H s).mono fun vs H1 ⟨g, hd⟩ => by
    rw [List.append_nil]
    exact ⟨M, ds, d, l.same (s.trans g), hd, hR, fun v H' g2 z => ⟨g.trans g2, z⟩⟩)
theorem sw_setW (i : Nat) {pp : Pos} (nd : X.N.Nodup) (h : EW X e σ H fun v H' => SW X rest D (σ.set i (some v)) H') (hi : X.N[i]? = some x := by rfl) (hx : Loc X.env.scope x := by first | exact Or.inl rfl | exact Or.inr rfl)
    (hs : swapsWith e (some (.Name x pp)) pos.line X.env = pure false := by rfl) (hf : X.fn x = true ∨ X.env.scope.names.lookup x = some .local := by first | exact .inl rfl | exact .inr rfl) : SW X (.Assign [.Name x pp] e pos :: rest) D σ H :=
  sw_1 (ps_set (i := i) nd hi hx pe_w hs hf) h
/-- _law_words(pen, e) -/
theorem ep_words (cl : Cl X.prog X.w X.K X.mg X.base 3 "_law_words" (spWd X.K)) (hr : Room j X.A) (hj : 3 ≤ j) (hpM : p ∈ M) (lv : Lv M H0) (hv : σ[i]? = some (some (.ref p))) (he : EP X σ M p cc c H0 e (fun d => ∃ m : Nat, d = .int (m : Nat) ∧ 1 ≤ m ∧ m ≤ 14)) (hN : X.N[i]? = some x := by rfl) (hs : Vis X.env.scope x := by first | exact Or.inl rfl | exact Or.inr (Or.inl rfl) | exact Or.inr (Or.inr rfl))
    (hb : (x == ("__debug__" : Str)) = false := by decide) (hb2 : (x == ("__classdict__" : Str)) = false := by decide) (hg : Gl X "_law_words" := by rfl) (na : starEach [.Name x q1, e] X.env = (false, eval (.Name x q1) X.env) :: starEach [e] X.env := by rfl) (nb : starEach [e] X.env = (false, eval e X.env) :: starEach [] X.env := by rfl) (hpl : (backTo pos (starEach [e] X.env)).any (·.1) = false := by rfl) {q2 : Pos} :
    EP X σ M p cc (c + 11) H0 (.Call (.Name "_law_words" q2) [.Name x q1, e] [] pos) (fun d => ∃ ws : List Str, d = .list (ws.map .str) ∧ Nms ws) := fun H b k n => by
  refine ew_of (pe_cl cl hr hj hg (pa_cons (pv i hN hs hb hb2) (pa_cons pe_w pa_nil nb) na) (by decide) na hpl) ⟨.ref p, hv, (he H (b + 11) k (n.le (by omega))).mono fun v H1 ⟨k1, n1, d, hd, z⟩ => ?_⟩
  obtain ⟨m, rfl, m1, m2⟩ := hd
  rw [z.int_inv]
  exact ⟨p, cc, M, b, m, rfl, hpM, (k.trans k1).lv lv n1.ne, m2, n1, fun v' H' ws k2 n2 hl hG hv => ⟨k1.trans k2, n2, _, ⟨ws, rfl, ⟨fun e => by rw [e] at hl; simp at hl; omega, by omega, hG⟩⟩, hv⟩⟩
/-- _law_drawn(pen, e) -/
theorem ep_drawn {ws : List Str} (cl : Cl X.prog X.w X.K X.mg X.base 11 "_law_drawn" (spDw X.K)) (hr : Room j X.A) (hj : 11 ≤ j) (hpM : p ∈ M) (lv : Lv M H0) (hv : σ[i]? = some (some (.ref p))) (hw : Nms ws)
    (ha : ∀ H, Kp p H0 H → H p ≠ none → ED X σ M H e (.list (ws.map .str))) (hN : X.N[i]? = some x := by rfl) (hs : Vis X.env.scope x := by first | exact Or.inl rfl | exact Or.inr (Or.inl rfl) | exact Or.inr (Or.inr rfl))
    (hb : (x == ("__debug__" : Str)) = false := by decide) (hb2 : (x == ("__classdict__" : Str)) = false := by decide) (hg : Gl X "_law_drawn" := by rfl) (na : starEach [.Name x q1, e] X.env = (false, eval (.Name x q1) X.env) :: starEach [e] X.env := by rfl) (nb : starEach [e] X.env = (false, eval e X.env) :: starEach [] X.env := by rfl) (hpl : (backTo pos (starEach [e] X.env)).any (·.1) = false := by rfl) {q2 : Pos} :
    EP X σ M p cc 20000 H0 (.Call (.Name "_law_drawn" q2) [.Name x q1, e] [] pos) (fun d => ∃ S : Shp, d = S.dL ∧ PV S ∧ siz S ≤ 14 ∧ dep S ≤ 4) := fun H b k pn => by
  refine ew_of (pe_cl cl hr hj hg (pa_cons (pv i hN hs hb hb2) (pa_cons pe_w pa_nil nb) na) (by decide) na hpl) ⟨.ref p, hv, (ha H k pn.ne H (Same.refl H)).mono fun v H1 ⟨g1, hv⟩ => ?_⟩
  exact ⟨p, cc, M, b, v, ws, rfl, hpM, (k.lv lv pn.ne).same g1, hv, hw, pn.same g1, fun v' H' S k2 n2 h1 h2 h3 hv => ⟨(Kp.of g1).trans k2, n2, _, ⟨S, rfl, h1, h2, h3⟩, hv⟩⟩
/-- [True] * 3 -/
theorem ed_rep3 {q2 q3 : Pos} {j0 j1 : Nat} (lv : Lv M H0) : ED X σ M H0 (.BinOp (.List [.Constant (.bool true) j0 q1] q2) .Mult (.Constant (.int 3) j1 q3) pos) (.list [.bool true, .bool true, .bool true]) := ed_op op_rep (ed_lst lv (ad_cons ed_bl ad_nil) (by show 1 ≤ sizeLine; decide)) ed_int fun x y H Q s h1 h2 q => by
  obtain ⟨l, xs, rfl, hq, hx⟩ := h1.lst_inv
  obtain ⟨v, rfl, hv⟩ := hx.inv1
  obtain rfl := hv.bl_inv
  exact ⟨l, 3, [.bl true], rfl, h2.int_inv, hM_sub _ _ hq, by decide, by decide, by show 3 ≤ sizeLine; decide, fun p hp => q _ _ (same_new hp) (da_lst (lv.same s) hp (.three (.bl _) (.bl _) (.bl _)))⟩
end
def spPn (K : Frg) : Sp := fun vs H Q _ => ∃ (a : Addr) (ns : List Int), vs = [.ref a] ∧ SqL K H a (ns.map V.int) ∧ ∀ v H', Same H H' → Da K (hM [] H') v (.list [.list ((ns.take 63).map .int), .int 0, .int 0]) → Q v H'
def spLw (K : Frg) : Sp := fun vs H Q _ => ∃ (a : Addr) (ns : List Int), vs = [.ref a] ∧ SqL K H a (ns.map V.int) ∧ ∀ H', Q (.bl true) H'
section
variable {P : Program} {w : World} {K : Frg} {mg : Str → Option Value} {base : Heap} {aO aS aB C fI f : Addr} {mc : Value}
theorem c_pen (G : Glo K mg aO aS aB) (D : Dfn K mg "_law_pen" s_law_pen) : Cl P w K mg base 1 "_law_pen" (spPn K) := by
  refine cl_w D (fun _ _ _ _ _ _ us hl => match us, hl with | [_], _ => rfl) sc_law_pen (fun vs H Q E h => by obtain ⟨_, _, rfl, _⟩ := h; rfl) fun fa cdv A outer s H vs Q E hr h => ?_
  obtain ⟨a, ns, rfl, hs, q⟩ := h
  have lv : Lv [] H := Lv.nil
  exact sw_ret (M := []) (ed_lst lv (ad_cons (ed_lstL lv G.list (ed_takeSq (n := 63) (i := 0) lv ed_int rfl hs)) (ad_cons ed_int (ad_cons ed_int ad_nil))) (by show 3 ≤ sizeLine; decide)) q
theorem gn_a : GN "a" := ⟨by decide +kernel, by decide +kernel, by decide +kernel, by decide +kernel, by decide +kernel, by decide +kernel⟩
theorem fnG_w {x : Str} {st : Stmt} {N ps : List Str} {k : Nat} {sp : Sp} {fd : FuncData} (F : L2.Fun K x x st f fd) (S : FnScope N ps (defScope st)) (len : ∀ vs H Q E, sp vs H Q E → vs.length = ps.length)
    (body : ∀ (cdv : Value) (A : Around) (outer : List Env) (s : Shared) (H : Hp) (vs : List V) (Q : VK) (E : XK), A.guards = some [] → Room k (A.deeper (envOfC x (defScope st) s.heap.objs.size f cdv)) → sp vs H Q E →
      SW (cxOf L2.CX0 P w K mg base N x (defScope st) f cdv A outer s H E).nox (defBody st) { nx := fun _ H' => Q .non H', rt := Q } (start N vs) H) : FnG P w K mg base (k + 1) f fd ps sp :=
  fun_okG F S len fun cdv A outer s H vs Q E hg hr h => ⟨_, pss_w, body cdv A outer s H vs Q E hg hr h⟩
theorem c_law {fd : FuncData} (G : Glo K mg aO aS aB) (F : L2.Fun K "law" "law" s_law f fd) (Pn : Cl P w K mg base 1 "_law_pen" (spPn K)) (Dr : Cl P w K mg base 1 "_law_draw" spD) (Wd : Cl P w K mg base 3 "_law_words" (spWd K)) (Dw : Cl P w K mg base 11 "_law_drawn" (spDw K)) (Rt : ClG P w K mg base 18 "_law_right" (spR K R_rt)) : FnG P w K mg base 19 f fd ["_law_script"] (spLw K) := by
  refine fnG_w F sc_law (fun vs H Q E h => by obtain ⟨_, _, rfl, _⟩ := h; rfl) fun cdv A outer s H vs Q E hgd hr h => ?_
  obtain ⟨a, ns, rfl, hs, q⟩ := h
  have nd := sc_law.nd
  have hun : (A.deeper (envOfC "law" (defScope s_law) s.heap.objs.size f cdv)).units + 65 < cLine := by have := hr.un; omega
  refine sw_setW 1 nd (ew_of (pe_cl Pn hr (by omega) rfl (pa_cons (pv 0) pa_nil)) ⟨.ref a, rfl, a, ns, rfl, hs, fun v H1 g1 hv => ?_⟩)
  obtain ⟨p, cc, rfl, hn, _⟩ := pen_of hv (by rw [List.length_take]; omega)
  have hpM : p ∈ [p] := List.mem_cons_self
  have lv1 : Lv [p] H1 := fun b hb => by rw [List.mem_singleton.mp hb]; exact hn.ne
  refine sw_forR (M := [p]) (p := p) (cc := cc) (c := 0) (bb := 8 * 20012) (m0 := 8) (i0 := 2) nd PassesOwn.never rfl G.range ((ep_of (d := .int (8 : Nat)) fun H k _ => ed_int).imp (fun d hd => ⟨8, hd, Nat.le_refl _⟩) (Nat.le_refl _)) (by decide) (hn.le (by decide)) (pg1 2 nd) fun m H2 hm k2 n2 => ?_
  refine ⟨fun i σ' H' => (∃ o2 o3, σ' = [some (.ref a), some (.ref p), o2, o3, none]) ∧ Pen p cc ((8 - i) * 20012) H' ∧ Lv [p] H', ⟨⟨none, none, rfl⟩, n2, k2.lv lv1 n2.ne⟩, fun i σ' H' hi P => ?_, fun σ' H' P => ?_⟩
  · obtain ⟨⟨o2, o3, rfl⟩, p1, p2⟩ := P
    have hb : (8 - i) * 20012 = (8 - (i + 1)) * 20012 + 20000 + (1 + 11) := by
      have : 8 - i = (8 - (i + 1)) + 1 := by omega
      rw [this]; omega
    rw [hb] at p1
    refine sw_setP (M := [p]) (p := p) (cc := cc) (c := 1 + 11) (b := (8 - (i + 1)) * 20012 + 20000) 3 nd (ep_words (i := 1) (c := 1) Wd hr (by omega) hpM p2 rfl ((ep_opI (f := fun x y => x + y) op_add (fun H k _ => ed_int) (ep_draw (i := 1) (many := 14) Dr hr (by omega) rfl (fun H k _ => ed_int) (by decide) (by decide)) (fun d hd => by obtain ⟨r, rfl, _⟩ := hd; exact ⟨r, rfl⟩)).imp (fun d hd => by
      obtain ⟨k, rfl, r, e, r0, r1⟩ := hd
      cases e
      exact ⟨(1 + k).toNat, by rw [Int.toNat_of_nonneg (by omega)], by omega, by omega⟩) (Nat.le_refl _))) p1 fun v3 H3 d3 k3 n3 hd3 hv3 => ?_
    obtain ⟨ws, rfl, hw⟩ := hd3
    have lv3 := k3.lv p2 n3.ne
    refine sw_1 (ps_if (pt_not (pt_val pe_w (by intro _; rfl))) pss_w pss_w) ?_
    refine ew_of (pe_clG hgd Rt hr (Nat.le_refl _) rfl (pa_cons pe_w pa_nil)) ((ep_drawn (i := 1) (M := [p]) Dw hr (by omega) hpM lv3 rfl hw fun H k _ => ed_v 3 rfl (hv3.mono (k.hM hpM))).at n3 fun v4 H4 d4 k4 n4 hd4 hv4 => ?_)
    obtain ⟨S, rfl, h1, h2, h3⟩ := hd4
    refine ⟨[p], [S.dL], .bool true, k4.lv lv3 n4.ne, .one hv4, ⟨S, rfl, h1, h2, h3, rfl⟩, fun v5 H5 g5 hv5 => ?_⟩
    refine ⟨true, hv5.bl_inv, ?_⟩
    exact sw_nil (sw_nil ⟨⟨_, _, rfl⟩, n4.same g5, (k4.lv lv3 n4.ne).same g5⟩)
  · obtain ⟨⟨o2, o3, rfl⟩, p1, p2⟩ := P
    refine sw_ret (M := [p]) (d := .bool true) (ed_cast (ed_eqD (M := [p]) hun (da := .list [.bool true, .bool true, .bool true]) (db := .list [.bool true, .bool true, .bool true]) (by decide +kernel) (by decide +kernel) (ed_lc (own := [("_law_plan_here", 4)]) (ls := [Shp.opn, Shp.sht, Shp.lnk "a"]) (enc := Shp.dL) (f := fun _ => .bool true) (fs := fun S => [S.dL]) rfl nd p2 (src_list (ed_lst p2 (ad_cons (ed_tup p2 (ad_cons ed_str ad_nil) (by show 1 ≤ sizeLine; decide)) (ad_cons (ed_tup p2 (ad_cons ed_str ad_nil) (by show 1 ≤ sizeLine; decide)) (ad_cons (ed_tup p2 (ad_cons ed_str (ad_cons ed_str ad_nil)) (by show 2 ≤ sizeLine; decide)) ad_nil))) (by show 3 ≤ sizeLine; decide))) (blkOk_by (N := n_law) (sc := defScope s_law) (by decide +kernel)) (fun _ _ _ _ _ => pg1 4 nd) tg_name (by show 3 ≤ sizeLine; decide) (by decide) (fun _ _ => rfl) (fun S hS vs D H3 s0 h0 C1 cl fp g lv' hx => ?_)) (ed_rep3 p2)) (congrArg PyData.bool (by decide +kernel))) fun v H5 g5 hv => by rw [hv.bl_inv]; exact q H5
    obtain ⟨u, rfl, hu⟩ := hx.inv1
    refine ed_clG Rt hr (Nat.le_refl _) lv' (ad_cons (ed_v 4 rfl hu) ad_nil) ⟨S, rfl, ?_⟩ hgd
    simp only [List.mem_cons, List.not_mem_nil, or_false] at hS
    rcases hS with rfl | rfl | rfl
    · exact ⟨by simp [PV], Nat.zero_le _, Nat.zero_le _, rfl⟩
    · exact ⟨by simp [PV], Nat.zero_le _, Nat.zero_le _, rfl⟩
    · exact ⟨by rw [PV]; exact gn_a, by decide, Nat.zero_le _, rfl⟩
end
end S6

/-! W36: facts of the heap behind the top, by names. -/
namespace S6
open PySem PySem.Spec PyProof.Rows L2
def dF (x : Str) (st : Stmt) : He5.DefA := ⟨fun K => He.ga K x, x, x, defArgs st, defBody st, defScope st, [], []⟩
def dM (m q : Str) (st : Stmt) : He5.DefA := ⟨fun K => He.ma K (He.ga K "Web") m, m, q, defArgs st, defBody st, defScope st, [], []⟩
def dW (T : String) (m q : Str) (st : Stmt) : He5.DefA := ⟨fun K => He5.wf K (He.ga K "Web") T m, m, q, defArgs st, defBody st, defScope st, [], []⟩
def fnl0 : List He5.DefA := [dF "far_end" s_far_end, dF "ordered" s_ordered, dF "net_shape" s_net_shape, dF "joined_shape" s_joined_shape, dF "joints_of" s_joints_of, dF "renamed_joints" s_renamed_joints, dF "laid_between" s_laid_between, dF "laid" s_laid, dF "places_in" s_places_in, dF "is_whole" s_is_whole, dF "is_joint" s_is_joint, dF "is_name" s_is_name, dF "is_link" s_is_link, dF "names_once" s_names_once, dF "need_few" s_need_few, dF "shape_text" s_shape_text, dF "reached" s_reached, dF "walks_from" s_walks_from]
def fnl1 : List He5.DefA := [dF "walks" s_walks, dF "on_walks" s_on_walks, dF "count_of" s_count_of, dF "in_order" s_in_order, dF "next_joints" s_next_joints, dF "leaving" s_leaving, dF "is_least" s_is_least, dF "sides_of" s_sides_of, dF "shape_of" s_shape_of, dF "joined_web" s_joined_web, dF "walks_of" s_walks_of, dF "way_counts" s_way_counts, dF "cut_counts" s_cut_counts, dF "ways" s_ways, dF "cuts" s_cuts, dF "_law_pen" s_law_pen, dF "_law_draw" s_law_draw, dF "_law_pick" s_law_pick]
def fnl2 : List He5.DefA := [dF "_law_words" s_law_words, dF "_law_net" s_law_net, dF "_law_plan" s_law_plan, dF "_law_size" s_law_size, dF "_law_joined" s_law_joined, dF "_law_in_rows" s_law_in_rows, dF "_law_netted" s_law_netted, dF "_law_made" s_law_made, dF "_law_shown" s_law_shown, dF "_law_web" s_law_web, dF "_law_between" s_law_between, dF "_law_links" s_law_links, dF "_law_wide_net" s_law_wide_net, dF "_law_drawn" s_law_drawn, dF "_law_right" s_law_right, dF "law" s_law, dM "__init__" "Web.__init__" s_W_init, dM "net_of" "Web.net_of" s_W_net_of]
def fnl3 : List He5.DefA := [dM "__str__" "Web.__str__" s_W_str, dM "__len__" "Web.__len__" s_W_len, dM "__abs__" "Web.__abs__" s_W_abs, dM "__eq__" "Web.__eq__" s_W_eq, dM "__and__" "Web.__and__" s_W_and, dM "__or__" "Web.__or__" s_W_or, dW "staticmethod" "link" "Web.link" s_W_link, dW "staticmethod" "net" "Web.net" s_W_net, dW "staticmethod" "always" "Web.always" s_W_always, dW "staticmethod" "never" "Web.never" s_W_never, dW "property" "kind" "Web.kind" s_W_kind, dW "property" "links" "Web.links" s_W_links, dW "property" "joints" "Web.joints" s_W_joints, dW "property" "names" "Web.names" s_W_names]
def fnl : List He5.DefA := fnl0 ++ (fnl1 ++ (fnl2 ++ (fnl3)))
def fal0 : List He.Fa := [He.Fa.free "len", He.Fa.free "sorted", He.Fa.free "set", He.Fa.free "tuple", He.Fa.free "list", He.Fa.free "dict", He.Fa.free "zip", He.Fa.free "range", He.Fa.free "enumerate", He.Fa.free "int", He.Fa.free "bool", He.Fa.free "str", He.Fa.free "abs", He.Fa.free "all", He.Fa.free "sum", He.Fa.free "repr", He.Fa.free "isinstance", He.Fa.int "LEFT" 0]
def fal1 : List He.Fa := [He.Fa.int "RIGHT" 1, He.Fa.int "FIRST_INNER" 2, He.Fa.int "MOST_LETTERS" 8, He.Fa.int "LAST_JOINT" 99, He.Fa.int "MOST_PLACES_webs" 14, He.Fa.str "LETTERS" abc, He.Fa.glo "OPEN", He.Fa.glo "SHUT", He.Fa.glo "BARRED", He.Fa.glo "Web", He.Fa.cls "Web", He.Fa.noat "Web" "shape", He.Fa.mkr "Web", He.Fa.meth "Web" "net_of", He.Fa.glo "far_end", He.Fa.glo "ordered", He.Fa.glo "net_shape", He.Fa.glo "joined_shape"]
def fal2 : List He.Fa := [He.Fa.glo "joints_of", He.Fa.glo "renamed_joints", He.Fa.glo "laid_between", He.Fa.glo "laid", He.Fa.glo "places_in", He.Fa.glo "is_whole", He.Fa.glo "is_joint", He.Fa.glo "is_name", He.Fa.glo "is_link", He.Fa.glo "names_once", He.Fa.glo "need_few", He.Fa.glo "shape_text", He.Fa.glo "reached", He.Fa.glo "walks_from", He.Fa.glo "walks", He.Fa.glo "on_walks", He.Fa.glo "count_of", He.Fa.glo "in_order"]
def fal3 : List He.Fa := [He.Fa.glo "next_joints", He.Fa.glo "leaving", He.Fa.glo "is_least", He.Fa.glo "sides_of", He.Fa.glo "shape_of", He.Fa.glo "joined_web", He.Fa.glo "walks_of", He.Fa.glo "way_counts", He.Fa.glo "cut_counts", He.Fa.glo "ways", He.Fa.glo "cuts", He.Fa.glo "_law_pen", He.Fa.glo "_law_draw", He.Fa.glo "_law_pick", He.Fa.glo "_law_words", He.Fa.glo "_law_net", He.Fa.glo "_law_plan", He.Fa.glo "_law_size"]
def fal4 : List He.Fa := [He.Fa.glo "_law_joined", He.Fa.glo "_law_in_rows", He.Fa.glo "_law_netted", He.Fa.glo "_law_made", He.Fa.glo "_law_shown", He.Fa.glo "_law_web", He.Fa.glo "_law_between", He.Fa.glo "_law_links", He.Fa.glo "_law_wide_net", He.Fa.glo "_law_drawn", He.Fa.glo "_law_right", He.Fa.glo "law"]
def fal : List He.Fa := fal0 ++ (fal1 ++ (fal2 ++ (fal3 ++ (fal4))))
def gnames0 : List Str := ["OPEN", "SHUT", "BARRED", "far_end", "ordered", "net_shape", "joined_shape", "joints_of", "renamed_joints", "laid_between", "laid", "places_in", "is_whole", "is_joint", "is_name", "is_link", "names_once", "need_few"]
def gnames1 : List Str := ["shape_text", "reached", "walks_from", "walks", "on_walks", "count_of", "in_order", "next_joints", "leaving", "is_least", "sides_of", "shape_of", "joined_web", "walks_of", "way_counts", "cut_counts", "ways", "cuts"]
def gnames2 : List Str := ["_law_pen", "_law_draw", "_law_pick", "_law_words", "_law_net", "_law_plan", "_law_size", "_law_joined", "_law_in_rows", "_law_netted", "_law_made", "_law_shown", "_law_web", "_law_between", "_law_links", "_law_wide_net", "_law_drawn", "_law_right"]
def gnames3 : List Str := ["law"]
def gnames : List Str := gnames0 ++ (gnames1 ++ (gnames2 ++ (gnames3)))
def mnames0 : List Str := ["__init__", "net_of", "__str__", "__len__", "__abs__", "__eq__", "__and__", "__or__", "link", "net", "always", "never", "kind", "links", "joints", "names"]
def mnames : List Str := mnames0
/-- a property, a static method, a special method -/
def propB (K : Frg) (C : Addr) (f : Str) : Bool := He.eqO (PySem.W.findIn K (.ref C) f) (some (some (.ref (He.ma K C f)))) && (He.eqO (PySem.W.specialIn K (.ref (He.ma K C f)) "__get__") (some (some (.builtin "property.__get__"))) && (decide (PySem.W.takesIn K (.ref (He.ma K C f)) = some true) && (match PySem.W.recIn K (He.ma K C f) "property" with
  | some (.ref _ :: _) => true
  | _ => false)))
theorem propB_ok {K : Frg} {C : Addr} {f : Str} (h : propB K C f = true) : PropOf K C f (He.ma K C f) (He5.wf K C "property" f) := by
  obtain ⟨h1, h⟩ := He.ba h
  obtain ⟨h2, h⟩ := He.ba h
  obtain ⟨h3, h4⟩ := He.ba h
  refine ⟨He.eqO_ok h1, He.eqO_ok h2, of_decide_eq_true h3, ?_⟩
  unfold He5.wf
  split at h4
  · rename_i g r e
    exact ⟨r, by rw [e]⟩
  · cases h4
def smB (K : Frg) (C : Addr) (m : Str) : Bool := He5.wrapB K C "staticmethod" "staticmethod.__get__" m && PySem.W.keepIn K (.ref (He5.wf K C "staticmethod" m))
theorem smB_ok {K : Frg} {C : Addr} {m : Str} (h : smB K C m = true) : SMet K C (.type "type") m (He.ma K C m) (He5.wf K C "staticmethod" m) := by
  obtain ⟨h1, h2⟩ := He.ba h
  obtain ⟨h3, h4⟩ := He5.wrapB_ok h1
  exact ⟨h3, h4, h2⟩
def spcB (K : Frg) (C : Addr) (m : Str) : Bool := He.eqO (PySem.W.findIn K (.ref C) m) (some (some (.ref (He.ma K C m)))) && PySem.W.isFn K (.ref (He.ma K C m))
theorem spcB_ok {K : Frg} {C : Addr} {m : Str} (h : spcB K C m = true) : Spc K C m (He.ma K C m) := by
  obtain ⟨h1, h2⟩ := He.ba h
  exact ⟨He.eqO_ok h1, h2⟩
def webB (K : Frg) (C : Addr) : Bool := He.eqO (PySem.W.findIn K (.ref C) "__class__") (some (some (.builtin "object.__class__"))) && (He.eqO (PySem.W.specialIn K (.builtin "object.__class__") "__get__") (some (some (.builtin "getset_descriptor.__get__"))) && (decide (PySem.W.takesIn K (.builtin "object.__class__") = some true) && (decide (PySem.W.mroIn K C (.type "object") = some true) && (decide (PySem.W.kitOne K (.ref C) (.ref C) = some true) && (PySem.W.readsIn K C (.type "type") && (He.eqO (PySem.W.specialIn K (.ref C) "__getattribute__") (some (some (.builtin "type.__getattribute__"))) && PySem.W.selfFirst K C))))))
theorem webB_ok {K : Frg} {C : Addr} (c : Cls K C) (h : webB K C = true) : C8.InsC K C ∧ ClX.CRead K C (.type "type") ∧ PySem.W.selfFirst K C = true := by
  obtain ⟨h1, h⟩ := He.ba h
  obtain ⟨h2, h⟩ := He.ba h
  obtain ⟨h3, h⟩ := He.ba h
  obtain ⟨h4, h⟩ := He.ba h
  obtain ⟨h5, h⟩ := He.ba h
  obtain ⟨h6, h⟩ := He.ba h
  obtain ⟨h7, h8⟩ := He.ba h
  exact ⟨⟨c, He.eqO_ok h1, He.eqO_ok h2, of_decide_eq_true h3, of_decide_eq_true h4, of_decide_eq_true h5⟩, ⟨h6, He.eqO_ok h7⟩, h8⟩
def props : List Str := ["kind", "links", "joints", "names"]
def stats : List Str := ["link", "net", "always", "never"]
def spcs : List Str := ["__str__", "__len__", "__abs__", "__eq__", "__and__", "__or__"]
def exB (K : Frg) : Bool := webB K (He.ga K "Web") && (props.all (propB K (He.ga K "Web")) && (stats.all (smB K (He.ga K "Web")) && (spcs.all (spcB K (He.ga K "Web")) && (He.tupB K "OPEN" [.str "open"] && (He.tupB K "SHUT" [.str "shut"] && He.tupB K "BARRED" [.str "open", .str "shut", .str "net"])))))
/-! ### the Hook -/
def codeR (g : Addr → Option Obj) (a : Addr) : List Addr := match g a with
  | some ⟨_, _, .func fd, _⟩ => He.refV fd.code
  | _ => []
def innR (g : Addr → Option Obj) (a : Addr) : List Addr := match g a with
  | some ⟨_, _, .fields vs, _⟩ => vs.toList.flatMap He.refV
  | _ => []
def nsR (g : Addr → Option Obj) (a : Addr) : Addr := match g a with
  | some ⟨_, _, .cls cd, _⟩ => cd.ns
  | _ => 0
/-- a list, evaluated -/
def frL {α : Type} : List Addr → (List Addr → α) → α
  | [], k => k []
  | a :: r, k => HandSHeadRun.frNat a fun a => frL r fun r => k (a :: r)
theorem frL_eq {α : Type} : ∀ (l : List Addr) (k : List Addr → α), frL l k = k l
  | [], k => rfl
  | a :: r, k => by
    show HandSHeadRun.frNat a (fun a => frL r fun r => k (a :: r)) = _
    rw [HandSHeadRun.frNat_eq, frL_eq r]
/-- the objects that the facts look at: the module's names, the class, its methods, their defs, all code objects -/
def inS {α : Type} (g : Addr → Option Obj) (k : List Addr → α) : α :=
  frL (gnames.map (He.ga (He.frG g [mainGlobals]))) fun a1 =>
  HandSHeadRun.frNat (He.ga (He.frG g [mainGlobals]) "Web") fun C =>
  HandSHeadRun.frNat (nsR g C) fun n =>
  frL (mnames.map (He.ma (He.frG g [C, n]) C)) fun a3 =>
  frL (a3.flatMap (innR g)) fun a4 =>
  frL ((a1 ++ (a3 ++ a4)).flatMap (codeR g)) fun a5 =>
  k (mainGlobals :: cStatics :: C :: n :: (a3 ++ (a4 ++ (a1 ++ a5))))
theorem inS_eq {α : Type} (g : Addr → Option Obj) : ∃ as : List Addr, ∀ k : List Addr → α, inS g k = k as := by
  unfold inS
  simp only [frL_eq, HandSHeadRun.frNat_eq]
  exact ⟨_, fun k => rfl⟩
def obsZ (K : Frg) : He.AlD × Bool := (He5.obsA fal fnl K, exB K)
def obsZG (g : Addr → Option Obj) : He.AlD × Bool := inS g fun as => obsZ (He.frG g as)
def hookZ : PySem.W.Hook where
  α := He.AlD × Bool
  obs := fun s => obsZG s.heap.get?
  val := fun _ => (He5.valA fnl, true)
  says := fun _ h => ∃ K : Frg, K.In h ∧ He5.SaysA fal fnl K ∧ exB K = true
  of := fun _ s e => by
    obtain ⟨as, ha⟩ := inS_eq (α := He.AlD × Bool) s.heap.get?
    have e2 : obsZ (He.frG s.heap.get? as) = (He5.valA fnl, true) := (ha fun as => obsZ (He.frG s.heap.get? as)).symm.trans e
    exact ⟨_, He.frG_in, congrArg (fun z : He.AlD × Bool => z.1) e2, congrArg (fun z : He.AlD × Bool => z.2) e2⟩
  keeps := fun _ _ _ ⟨K, hK, c⟩ k => ⟨K, PySem.W.Frag.In.keeps hK k, c⟩
theorem obsZG_eq {g : Addr → Option Obj} {s : Shared} (h : ∀ a, g a = s.heap.get? a) : obsZG g = hookZ.obs s := by
  have e : g = s.heap.get? := funext h
  rw [e] <;> rfl
end S6

/-! W37: the chain of all defs. -/
namespace S6
open PySem PySem.Spec PyProof.Rows L2
section
variable {P : Program} {w : World} {K : Frg} {mg : Str → Option Value} {base h : Heap} {aO aS aB C fI f : Addr} {mc : Value}
theorem fact (c : He5.SaysA fal fnl K) (i : Nat) {f : He.Fa} (hf : fal[i]? = some f) : f.ok K = true := He5.SaysA.fact c i hf
theorem dfn_of (X : K.In h) (G : h.Ns mainGlobals mg) (c : He5.SaysA fal fnl K) {x : Str} {st : Stmt} (i j : Nat) (hd : fnl[i]? = some (dF x st)) (hf : fal[j]? = some (.glo x)) : Dfn K mg x st := by
  obtain ⟨fd, F⟩ := He5.SaysA.def_ c i hd
  exact ⟨_, fd, He5.fun_of F, He.glo_ok X G (fact c j hf)⟩
theorem mfn_of (c : He5.SaysA fal fnl K) {m q : Str} {st : Stmt} (i : Nat) (hd : fnl[i]? = some (dM m q st)) : Mfn K m q st (He.ma K (He.ga K "Web") m) := by
  obtain ⟨fd, F⟩ := He5.SaysA.def_ c i hd
  exact ⟨fd, He5.fun_of F⟩
theorem wfn_of (c : He5.SaysA fal fnl K) {T : String} {m q : Str} {st : Stmt} (i : Nat) (hd : fnl[i]? = some (dW T m q st)) : Mfn K m q st (He5.wf K (He.ga K "Web") T m) := by
  obtain ⟨fd, F⟩ := He5.SaysA.def_ c i hd
  exact ⟨fd, He5.fun_of F⟩
theorem gv_int (X : K.In h) (G : h.Ns mainGlobals mg) {x : Str} {i : Int} (c : (He.Fa.int x i).ok K = true) : GV mg x (.int i) := by
  obtain ⟨t, e⟩ := He.int_ok X G c
  exact ⟨_, e, t, rfl⟩
theorem gv_str (X : K.In h) (G : h.Ns mainGlobals mg) {x z : Str} (c : (He.Fa.str x z).ok K = true) : GV mg x (.str z) := by
  obtain ⟨t, e⟩ := He.str_ok X G c
  exact ⟨_, e, t, rfl⟩
theorem gv_glo (X : K.In h) (G : h.Ns mainGlobals mg) {x : Str} (c : (He.Fa.glo x).ok K = true) : GV mg x (.ref (He.ga K x)) := ⟨_, He.glo_ok X G c, rfl⟩
/-! recursive defs, level by level -/
theorem lb_all (G : Glo K mg aO aS aB) (D : Dfn K mg "laid_between" s_laid_between) (J : Cl P w K mg base 1 "joints_of" (spR K R_jo)) (Rn : Cl P w K mg base 2 "renamed_joints" (spR K R_ren)) : ∀ n, Cl P w K mg base (n + 2) "laid_between" (spR K (R_lb n))
  | 0 => cl_none (ps := ["shape", "left", "right", "fresh"]) D (fun _ _ _ _ _ _ us hl => match us, hl with | [_, _, _, _], _ => rfl) fun ds d h => by obtain ⟨S, l, r, f, _, _, _, h, _⟩ := h; omega
  | n + 1 => c_laid_between G D J Rn (lb_all G D J Rn n)
theorem st_all (G : Glo K mg aO aS aB) (D : Dfn K mg "shape_text" s_shape_text) : ∀ n, Cl P w K mg base n "shape_text" (spR K (R_st n))
  | 0 => cl_none (ps := ["shape"]) D (fun _ _ _ _ _ _ us hl => match us, hl with | [_], _ => rfl) fun ds d h => by obtain ⟨S, _, _, _, _, h, _⟩ := h; omega
  | n + 1 => c_shape_text G D (st_all G D n)
theorem wf_all (G : Glo K mg aO aS aB) (D : Dfn K mg "walks_from" s_walks_from) (Fa : Cl P w K mg base 1 "far_end" (spR K R_far)) : ∀ n, Cl P w K mg base (n + 1) "walks_from" (spR K (R_wf n))
  | 0 => cl_none (ps := ["links", "joint", "passed"]) D (fun _ _ _ _ _ _ us hl => match us, hl with | [_, _, _], _ => rfl) fun ds d h => by obtain ⟨ls, j, p, _, _, h, _⟩ := h; omega
  | n + 1 => c_walks_from G D Fa (wf_all G D Fa n)
theorem sz_all (G : Glo K mg aO aS aB) (D : Dfn K mg "_law_size" s_law_size) : ∀ n, Cl P w K mg base n "_law_size" (spR K (R_sz n))
  | 0 => cl_none (ps := ["_law_plan_here"]) D (fun _ _ _ _ _ _ us hl => match us, hl with | [_], _ => rfl) fun ds d h => by obtain ⟨p, _, _, h, _⟩ := h; omega
  | n + 1 => c_size G D (sz_all G D n)
theorem md_all (G : Glo K mg aO aS aB) (D : Dfn K mg "_law_made" s_law_made) (Jn : Cl P w K mg base 1 "_law_joined" (spR K R_jl)) (Nt : Cl P w K mg base 2 "_law_netted" (spR K R_nn)) : ∀ n, Cl P w K mg base (n + 2) "_law_made" (spR K (R_md n))
  | 0 => cl_none (ps := ["_law_plan_here"]) D (fun _ _ _ _ _ _ us hl => match us, hl with | [_], _ => rfl) fun ds d h => by obtain ⟨p, _, _, _, _, h, _⟩ := h; omega
  | n + 1 => c_made G D Jn Nt (md_all G D Jn Nt n)
theorem sn_all (G : Glo K mg aO aS aB) (D : Dfn K mg "_law_shown" s_law_shown) : ∀ n, Cl P w K mg base n "_law_shown" (spR K (R_sn n))
  | 0 => cl_none (ps := ["_law_plan_here"]) D (fun _ _ _ _ _ _ us hl => match us, hl with | [_], _ => rfl) fun ds d h => by obtain ⟨S, _, _, _, _, h, _⟩ := h; omega
  | n + 1 => c_shown G D (sn_all G D n)
theorem wb_all (G : Glo K mg aO aS aB) (W : WebM P w K mg base C fI mc) (D : Dfn K mg "_law_web" s_law_web) : ∀ n, Cl P w K mg base (n + 12) "_law_web" (spR K (R_wb C n))
  | 0 => cl_none (ps := ["_law_plan_here"]) D (fun _ _ _ _ _ _ us hl => match us, hl with | [_], _ => rfl) fun ds d h => by obtain ⟨p, _, _, _, _, h, _⟩ := h; omega
  | n + 1 => c_web G W D (wb_all G W D n)
theorem bt_all (G : Glo K mg aO aS aB) (D : Dfn K mg "_law_between" s_law_between) : ∀ n, Cl P w K mg base n "_law_between" (spB K n)
  | 0 => cl_noneS (ps := ["_law_plan_here", "_law_left", "_law_right_here", "_law_fresh"]) D (fun _ _ _ _ _ _ us hl => match us, hl with | [_, _, _, _], _ => rfl) fun vs H Q E h => by obtain ⟨p, M, v0, S, l, r, f, _, _, _, _, _, _, _, h, _⟩ := h; omega
  | n + 1 => c_between G D (bt_all G D n)
theorem pl_all (G : Glo K mg aO aS aB) (D : Dfn K mg "_law_plan" s_law_plan) (Dr : Cl P w K mg base 1 "_law_draw" spD) (Pk : Cl P w K mg base 2 "_law_pick" (spPk K)) (Nt : Cl P w K mg base 3 "_law_net" (spNt K)) (Sz : Cl P w K mg base 5 "_law_size" (spR K (R_sz 5))) : ∀ n, n ≤ 5 → Cl P w K mg base (n + 5) "_law_plan" (spPl K n)
  | 0, _ => cl_noneS (ps := ["_law_pen_here", "_law_names", "_law_room", "_law_deep"]) D (fun _ _ _ _ _ _ us hl => match us, hl with | [_, _, _, _], _ => rfl) fun vs H Q E h => by obtain ⟨p, cc, M, b, v, ws, room, deep, _, _, _, _, _, _, _, _, h, _⟩ := h; omega
  | n + 1, hn => c_plan (by omega) G D Dr Pk Nt Sz (pl_all G D Dr Pk Nt Sz n (by omega))
theorem glo_all (X : K.In h) (Gn : h.Ns mainGlobals mg) (c : He5.SaysA fal fnl K) (e : exB K = true) : Glo K mg (He.ga K "OPEN") (He.ga K "SHUT") (He.ga K "BARRED") := by
  obtain ⟨_, e⟩ := He.ba e
  obtain ⟨_, e⟩ := He.ba e
  obtain ⟨_, e⟩ := He.ba e
  obtain ⟨_, e⟩ := He.ba e
  obtain ⟨e1, e⟩ := He.ba e
  obtain ⟨e2, e3⟩ := He.ba e
  exact { len := He.free_ok X Gn (fact c 0 rfl), sorted := He.free_ok X Gn (fact c 1 rfl), set := He.free_ok X Gn (fact c 2 rfl), tuple := He.free_ok X Gn (fact c 3 rfl), list := He.free_ok X Gn (fact c 4 rfl), dict := He.free_ok X Gn (fact c 5 rfl), zip := He.free_ok X Gn (fact c 6 rfl), range := He.free_ok X Gn (fact c 7 rfl), enumerate := He.free_ok X Gn (fact c 8 rfl), int := He.free_ok X Gn (fact c 9 rfl), bool := He.free_ok X Gn (fact c 10 rfl), str := He.free_ok X Gn (fact c 11 rfl), abs := He.free_ok X Gn (fact c 12 rfl), all := He.free_ok X Gn (fact c 13 rfl), sum := He.free_ok X Gn (fact c 14 rfl), repr := He.free_ok X Gn (fact c 15 rfl), isinstance := He.free_ok X Gn (fact c 16 rfl), LEFT := gv_int X Gn (fact c 17 rfl), RIGHT := gv_int X Gn (fact c 18 rfl), FIRST_INNER := gv_int X Gn (fact c 19 rfl), MOST_LETTERS := gv_int X Gn (fact c 20 rfl), LAST_JOINT := gv_int X Gn (fact c 21 rfl), MOST_PLACES_webs := gv_int X Gn (fact c 22 rfl), LETTERS := gv_str X Gn (fact c 23 rfl), OPEN := gv_glo X Gn (fact c 24 rfl), SHUT := gv_glo X Gn (fact c 25 rfl), BARRED := gv_glo X Gn (fact c 26 rfl), tO := fun H => He.tupB_ok e1 H, tS := fun H => He.tupB_ok e2 H, tB := fun H => He.tupB_ok e3 H }
theorem webc_all (X : K.In h) (Gn : h.Ns mainGlobals mg) (c : He5.SaysA fal fnl K) (e : exB K = true) : WebC K mg (He.ga K "Web") (He.ma K (He.ga K "Web") "__init__") (.type "type") := by
  obtain ⟨e1, _⟩ := He.ba e
  have cl := He.cls_ok (fact c 28 rfl)
  obtain ⟨a1, a2, a3⟩ := webB_ok cl e1
  exact ⟨cl, He.noat_ok (fact c 29 rfl), He.mkr_ok (fact c 30 rfl), He.glo_ok X Gn (fact c 27 rfl), a1, a2, a3⟩
theorem law_all (X : K.In h) (Gn : h.Ns mainGlobals mg) (c : He5.SaysA fal fnl K) (e : exB K = true) {fd : FuncData} (F : L2.Fun K "law" "law" s_law f fd) : FnG P w K mg base 19 f fd ["_law_script"] (spLw K) := by
  have G := glo_all X Gn c e
  have W := webc_all X Gn c e
  obtain ⟨_, e⟩ := He.ba e
  obtain ⟨ep, e⟩ := He.ba e
  obtain ⟨es, e⟩ := He.ba e
  obtain ⟨eo, _⟩ := He.ba e
  have prp : ∀ f ∈ props, PropOf K (He.ga K "Web") f (He.ma K (He.ga K "Web") f) (He5.wf K (He.ga K "Web") "property" f) := fun f hf => propB_ok (List.all_eq_true.mp ep f hf)
  have smt : ∀ f ∈ stats, SMet K (He.ga K "Web") (.type "type") f (He.ma K (He.ga K "Web") f) (He5.wf K (He.ga K "Web") "staticmethod" f) := fun f hf => smB_ok (List.all_eq_true.mp es f hf)
  have spc : ∀ f ∈ spcs, Spc K (He.ga K "Web") f (He.ma K (He.ga K "Web") f) := fun f hf => spcB_ok (List.all_eq_true.mp eo f hf)
  have net0 := He.meth_ok (fact c 31 rfl)
  have Fa : Cl P w K mg base 1 "far_end" (spR K R_far) := c_far_end (dfn_of X Gn c 0 32 rfl rfl)
  have Od : Cl P w K mg base 1 "ordered" (spR K R_ord) := c_ordered G (dfn_of X Gn c 1 33 rfl rfl)
  have Nt : Cl P w K mg base 2 "net_shape" (spR K R_net) := c_net_shape G (dfn_of X Gn c 2 34 rfl rfl) Od
  have Js : Cl P w K mg base 1 "joined_shape" (spR K R_js) := c_joined_shape G (dfn_of X Gn c 3 35 rfl rfl)
  have Jo : Cl P w K mg base 1 "joints_of" (spR K R_jo) := c_joints_of G (dfn_of X Gn c 4 36 rfl rfl)
  have Rn : Cl P w K mg base 2 "renamed_joints" (spR K R_ren) := c_renamed_joints G (dfn_of X Gn c 5 37 rfl rfl) Jo
  have LB : Cl P w K mg base 8 "laid_between" (spR K (R_lb 6)) := lb_all G (dfn_of X Gn c 6 38 rfl rfl) Jo Rn 6
  have Ld : Cl P w K mg base 9 "laid" (spR K R_laid) := c_laid G (dfn_of X Gn c 7 39 rfl rfl) Od LB
  have Pl : Cl P w K mg base 10 "places_in" (spR K R_pl) := c_places_in G (dfn_of X Gn c 8 40 rfl rfl) Ld
  have Wh : Cl P w K mg base 1 "is_whole" (spR K R_wh) := c_is_whole G (dfn_of X Gn c 9 41 rfl rfl)
  have Ij : Cl P w K mg base 2 "is_joint" (spR K R_ij) := c_is_joint G (dfn_of X Gn c 10 42 rfl rfl) Wh
  have Nm : Cl P w K mg base 1 "is_name" (spR K R_in) := c_is_name G (dfn_of X Gn c 11 43 rfl rfl)
  have Il : Cl P w K mg base 3 "is_link" (spR K R_il) := c_is_link G (dfn_of X Gn c 12 44 rfl rfl) Nm Ij
  have No : Cl P w K mg base 1 "names_once" (spR K R_no) := c_names_once G (dfn_of X Gn c 13 45 rfl rfl)
  have Nf : Cl P w K mg base 1 "need_few" (spR K R_nf) := c_need_few G (dfn_of X Gn c 14 46 rfl rfl)
  have St : Cl P w K mg base 6 "shape_text" (spR K (R_st 6)) := st_all G (dfn_of X Gn c 15 47 rfl rfl) 6
  have Re : Cl P w K mg base 2 "reached" (spR K R_rch) := c_reached G (dfn_of X Gn c 16 48 rfl rfl) Fa
  have Wf : Cl P w K mg base 9 "walks_from" (spR K (R_wf 8)) := wf_all G (dfn_of X Gn c 17 49 rfl rfl) Fa 8
  have Wk : Cl P w K mg base 10 "walks" (spR K R_wk) := c_walks G (dfn_of X Gn c 18 50 rfl rfl) Wf
  have Ow : Cl P w K mg base 11 "on_walks" (spR K R_ow) := c_on_walks G (dfn_of X Gn c 19 51 rfl rfl) Wk
  have Co : Cl P w K mg base 1 "count_of" (spR K R_co) := c_count_of G (dfn_of X Gn c 20 52 rfl rfl)
  have Io : Cl P w K mg base 1 "in_order" (spR K R_io) := c_in_order G (dfn_of X Gn c 21 53 rfl rfl)
  have Nj : Cl P w K mg base 2 "next_joints" (spR K R_nj) := c_next_joints G (dfn_of X Gn c 22 54 rfl rfl) Fa
  have Lv : Cl P w K mg base 1 "leaving" (spR K R_lv) := c_leaving G (dfn_of X Gn c 23 55 rfl rfl)
  have Ls : Cl P w K mg base 3 "is_least" (spR K R_ls) := c_is_least G (dfn_of X Gn c 24 56 rfl rfl) Re
  have So : Cl P w K mg base 3 "sides_of" (spR K R_so) := c_sides_of G (dfn_of X Gn c 25 57 rfl rfl) Nj
  have In := c_W_init (P := P) (w := w) (base := base) W (mfn_of c 52 rfl)
  have Sf := c_shape_of (P := P) (w := w) (base := base) G W (dfn_of X Gn c 26 58 rfl rfl)
  have Jw := c_joined_web G W (dfn_of X Gn c 27 59 rfl rfl) In Sf Js Pl Nf
  have mLink := c_W_link G W (wfn_of c 60 rfl) In Nm
  have mNet := c_W_net G W (wfn_of c 61 rfl) In Nf Il Nt
  have mAlways := c_W_always G W (wfn_of c 62 rfl) In
  have mNever := c_W_never G W (wfn_of c 63 rfl) In
  have mKind := c_W_kind (P := P) (w := w) (base := base) G W (wfn_of c 64 rfl)
  have mLinks := c_W_links G W (wfn_of c 65 rfl) Ld
  have mJoints := c_W_joints G W (wfn_of c 66 rfl) Ld Jo
  have mNames := c_W_names G W (wfn_of c 67 rfl) Pl No
  have mNetOf := c_W_net_of G W (mfn_of c 53 rfl) In Ld Nt
  have mStr := c_W_str G W (mfn_of c 54 rfl) St
  have mLen := c_W_len G W (mfn_of c 55 rfl) Pl
  have mAbs := c_W_abs G W (mfn_of c 56 rfl) Pl No
  have mEq := c_W_eq (P := P) (w := w) (base := base) G W (mfn_of c 57 rfl)
  have mAnd := c_W_and G W (mfn_of c 58 rfl) Jw
  have mOr := c_W_or G W (mfn_of c 59 rfl) Jw
  have WM : WebM P w K mg base (He.ga K "Web") (He.ma K (He.ga K "Web") "__init__") (.type "type") := { c := W, link := ⟨_, _, smt "link" (by simp [stats]), mLink⟩, net := ⟨_, _, smt "net" (by simp [stats]), mNet⟩, always := ⟨_, _, smt "always" (by simp [stats]), mAlways⟩, never := ⟨_, _, smt "never" (by simp [stats]), mNever⟩, kind := ⟨_, _, prp "kind" (by simp [props]), mKind⟩, links := ⟨_, _, prp "links" (by simp [props]), mLinks⟩, joints := ⟨_, _, prp "joints" (by simp [props]), mJoints⟩, names := ⟨_, _, prp "names" (by simp [props]), mNames⟩, net_of := ⟨_, net0, mNetOf⟩, str := ⟨_, spc "__str__" (by simp [spcs]), mStr⟩, len := ⟨_, spc "__len__" (by simp [spcs]), mLen⟩, abs := ⟨_, spc "__abs__" (by simp [spcs]), mAbs⟩, eq := ⟨_, spc "__eq__" (by simp [spcs]), mEq⟩, and := ⟨_, spc "__and__" (by simp [spcs]), mAnd⟩, or := ⟨_, spc "__or__" (by simp [spcs]), mOr⟩ }
  have kl : KL P w K mg base (He.ga K "Web") _ _ _ _ := ⟨prp "kind" (by simp [props]), mKind, prp "links" (by simp [props]), mLinks⟩
  have Wo := c_walks_of G W kl (dfn_of X Gn c 28 60 rfl rfl) Wk
  have Wc := c_way_counts G W kl (dfn_of X Gn c 29 61 rfl rfl) Wo Co Io
  have Cc := c_cut_counts G W kl (dfn_of X Gn c 30 62 rfl rfl) Ow Co Io Lv So Ls
  have Ws := g_ways (dfn_of X Gn c 31 63 rfl rfl) Wc
  have Cs := g_cuts (dfn_of X Gn c 32 64 rfl rfl) Cc
  have Ir : Cl P w K mg base 1 "_law_in_rows" (spR K R_ir) := c_in_rows G (dfn_of X Gn c 41 73 rfl rfl)
  have Nn : Cl P w K mg base 2 "_law_netted" (spR K R_nn) := c_netted G (dfn_of X Gn c 42 74 rfl rfl) Ir
  have Jn : Cl P w K mg base 1 "_law_joined" (spR K R_jl) := c_joined G (dfn_of X Gn c 40 72 rfl rfl)
  have Md : Cl P w K mg base 7 "_law_made" (spR K (R_md 5)) := md_all G (dfn_of X Gn c 43 75 rfl rfl) Jn Nn 5
  have Sh : Cl P w K mg base 6 "_law_shown" (spR K (R_sn 6)) := sn_all G (dfn_of X Gn c 44 76 rfl rfl) 6
  have Wb : Cl P w K mg base 17 "_law_web" (spR K (R_wb (He.ga K "Web") 5)) := wb_all G WM (dfn_of X Gn c 45 77 rfl rfl) 5
  have Bt : Cl P w K mg base 6 "_law_between" (spB K 6) := bt_all G (dfn_of X Gn c 46 78 rfl rfl) 6
  have Lk : Cl P w K mg base 7 "_law_links" (spR K R_ll) := c_links G (dfn_of X Gn c 47 79 rfl rfl) Bt Ir
  have Pn : Cl P w K mg base 1 "_law_pen" (spPn K) := c_pen G (dfn_of X Gn c 33 65 rfl rfl)
  have Dr : Cl P w K mg base 1 "_law_draw" spD := c_draw G (dfn_of X Gn c 34 66 rfl rfl)
  have Pk : Cl P w K mg base 2 "_law_pick" (spPk K) := c_pick G (dfn_of X Gn c 35 67 rfl rfl) Dr
  have Wd : Cl P w K mg base 3 "_law_words" (spWd K) := c_words G (dfn_of X Gn c 36 68 rfl rfl) Dr Pk
  have Ne : Cl P w K mg base 3 "_law_net" (spNt K) := c_net G (dfn_of X Gn c 37 69 rfl rfl) Pk
  have Sz : Cl P w K mg base 5 "_law_size" (spR K (R_sz 5)) := sz_all G (dfn_of X Gn c 39 71 rfl rfl) 5
  have Pp : Cl P w K mg base 10 "_law_plan" (spPl K 5) := pl_all G (dfn_of X Gn c 38 70 rfl rfl) Dr Pk Ne Sz 5 (Nat.le_refl _)
  have Wn : Cl P w K mg base 3 "_law_wide_net" (spWn K) := c_wide_net G (dfn_of X Gn c 48 80 rfl rfl) Dr Pk
  have Dw : Cl P w K mg base 11 "_law_drawn" (spDw K) := c_drawn G (dfn_of X Gn c 49 81 rfl rfl) Dr Pk Wn Pp
  have Rt := c_right G WM (dfn_of X Gn c 50 82 rfl rfl) Md Wb Lk Sh Ws Cs
  exact c_law G F Pn Dr Wd Dw Rt
end
end S6

set_option maxHeartbeats 0
/-! W38: the run of the top. -/
namespace S6
open PySem PySem.W PySem.Calls PyProof.Rows
abbrev R : OpenRow := OpenLaw.row PySem.Challenge.rw_sixasone_k10_whole_laid_links
abbrev qv : Program := view R.prog [110]
def nm0 : List PySem.Str := ["_wall", "WebError", "BadName", "BadWeb", "NoName", "NotTied", "TooMany", "BadText", "OPEN", "SHUT", "FIRST_INNER", "ordered", "net_shape", "joined_shape", "joints_of", "renamed_joints"]
def nm1 : List PySem.Str := ["laid_between", "laid", "places_in", "shape_text", "LETTERS", "BARRED", "MOST_LETTERS", "LAST_JOINT", "is_whole", "is_name", "is_joint", "is_link", "names_once", "DUALS", "made_sure", "net_filled"]
def nm2 : List PySem.Str := ["filled", "taken_out", "dual", "turned_about", "LEFT", "RIGHT", "far_end", "reached", "joined_by", "walks_from", "walks", "on_walks", "holds", "holds_ways", "count_of", "in_order"]
def nm3 : List PySem.Str := ["FIGURES", "MOST_PLACES_reading", "SIGNS", "Cursor", "cursor_of", "need_end", "read_letters", "read_name", "read_number", "read_joint", "read_link", "goes_on", "read_net", "read_sign", "read_joined", "read_part"]
def nm4 : List PySem.Str := ["read_shape", "MOST_PLACES_webs", "shape_of", "need_few", "joined_web", "need_name", "need_names", "is_below", "Web", "next_joints", "sides_of", "leaving", "is_least", "cut_counts", "cuts", "walks_of"]
def nm5 : List PySem.Str := ["way_counts", "ways", "_law_pen", "_law_draw", "_law_pick", "_law_words", "_law_net", "_law_plan", "_law_size", "_law_joined", "_law_in_rows", "_law_netted", "_law_made", "_law_shown", "_law_web", "_law_between"]
def nm6 : List PySem.Str := ["_law_links", "_law_wide_net", "_law_drawn", "_law_right"]
def names : List PySem.Str := nm0 ++ (nm1 ++ (nm2 ++ (nm3 ++ (nm4 ++ (nm5 ++ (nm6))))))
def obT (s : SharedT) : He.AlD × Bool := obsZG (HandSHeadRun.getT s)
theorem obT_eq (s : SharedT) : obT s = hookZ.obs s.abs := obsZG_eq (HandSHeadRun.getT_eq s)
theorem run_f (w : World) : HandSHeadRun.RunEq R qv hookZ obT 15000 names (w.withFollow "special-get-raises" false) := by
  intro os
  kernel_rfl
theorem run_t (w : World) : HandSHeadRun.RunEq R qv hookZ obT 15000 names (w.withFollow "special-get-raises" true) := by
  intro os
  kernel_rfl
theorem run (w : World) : HandSHeadRun.RunEq R qv hookZ obT 15000 names w := byRow2 "special-get-raises" run_f run_t w
end S6

set_option maxHeartbeats 4000000
/-! W39: the end. -/
namespace S6
open PySem PySem.Spec PyProof.Rows L2
theorem law_facts {P : Program} {w : World} {K : Frg} {h : Heap} {mg : Str → Option Value} {fa : Addr} (X : K.In h) (G : h.Ns mainGlobals mg) (hfa : mg ("law" : Str) = some (.ref fa)) (c : He5.SaysA fal fnl K) (e : exB K = true) :
    ∃ fd : FuncData, (∀ (s : Shared) (v : Value), BindsTo s fd ⟨[v], []⟩ [("_law_script", v)]) ∧ ∀ base : Heap, K.In base → base.Ns mainGlobals mg → FnG P w K mg base 19 fa fd ["_law_script"] (spLw K) := by
  obtain ⟨fd, F⟩ := He5.SaysA.def_ c 51 (d := dF "law" s_law) rfl
  have e1 := hfa.symm.trans (He.glo_ok X G (fact c 83 (f := .glo "law") rfl))
  cases e1
  have b := FunD.bindsA (ps := ["_law_script"]) F fun _ _ _ _ _ _ us hl => match us, hl with | [_], _ => rfl
  exact ⟨fd, fun s v => b s [v] rfl, fun base _ _ => law_all X G c e (He5.fun_of F)⟩
end S6
open PySem PySem.W PySem.Calls PyProof.Rows
set_option maxRecDepth 100000 in
set_option maxHeartbeats 8000000 in
theorem PySem.Challenge.cw_sixasone_k10_whole_laid_links_holds : PySem.Challenge.rw_sixasone_k10_whole_laid_links.Holds := by
  w_on; o_law
  refine HandSHeadRun.head_any (r := OpenLaw.row PySem.Challenge.rw_sixasone_k10_whole_laid_links) (q := S6.qv) (H := S6.hookZ) (ob := S6.obT) (M := 15000) (loose := S6.names) (d := HandSHeadRun.topDef (OpenLaw.row PySem.Challenge.rw_sixasone_k10_whole_laid_links).prog 110) (kwd := []) S6.obT_eq
    (by kernel_rfl) (fun s => by kernel_rfl) S6.run (by kernel_rfl) (by kernel_rfl) (by kernel_rfl) (by rfl) (by first | assumption | decide +kernel) (by decide +kernel) ⟨rfl, rfl, rfl, rfl, rfl, by decide +kernel⟩ ?hw ?hc
  case hw => w_witness2
  case hc =>
    refine S6.walk_G (l := PySem.Challenge.rw_sixasone_k10_whole_laid_links) (n := 63) (k := 19) (x := "_law_script") rfl (by decide) (by kernel_rfl) ⟨rfl, by decide, by decide⟩ ?F (fun _ _ _ _ z => z)
    intro w mg fa h Y G hmg0
    obtain ⟨K, KX, c, e⟩ := Y
    have hmg : mg ("law" : PySem.Str) = some (.ref fa) := by
      have e1 : (HandSHeadRun.topDef (OpenLaw.row PySem.Challenge.rw_sixasone_k10_whole_laid_links).prog 110).name = ("law" : PySem.Str) := by kernel_rfl
      rw [← e1]
      exact hmg0
    obtain ⟨fd, hb, hF⟩ := S6.law_facts (P := (PySem.Challenge.rw_sixasone_k10_whole_laid_links).prog) (w := w) KX G hmg c e
    exact ⟨K, fd, S6.spLw K, KX, hb, fun H a ns hl _ _ hS => ⟨a, ns, rfl, hS, fun _ => rfl⟩, hF⟩
